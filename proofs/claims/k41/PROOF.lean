import PyProof.Rows.All
import Wide.All
import OpenK.AllK
import Wide.FinOn
import HandS.ForMost
import HandS.ForExc
import HandS.IsInst
import HandS.Zip
import HandS.TupAny
import HandS.Conv
import HandS.Style
import HandS.Flow
import KE.GoesMore
import KE.GoesZip
import KE.GoesEnum
import KE.KExcSuper
import HandS.Defaults
import HandS.Lambda
import HandS.ExcField
import HandS.EndTab
import HandS.CallLocal
import HandS.TupMul
import HandS.HeadHook4
import HandS.HeadWalk
import PySem.Challenge.RW_channelshared_k41_whole_windows_round_by
import HandS.Head0
import HandS.Head1
import HandS.Head2
import HandS.HeadEnd
import KE.KStateDown
set_option Elab.async false
set_option linter.all false
set_option maxRecDepth 100000
/-! The pure layer, 1: data, environments, what holds between them and the abstract heap. -/
namespace PL
open PySem PySem.Spec PyProof.Rows L2

/-- data: what a value is, without the heap. scr: the script's list; opq: a value as it is -/
inductive D where
  | non | bl (b : Bool) | int (i : Int) | str (x : Str) | tup (l : List D) | lst (l : List D) | scr (l : List D) | opq (v : V)
instance : Inhabited D := ⟨.non⟩

mutual
def Rp (F : Hp) : D → V → Prop
  | .non, v => v = .non
  | .bl b, v => v = .bl b
  | .int i, v => v = .int i
  | .str x, v => v = .str x
  | .tup l, v => ∃ a vs, v = .ref a ∧ F a = some (.tup vs) ∧ Rps F l vs
  | .lst l, v => ∃ a vs, v = .ref a ∧ F a = some (.lst vs) ∧ Rps F l vs
  | .scr l, v => ∃ a o vs, v = .ref a ∧ F a = some (.frz o (.lst vs)) ∧ Rps F l vs
  | .opq u, v => v = u
def Rps (F : Hp) : List D → List V → Prop
  | [], vs => vs = []
  | d :: ds, vs => ∃ v r, vs = v :: r ∧ Rp F d v ∧ Rps F ds r
end
mutual
theorem Rp.mono {F F' : Hp} (h : Same F F') : ∀ {d : D} {v : V}, Rp F d v → Rp F' d v
  | .non, _, r => r
  | .bl _, _, r => r
  | .int _, _, r => r
  | .str _, _, r => r
  | .tup _, _, r => by
    obtain ⟨a, vs, e, ha, r⟩ := r
    exact ⟨a, vs, e, h _ _ ha, Rps.mono h r⟩
  | .lst _, _, r => by
    obtain ⟨a, vs, e, ha, r⟩ := r
    exact ⟨a, vs, e, h _ _ ha, Rps.mono h r⟩
  | .scr _, _, r => by
    obtain ⟨a, o, vs, e, ha, r⟩ := r
    exact ⟨a, o, vs, e, h _ _ ha, Rps.mono h r⟩
  | .opq _, _, r => r
theorem Rps.mono {F F' : Hp} (h : Same F F') : ∀ {d : List D} {v : List V}, Rps F d v → Rps F' d v
  | [], _, r => r
  | _ :: _, _, r => by
    obtain ⟨v, rr, e, r1, r2⟩ := r
    exact ⟨v, rr, e, Rp.mono h r1, Rps.mono h r2⟩
end
theorem Rps.len {F : Hp} : ∀ {ds : List D} {vs : List V}, Rps F ds vs → vs.length = ds.length
  | [], _, r => by rw [show _ = [] from r]; rfl
  | _ :: _, _, r => by
    obtain ⟨v, rr, e, _, r2⟩ := r
    rw [e, List.length_cons, List.length_cons, Rps.len r2]
theorem Rps.get {F : Hp} : ∀ {ds : List D} {vs : List V} {i : Nat} {d : D}, Rps F ds vs → ds[i]? = some d → ∃ v, vs[i]? = some v ∧ Rp F d v
  | [], _, _, _, _, h => by simp at h
  | _ :: _, _, 0, _, r, h => by
    obtain ⟨v, rr, e, r1, _⟩ := r
    rw [e]
    cases h
    exact ⟨v, rfl, r1⟩
  | _ :: ds, _, i + 1, d, r, h => by
    obtain ⟨v, rr, e, _, r2⟩ := r
    rw [e]
    obtain ⟨w, h1, h2⟩ := Rps.get (i := i) r2 (by simpa using h)
    exact ⟨w, by simpa using h1, h2⟩
theorem Rps.get' {F : Hp} {ds : List D} {vs : List V} {i : Nat} {v : V} (r : Rps F ds vs) (h : vs[i]? = some v) : ∃ d, ds[i]? = some d ∧ Rp F d v := by
  have hl := r.len
  have hi : i < ds.length := by rw [← hl]; exact (List.getElem?_eq_some_iff.mp h).1
  obtain ⟨w, h1, h2⟩ := r.get (List.getElem?_eq_getElem hi)
  rw [h] at h1
  cases h1
  exact ⟨_, List.getElem?_eq_getElem hi, h2⟩
theorem Rps.app {F : Hp} : ∀ {ds es : List D} {vs ws : List V}, Rps F ds vs → Rps F es ws → Rps F (ds ++ es) (vs ++ ws)
  | [], _, _, _, r, q => by rw [show _ = [] from r]; exact q
  | _ :: _, _, _, _, r, q => by
    obtain ⟨v, rr, e, r1, r2⟩ := r
    rw [e]
    exact ⟨v, _, rfl, r1, Rps.app r2 q⟩
theorem Rps.one {F : Hp} {d : D} {v : V} (r : Rp F d v) : Rps F [d] [v] := ⟨v, [], rfl, r, rfl⟩
theorem Rps.set {F : Hp} {d : D} {v : V} (q : Rp F d v) : ∀ {ds : List D} {vs : List V} (i : Nat), Rps F ds vs → Rps F (ds.set i d) (vs.set i v)
  | [], _, _, r => by rw [show _ = [] from r]; exact rfl
  | _ :: _, _, 0, r => by
    obtain ⟨w, rr, e, r1, r2⟩ := r
    rw [e]
    exact ⟨v, rr, rfl, q, r2⟩
  | _ :: _, _, i + 1, r => by
    obtain ⟨w, rr, e, r1, r2⟩ := r
    rw [e]
    exact ⟨w, _, rfl, r1, Rps.set q i r2⟩
theorem Rps.drop {F : Hp} : ∀ {ds : List D} {vs : List V} (n : Nat), Rps F ds vs → Rps F (ds.drop n) (vs.drop n)
  | _, _, 0, r => r
  | [], _, n + 1, r => by rw [show _ = [] from r]; exact rfl
  | _ :: _, _, n + 1, r => by
    obtain ⟨w, rr, e, r1, r2⟩ := r
    rw [e]
    exact Rps.drop n r2
theorem Rps.take {F : Hp} : ∀ {ds : List D} {vs : List V} (n : Nat), Rps F ds vs → Rps F (ds.take n) (vs.take n)
  | _, _, 0, _ => rfl
  | [], _, n + 1, r => by rw [show _ = [] from r]; exact rfl
  | _ :: _, _, n + 1, r => by
    obtain ⟨w, rr, e, r1, r2⟩ := r
    rw [e]
    exact ⟨w, _, rfl, r1, Rps.take n r2⟩
theorem Rps.rev {F : Hp} : ∀ {ds : List D} {vs : List V}, Rps F ds vs → Rps F ds.reverse vs.reverse
  | [], _, r => by rw [show _ = [] from r]; exact rfl
  | _ :: _, _, r => by
    obtain ⟨w, rr, e, r1, r2⟩ := r
    rw [e, List.reverse_cons, List.reverse_cons]
    exact Rps.app (Rps.rev r2) (Rps.one r1)
theorem Rps.dropLast {F : Hp} {ds : List D} {vs : List V} (r : Rps F ds vs) : Rps F ds.dropLast vs.dropLast := by
  rw [List.dropLast_eq_take, List.dropLast_eq_take, r.len]
  exact r.take _
theorem Rps.erase {F : Hp} : ∀ {ds : List D} {vs : List V} (i : Nat), Rps F ds vs → Rps F (ds.eraseIdx i) (vs.eraseIdx i)
  | [], _, _, r => by rw [show _ = [] from r]; exact rfl
  | _ :: _, _, 0, r => by
    obtain ⟨w, rr, e, r1, r2⟩ := r
    rw [e]
    exact r2
  | _ :: _, _, i + 1, r => by
    obtain ⟨w, rr, e, r1, r2⟩ := r
    rw [e]
    exact ⟨w, _, rfl, r1, Rps.erase i r2⟩
theorem Rps.ints {F : Hp} : ∀ {ns : List Int} {vs : List V}, Rps F (ns.map D.int) vs ↔ vs = ns.map V.int
  | [], vs => Iff.rfl
  | n :: ns, vs => ⟨fun r => by
      obtain ⟨w, rr, e, r1, r2⟩ := r
      rw [e, Rps.ints.mp r2, show w = V.int n from r1]
      rfl, fun e => ⟨_, _, e, rfl, Rps.ints.mpr rfl⟩⟩
theorem Rps.bls {F : Hp} : ∀ {ns : List Bool} {vs : List V}, Rps F (ns.map D.bl) vs ↔ vs = ns.map V.bl
  | [], vs => Iff.rfl
  | n :: ns, vs => ⟨fun r => by
      obtain ⟨w, rr, e, r1, r2⟩ := r
      rw [e, Rps.bls.mp r2, show w = V.bl n from r1]
      rfl, fun e => ⟨_, _, e, rfl, Rps.bls.mpr rfl⟩⟩

/-- a slot: nothing known; a value; a list that this name alone holds; the list that was handed in as the row -/
inductive Sl where
  | no | va (d : D) | ow (l : List D) | pr (l : List D)
abbrev Env := List Sl
/-- what holds of the heap all the way: it hangs on no list that can be written; lam: tables of code objects may grow here -/
structure Per where
  P1 : Hp → Prop
  P2 : Hp → Prop
  c1 : ∀ F F' : Hp, Same F F' → P1 F → P1 F'
  c2 : ∀ H H' : Hp, P2 H → (∀ a o, H a = some o → (∀ vs, o ≠ .lst vs) → H' a = some o) → P2 H'
  lam : Bool
  tab : Addr → Prop
  t2 : ∀ H, P2 H → ∀ a, tab a → ∃ o, H a = some o
def Per.P (per : Per) (F H : Hp) : Prop := per.P1 F ∧ per.P2 H
theorem Per.cl (per : Per) (F F' H H' : Hp) (s : Same F F') (h : per.P F H) (k : ∀ a o, H a = some o → (∀ vs, o ≠ .lst vs) → H' a = some o) : per.P F' H' := ⟨per.c1 F F' s h.1, per.c2 H H' h.2 k⟩
def Per.off (per : Per) : Per := { per with lam := false }
def Per.kp (per : Per) (o : HO) : Prop := per.lam = false ∨ ∀ ps, o ≠ .tbl ps
theorem Per.lst {per : Per} {vs : List V} : per.kp (.lst vs) := .inr fun ps z => by cases z
theorem Per.gr {per : Per} {F F' H : Hp} (h : per.P F H) (s : Same F F') : per.P F' H := per.cl F F' H H s h fun _ _ q _ => q
theorem Per.new {per : Per} {F H : Hp} {p : Addr} {o : HO} (h : per.P F H) (hp : H p = none) : per.P F (upd H p o) := per.cl F F H _ (Same.refl F) h fun a u q _ => by
  rw [upd_ne (ne_of_none q hp)]
  exact q
theorem Per.wr {per : Per} {F H : Hp} {p : Addr} {vs : List V} {o : HO} (h : per.P F H) (hp : H p = some (.lst vs)) : per.P F (upd H p o) := per.cl F F H _ (Same.refl F) h fun a u q n => by
  have ne : a ≠ p := fun z => by
    rw [z, hp] at q
    cases q
    exact n vs rfl
  rw [upd_ne ne]
  exact q
def NT (o : HO) : Prop := ∀ ps, o ≠ .tbl ps
/-- F0, H0: what was frozen, what stood at the entry; rw: the row's address -/
structure Ct (per : Per) where
  F0 : Hp
  H0 : Hp
  rw : Option Addr
  f0t : per.lam = true → ∀ a o, F0 a = some o → NT o
  h0t : per.lam = true → ∀ a ps, H0 a = some (.tbl ps) → per.tab a
def SlRel (c : Ct per) (F : Hp) (σ : L2.St) (H : Hp) (i : Nat) : Sl → Prop
  | .no => True
  | .va d => ∃ v, σ[i]? = some (some v) ∧ Rp F d v
  | .ow l => ∃ a vs, σ[i]? = some (some (.ref a)) ∧ H a = some (.lst vs) ∧ F a = none ∧ c.H0 a = none ∧ c.rw ≠ some a ∧ Rps F l vs
  | .pr l => ∃ a vs, σ[i]? = some (some (.ref a)) ∧ c.rw = some a ∧ H a = some (.lst vs) ∧ F a = none ∧ Rps F l vs
def OwnA (e : Env) (σ : L2.St) (i : Nat) (a : Addr) : Prop := (∃ l, e[i]? = some (.ow l)) ∧ σ[i]? = some (some (.ref a))
structure Rel (c : Ct per) (F : Hp) (σ : L2.St) (H : Hp) (e : Env) : Prop where
  fh : Same F H
  f0 : Same c.F0 F
  fn : ∀ a o, F a = some o → c.F0 a = some o ∨ (c.H0 a = none ∧ NT o)
  kp : ∀ a o, c.H0 a = some o → c.rw ≠ some a → per.kp o → H a = some o
  rk : ∀ a, c.rw = some a → F a = none ∧ ∃ vs, H a = some (.lst vs)
  len : σ.length = e.length
  sl : ∀ i s, e[i]? = some s → SlRel c F σ H i s
  ap : ∀ i j a, OwnA e σ i a → OwnA e σ j a → i = j
  pu : ∀ i l, e[i]? = some (.pr l) → i = 0
  kt : ∀ a o, c.H0 a = some o → ∃ o', H a = some o'
  pf : per.P F H

theorem pu_set {e : Env} {i : Nat} {s : Sl} (h : ∀ i l, e[i]? = some (.pr l) → i = 0) (hs : ∀ l, s ≠ .pr l) : ∀ j l, (e.set i s)[j]? = some (.pr l) → j = 0 := fun j l q => by
  by_cases hj : i = j
  · subst hj
    rw [List.getElem?_set] at q
    simp only [if_true] at q
    split at q
    · exact absurd (Option.some.inj q) (hs l)
    · cases q
  · rw [List.getElem?_set_ne hj] at q
    exact h j l q
section
variable {c : Ct per} {F F' : Hp} {σ : L2.St} {H : Hp} {e : Env} {p : Addr} {o : HO} {i : Nat} {v : V} {d : D} {l : List D} {a : Addr} {vs : List V}
theorem Rel.fnone (R : Rel c F σ H e) (h : H p = none) : F p = none := by
  cases q : F p with
  | none => rfl
  | some u =>
    rw [R.fh _ _ q] at h
    cases h
theorem Rel.h0none (R : Rel c F σ H e) (h : H p = none) : c.H0 p = none ∧ c.rw ≠ some p := by
  have h2 : c.rw ≠ some p := fun z => by
    obtain ⟨_, o, ho⟩ := R.rk p z
    rw [h] at ho
    cases ho
  refine ⟨?_, h2⟩
  cases q : c.H0 p with
  | none => rfl
  | some u =>
    obtain ⟨_, z⟩ := R.kt _ _ q
    rw [h] at z
    cases z
theorem same_upd' {H : Hp} {p : Addr} {o : HO} (h : H p = none) : Same H (upd H p o) := fun b x e => by
  rw [upd_ne (ne_of_none e h)]
  exact e
theorem SlRel.new {s : Sl} (h : H p = none) (hf : F p = none) (r : SlRel c F σ H i s) : SlRel c (upd F p o) σ (upd H p o) i s := by
  cases s with
  | no => trivial
  | va d =>
    obtain ⟨v, e1, r⟩ := r
    exact ⟨v, e1, r.mono (same_upd' hf)⟩
  | ow l =>
    obtain ⟨a, vs, e1, ha, hfa, h0, hr, r⟩ := r
    have ne : a ≠ p := ne_of_none ha h
    exact ⟨a, vs, e1, by rw [upd_ne ne]; exact ha, by rw [upd_ne ne]; exact hfa, h0, hr, r.mono (same_upd' hf)⟩
  | pr l =>
    obtain ⟨a, vs, e1, hr, ha, hfa, r⟩ := r
    have ne : a ≠ p := ne_of_none ha h
    exact ⟨a, vs, e1, hr, by rw [upd_ne ne]; exact ha, by rw [upd_ne ne]; exact hfa, r.mono (same_upd' hf)⟩
theorem SlRel.newH {s : Sl} (h : H p = none) (r : SlRel c F σ H i s) : SlRel c F σ (upd H p o) i s := by
  cases s with
  | no => trivial
  | va d => exact r
  | ow l =>
    obtain ⟨a, vs, e1, ha, hfa, h0, hr, r⟩ := r
    have ne : a ≠ p := ne_of_none ha h
    exact ⟨a, vs, e1, by rw [upd_ne ne]; exact ha, hfa, h0, hr, r⟩
  | pr l =>
    obtain ⟨a, vs, e1, hr, ha, hfa, r⟩ := r
    have ne : a ≠ p := ne_of_none ha h
    exact ⟨a, vs, e1, hr, by rw [upd_ne ne]; exact ha, hfa, r⟩
/-- a new object, known from now on -/
theorem Rel.new (R : Rel c F σ H e) (h : H p = none) (o : HO) (ho : NT o := by intro ps z; cases z) : Rel c (upd F p o) σ (upd H p o) e := by
  have hf := R.fnone h
  obtain ⟨h0, hr⟩ := R.h0none h
  refine ⟨fun b u q => ?_, fun b u q => ?_, fun b u q => ?_, fun b u q z kk => ?_, fun b q => ?_, R.len, fun i s q => (R.sl i s q).new h hf, R.ap, R.pu, fun b u q => let ⟨o', h'⟩ := R.kt b u q; ⟨o', (upd_ne (ne_of_none h' h)).trans h'⟩, Per.gr (Per.new R.pf h) (same_upd' hf)⟩
  · by_cases hb : b = p
    · subst hb
      rw [upd_same] at q ⊢
      exact q
    · rw [upd_ne hb] at q ⊢
      exact R.fh _ _ q
  · rw [upd_ne (ne_of_none (R.f0 _ _ q) hf)]
    exact R.f0 _ _ q
  · by_cases hb : b = p
    · subst hb
      rw [upd_same] at q
      cases q
      exact .inr ⟨h0, ho⟩
    · rw [upd_ne hb] at q
      exact R.fn _ _ q
  · rw [upd_ne (ne_of_none q h0)]
    exact R.kp _ _ q z kk
  · have hb : b ≠ p := fun z => hr (by rw [← z]; exact q)
    obtain ⟨r1, u, r2⟩ := R.rk b q
    exact ⟨by rw [upd_ne hb]; exact r1, u, by rw [upd_ne hb]; exact r2⟩
/-- a new object of which nothing is known -/
theorem Rel.newH (R : Rel c F σ H e) (h : H p = none) (o : HO) : Rel c F σ (upd H p o) e := by
  have hf := R.fnone h
  obtain ⟨h0, hr⟩ := R.h0none h
  refine ⟨fun b u q => ?_, R.f0, R.fn, fun b u q z kk => ?_, fun b q => ?_, R.len, fun i s q => (R.sl i s q).newH h, R.ap, R.pu, fun b u q => let ⟨o', h'⟩ := R.kt b u q; ⟨o', (upd_ne (ne_of_none h' h)).trans h'⟩, Per.new R.pf h⟩
  · rw [upd_ne (ne_of_none q hf)]
    exact R.fh _ _ q
  · rw [upd_ne (ne_of_none q h0)]
    exact R.kp _ _ q z kk
  · have hb : b ≠ p := fun z => hr (by rw [← z]; exact q)
    obtain ⟨r1, u, r2⟩ := R.rk b q
    exact ⟨r1, u, by rw [upd_ne hb]; exact r2⟩
theorem SlRel.set_ne {s : Sl} {j : Nat} {x : Option V} (ne : i ≠ j) (r : SlRel c F σ H j s) : SlRel c F (σ.set i x) H j s := by
  cases s with
  | no => trivial
  | va d =>
    obtain ⟨v, e1, r⟩ := r
    exact ⟨v, by rw [List.getElem?_set_ne ne]; exact e1, r⟩
  | ow l =>
    obtain ⟨a, vs, e1, r⟩ := r
    exact ⟨a, vs, by rw [List.getElem?_set_ne ne]; exact e1, r⟩
  | pr l =>
    obtain ⟨a, vs, e1, r⟩ := r
    exact ⟨a, vs, by rw [List.getElem?_set_ne ne]; exact e1, r⟩
theorem OwnA.set_ne {s : Sl} {x : Option V} {j : Nat} (ne : i ≠ j) (h : OwnA (e.set i s) (σ.set i x) j a) : OwnA e σ j a := by
  obtain ⟨⟨l, h1⟩, h2⟩ := h
  rw [List.getElem?_set_ne ne] at h1 h2
  exact ⟨⟨l, h1⟩, h2⟩
/-- a name gets a value -/
theorem Rel.set (R : Rel c F σ H e) (hi : i < e.length) (r : Rp F d v) : Rel c F (σ.set i (some v)) H (e.set i (.va d)) := by
  have hσ : i < σ.length := by rw [R.len]; exact hi
  have no : ∀ a, ¬ OwnA (e.set i (.va d)) (σ.set i (some v)) i a := fun a h => by
    obtain ⟨⟨l, h1⟩, _⟩ := h
    rw [List.getElem?_set_self hi] at h1
    cases h1
  refine ⟨R.fh, R.f0, R.fn, R.kp, R.rk, by rw [List.length_set, List.length_set]; exact R.len, fun j s q => ?_, fun j k a h1 h2 => ?_, pu_set R.pu (fun _ z => by cases z), R.kt, R.pf⟩
  · by_cases hj : i = j
    · subst hj
      rw [List.getElem?_set_self hi] at q
      cases q
      exact ⟨v, List.getElem?_set_self hσ, r⟩
    · rw [List.getElem?_set_ne hj] at q
      exact (R.sl j s q).set_ne hj
  · by_cases hj : i = j
    · subst hj
      exact absurd h1 (no a)
    · by_cases hk : i = k
      · subst hk
        exact absurd h2 (no a)
      · exact R.ap j k a (h1.set_ne hj) (h2.set_ne hk)
/-- a name gets a list of its own -/
theorem Rel.setOw (R : Rel c F σ H e) (hi : i < e.length) (ha : H a = some (.lst vs)) (hf : F a = none) (h0 : c.H0 a = none) (hr : c.rw ≠ some a) (no : ∀ j, ¬ OwnA e σ j a) (r : Rps F l vs) : Rel c F (σ.set i (some (.ref a))) H (e.set i (.ow l)) := by
  have hσ : i < σ.length := by rw [R.len]; exact hi
  refine ⟨R.fh, R.f0, R.fn, R.kp, R.rk, by rw [List.length_set, List.length_set]; exact R.len, fun j s q => ?_, fun j k b h1 h2 => ?_, pu_set R.pu (fun _ z => by cases z), R.kt, R.pf⟩
  · by_cases hj : i = j
    · subst hj
      rw [List.getElem?_set_self hi] at q
      cases q
      exact ⟨a, vs, List.getElem?_set_self hσ, ha, hf, h0, hr, r⟩
    · rw [List.getElem?_set_ne hj] at q
      exact (R.sl j s q).set_ne hj
  · have at_i : ∀ b, OwnA (e.set i (.ow l)) (σ.set i (some (.ref a))) i b → b = a := fun b h => by
      have h2 := h.2
      rw [List.getElem?_set_self hσ] at h2
      cases h2
      rfl
    by_cases hj : i = j
    · subst hj
      have eb := at_i b h1
      subst eb
      by_cases hk : i = k
      · exact hk
      · exact absurd (h2.set_ne hk) (no k)
    · by_cases hk : i = k
      · subst hk
        have eb := at_i b h2
        subst eb
        exact absurd (h1.set_ne hj) (no j)
      · exact R.ap j k b (h1.set_ne hj) (h2.set_ne hk)
/-- a name is forgotten -/
theorem Rel.forget (R : Rel c F σ H e) (x : Option V) : Rel c F (σ.set i x) H (e.set i .no) := by
  have no : ∀ a, ¬ OwnA (e.set i .no) (σ.set i x) i a := fun a h => by
    obtain ⟨⟨l, h1⟩, _⟩ := h
    rw [List.getElem?_set] at h1
    simp at h1
  refine ⟨R.fh, R.f0, R.fn, R.kp, R.rk, by rw [List.length_set, List.length_set]; exact R.len, fun j s q => ?_, fun j k a h1 h2 => ?_, pu_set R.pu (fun _ z => by cases z), R.kt, R.pf⟩
  · by_cases hj : i = j
    · subst hj
      rw [List.getElem?_set] at q
      simp only [if_true] at q
      split at q
      · cases q
        trivial
      · cases q
    · rw [List.getElem?_set_ne hj] at q
      exact (R.sl j s q).set_ne hj
  · by_cases hj : i = j
    · subst hj
      exact absurd h1 (no a)
    · by_cases hk : i = k
      · subst hk
        exact absurd h2 (no a)
      · exact R.ap j k a (h1.set_ne hj) (h2.set_ne hk)
/-- a list that a name held alone is known from now on -/
theorem Rel.frz (R : Rel c F σ H e) (h : e[i]? = some (.ow l)) : ∃ a vs, σ[i]? = some (some (.ref a)) ∧ Same F (upd F a (.lst vs)) ∧ Rel c (upd F a (.lst vs)) σ H (e.set i (.va (.lst l))) ∧ Rp (upd F a (.lst vs)) (.lst l) (.ref a) := by
  obtain ⟨a, vs, e1, ha, hf, h0, hr, r⟩ := R.sl i _ h
  have hi : i < e.length := (List.getElem?_eq_some_iff.mp h).1
  have sm : Same F (upd F a (.lst vs)) := same_upd' hf
  have rp : Rp (upd F a (.lst vs)) (.lst l) (.ref a) := ⟨a, vs, rfl, upd_same, r.mono sm⟩
  have oi : OwnA e σ i a := ⟨⟨l, h⟩, e1⟩
  refine ⟨a, vs, e1, sm, ⟨fun b u q => ?_, fun b u q => sm _ _ (R.f0 _ _ q), fun b u q => ?_, R.kp, fun b q => ?_, by rw [List.length_set]; exact R.len, fun j s q => ?_, fun j k b h1 h2 => ?_, pu_set R.pu (fun _ z => by cases z), R.kt, Per.gr R.pf sm⟩, rp⟩
  · by_cases hb : b = a
    · subst hb
      rw [upd_same] at q
      cases q
      exact ha
    · rw [upd_ne hb] at q
      exact R.fh _ _ q
  · by_cases hb : b = a
    · subst hb
      rw [upd_same] at q
      cases q
      exact .inr ⟨h0, fun ps z => by cases z⟩
    · rw [upd_ne hb] at q
      exact R.fn _ _ q
  · have hb : b ≠ a := fun z => hr (by rw [← z]; exact q)
    obtain ⟨r1, r2⟩ := R.rk b q
    exact ⟨by rw [upd_ne hb]; exact r1, r2⟩
  · by_cases hj : i = j
    · subst hj
      rw [List.getElem?_set_self hi] at q
      cases q
      exact ⟨_, e1, rp⟩
    · rw [List.getElem?_set_ne hj] at q
      have q' := R.sl j s q
      cases s with
      | no => trivial
      | va d =>
        obtain ⟨v, e2, r2⟩ := q'
        exact ⟨v, e2, r2.mono sm⟩
      | ow l2 =>
        obtain ⟨b, ws, e2, hb, hfb, h0b, hrb, r2⟩ := q'
        have ne : b ≠ a := fun z => hj (R.ap i j a oi ⟨⟨l2, q⟩, by rw [← z]; exact e2⟩)
        exact ⟨b, ws, e2, hb, by rw [upd_ne ne]; exact hfb, h0b, hrb, r2.mono sm⟩
      | pr l2 =>
        obtain ⟨b, ws, e2, hrb, hb, hfb, r2⟩ := q'
        have ne : b ≠ a := fun z => hr (by rw [← z]; exact hrb)
        exact ⟨b, ws, e2, hrb, hb, by rw [upd_ne ne]; exact hfb, r2.mono sm⟩
  · have lift : ∀ j b, OwnA (e.set i (.va (.lst l))) σ j b → OwnA e σ j b := fun j b h => by
      obtain ⟨⟨l2, h1⟩, h2⟩ := h
      by_cases hj : i = j
      · subst hj
        rw [List.getElem?_set_self hi] at h1
        cases h1
      · rw [List.getElem?_set_ne hj] at h1
        exact ⟨⟨l2, h1⟩, h2⟩
    exact R.ap j k b (lift j b h1) (lift k b h2)
/-- a list that a name holds alone is written -/
theorem Rel.write {l' : List D} {ws : List V} (R : Rel c F σ H e) (h : e[i]? = some (.ow l)) (e1 : σ[i]? = some (some (.ref a))) (r : Rps F l' ws) : Rel c F σ (upd H a (.lst ws)) (e.set i (.ow l')) := by
  obtain ⟨a', vs, e1', ha, hf, h0, hr, _⟩ := R.sl i _ h
  rw [e1] at e1'
  cases e1'
  have hi : i < e.length := (List.getElem?_eq_some_iff.mp h).1
  have oi : OwnA e σ i a := ⟨⟨l, h⟩, e1⟩
  refine ⟨fun b u q => ?_, R.f0, R.fn, fun b u q z kk => ?_, fun b q => ?_, by rw [List.length_set]; exact R.len, fun j s q => ?_, fun j k b h1 h2 => ?_, pu_set R.pu (fun _ z => by cases z), fun b u q => by
    by_cases hb : b = a
    · subst hb; exact ⟨_, upd_same⟩
    · obtain ⟨o', h'⟩ := R.kt b u q
      exact ⟨o', (upd_ne hb).trans h'⟩, Per.wr R.pf ha⟩
  · rw [upd_ne (ne_of_none q hf)]
    exact R.fh _ _ q
  · rw [upd_ne (ne_of_none q h0)]
    exact R.kp _ _ q z kk
  · have hb : b ≠ a := fun z => hr (by rw [← z]; exact q)
    obtain ⟨r1, u, r2⟩ := R.rk b q
    exact ⟨r1, u, by rw [upd_ne hb]; exact r2⟩
  · by_cases hj : i = j
    · subst hj
      rw [List.getElem?_set_self hi] at q
      cases q
      exact ⟨a, ws, e1, upd_same, hf, h0, hr, r⟩
    · rw [List.getElem?_set_ne hj] at q
      have q' := R.sl j s q
      cases s with
      | no => trivial
      | va d => exact q'
      | ow l2 =>
        obtain ⟨b, ws, e2, hb, hfb, h0b, hrb, r2⟩ := q'
        have ne : b ≠ a := fun z => hj (R.ap i j a oi ⟨⟨l2, q⟩, by rw [← z]; exact e2⟩)
        exact ⟨b, ws, e2, by rw [upd_ne ne]; exact hb, hfb, h0b, hrb, r2⟩
      | pr l2 =>
        obtain ⟨b, ws, e2, hrb, hb, hfb, r2⟩ := q'
        have ne : b ≠ a := fun z => hr (by rw [← z]; exact hrb)
        exact ⟨b, ws, e2, hrb, by rw [upd_ne ne]; exact hb, hfb, r2⟩
  · have lift : ∀ j b, OwnA (e.set i (.ow l')) σ j b → OwnA e σ j b := fun j b h' => by
      obtain ⟨⟨l2, h1⟩, h2⟩ := h'
      by_cases hj : i = j
      · subst hj
        exact ⟨⟨l, h⟩, h2⟩
      · rw [List.getElem?_set_ne hj] at h1
        exact ⟨⟨l2, h1⟩, h2⟩
    exact R.ap j k b (lift j b h1) (lift k b h2)
/-- the row is written -/
theorem Rel.writeR {l' : List D} {ws : List V} (R : Rel c F σ H e) (h : e[i]? = some (.pr l)) (e1 : σ[i]? = some (some (.ref a))) (r : Rps F l' ws) : Rel c F σ (upd H a (.lst ws)) (e.set i (.pr l')) := by
  obtain ⟨a', vs, e1', hr, ha, hf, _⟩ := R.sl i _ h
  rw [e1] at e1'
  cases e1'
  have hi : i < e.length := (List.getElem?_eq_some_iff.mp h).1
  refine ⟨fun b u q => ?_, R.f0, R.fn, fun b u q z kk => ?_, fun b q => ?_, by rw [List.length_set]; exact R.len, fun j s q => ?_, fun j k b h1 h2 => ?_, fun j l2 q => ?_, fun b u q => by
    by_cases hb : b = a
    · subst hb; exact ⟨_, upd_same⟩
    · obtain ⟨o', h'⟩ := R.kt b u q
      exact ⟨o', (upd_ne hb).trans h'⟩, Per.wr R.pf ha⟩
  · rw [upd_ne (ne_of_none q hf)]
    exact R.fh _ _ q
  · have hb : b ≠ a := fun y => z (by rw [y]; exact hr)
    rw [upd_ne hb]
    exact R.kp _ _ q z kk
  · rw [hr] at q
    cases q
    exact ⟨hf, _, upd_same⟩
  · by_cases hj : i = j
    · subst hj
      rw [List.getElem?_set_self hi] at q
      cases q
      exact ⟨a, ws, e1, hr, upd_same, hf, r⟩
    · rw [List.getElem?_set_ne hj] at q
      have q' := R.sl j s q
      cases s with
      | no => trivial
      | va d => exact q'
      | ow l2 =>
        obtain ⟨b, ws, e2, hb, hfb, h0b, hrb, r2⟩ := q'
        have ne : b ≠ a := fun z => hrb (by rw [z]; exact hr)
        exact ⟨b, ws, e2, by rw [upd_ne ne]; exact hb, hfb, h0b, hrb, r2⟩
      | pr l2 => exact absurd ((R.pu i _ h).trans (R.pu j _ q).symm) hj
  · have lift : ∀ j b, OwnA (e.set i (.pr l')) σ j b → OwnA e σ j b := fun j b h' => by
      obtain ⟨⟨l2, h1⟩, h2⟩ := h'
      by_cases hj : i = j
      · subst hj
        rw [List.getElem?_set_self hi] at h1
        cases h1
      · rw [List.getElem?_set_ne hj] at h1
        exact ⟨⟨l2, h1⟩, h2⟩
    exact R.ap j k b (lift j b h1) (lift k b h2)
  · by_cases hj : i = j
    · rw [← hj]
      exact R.pu i _ h
    · rw [List.getElem?_set_ne hj] at q
      exact R.pu j _ q
end
end PL
set_option Elab.async false
set_option linter.all false
set_option maxRecDepth 100000
/-! The pure layer, 2: results, readings, expressions. -/
namespace PL
open PySem PySem.Spec PyProof.Rows L2

inductive Exn where
  | bad (n : Str) | many (i : Int)
inductive R (α : Type) where
  | ok (a : α) (e : Env) | err (x : Exn) | no
def R.bind {α β : Type} (r : R α) (k : α → Env → R β) : R β := match r with
  | .ok a e => k a e
  | .err x => .err x
  | .no => .no
def Pst {α : Type} (r : R α) (P : α → Env → Prop) (Er : Exn → Prop) : Prop := match r with
  | .ok a e => P a e
  | .err x => Er x
  | .no => False
theorem Pst.mono {α : Type} {r : R α} {P P' : α → Env → Prop} {Er Er' : Exn → Prop} (h : Pst r P Er) (hp : ∀ a e, P a e → P' a e) (he : ∀ x, Er x → Er' x) : Pst r P' Er' := by
  cases r with
  | ok a e => exact hp a e h
  | err x => exact he x h
  | no => exact h
theorem pst_bind {α β : Type} {r : R α} {k : α → Env → R β} {P : β → Env → Prop} {Er : Exn → Prop} : Pst (r.bind k) P Er ↔ Pst r (fun a e => Pst (k a e) P Er) Er := by
  cases r <;> rfl
/-- the wish about exceptions, and the two classes -/
structure Xi (per : Per) where
  E : XK
  cb : Addr
  cm : Addr
def Xi.off (ξ : Xi per) : Xi per := { ξ with E := fun _ _ _ => False }
def ExcP (ξ : Xi per) (x : Exn) (cls : Value) (d : Option Addr) (H : Hp) : Prop := match x with
  | .bad n => cls = .ref ξ.cb ∧ ∃ dd, d = some dd ∧ H dd = some (.xd [("name", .str n)])
  | .many i => cls = .ref ξ.cm ∧ ∃ dd, d = some dd ∧ H dd = some (.xd [("limit", .int i)])
def ErrP (ξ : Xi per) (c : Ct per) (x : Exn) : Prop := ∀ cls d H', ExcP ξ x cls d H' → (∀ a o, c.H0 a = some o → c.rw ≠ some a → per.kp o → H' a = some o) → (∀ a o, c.H0 a = some o → ∃ o', H' a = some o') → per.P2 H' → ξ.E cls d H'

/-- what an expression gives: data, or a name's own list -/
inductive Hd where
  | d (x : D) | s (k : Nat)
def RH (F : Hp) (σ : L2.St) : Hd → V → Prop
  | .d x, v => Rp F x v
  | .s k, v => σ[k]? = some (some v)
def RHs (F : Hp) (σ : L2.St) : List Hd → List V → Prop
  | [], vs => vs = []
  | h :: hs, vs => ∃ v r, vs = v :: r ∧ RH F σ h v ∧ RHs F σ hs r
theorem RH.mono {F F' : Hp} {σ : L2.St} (s : Same F F') {h : Hd} {v : V} (r : RH F σ h v) : RH F' σ h v := by
  cases h with
  | d x => exact Rp.mono s r
  | s k => exact r
theorem RHs.mono {F F' : Hp} {σ : L2.St} (s : Same F F') : ∀ {hs : List Hd} {vs : List V}, RHs F σ hs vs → RHs F' σ hs vs
  | [], _, r => r
  | _ :: _, _, r => by
    obtain ⟨v, rr, e, r1, r2⟩ := r
    exact ⟨v, rr, e, r1.mono s, RHs.mono s r2⟩
/-- looked at -/
def hdS : Option Sl → Option D
  | some (.va d) => some d
  | some (.ow l) => some (.lst l)
  | some (.pr l) => some (.lst l)
  | _ => none
def hd (e : Env) : Hd → Option D
  | .d x => some x
  | .s k => hdS e[k]?
/-- handed on -/
def fzS (e : Env) (k : Nat) : Option Sl → Option (D × Env)
  | some (.va d) => some (d, e)
  | some (.ow l) => some (.lst l, e.set k (.va (.lst l)))
  | _ => none
def fz (e : Env) : Hd → Option (D × Env)
  | .d x => some (x, e)
  | .s k => fzS e k e[k]?
def fzs (e : Env) : List Hd → Option (List D × Env)
  | [] => some ([], e)
  | h :: hs => match fz e h with
    | none => none
    | some (d, e1) => match fzs e1 hs with
      | none => none
      | some (ds, e2) => some (d :: ds, e2)
def hds (e : Env) : List Hd → Option (List D)
  | [] => some []
  | h :: hs => match hd e h with
    | none => none
    | some d => match hds e hs with
      | none => none
      | some ds => some (d :: ds)
/-- data that lies in the heap: a list perhaps not yet known, its items known -/
def Rq (F H : Hp) : D → V → Prop
  | .lst l, v => ∃ a vs, v = .ref a ∧ H a = some (.lst vs) ∧ Rps F l vs
  | d, v => Rp F d v
def Rqs (F H : Hp) : List D → List V → Prop
  | [], vs => vs = []
  | d :: ds, vs => ∃ v r, vs = v :: r ∧ Rq F H d v ∧ Rqs F H ds r
section
variable {c : Ct per} {F F' : Hp} {σ : L2.St} {H : Hp} {e e' : Env} {p : Addr} {o : HO} {i : Nat} {v : V} {d : D} {l : List D} {a : Addr} {vs : List V} {h : Hd}
theorem Rel.rq (R : Rel c F σ H e) (r : Rp F d v) : Rq F H d v := by
  cases d with
  | lst l =>
    obtain ⟨a, vs, e1, ha, r⟩ := r
    exact ⟨a, vs, e1, R.fh _ _ ha, r⟩
  | _ => exact r
theorem Rel.look (R : Rel c F σ H e) (r : RH F σ h v) (q : hd e h = some d) : Rq F H d v := by
  cases h with
  | d x =>
    cases q
    exact R.rq r
  | s k =>
    have q : hdS e[k]? = some d := q
    cases he : e[k]? with
    | none => rw [he] at q; cases q
    | some s =>
      rw [he] at q
      have z := R.sl k s he
      cases s with
      | no => cases q
      | va d' =>
        cases q
        obtain ⟨w, e1, r1⟩ := z
        have r' : σ[k]? = some (some v) := r
        rw [e1] at r'
        cases r'
        exact R.rq r1
      | ow l =>
        cases q
        obtain ⟨a, vs, e1, ha, hf, h0, hr, r1⟩ := z
        have r' : σ[k]? = some (some v) := r
        rw [e1] at r'
        cases r'
        exact ⟨a, vs, rfl, ha, r1⟩
      | pr l =>
        cases q
        obtain ⟨a, vs, e1, hr, ha, hf, r1⟩ := z
        have r' : σ[k]? = some (some v) := r
        rw [e1] at r'
        cases r'
        exact ⟨a, vs, rfl, ha, r1⟩
theorem Rel.hand (R : Rel c F σ H e) (r : RH F σ h v) (q : fz e h = some (d, e')) : ∃ F', Same F F' ∧ Rel c F' σ H e' ∧ Rp F' d v := by
  cases h with
  | d x =>
    cases q
    exact ⟨F, Same.refl F, R, r⟩
  | s k =>
    have q : fzS e k e[k]? = some (d, e') := q
    cases he : e[k]? with
    | none => rw [he] at q; cases q
    | some s =>
      rw [he] at q
      have z := R.sl k s he
      cases s with
      | no => cases q
      | va d' =>
        cases q
        obtain ⟨w, e1, r1⟩ := z
        have r' : σ[k]? = some (some v) := r
        rw [e1] at r'
        cases r'
        exact ⟨F, Same.refl F, R, r1⟩
      | ow l =>
        cases q
        obtain ⟨a, vs, e1, sm, R1, r1⟩ := R.frz he
        have r' : σ[k]? = some (some v) := r
        rw [e1] at r'
        cases r'
        exact ⟨_, sm, R1, r1⟩
      | pr l => cases q
theorem Rel.hands : ∀ {hs : List Hd} {F : Hp} {e : Env} {vs : List V} {ds : List D}, Rel c F σ H e → RHs F σ hs vs → fzs e hs = some (ds, e') → ∃ F', Same F F' ∧ Rel c F' σ H e' ∧ Rps F' ds vs
  | [], F, e, vs, ds, R, r, q => by
    cases q
    exact ⟨F, Same.refl F, R, r⟩
  | h :: hs, F, e, vs, ds, R, r, q => by
    obtain ⟨v, rr, e1, r1, r2⟩ := r
    unfold fzs at q
    cases q1 : fz e h with
    | none => rw [q1] at q; cases q
    | some p =>
      obtain ⟨d, e1'⟩ := p
      rw [q1] at q
      simp only at q
      cases q2 : fzs e1' hs with
      | none => rw [q2] at q; cases q
      | some p =>
        obtain ⟨ds2, e2'⟩ := p
        rw [q2] at q
        cases q
        obtain ⟨F1, s1, R1, rp1⟩ := R.hand r1 q1
        obtain ⟨F2, s2, R2, rp2⟩ := Rel.hands R1 (r2.mono s1) q2
        exact ⟨F2, s1.trans s2, R2, v, rr, e1, rp1.mono s2, rp2⟩
theorem Rel.looks (R : Rel c F σ H e) : ∀ {hs : List Hd} {vs : List V} {ds : List D}, RHs F σ hs vs → hds e hs = some ds → Rqs F H ds vs
  | [], vs, ds, r, q => by
    cases q
    exact r
  | h :: hs, vs, ds, r, q => by
    obtain ⟨v, rr, e1, r1, r2⟩ := r
    unfold hds at q
    cases q1 : hd e h with
    | none => rw [q1] at q; cases q
    | some d =>
      rw [q1] at q
      simp only at q
      cases q2 : hds e hs with
      | none => rw [q2] at q; cases q
      | some ds2 =>
        rw [q2] at q
        cases q
        exact ⟨v, rr, e1, R.look r1 q1, Rel.looks R r2 q2⟩
/-- a new list that nobody else holds becomes known -/
theorem Rel.frzN (R : Rel c F σ H e) (ha : H a = some (.lst vs)) (hf : F a = none) (h0 : c.H0 a = none) (hr : c.rw ≠ some a) (no : ∀ j, ¬ OwnA e σ j a) : Same F (upd F a (.lst vs)) ∧ Rel c (upd F a (.lst vs)) σ H e := by
  have sm : Same F (upd F a (.lst vs)) := same_upd' hf
  refine ⟨sm, fun b u q => ?_, fun b u q => sm _ _ (R.f0 _ _ q), fun b u q => ?_, R.kp, fun b q => ?_, R.len, fun j s q => ?_, R.ap, R.pu, R.kt, Per.gr R.pf sm⟩
  · by_cases hb : b = a
    · subst hb
      rw [upd_same] at q
      cases q
      exact ha
    · rw [upd_ne hb] at q
      exact R.fh _ _ q
  · by_cases hb : b = a
    · subst hb
      rw [upd_same] at q
      cases q
      exact .inr ⟨h0, fun ps z => by cases z⟩
    · rw [upd_ne hb] at q
      exact R.fn _ _ q
  · have hb : b ≠ a := fun z => hr (by rw [← z]; exact q)
    obtain ⟨r1, r2⟩ := R.rk b q
    exact ⟨by rw [upd_ne hb]; exact r1, r2⟩
  · have q' := R.sl j s q
    cases s with
    | no => trivial
    | va d =>
      obtain ⟨v, e2, r2⟩ := q'
      exact ⟨v, e2, r2.mono sm⟩
    | ow l2 =>
      obtain ⟨b, ws, e2, hb, hfb, h0b, hrb, r2⟩ := q'
      have ne : b ≠ a := fun z => no j ⟨⟨l2, q⟩, by rw [← z]; exact e2⟩
      exact ⟨b, ws, e2, hb, by rw [upd_ne ne]; exact hfb, h0b, hrb, r2.mono sm⟩
    | pr l2 =>
      obtain ⟨b, ws, e2, hrb, hb, hfb, r2⟩ := q'
      have ne : b ≠ a := fun z => hr (by rw [← z]; exact hrb)
      exact ⟨b, ws, e2, hrb, hb, by rw [upd_ne ne]; exact hfb, r2.mono sm⟩
/-- a list just laid is nobody's -/
structure NewL (c : Ct per) (F : Hp) (σ : L2.St) (H : Hp) (e : Env) (a : Addr) (vs : List V) : Prop where
  at_ : H a = some (.lst vs)
  nf : F a = none
  n0 : c.H0 a = none
  nr : c.rw ≠ some a
  no : ∀ j, ¬ OwnA e σ j a
theorem Rel.newL (R : Rel c F σ H e) (h : H a = none) (vs : List V) : Rel c F σ (upd H a (.lst vs)) e ∧ NewL c F σ (upd H a (.lst vs)) e a vs := by
  obtain ⟨h0, hr⟩ := R.h0none h
  refine ⟨R.newH h _, upd_same, R.fnone h, h0, hr, fun j q => ?_⟩
  obtain ⟨⟨l, q1⟩, q2⟩ := q
  obtain ⟨b, ws, e1, hb, _⟩ := R.sl j _ q1
  rw [q2] at e1
  cases e1
  rw [h] at hb
  cases hb
end

/-! ### readings -/
def PqE (c : Ct per) (F : Hp) (σ : L2.St) (Q : VK) : Hd → Env → Prop := fun h e' => ∀ F' H' v, Same F F' → Rel c F' σ H' e' → RH F' σ h v → Q v H'
def rE (ξ : Xi per) (f : Env → R Hd) : TE := fun σ H Q => ∃ c F e, Rel c F σ H e ∧ Pst (f e) (PqE c F σ Q) (ErrP ξ c)
def PqT (c : Ct per) (F : Hp) (σ : L2.St) (Q : Bool → Hp → Prop) : Bool → Env → Prop := fun b e' => ∀ F' H', Same F F' → Rel c F' σ H' e' → Q b H'
def rT (ξ : Xi per) (f : Env → R Bool) : TT := fun σ H Q => ∃ c F e, Rel c F σ H e ∧ Pst (f e) (PqT c F σ Q) (ErrP ξ c)
def PqA (c : Ct per) (F : Hp) (σ : L2.St) (Q : List V → Hp → Prop) : List Hd → Env → Prop := fun hs e' => ∀ F' H' vs, Same F F' → Rel c F' σ H' e' → RHs F' σ hs vs → Q vs H'
def rA (ξ : Xi per) (f : Env → R (List Hd)) : TA := fun σ H Q => ∃ c F e, Rel c F σ H e ∧ Pst (f e) (PqA c F σ Q) (ErrP ξ c)
/-- a new list -/
def PqN (c : Ct per) (F : Hp) (σ : L2.St) (Q : VK) : List D → Env → Prop := fun l e' => ∀ F' H' a vs, Same F F' → Rel c F' σ H' e' → NewL c F' σ H' e' a vs → Rps F' l vs → Q (.ref a) H'
def rN (ξ : Xi per) (f : Env → R (List D)) : TE := fun σ H Q => ∃ c F e, Rel c F σ H e ∧ Pst (f e) (PqN c F σ Q) (ErrP ξ c)

section
variable {X : Cx} {ξ : Xi per} {a b : Expr} {pos : Pos}
theorem PE.imp {t t' : TE} (h : PE X a t) (w : ∀ σ H Q, t' σ H Q → t σ H Q) : PE X a t' := ⟨fun pins s σ H Q I q => h.run pins s σ H Q I (w σ H Q q)⟩
theorem PT.imp {t t' : TT} (h : PT X a t) (w : ∀ σ H Q, t' σ H Q → t σ H Q) : PT X a t' := ⟨fun pins s σ H Q I q => h.run pins s σ H Q I (w σ H Q q)⟩
theorem PW.imp {t t' : TT} (h : PW X a t) (w : ∀ σ H Q, t' σ H Q → t σ H Q) : PW X a t' := ⟨fun wh pins s σ H Q I q => h.run wh pins s σ H Q I (w σ H Q q)⟩
theorem PA.imp {es : List Expr} {t t' : TA} (h : PA X es t) (w : ∀ σ H Q, t' σ H Q → t σ H Q) : PA X es t' := ⟨fun pos pins s σ H Q I q => h.run pos pins s σ H Q I (w σ H Q q)⟩
theorem PS.imp {st : Stmt} {t t' : TS} (h : PS X st t) (w : ∀ D σ H, t' D σ H → t D σ H) : PS X st t' := ⟨fun pins s σ H D I q => h.run pins s σ H D I (w D σ H q)⟩
theorem PSs.imp {st : List Stmt} {t t' : TS} (h : PSs X st t) (w : ∀ D σ H, t' D σ H → t D σ H) : PSs X st t' := ⟨fun pins s σ H D I q => h.run pins s σ H D I (w D σ H q)⟩
theorem PI.imp {tg it : Expr} {t t' : TI} (h : PI X tg it t) (w : ∀ σ H Q, t' σ H Q → t σ H Q) : PI X tg it t' := ⟨fun pins s σ H Q I q => h.run pins s σ H Q I (w σ H Q q)⟩

/-! ### names, constants -/
def nameF (k : Nat) : Env → R Hd := fun e => match e[k]? with
  | some (.va d) => .ok (.d d) e
  | some (.ow _) => .ok (.s k) e
  | some (.pr _) => .ok (.s k) e
  | _ => .no
theorem q_name (k : Nat) (h : PE X a (tVar k)) : PE X a (rE ξ (nameF k)) := PE.imp h fun σ H Q q => by
  obtain ⟨c, F, e, R, q⟩ := q
  unfold nameF at q
  cases he : e[k]? with
  | none => rw [he] at q; exact q.elim
  | some s =>
    rw [he] at q
    have z := R.sl k s he
    cases s with
    | no => exact q.elim
    | va d =>
      obtain ⟨v, e1, r⟩ := z
      exact ⟨v, e1, q F H v (Same.refl F) R r⟩
    | ow l =>
      obtain ⟨a, vs, e1, _⟩ := z
      exact ⟨.ref a, e1, q F H _ (Same.refl F) R e1⟩
    | pr l =>
      obtain ⟨a, vs, e1, _⟩ := z
      exact ⟨.ref a, e1, q F H _ (Same.refl F) R e1⟩
def conF (d : D) : Env → R Hd := fun e => .ok (.d d) e
theorem q_con {v : V} {d : D} (h : PE X a (tC v)) (r : ∀ F, Rp F d v) : PE X a (rE ξ (conF d)) := PE.imp h fun σ H Q q => by
  obtain ⟨c, F, e, R, q⟩ := q
  exact q F H v (Same.refl F) R (r F)
theorem q_int {i : Int} {j : Nat} : PE X (.Constant (.int i) j pos) (rE ξ (conF (.int i))) := q_con pe_int fun _ => rfl
theorem q_bl {i : Bool} {j : Nat} : PE X (.Constant (.bool i) j pos) (rE ξ (conF (.bl i))) := q_con pe_bl fun _ => rfl
theorem q_non {j : Nat} : PE X (.Constant .none j pos) (rE ξ (conF .non)) := q_con pe_non fun _ => rfl
theorem q_str {x : Str} {j : Nat} : PE X (.Constant (.str x) j pos) (rE ξ (conF (.str x))) := q_con pe_str fun _ => rfl

/-! ### a binary operation, by its rule -/
def optR (e : Env) : Option D → R Hd
  | some d => .ok (.d d) e
  | none => .no
def optN (e : Env) : Option (List D) → R (List D)
  | some d => .ok d e
  | none => .no
theorem optR_pst {e : Env} {o : Option D} {P : Hd → Env → Prop} {Er : Exn → Prop} (h : Pst (optR e o) P Er) : ∃ d, o = some d ∧ P (.d d) e := by
  cases o with
  | none => exact h.elim
  | some d => exact ⟨d, rfl, h⟩
theorem optN_pst {e : Env} {o : Option (List D)} {P : List D → Env → Prop} {Er : Exn → Prop} (h : Pst (optN e o) P Er) : ∃ d, o = some d ∧ P d e := by
  cases o with
  | none => exact h.elim
  | some d => exact ⟨d, rfl, h⟩
def lift1 (g : D → Option D) (e : Env) : Option D → R Hd
  | some x => optR e (g x)
  | none => .no
def lift2 (g : D → D → Option D) (e : Env) : Option D → Option D → R Hd
  | some x, some y => optR e (g x y)
  | _, _ => .no
theorem lift1_pst {g : D → Option D} {e : Env} {o : Option D} {P : Hd → Env → Prop} {Er : Exn → Prop} (h : Pst (lift1 g e o) P Er) : ∃ x d, o = some x ∧ g x = some d ∧ P (.d d) e := by
  cases o with
  | none => exact h.elim
  | some x =>
    obtain ⟨d, e1, q⟩ := optR_pst h
    exact ⟨x, d, rfl, e1, q⟩
theorem lift2_pst {g : D → D → Option D} {e : Env} {o o2 : Option D} {P : Hd → Env → Prop} {Er : Exn → Prop} (h : Pst (lift2 g e o o2) P Er) : ∃ x y d, o = some x ∧ o2 = some y ∧ g x y = some d ∧ P (.d d) e := by
  cases o with
  | none => exact h.elim
  | some x =>
    cases o2 with
    | none => exact h.elim
    | some y =>
      obtain ⟨d, e1, q⟩ := optR_pst h
      exact ⟨x, y, d, rfl, rfl, e1, q⟩
/-- r keeps g -/
def OpS (per : Per) (r : R2) (g : D → D → Option D) : Prop := ∀ (c : Ct per) (F : Hp) (σ : L2.St) (H : Hp) (e : Env) (x y d : D) (v w : V) (Q : VK), Rel c F σ H e → Rq F H x v → Rq F H y w → g x y = some d →
  (∀ F' H' u, Same F F' → Rel c F' σ H' e → Rp F' d u → Q u H') → r v w H Q
def op2F (g : D → D → Option D) (fa fb : Env → R Hd) : Env → R Hd := fun e => (fa e).bind fun h1 e1 => (fb e1).bind fun h2 e2 => lift2 g e2 (hd e2 h1) (hd e2 h2)
theorem op2_core {r : R2} {g : D → D → Option D} (hs : OpS per r g) {fa fb : Env → R Hd} {σ : L2.St} {H : Hp} {Q : VK} (q : rE ξ (op2F g fa fb) σ H Q) : tOp r (rE ξ fa) (rE ξ fb) σ H Q := by
  obtain ⟨c, F, e, R, q⟩ := q
  refine ⟨c, F, e, R, Pst.mono (pst_bind.mp q) (fun h1 e1 q1 F1 H1 v s1 R1 r1 => ?_) fun _ z => z⟩
  refine ⟨c, F1, e1, R1, Pst.mono (pst_bind.mp q1) (fun h2 e2 q2 F2 H2 w s2 R2 r2 => ?_) fun _ z => z⟩
  obtain ⟨x, y, d, x1, x2, x3, q2⟩ := lift2_pst q2
  exact hs c F2 σ H2 e2 x y d v w Q R2 (R2.look (r1.mono s2) x1) (R2.look r2 x2) x3 fun F3 H3 u s3 R3 r3 => q2 F3 H3 u (s1.trans (s2.trans s3)) R3 r3
theorem q_op {op : Operator} {r : R2} {g : D → D → Option D} (ho : OpR X (binaryOp op) r) (hs : OpS per r g) {fa fb : Env → R Hd} (ha : PE X a (rE ξ fa)) (hb : PE X b (rE ξ fb)) : PE X (.BinOp a op b pos) (rE ξ (op2F g fa fb)) :=
  PE.imp (pe_op ho ha hb) fun _ _ _ q => op2_core hs q
theorem q_cmp {op : CmpOp} {r : R2} {g : D → D → Option D} (ho : OpR X (compareOp op) r) (hs : OpS per r g) {fa fb : Env → R Hd} (ha : PE X a (rE ξ fa)) (hb : PE X b (rE ξ fb)) (hm : behindInMarks op b = false) : PE X (.Compare a [op] [b] pos) (rE ξ (op2F g fa fb)) :=
  PE.imp (pe_cmpR ho ha hb hm) fun _ _ _ q => op2_core hs q
/-- a test by an expression's bool -/
def bF (f : Env → R Hd) : Env → R Bool := fun e => (f e).bind fun h e1 => match h with
  | .d (.bl b) => .ok b e1
  | _ => .no
theorem bool_core {f : Env → R Hd} {σ : L2.St} {H : Hp} {Q : Bool → Hp → Prop} (q : rT ξ (bF f) σ H Q) : rE ξ f σ H fun x H1 => ∃ k, x = .bl k ∧ Q k H1 := by
  obtain ⟨c, F, e, R, q⟩ := q
  refine ⟨c, F, e, R, Pst.mono (pst_bind.mp q) (fun h1 e1 q1 F1 H1 v s1 R1 r1 => ?_) fun _ z => z⟩
  cases h1 with
  | s k => exact q1.elim
  | d x =>
    cases x with
    | bl b => exact ⟨b, r1, q1 F1 H1 s1 R1⟩
    | _ => exact q1.elim
theorem q_tcmp {op : CmpOp} {r : R2} {g : D → D → Option D} (ho : OpR X (compareOp op) r) (hs : OpS per r g) {fa fb : Env → R Hd} (ha : PE X a (rE ξ fa)) (hb : PE X b (rE ξ fb)) (hm : behindInMarks op b = false) : PT X (.Compare a [op] [b] pos) (rT ξ (bF (op2F g fa fb))) :=
  PT.imp (pt_cmpR ho ha hb hm) fun σ H Q q => op2_core hs (bool_core q)
/-! ### chains: a op b op' c -/
def chainF (g g' : D → D → Option D) (fa fb fc : Env → R Hd) : Env → R Hd := fun e => (fa e).bind fun h1 e1 => (fb e1).bind fun h2 e2 => (lift2 g e2 (hd e2 h1) (hd e2 h2)).bind fun h3 e3 => match h3 with
  | .d (.bl true) => (fc e3).bind fun h4 e4 => lift2 g' e4 (hd e4 h2) (hd e4 h4)
  | .d (.bl false) => .ok (.d (.bl false)) e3
  | _ => .no
theorem chain_core {r r' : R2} {g g' : D → D → Option D} (hs : OpS per r g) (hs' : OpS per r' g') {fa fb fc : Env → R Hd} {σ : L2.St} {H : Hp} {Q : VK} (q : rE ξ (chainF g g' fa fb fc) σ H Q) : tChain r r' (rE ξ fa) (rE ξ fb) (rE ξ fc) σ H Q := by
  obtain ⟨c, F, e, R, q⟩ := q
  refine ⟨c, F, e, R, Pst.mono (pst_bind.mp q) (fun h1 e1 q1 F1 H1 v s1 R1 r1 => ?_) fun _ z => z⟩
  refine ⟨c, F1, e1, R1, Pst.mono (pst_bind.mp q1) (fun h2 e2 q2 F2 H2 w s2 R2 r2 => ?_) fun _ z => z⟩
  obtain ⟨x, y, d, x1, x2, x3, q2⟩ := lift2_pst (pst_bind.mp q2)
  refine hs c F2 σ H2 e2 x y d v w _ R2 (R2.look (r1.mono s2) x1) (R2.look r2 x2) x3 fun F3 H3 u s3 R3 r3 => ?_
  cases d with
  | bl k =>
    refine ⟨k, r3, ?_⟩
    cases k with
    | false => exact q2 F3 H3 _ (s1.trans (s2.trans s3)) R3 rfl
    | true =>
      have q2' : Pst ((fc e2).bind fun h4 e4 => lift2 g' e4 (hd e4 h2) (hd e4 h4)) (PqE c F σ Q) (ErrP ξ c) := q2
      refine ⟨c, F3, e2, R3, Pst.mono (pst_bind.mp q2') (fun h4 e4 q4 F4 H4 z s4 R4 r4 => ?_) fun _ z => z⟩
      obtain ⟨y', z', d', x4, x5, x6, q4⟩ := lift2_pst q4
      exact hs' c F4 σ H4 e4 y' z' d' w z Q R4 (R4.look (r2.mono (s3.trans s4)) x4) (R4.look r4 x5) x6 fun F5 H5 u s5 R5 r5 => q4 F5 H5 u (s1.trans (s2.trans (s3.trans (s4.trans s5)))) R5 r5
  | _ => exact q2.elim
theorem q_chain {op op' : CmpOp} {r r' : R2} {g g' : D → D → Option D} {d : Expr} (ho : OpR X (compareOp op) r) (hs : OpS per r g) (ho' : OpR X (compareOp op') r') (hs' : OpS per r' g') {fa fb fc : Env → R Hd} (ha : PE X a (rE ξ fa)) (hb : PE X b (rE ξ fb)) (hc : PE X d (rE ξ fc))
    (hm : lastMarks [op, op'] [b, d] = false := by with_unfolding_all rfl) : PE X (.Compare a [op, op'] [b, d] pos) (rE ξ (chainF g g' fa fb fc)) := PE.imp (pe_chain ho ho' ha hb hc hm) fun _ _ _ q => chain_core hs hs' q
theorem q_tchain {op op' : CmpOp} {r r' : R2} {g g' : D → D → Option D} {d : Expr} (ho : OpR X (compareOp op) r) (hs : OpS per r g) (ho' : OpR X (compareOp op') r') (hs' : OpS per r' g') {fa fb fc : Env → R Hd} (ha : PE X a (rE ξ fa)) (hb : PE X b (rE ξ fb)) (hc : PE X d (rE ξ fc))
    (hm : lastMarks [op, op'] [b, d] = false := by with_unfolding_all rfl) : PT X (.Compare a [op, op'] [b, d] pos) (rT ξ (bF (chainF g g' fa fb fc))) := PT.imp (pt_chain ho ho' ha hb hc hm) fun _ _ _ q => chain_core hs hs' (bool_core q)

/-! ### truth, and, or, not, if -/
def truD : D → Option Bool
  | .non => some false
  | .bl b => some b
  | .int i => some (i != 0)
  | .str x => if x.length ≤ 100000 then some (x.length != 0) else none
  | .tup l => some (!l.isEmpty)
  | .lst l => some (!l.isEmpty)
  | _ => none
theorem small_line {n : Nat} (h : n ≤ 100000) : n ≤ sizeLine := Nat.le_trans h (by rw [sizeLine_eq]; decide)
theorem empty_len {F : Hp} {l : List D} {vs : List V} (r : Rps F l vs) : (!vs.isEmpty) = !l.isEmpty := by
  have h := r.len
  cases l <;> cases vs <;> simp_all
theorem tru_of {K : PySem.W.Frag} {F H : Hp} {d : D} {v : V} {k : Bool} (fh : Same F H) (r : Rq F H d v) (h : truD d = some k) : TruV K v H k := by
  cases d with
  | non =>
    cases h
    rw [show v = _ from r]
    exact rfl
  | bl b =>
    cases h
    rw [show v = _ from r]
    exact rfl
  | int i =>
    cases h
    rw [show v = _ from r]
    exact rfl
  | str x =>
    have h : (if x.length ≤ 100000 then some (x.length != 0) else none) = some k := h
    rw [show v = _ from r]
    by_cases hx : x.length ≤ 100000
    · rw [if_pos hx] at h
      cases h
      refine ⟨small_line hx, ?_⟩
      cases hz : x.length with
      | zero => rfl
      | succ n =>
        have e1 : (n + 1 != 0) = true := by simp
        have e2 : (((n + 1 : Nat) : Int) != 0) = true := by simp; omega
        rw [e1, e2]
    · rw [if_neg hx] at h
      cases h
  | tup l =>
    cases h
    obtain ⟨a, vs, e, ha, r⟩ := r
    rw [e]
    exact .inr (.inl ⟨vs, SqT.of (fh _ _ ha), (empty_len r).symm⟩)
  | lst l =>
    cases h
    obtain ⟨a, vs, e, ha, r⟩ := r
    rw [e]
    exact .inl ⟨vs, SqL.of ha, (empty_len r).symm⟩
  | scr l => cases h
  | opq u => cases h
def truR (e : Env) (h : Hd) : R Bool := match (hd e h).bind truD with
  | some k => .ok k e
  | none => .no
def truF (f : Env → R Hd) : Env → R Bool := fun e => (f e).bind fun h e1 => truR e1 h
theorem tru_core {K : PySem.W.Frag} {c : Ct per} {F : Hp} {σ : L2.St} {H : Hp} {e : Env} {h : Hd} {v : V} {P : Bool → Env → Prop} {Er : Exn → Prop} (R : Rel c F σ H e) (r : RH F σ h v) (q : Pst (truR e h) P Er) : ∃ k, TruV K v H k ∧ P k e := by
  unfold truR at q
  cases x : (hd e h).bind truD with
  | none => rw [x] at q; exact q.elim
  | some k =>
    rw [x] at q
    obtain ⟨d, x1, x2⟩ := Option.bind_eq_some_iff.mp x
    exact ⟨k, tru_of R.fh (R.look r x1) x2, q⟩
theorem q_truth {f : Env → R Hd} (ha : PE X a (rE ξ f)) (he : ∀ whole, isTrue a X.env whole = (do let v ← whole; standAt a.pos; holding [v] (truthy v)) := by intro _; rfl) : PT X a (rT ξ (truF f)) :=
  PT.imp (pt_truth ha he) fun σ H Q q => by
    obtain ⟨c, F, e, R, q⟩ := q
    refine ⟨c, F, e, R, Pst.mono (pst_bind.mp q) (fun h1 e1 q1 F1 H1 v s1 R1 r1 => ?_) fun _ z => z⟩
    obtain ⟨k, t, q⟩ := tru_core (K := X.K) R1 r1 q1
    exact ⟨k, t, q F1 H1 s1 R1⟩
def andF (fa fb : Env → R Hd) : Env → R Hd := fun e => (fa e).bind fun h e1 => (truR e1 h).bind fun k e2 => if k = true then fb e2 else .ok h e2
def orF (fa fb : Env → R Hd) : Env → R Hd := fun e => (fa e).bind fun h e1 => (truR e1 h).bind fun k e2 => if k = true then .ok h e2 else fb e2
theorem q_one {op : BoolOp} {f : Env → R Hd} (h : PE X a (rE ξ f)) : PE X (.BoolOp op [a] pos) (rE ξ f) := pe_one h
theorem q_and {rest : List Expr} {fa fb : Env → R Hd} (ha : PE X a (rE ξ fa)) (hb : PE X (.BoolOp .And (b :: rest) pos) (rE ξ fb)) : PE X (.BoolOp .And (a :: b :: rest) pos) (rE ξ (andF fa fb)) :=
  PE.imp (pe_andT ha hb) fun σ H Q q => by
    obtain ⟨c, F, e, R, q⟩ := q
    refine ⟨c, F, e, R, Pst.mono (pst_bind.mp q) (fun h1 e1 q1 F1 H1 v s1 R1 r1 => ?_) fun _ z => z⟩
    obtain ⟨k, t, q⟩ := tru_core (K := X.K) R1 r1 (pst_bind.mp q1)
    refine ⟨k, t, ?_⟩
    cases k with
    | true => exact ⟨c, F1, e1, R1, Pst.mono q (fun h2 e2 q2 F2 H2 w s2 R2 r2 => q2 F2 H2 w (s1.trans s2) R2 r2) fun _ z => z⟩
    | false => exact q F1 H1 v s1 R1 r1
theorem q_or {rest : List Expr} {fa fb : Env → R Hd} (ha : PE X a (rE ξ fa)) (hb : PE X (.BoolOp .Or (b :: rest) pos) (rE ξ fb)) : PE X (.BoolOp .Or (a :: b :: rest) pos) (rE ξ (orF fa fb)) :=
  PE.imp (pe_orT ha hb) fun σ H Q q => by
    obtain ⟨c, F, e, R, q⟩ := q
    refine ⟨c, F, e, R, Pst.mono (pst_bind.mp q) (fun h1 e1 q1 F1 H1 v s1 R1 r1 => ?_) fun _ z => z⟩
    obtain ⟨k, t, q⟩ := tru_core (K := X.K) R1 r1 (pst_bind.mp q1)
    refine ⟨k, t, ?_⟩
    cases k with
    | true => exact q F1 H1 v s1 R1 r1
    | false => exact ⟨c, F1, e1, R1, Pst.mono q (fun h2 e2 q2 F2 H2 w s2 R2 r2 => q2 F2 H2 w (s1.trans s2) R2 r2) fun _ z => z⟩
def notF (f : Env → R Hd) : Env → R Hd := fun e => (f e).bind fun h e1 => (truR e1 h).bind fun k e2 => .ok (.d (.bl (!k))) e2
theorem q_not {f : Env → R Hd} (ha : PE X a (rE ξ f)) : PE X (.UnaryOp .Not a pos) (rE ξ (notF f)) :=
  PE.imp (pe_notT ha) fun σ H Q q => by
    obtain ⟨c, F, e, R, q⟩ := q
    refine ⟨c, F, e, R, Pst.mono (pst_bind.mp q) (fun h1 e1 q1 F1 H1 v s1 R1 r1 => ?_) fun _ z => z⟩
    obtain ⟨k, t, q⟩ := tru_core (K := X.K) R1 r1 (pst_bind.mp q1)
    exact ⟨k, t, q F1 H1 _ s1 R1 rfl⟩
/-- tests -/
def tandF (fa fb : Env → R Bool) : Env → R Bool := fun e => (fa e).bind fun k e1 => if k = true then fb e1 else .ok false e1
def torF (fa fb : Env → R Bool) : Env → R Bool := fun e => (fa e).bind fun k e1 => if k = true then .ok true e1 else fb e1
def tnotF (fa : Env → R Bool) : Env → R Bool := fun e => (fa e).bind fun k e1 => .ok (!k) e1
theorem q_wand1 {f : Env → R Bool} (ha : PT X a (rT ξ f)) : PW X (.BoolOp .And [a] pos) (rT ξ f) := pw_and1 ha
theorem q_wor1 {f : Env → R Bool} (ha : PT X a (rT ξ f)) : PW X (.BoolOp .Or [a] pos) (rT ξ f) := pw_or1 ha
theorem q_wand {rest : List Expr} {fa fb : Env → R Bool} (ha : PT X a (rT ξ fa)) (hb : PW X (.BoolOp .And (b :: rest) pos) (rT ξ fb)) : PW X (.BoolOp .And (a :: b :: rest) pos) (rT ξ (tandF fa fb)) :=
  PW.imp (pw_and ha hb) fun σ H Q q => by
    obtain ⟨c, F, e, R, q⟩ := q
    refine ⟨c, F, e, R, Pst.mono (pst_bind.mp q) (fun k e1 q1 F1 H1 s1 R1 => ?_) fun _ z => z⟩
    cases k with
    | true =>
      have q1' : Pst (fb e1) (PqT c F σ Q) (ErrP ξ c) := q1
      exact ⟨c, F1, e1, R1, Pst.mono q1' (fun k e2 q2 F2 H2 s2 R2 => q2 F2 H2 (s1.trans s2) R2) fun _ z => z⟩
    | false => exact q1 F1 H1 s1 R1
theorem q_wor {rest : List Expr} {fa fb : Env → R Bool} (ha : PT X a (rT ξ fa)) (hb : PW X (.BoolOp .Or (b :: rest) pos) (rT ξ fb)) : PW X (.BoolOp .Or (a :: b :: rest) pos) (rT ξ (torF fa fb)) :=
  PW.imp (pw_or ha hb) fun σ H Q q => by
    obtain ⟨c, F, e, R, q⟩ := q
    refine ⟨c, F, e, R, Pst.mono (pst_bind.mp q) (fun k e1 q1 F1 H1 s1 R1 => ?_) fun _ z => z⟩
    cases k with
    | true => exact q1 F1 H1 s1 R1
    | false =>
      have q1' : Pst (fb e1) (PqT c F σ Q) (ErrP ξ c) := q1
      exact ⟨c, F1, e1, R1, Pst.mono q1' (fun k e2 q2 F2 H2 s2 R2 => q2 F2 H2 (s1.trans s2) R2) fun _ z => z⟩
theorem q_tnot {f : Env → R Bool} (ha : PT X a (rT ξ f)) : PT X (.UnaryOp .Not a pos) (rT ξ (tnotF f)) :=
  PT.imp (pt_not ha) fun σ H Q q => by
    obtain ⟨c, F, e, R, q⟩ := q
    exact ⟨c, F, e, R, Pst.mono (pst_bind.mp q) (fun k e1 q1 F1 H1 s1 R1 => q1 F1 H1 s1 R1) fun _ z => z⟩
def ifF (c : Env → R Bool) (fa fb : Env → R Hd) : Env → R Hd := fun e => (c e).bind fun k e1 => if k = true then fa e1 else fb e1
theorem q_if {t : Expr} {fc : Env → R Bool} {fa fb : Env → R Hd} (hc : PT X t (rT ξ fc)) (ha : PE X a (rE ξ fa)) (hb : PE X b (rE ξ fb)) : PE X (.IfExp t a b pos) (rE ξ (ifF fc fa fb)) :=
  PE.imp (pe_ifExp hc ha hb) fun σ H Q q => by
    obtain ⟨c, F, e, R, q⟩ := q
    refine ⟨c, F, e, R, Pst.mono (pst_bind.mp q) (fun k e1 q1 F1 H1 s1 R1 => ?_) fun _ z => z⟩
    cases k with
    | true =>
      have q1' : Pst (fa e1) (PqE c F σ Q) (ErrP ξ c) := q1
      exact ⟨c, F1, e1, R1, Pst.mono q1' (fun k e2 q2 F2 H2 w s2 R2 r2 => q2 F2 H2 w (s1.trans s2) R2 r2) fun _ z => z⟩
    | false =>
      have q1' : Pst (fb e1) (PqE c F σ Q) (ErrP ξ c) := q1
      exact ⟨c, F1, e1, R1, Pst.mono q1' (fun k e2 q2 F2 H2 w s2 R2 r2 => q2 F2 H2 w (s1.trans s2) R2 r2) fun _ z => z⟩

/-! ### argument lists, displays -/
def nilF : Env → R (List Hd) := fun e => .ok [] e
def consF (f : Env → R Hd) (g : Env → R (List Hd)) : Env → R (List Hd) := fun e => (f e).bind fun h e1 => (g e1).bind fun hs e2 => .ok (h :: hs) e2
theorem q_nil : PA X [] (rA ξ nilF) := PA.imp pa_nil fun σ H Q q => by
  obtain ⟨c, F, e, R, q⟩ := q
  exact q F H [] (Same.refl F) R rfl
theorem q_cons {es : List Expr} {f : Env → R Hd} {g : Env → R (List Hd)} (ha : PE X a (rE ξ f)) (hr : PA X es (rA ξ g)) (hs : starEach (a :: es) X.env = (false, eval a X.env) :: starEach es X.env := by rfl) : PA X (a :: es) (rA ξ (consF f g)) :=
  PA.imp (pa_cons ha hr hs) fun σ H Q q => by
    obtain ⟨c, F, e, R, q⟩ := q
    refine ⟨c, F, e, R, Pst.mono (pst_bind.mp q) (fun h e1 q1 F1 H1 v s1 R1 r1 => ?_) fun _ z => z⟩
    refine ⟨c, F1, e1, R1, Pst.mono (pst_bind.mp q1) (fun hs e2 q2 F2 H2 vs s2 R2 r2 => ?_) fun _ z => z⟩
    exact q2 F2 H2 (v :: vs) (s1.trans s2) R2 ⟨v, vs, rfl, r1.mono s2, r2⟩
/-- data made of data -/
def dispF (mk : List D → D) (f : Env → R (List Hd)) : Env → R Hd := fun e => (f e).bind fun hs e1 => match fzs e1 hs with
  | some (ds, e2) => if ds.length ≤ 100000 then .ok (.d (mk ds)) e2 else .no
  | none => .no
theorem q_tup {es : List Expr} {k : Nat} {f : Env → R (List Hd)} (h : PA X es (rA ξ f)) : PE X (.Tuple es k pos) (rE ξ (dispF .tup f)) :=
  PE.imp (pe_tup h) fun σ H Q q => by
    obtain ⟨c, F, e, R, q⟩ := q
    refine ⟨c, F, e, R, Pst.mono (pst_bind.mp q) (fun hs e1 q1 F1 H1 vs s1 R1 r1 => ?_) fun _ z => z⟩
    cases x1 : fzs e1 hs with
    | none => rw [x1] at q1; exact q1.elim
    | some p =>
      obtain ⟨ds, e2⟩ := p
      rw [x1] at q1
      simp only at q1
      obtain ⟨F2, s2, R2, rp⟩ := R1.hands r1 x1
      by_cases hl : ds.length ≤ 100000
      · rw [if_pos hl] at q1
        refine ⟨small_line (by rw [rp.len]; exact hl), fun p hp => ?_⟩
        have sm := same_upd' (o := .tup vs) (R2.fnone hp)
        exact q1 (upd F2 p (.tup vs)) _ _ (s1.trans (s2.trans sm)) (R2.new hp _) ⟨p, vs, rfl, upd_same, rp.mono sm⟩
      · rw [if_neg hl] at q1
        exact q1.elim
def ndispF (f : Env → R (List Hd)) : Env → R (List D) := fun e => (f e).bind fun hs e1 => match fzs e1 hs with
  | some (ds, e2) => if ds.length ≤ 100000 then .ok ds e2 else .no
  | none => .no
theorem q_lst {es : List Expr} {f : Env → R (List Hd)} (h : PA X es (rA ξ f)) : PE X (.List es pos) (rN ξ (ndispF f)) :=
  PE.imp (pe_lst h) fun σ H Q q => by
    obtain ⟨c, F, e, R, q⟩ := q
    refine ⟨c, F, e, R, Pst.mono (pst_bind.mp q) (fun hs e1 q1 F1 H1 vs s1 R1 r1 => ?_) fun _ z => z⟩
    cases x1 : fzs e1 hs with
    | none => rw [x1] at q1; exact q1.elim
    | some p =>
      obtain ⟨ds, e2⟩ := p
      rw [x1] at q1
      simp only at q1
      obtain ⟨F2, s2, R2, rp⟩ := R1.hands r1 x1
      by_cases hl : ds.length ≤ 100000
      · rw [if_pos hl] at q1
        refine ⟨small_line (by rw [rp.len]; exact hl), fun p hp => ?_⟩
        obtain ⟨R3, n3⟩ := R2.newL hp vs
        exact q1 F2 _ p vs (s1.trans s2) R3 n3 rp
      · rw [if_neg hl] at q1
        exact q1.elim
/-- a new list, known at once -/
def nE (f : Env → R (List D)) : Env → R Hd := fun e => (f e).bind fun l e1 => .ok (.d (.lst l)) e1
theorem q_n {f : Env → R (List D)} (h : PE X a (rN ξ f)) : PE X a (rE ξ (nE f)) := PE.imp h fun σ H Q q => by
  obtain ⟨c, F, e, R, q⟩ := q
  refine ⟨c, F, e, R, Pst.mono (pst_bind.mp q) (fun l e1 q1 F1 H1 p vs s1 R1 n1 r1 => ?_) fun _ z => z⟩
  obtain ⟨sm, R2⟩ := R1.frzN n1.at_ n1.nf n1.n0 n1.nr n1.no
  exact q1 _ H1 _ (s1.trans sm) R2 ⟨p, vs, rfl, upd_same, r1.mono sm⟩

/-! ### calls of built-ins, by their rules -/
def liftA (g : List D → Option D) (e : Env) : Option (List D) → R Hd
  | some x => optR e (g x)
  | none => .no
def liftN (g : List D → Option (List D)) (e : Env) : Option (List D) → R (List D)
  | some x => optN e (g x)
  | none => .no
theorem liftA_pst {g : List D → Option D} {e : Env} {o : Option (List D)} {P : Hd → Env → Prop} {Er : Exn → Prop} (h : Pst (liftA g e o) P Er) : ∃ x d, o = some x ∧ g x = some d ∧ P (.d d) e := by
  cases o with
  | none => exact h.elim
  | some x =>
    obtain ⟨d, e1, q⟩ := optR_pst h
    exact ⟨x, d, rfl, e1, q⟩
theorem liftN_pst {g : List D → Option (List D)} {e : Env} {o : Option (List D)} {P : List D → Env → Prop} {Er : Exn → Prop} (h : Pst (liftN g e o) P Er) : ∃ x d, o = some x ∧ g x = some d ∧ P d e := by
  cases o with
  | none => exact h.elim
  | some x =>
    obtain ⟨d, e1, q⟩ := optN_pst h
    exact ⟨x, d, rfl, e1, q⟩
def CaS (per : Per) (r : List V → Hp → VK → Prop) (g : List D → Option D) : Prop := ∀ (c : Ct per) (F : Hp) (σ : L2.St) (H : Hp) (e : Env) (xs : List D) (d : D) (vs : List V) (Q : VK), Rel c F σ H e → Rqs F H xs vs → g xs = some d →
  (∀ F' H' u, Same F F' → Rel c F' σ H' e → Rp F' d u → Q u H') → r vs H Q
def callF (g : List D → Option D) (f : Env → R (List Hd)) : Env → R Hd := fun e => (f e).bind fun hs e1 => liftA g e1 (hds e1 hs)
theorem call_core {r : List V → Hp → VK → Prop} {g : List D → Option D} (hs : CaS per r g) {f : Env → R (List Hd)} {σ : L2.St} {H : Hp} {Q : VK} (q : rE ξ (callF g f) σ H Q) : tCB r (rA ξ f) σ H Q := by
  obtain ⟨c, F, e, R, q⟩ := q
  refine ⟨c, F, e, R, Pst.mono (pst_bind.mp q) (fun h1 e1 q1 F1 H1 vs s1 R1 r1 => ?_) fun _ z => z⟩
  obtain ⟨xs, d, x1, x2, q1⟩ := liftA_pst q1
  exact hs c F1 σ H1 e1 xs d vs Q R1 (R1.looks r1 x1) x2 fun F2 H2 u s2 R2 r2 => q1 F2 H2 u (s1.trans s2) R2 r2
theorem q_callB {x : Str} {p : Pos} {es : List Expr} {id : String} {r : List V → Hp → VK → Prop} {g : List D → Option D} (hc : CallR X (.builtin id) r) (hs : CaS per r g) (hg : Gl X x) (hm : X.mg x = none) (hv : bootBuiltins x = some (.builtin id)) {f : Env → R (List Hd)} (ha : PA X (a :: es) (rA ξ f)) (hn : x ≠ "__name__" := by decide) (hdb : (x == ("__debug__" : Str)) = false := by decide)
    (he : starEach (a :: es) X.env = (false, eval a X.env) :: starEach es X.env := by rfl) (hpl : (backTo pos (starEach es X.env)).any (·.1) = false := by rfl) : PE X (.Call (.Name x p) (a :: es) [] pos) (rE ξ (callF g f)) :=
  PE.imp (pe_callB hc hg hm hv ha hn hdb he hpl) fun _ _ _ q => call_core hs q
theorem q_callTy {x : Str} {p : Pos} {es : List Expr} {T : String} {r : List V → Hp → VK → Prop} {g : List D → Option D} (hc : CallR X (.type T) r) (hs : CaS per r g) (hg : Gl X x) (hm : X.mg x = none) (hv : bootBuiltins x = some (.type T)) {f : Env → R (List Hd)} (ha : PA X (a :: es) (rA ξ f)) (hn : x ≠ "__name__" := by decide) (hdb : (x == ("__debug__" : Str)) = false := by decide)
    (he : starEach (a :: es) X.env = (false, eval a X.env) :: starEach es X.env := by rfl) (hpl : (backTo pos (starEach es X.env)).any (·.1) = false := by rfl) : PE X (.Call (.Name x p) (a :: es) [] pos) (rE ξ (callF g f)) :=
  PE.imp (pe_callTy hc hg hm hv ha hn hdb he hpl) fun _ _ _ q => call_core hs q
/-- .. whose answer is a new list -/
def CaN (per : Per) (r : List V → Hp → VK → Prop) (g : List D → Option (List D)) : Prop := ∀ (c : Ct per) (F : Hp) (σ : L2.St) (H : Hp) (e : Env) (xs : List D) (l : List D) (vs : List V) (Q : VK), Rel c F σ H e → Rqs F H xs vs → g xs = some l →
  (∀ F' H' a ws, Same F F' → Rel c F' σ H' e → NewL c F' σ H' e a ws → Rps F' l ws → Q (.ref a) H') → r vs H Q
def ncallF (g : List D → Option (List D)) (f : Env → R (List Hd)) : Env → R (List D) := fun e => (f e).bind fun hs e1 => liftN g e1 (hds e1 hs)
theorem ncall_core {r : List V → Hp → VK → Prop} {g : List D → Option (List D)} (hs : CaN per r g) {f : Env → R (List Hd)} {σ : L2.St} {H : Hp} {Q : VK} (q : rN ξ (ncallF g f) σ H Q) : tCB r (rA ξ f) σ H Q := by
  obtain ⟨c, F, e, R, q⟩ := q
  refine ⟨c, F, e, R, Pst.mono (pst_bind.mp q) (fun h1 e1 q1 F1 H1 vs s1 R1 r1 => ?_) fun _ z => z⟩
  obtain ⟨xs, d, x1, x2, q1⟩ := liftN_pst q1
  exact hs c F1 σ H1 e1 xs d vs Q R1 (R1.looks r1 x1) x2 fun F2 H2 p ws s2 R2 n2 r2 => q1 F2 H2 p ws (s1.trans s2) R2 n2 r2
theorem q_ncallB {x : Str} {p : Pos} {es : List Expr} {id : String} {r : List V → Hp → VK → Prop} {g : List D → Option (List D)} (hc : CallR X (.builtin id) r) (hs : CaN per r g) (hg : Gl X x) (hm : X.mg x = none) (hv : bootBuiltins x = some (.builtin id)) {f : Env → R (List Hd)} (ha : PA X (a :: es) (rA ξ f)) (hn : x ≠ "__name__" := by decide) (hdb : (x == ("__debug__" : Str)) = false := by decide)
    (he : starEach (a :: es) X.env = (false, eval a X.env) :: starEach es X.env := by rfl) (hpl : (backTo pos (starEach es X.env)).any (·.1) = false := by rfl) : PE X (.Call (.Name x p) (a :: es) [] pos) (rN ξ (ncallF g f)) :=
  PE.imp (pe_callB hc hg hm hv ha hn hdb he hpl) fun _ _ _ q => ncall_core hs q
theorem q_ncallTy {x : Str} {p : Pos} {es : List Expr} {T : String} {r : List V → Hp → VK → Prop} {g : List D → Option (List D)} (hc : CallR X (.type T) r) (hs : CaN per r g) (hg : Gl X x) (hm : X.mg x = none) (hv : bootBuiltins x = some (.type T)) {f : Env → R (List Hd)} (ha : PA X (a :: es) (rA ξ f)) (hn : x ≠ "__name__" := by decide) (hdb : (x == ("__debug__" : Str)) = false := by decide)
    (he : starEach (a :: es) X.env = (false, eval a X.env) :: starEach es X.env := by rfl) (hpl : (backTo pos (starEach es X.env)).any (·.1) = false := by rfl) : PE X (.Call (.Name x p) (a :: es) [] pos) (rN ξ (ncallF g f)) :=
  PE.imp (pe_callTy hc hg hm hv ha hn hdb he hpl) fun _ _ _ q => ncall_core hs q
end
end PL
set_option Elab.async false
set_option linter.all false
set_option maxRecDepth 100000
set_option maxHeartbeats 4000000
/-! The pure layer, 3: enumerate and zip over lists, tuples and texts alike. -/
namespace PL
open PySem PySem.Spec PyProof.Rows L2
open Sem (wp)

/-- what is walked, by its iterator at it -/
structure Src (P : Program) (w : World) (K : PySem.W.Frag) (it : Addr) (st : Nat → Heap → Prop) (n : Nat) (item : Nat → V → Prop) (C : Hp → Prop) : Prop where
  obj : ∀ i h, st i h → ∃ o, h.get? it = some o ∧ ∀ v, o.data ≠ .cell v
  keep : ∀ i h h', st i h → (∀ o, h.get? it = some o → h'.get? it = some o) → st i h'
  draws : ∀ (X : Cx), X.prog = P → X.w = w → X.K = K → ∀ (A : Around) (pins : List (Addr × Obj)) (σ : L2.St) (H : Hp) (s : Shared), A.handled = none → Inv X pins σ H s → H it = none → C H →
    ∃ (fp : List Addr) (Pv : Nat → Value → Prop) (St : Nat → Heap → Prop), Draws P w A it fp n Pv St ∧ it ∈ fp ∧ (∀ b ∈ fp, b = it ∨ H b ≠ none) ∧ (∀ i, st i s.heap → St i s.heap) ∧ (∀ i h', St i h' → st i h') ∧ (∀ i v, Pv i v → ∃ x, item i x ∧ RelV x v)
def ixL (xs : List V) : Nat → V → Prop := fun i x => xs[i]? = some x
def ixS (z : Str) : Nat → V → Prop := fun i x => ∃ c, z.cps[i]? = some c ∧ x = .str ⟨#[c]⟩
section
variable {P : Program} {w : World} {K : PySem.W.Frag}
theorem rd_some {H : Hp} {a : Addr} {u : HO} (r : Rd H a u) : H a ≠ none := by
  rcases r with r | ⟨o, r⟩ <;> rw [r] <;> simp
theorem src_list (it l : Addr) (xs : List V) : Src P w K it (fun i h => h.IsListIter it l i) xs.length (ixL xs) (fun H => Rd H l (.lst xs)) where
  obj := fun i h st => by
    obtain ⟨o, e, c, d⟩ := st
    exact ⟨o, e, fun v z => by rw [d] at z; cases z⟩
  keep := fun i h h' st k => st.at fun o e => k o e
  draws := fun X hP hw hK A pins σ H s hh I hn hC => by
    subst hP hw hK
    obtain ⟨its, rv, p, hz⟩ := I.list (.inl hC)
    have e : its.toArray.size = xs.length := by rw [List.size_toArray]; exact rv.length.symm
    have D := Draws.list (prog := X.prog) (w := X.w) (A := A) hh it l (fun z => rd_some hC (by rw [z]; exact hn)) its.toArray
    rw [e] at D
    refine ⟨_, _, _, D, by simp, fun b hb => ?_, fun i st => ⟨st, p.isList⟩, fun i h' st => st.1, fun i v q => ?_⟩
    · have hb : b = it ∨ b = l := by simpa using hb
      rcases hb with z | z
      · exact .inl z
      · exact .inr (by rw [z]; exact rd_some hC)
    · have q' : its[i]? = some v := by simpa using q
      have hi : i < xs.length := by rw [rv.length]; exact (List.getElem?_eq_some_iff.mp q').1
      obtain ⟨u, hu, ru⟩ := rv.get (List.getElem?_eq_getElem hi)
      rw [q'] at hu
      cases hu
      exact ⟨_, List.getElem?_eq_getElem hi, ru⟩
theorem src_tup (it l : Addr) (xs : List V) : Src P w K it (fun i h => h.IsTupleIter it l i) xs.length (ixL xs) (fun H => Rd H l (.tup xs)) where
  obj := fun i h st => by
    obtain ⟨o, e, c, d⟩ := st
    exact ⟨o, e, fun v z => by rw [d] at z; cases z⟩
  keep := fun i h h' st k => st.at fun o e => k o e
  draws := fun X hP hw hK A pins σ H s hh I hn hC => by
    subst hP hw hK
    obtain ⟨its, rv, p, hz⟩ := I.tuple (.inl hC)
    have e : its.toArray.size = xs.length := by rw [List.size_toArray]; exact rv.length.symm
    have D := Draws.tuple (prog := X.prog) (w := X.w) (A := A) hh it l (fun z => rd_some hC (by rw [z]; exact hn)) its.toArray
    rw [e] at D
    refine ⟨_, _, _, D, by simp, fun b hb => ?_, fun i st => ⟨st, p⟩, fun i h' st => st.1, fun i v q => ?_⟩
    · have hb : b = it ∨ b = l := by simpa using hb
      rcases hb with z | z
      · exact .inl z
      · exact .inr (by rw [z]; exact rd_some hC)
    · have q' : its[i]? = some v := by simpa using q
      have hi : i < xs.length := by rw [rv.length]; exact (List.getElem?_eq_some_iff.mp q').1
      obtain ⟨u, hu, ru⟩ := rv.get (List.getElem?_eq_getElem hi)
      rw [q'] at hu
      cases hu
      exact ⟨_, List.getElem?_eq_getElem hi, ru⟩
theorem src_str (it : Addr) (z : Str) (t : Tok) : Src P w K it (fun i h => h.IsStrIter it (strIterType z) z t i) z.cps.size (ixS z) (fun _ => True) where
  obj := fun i h st => by
    obtain ⟨o, e, c, d⟩ := st
    exact ⟨o, e, fun v z => by rw [d] at z; cases z⟩
  keep := fun i h h' st k => let ⟨o, ho, r⟩ := st; ⟨o, k o ho, r⟩
  draws := fun X hP hw hK A pins σ H s hh I hn hC => by
    subst hP hw hK
    refine ⟨_, _, _, Draws.text (prog := X.prog) (w := X.w) (A := A) hh it z t, by simp, fun b hb => .inl (by simpa using hb), fun i st => st, fun i h' st => st, fun i v q => ?_⟩
    obtain ⟨c, u, h1, h2⟩ := q
    exact ⟨_, ⟨c, h1, rfl⟩, u, h2⟩
end
/-! ### enumerate -/
def ItE (n : Nat) (item : Nat → V → Prop) (C : Hp → Prop) : It :=
  ⟨fun i H => i < n ∧ C H, fun i H v H' => ∃ T x, v = .ref T ∧ H T = none ∧ H' = upd H T (.tup [.int (i : Nat), x]) ∧ item i x, fun i H => i = n ∧ C H⟩
theorem turn_enumG {P : Program} {w : World} {K : PySem.W.Frag} {elts : List Expr} {kk : Nat} {tpos : Pos} {e it : Addr} {st : Nat → Heap → Prop} {n : Nat} {item : Nat → V → Prop} {C : Hp → Prop} (S : Src P w K it st n item C) :
    Turn P w K (.Tuple elts kk tpos) (ItE n item C) [e, it] e (fun i h => (∃ old, IsEnum h e it ((i : Nat) : Int) old) ∧ st i h ∧ e ≠ it) where
  mem := by simp
  obj := fun i h s b hb => by
    obtain ⟨⟨old, he⟩, hs, _⟩ := s
    have e' : b = e ∨ b = it := by simpa using hb
    rcases e' with z | z
    · rw [z]; exact ⟨_, he, fun v q => nomatch q⟩
    · rw [z]; exact S.obj i h hs
  keep := fun i h h' s k => let ⟨⟨old, he⟩, hi, hne⟩ := s; ⟨⟨old, k e (by simp) _ he⟩, S.keep i h h' hi fun o q => k it (by simp) o q, hne⟩
  item := by
    intro X hP hw hK hc i pins s σ H E I hf hst hg
    obtain ⟨⟨old, he⟩, hit, hne⟩ := hst
    obtain ⟨hlt, hC⟩ := hg
    have he0 : H e = none := (hf e (by simp)).1
    have hi0 : H it = none := (hf it (by simp)).1
    obtain ⟨fp, Pv, St, D, hm, hfp, up, dn, hv⟩ := S.draws X hP hw hK X.A.in1 pins σ H s (I.ok.hd hc) I hi0 hC
    have hef : e ∉ fp := fun z => (hfp e z).elim hne fun q => q he0
    subst hP hw hK
    have hel : e < s.heap.objs.size := Heap.lt_size he
    have hil : it < s.heap.objs.size := by obtain ⟨_, q, _⟩ := S.obj i _ hit; exact Heap.lt_size q
    refine wpAny_pyNext_enum_itemD D he (up i hit) hlt hne hef fun u h' tk hP ho hit' hT hsz hk => ?_
    obtain ⟨x, hx, ru⟩ := hv i u hP
    refine ⟨_, rfl, wpAny_letOwnedTupleGo_enum (s := { s with heap := h', toks := tk + 1 }) ho fun h'' he' sb => ?_⟩
    have hT2 : h''.get? s.heap.objs.size = some { cls := .type "tuple", data := .seq #[.int i tk, u] } := (sb.2 _ (Nat.ne_of_gt hel)).trans hT
    have new : ObjOk X.prog X.w (upd H s.heap.objs.size (.tup [.int (i : Nat), x])) h'' s.heap.objs.size (.tup [.int (i : Nat), x]) :=
      ⟨by show 2 ≤ sizeLine; decide, [.int i tk, u], .cons ⟨_, rfl⟩ (.cons ru .nil), ⟨_, hT2, rfl, _, rfl⟩⟩
    have I1 : Inv X pins σ (upd H s.heap.objs.size (.tup [.int (i : Nat), x])) { s with heap := h'', toks := tk + 1 } :=
      I.turnedNew (ch := [e, it]) (fun b ob hb q => (sb.2 b (fun z => hb (by simp [z]))).trans (hk b ob (fun z => hb (by simp [z])) (fun z => hb (by simp [z])) q)) hf (Nat.le_refl _) new
    refine ⟨.ref s.heap.objs.size, _, I1, rfl, ⟨_, x, rfl, I.hok.fresh (Nat.le_refl _), rfl, hx⟩, ⟨⟨u, ?_⟩, S.keep _ _ _ (dn _ _ hit') fun o q => (sb.2 it (Ne.symm hne)).trans q, hne⟩, fun b hb => ?_⟩
    · have e1 : ((i + 1 : Nat) : Int) = (i : Int) + 1 := by omega
      rw [e1]; exact he'
    · have hb' : b < s.heap.objs.size := by
        have e' : b = e ∨ b = it := by simpa using hb
        rcases e' with z | z
        · rw [z]; exact hel
        · rw [z]; exact hil
      rw [upd_ne (Nat.ne_of_lt hb')]
      exact (hf b hb).1
  done := by
    intro X hP hw hK hc i pins s σ H E I hf hst hg
    obtain ⟨⟨old, he⟩, hit, hne⟩ := hst
    obtain ⟨hn, hC⟩ := hg
    subst hn
    have hi0 : H it = none := (hf it (by simp)).1
    obtain ⟨fp, Pv, St, D, hm, hfp, up, dn, hv⟩ := S.draws X hP hw hK X.A.in1 pins σ H s (I.ok.hd hc) I hi0 hC
    subst hP hw hK
    obtain ⟨f0, f1, f2, f3, f4, f5⟩ := hf it (by simp)
    exact wpAny_pyNext_enum_endD D he (up _ hit) fun h' eb => ⟨rfl, I.turned (t' := s.toks) (fun b o hb q => eb b o hb q) f0 f1 f3 f4 f5⟩
  self := fun A i s Q E st h => let ⟨⟨_, he⟩, _⟩ := st; wpAny_pyIter_enum he h

open AutoSeq1 (wpAny_loadPart') in
theorem meets_enum1 {v : Value} {o : Obj} {H : Heap → Prop} (B : Begins v o H) :
    Meets (Builtin.«enumerate.__new__» ⟨[.type "enumerate", v], []⟩) (fun _ R s => H s.heap ∧
      R (.ok (.ret (.ref (s.heap.push o).objs.size))) { s with heap := (s.heap.push o).push { cls := .type "enumerate", data := .fields #[.none, .bool false, .ref s.heap.objs.size, rawInt 0, .none, .none] } }) :=
  .of_wp fun prog w A R s h => by
    obtain ⟨hp, g, d, tk, os⟩ := s; obtain ⟨h1, h⟩ := h
    have hsub := sub_enumerate
    have q1 : ∀ {A' : Around} {E : Value → Shared → Prop} {Q : Value → Shared → Prop}, Q (.ref hp.objs.size) ⟨hp.push o, g, d, tk, os⟩ → wpAny (model prog w) A' (pyIter v) Q E ⟨hp, g, d, tk, os⟩ :=
      fun q => B.iter prog w _ _ ⟨hp, g, d, tk, os⟩ _ h1 q
    wp_walk using q1
    refine wpAny_stack_any fun st => wpAny_pure ?_
    split
    · rename_i c _ _ _ _ _
      cases (c == Value.type "enumerate")
      · wp_walk using q1
        exact ⟨_, rfl, h⟩
      · wp_walk using q1
        exact ⟨_, rfl, h⟩
    · wp_walk using q1
      exact ⟨_, rfl, h⟩
theorem enum_begins1 {prog : Program} {w : World} {A : Around} {E : Value → Shared → Prop} {s : Shared} {v : Value} {o : Obj} {H : Heap → Prop} {Q : Value → Shared → Prop} (B : Begins v o H) (h1 : H s.heap)
    (h : ∀ h', IsEnum h' (s.heap.objs.size + 1) s.heap.objs.size 0 .none → h'.get? s.heap.objs.size = some o → h'.objs.size = s.heap.objs.size + 2 →
      (∀ b o, s.heap.get? b = some o → h'.get? b = some o) → Q (.ref (s.heap.objs.size + 1)) { s with heap := h' }) :
    wpAny (model prog w) A (call (.type "enumerate") [v]) Q E s := by
  refine callType_new F.called_enumerate (by decide) (F.typeCall_enumerate_1 _) (F.newCall_enumerate_1 _) (fun obj => F.args_object_init_2 obj _) F.entry_enumerate_new
    (meets_enum1 B) ⟨h1, ?_⟩
  have hz : (s.heap.push o).objs.size = s.heap.objs.size + 1 := Heap.size_push ..
  show _ ∧ _
  rw [hz]
  have he : IsEnum ((s.heap.push o).push { cls := .type "enumerate", data := .fields #[.none, .bool false, .ref s.heap.objs.size, rawInt 0, .none, .none] }) (s.heap.objs.size + 1) s.heap.objs.size 0 .none := by
    have := Heap.get?_push_size (s.heap.push o) (o := { cls := .type "enumerate", data := .fields #[.none, .bool false, .ref s.heap.objs.size, rawInt 0, .none, .none] }) rfl
    rw [hz] at this; exact this
  refine ⟨⟨_, he, rfl⟩, h _ he (Heap.get?_push_of_some _ (Heap.get?_push_size _ B.free)) (by rw [Heap.size_push, hz]) fun b o x => Heap.get?_push_of_some _ (Heap.get?_push_of_some _ x)⟩

/-- a value that can be walked: at its making an iterator at a new place -/
structure Beg (P : Program) (w : World) (K : PySem.W.Frag) (v : Value) (o : Obj) (Hh : Heap → Prop) (st : Addr → Nat → Heap → Prop) (n : Nat) (item : Nat → V → Prop) (C : Hp → Prop) : Prop where
  b : Begins v o Hh
  st0 : ∀ it h, h.get? it = some o → st it 0 h
  src : ∀ it, Src P w K it (st it) n item C
  nd : ∀ v, o.data ≠ .cell v
theorem beg_of {P : Program} {w : World} {X : Cx} {pins : List (Addr × Obj)} {σ : L2.St} {H : Hp} {s : Shared} (hP : X.prog = P) (hw : X.w = w) (I : Inv X pins σ H s) {x : V} {u : Value} (r : RelV x u) {n : Nat} {item : Nat → V → Prop} {C : Hp → Prop}
    (h : (∃ a xs, x = .ref a ∧ Rd H a (.lst xs) ∧ n = xs.length ∧ item = ixL xs ∧ C = fun H => Rd H a (.lst xs)) ∨ (∃ a xs, x = .ref a ∧ Rd H a (.tup xs) ∧ n = xs.length ∧ item = ixL xs ∧ C = fun H => Rd H a (.tup xs)) ∨ ∃ z, x = .str z ∧ n = z.cps.size ∧ item = ixS z ∧ C = fun _ => True) :
    ∃ o Hh st, Beg P w X.K u o Hh st n item C ∧ Hh s.heap := by
  rcases h with ⟨a, xs, rfl, hr, rfl, rfl, rfl⟩ | ⟨a, xs, rfl, hr, rfl, rfl, rfl⟩ | ⟨z, rfl, rfl, rfl, rfl⟩
  · cases r
    obtain ⟨its, rv, p, hz⟩ := I.list (.inl hr)
    exact ⟨_, _, fun it i h => h.IsListIter it a i, ⟨begins_list a its.toArray, fun it h e => ⟨_, e, rfl, rfl⟩, fun it => src_list it a xs, fun v z => nomatch z⟩, p.isList⟩
  · cases r
    obtain ⟨its, rv, p, hz⟩ := I.tuple (.inl hr)
    exact ⟨_, _, fun it i h => h.IsTupleIter it a i, ⟨begins_tuple a its.toArray, fun it h e => ⟨_, e, rfl, rfl⟩, fun it => src_tup it a xs, fun v z => nomatch z⟩, p⟩
  · obtain ⟨t, rfl⟩ := r
    exact ⟨_, _, fun it i h => h.IsStrIter it (strIterType z) z t i, ⟨begins_text z t, fun it h e => ⟨_, e, rfl, rfl⟩, fun it => src_str it z t, fun v z => nomatch z⟩, trivial⟩
/-- what the rules of enumerate and zip ask of a value -/
def WalkV (H : Hp) (x : V) (n : Nat) (item : Nat → V → Prop) (C : Hp → Prop) : Prop :=
  (∃ a xs, x = .ref a ∧ Rd H a (.lst xs) ∧ n = xs.length ∧ item = ixL xs ∧ C = fun H => Rd H a (.lst xs)) ∨ (∃ a xs, x = .ref a ∧ Rd H a (.tup xs) ∧ n = xs.length ∧ item = ixL xs ∧ C = fun H => Rd H a (.tup xs)) ∨ ∃ z, x = .str z ∧ n = z.cps.size ∧ item = ixS z ∧ C = fun _ => True
def iEnumG (ta : TA) : TI := fun σ H R => ta σ H fun vs H1 => ∃ x n item C, vs = [x] ∧ WalkV H1 x n item C ∧ R (ItE n item C) H1
theorem pi_enumG {X : Cx} {e : Expr} {ta : TA} {p pos tpos : Pos} {elts : List Expr} {kk : Nat} (hg : Gl X "enumerate") (hm : X.mg "enumerate" = none) (ha : PA X [e] ta) (hs : starEach [e] X.env = [(false, eval e X.env)] := by rfl) :
    PI X (.Tuple elts kk tpos) (.Call (.Name "enumerate" p) [e] [] pos) (iEnumG ta) := by
  refine ⟨fun pins s σ H R I h => ?_⟩
  refine Call_ (ld_blt I hg hm boot_enumerate (PyProof.Rows.callWith_type1 (thn (ha.run pos pins s σ H _ I h) fun us s1 ⟨vs, H1, I1, r1, q1⟩ => ?_) hs rfl))
  obtain ⟨x, n, item, C, ex, hq, q⟩ := q1
  subst ex
  cases r1 with
  | cons r rr =>
    cases rr
    obtain ⟨o, Hh, st, B, hh⟩ := beg_of rfl rfl I1 r hq
    refine enum_begins1 B.b hh fun h' he hit hsz hk => wpAny_pyIter_enum he ?_
    have I2 : Inv X pins σ H1 { s1 with heap := h' } := I1.kept (t' := s1.toks) hk
    refine ⟨s1.heap.objs.size + 1, [s1.heap.objs.size + 1, s1.heap.objs.size], _, _, H1, rfl, I2, turn_enumG (e := s1.heap.objs.size + 1) (B.src s1.heap.objs.size), ⟨⟨.none, he⟩, B.st0 _ _ hit, Nat.succ_ne_self _⟩, fun b hb => ?_, q⟩
    have e' : b = s1.heap.objs.size + 1 ∨ b = s1.heap.objs.size := by simpa using hb
    have hle : s1.heap.objs.size ≤ b := by
      rcases e' with z | z
      · rw [z]; exact Nat.le_add_right _ _
      · rw [z]; exact Nat.le_refl _
    exact I1.fpOk hle (I1.hok.fresh hle)

/-! ### zip of two -/
def ItZ (n1 : Nat) (item1 : Nat → V → Prop) (C1 : Hp → Prop) (n2 : Nat) (item2 : Nat → V → Prop) (C2 : Hp → Prop) : It :=
  ⟨fun i H => (i < n1 ∧ i < n2) ∧ C1 H ∧ C2 H, fun i H v H' => ∃ T x y, v = .ref T ∧ H T = none ∧ H' = upd H T (.tup [x, y]) ∧ item1 i x ∧ item2 i y, fun i H => (i ≤ n1 ∧ i ≤ n2 ∧ (i = n1 ∨ i = n2)) ∧ C1 H ∧ C2 H⟩
theorem turn_zipG {P : Program} {w : World} {K : PySem.W.Frag} {elts : List Expr} {kk : Nat} {tpos : Pos} {z TI TO i1 i2 : Addr} {st1 st2 : Nat → Heap → Prop} {n1 n2 : Nat} {item1 item2 : Nat → V → Prop} {C1 C2 : Hp → Prop}
    (S1 : Src P w K i1 st1 n1 item1 C1) (S2 : Src P w K i2 st2 n2 item2 C2) (nd : [z, TI, TO, i1, i2].Nodup) :
    Turn P w K (.Tuple elts kk tpos) (ItZ n1 item1 C1 n2 item2 C2) [z, TI, TO, i1, i2] z (fun i h => IsZip h z TI TO .none ∧ IsTupOf2 h TI (.ref i1) (.ref i2) ∧ (∃ x y, IsTupOf2 h TO x y) ∧ st1 i h ∧ st2 i h) where
  mem := by simp
  obj := fun i h st c hc => by
    obtain ⟨hz, hTI, ⟨x, y, hTO⟩, h1, h2⟩ := st
    have e' : c = z ∨ c = TI ∨ c = TO ∨ c = i1 ∨ c = i2 := by simpa using hc
    rcases e' with q | q | q | q | q
    · rw [q]; exact ⟨_, hz, fun v q => nomatch q⟩
    · rw [q]; exact ⟨_, hTI, fun v q => nomatch q⟩
    · rw [q]; exact ⟨_, hTO, fun v q => nomatch q⟩
    · rw [q]; exact S1.obj i h h1
    · rw [q]; exact S2.obj i h h2
  keep := fun i h h' st k => by
    obtain ⟨hz, hTI, ⟨x, y, hTO⟩, h1, h2⟩ := st
    exact ⟨k z (by simp) _ hz, k TI (by simp) _ hTI, ⟨x, y, k TO (by simp) _ hTO⟩, S1.keep i h h' h1 fun o q => k i1 (by simp) o q, S2.keep i h h' h2 fun o q => k i2 (by simp) o q⟩
  item := by
    intro X hP hw hK hc i pins s σ H E I hf hst hg
    obtain ⟨hz, hTI, ⟨x0, y0, hTO⟩, h1, h2⟩ := hst
    obtain ⟨⟨hl1, hl2⟩, hC1, hC2⟩ := hg
    obtain ⟨fp1, Pv1, St1, D1, hm1, hfp1, up1, dn1, hv1⟩ := S1.draws X hP hw hK X.A.in1 pins σ H s (I.ok.hd hc) I (hf i1 (by simp)).1 hC1
    obtain ⟨fp2, Pv2, St2, D2, hm2, hfp2, up2, dn2, hv2⟩ := S2.draws X hP hw hK X.A.in1 pins σ H s (I.ok.hd hc) I (hf i2 (by simp)).1 hC2
    subst hP hw hK
    simp only [List.nodup_cons, List.mem_cons, List.not_mem_nil, not_or, or_false, not_false_eq_true, and_true, List.nodup_nil] at nd
    obtain ⟨⟨a1, a2, a3, a4⟩, ⟨a5, a6, a7⟩, ⟨a8, a9⟩, a10⟩ := nd
    have out1 : ∀ b, b ∈ [z, TI, TO, i1, i2] → b ≠ i1 → b ∉ fp1 := fun b hb ne q => (hfp1 b q).elim ne fun q => q (hf b hb).1
    have out2 : ∀ b, b ∈ [z, TI, TO, i1, i2] → b ≠ i2 → b ∉ fp2 := fun b hb ne q => (hfp2 b q).elim ne fun q => q (hf b hb).1
    have S : ZipSep2 z TI TO i1 i2 fp1 fp2 := ⟨Ne.symm a1, Ne.symm a2, a5, a6, hm1, out1 z (by simp) a3, out1 TO (by simp) a8, a7, hm2, out2 z (by simp) a4, out2 TO (by simp) a9, out2 i1 (by simp) a10, out1 i2 (by simp) (Ne.symm a10)⟩
    have hzl : z < s.heap.objs.size := Heap.lt_size hz
    refine wpAny_pyNext_zipD2_item S D1 D2 hz hTI hTO (up1 i h1) (up2 i h2) hl1 hl2 fun u u2 h' tk hP1 hP2 z' TO' st1' st2' hT hsz hk => ?_
    obtain ⟨x, hx, ru⟩ := hv1 i u hP1
    obtain ⟨y, hy, ru2⟩ := hv2 i u2 hP2
    refine ⟨_, rfl, wpAny_letOwnedTupleGo_zip (s := { s with heap := h', toks := tk }) z' fun h'' z'' sb => ?_⟩
    have hT2 : h''.get? s.heap.objs.size = some { cls := .type "tuple", data := .seq #[u, u2] } := (sb.2 _ (Nat.ne_of_gt hzl)).trans hT
    have new : ObjOk X.prog X.w (upd H s.heap.objs.size (.tup [x, y])) h'' s.heap.objs.size (.tup [x, y]) :=
      ⟨by show 2 ≤ sizeLine; decide, [u, u2], .cons ru (.cons ru2 .nil), ⟨_, hT2, rfl, _, rfl⟩⟩
    have I1 : Inv X pins σ (upd H s.heap.objs.size (.tup [x, y])) { s with heap := h'', toks := tk } :=
      I.turnedNew (ch := [z, TI, TO, i1, i2]) (fun c o hb q => (sb.2 c (fun q' => hb (by simp [q']))).trans (hk c o (fun q' => hb (by simp [q'])) (fun q' => hb (by simp [q'])) (fun q' => hb (by simp [q'])) (fun q' => hb (by simp [q'])) q)) hf (Nat.le_refl _) new
    refine ⟨.ref s.heap.objs.size, _, I1, rfl, ⟨_, x, y, rfl, I.hok.fresh (Nat.le_refl _), rfl, hx, hy⟩, ⟨z'', ?_, ⟨u, u2, ?_⟩, ?_, ?_⟩, fun c hcm => ?_⟩
    · exact (sb.2 _ (Ne.symm a1)).trans (hk _ _ (Ne.symm a1) a5 a6 a7 hTI)
    · exact (sb.2 _ (Ne.symm a2)).trans TO'
    · exact S1.keep _ _ _ (dn1 _ _ st1') fun o q => (sb.2 _ (Ne.symm a3)).trans q
    · exact S2.keep _ _ _ (dn2 _ _ st2') fun o q => (sb.2 _ (Ne.symm a4)).trans q
    · have hlt : c < s.heap.objs.size := by
        have e' : c = z ∨ c = TI ∨ c = TO ∨ c = i1 ∨ c = i2 := by simpa using hcm
        rcases e' with q | q | q | q | q
        · rw [q]; exact hzl
        · rw [q]; exact Heap.lt_size hTI
        · rw [q]; exact Heap.lt_size hTO
        · rw [q]; obtain ⟨_, e1, _⟩ := S1.obj i _ h1; exact Heap.lt_size e1
        · rw [q]; obtain ⟨_, e1, _⟩ := S2.obj i _ h2; exact Heap.lt_size e1
      rw [upd_ne (Nat.ne_of_lt hlt)]
      exact (hf c hcm).1
  done := by
    intro X hP hw hK hc i pins s σ H E I hf hst hg
    obtain ⟨hz, hTI, ⟨x0, y0, hTO⟩, h1, h2⟩ := hst
    obtain ⟨⟨hl1, hl2, hend⟩, hC1, hC2⟩ := hg
    obtain ⟨fp1, Pv1, St1, D1, hm1, hfp1, up1, dn1, hv1⟩ := S1.draws X hP hw hK X.A.in1 pins σ H s (I.ok.hd hc) I (hf i1 (by simp)).1 hC1
    obtain ⟨fp2, Pv2, St2, D2, hm2, hfp2, up2, dn2, hv2⟩ := S2.draws X hP hw hK X.A.in1 pins σ H s (I.ok.hd hc) I (hf i2 (by simp)).1 hC2
    subst hP hw hK
    simp only [List.nodup_cons, List.mem_cons, List.not_mem_nil, not_or, or_false, not_false_eq_true, and_true, List.nodup_nil] at nd
    obtain ⟨⟨a1, a2, a3, a4⟩, ⟨a5, a6, a7⟩, ⟨a8, a9⟩, a10⟩ := nd
    have out1 : ∀ b, b ∈ [z, TI, TO, i1, i2] → b ≠ i1 → b ∉ fp1 := fun b hb ne q => (hfp1 b q).elim ne fun q => q (hf b hb).1
    have out2 : ∀ b, b ∈ [z, TI, TO, i1, i2] → b ≠ i2 → b ∉ fp2 := fun b hb ne q => (hfp2 b q).elim ne fun q => q (hf b hb).1
    have S : ZipSep2 z TI TO i1 i2 fp1 fp2 := ⟨Ne.symm a1, Ne.symm a2, a5, a6, hm1, out1 z (by simp) a3, out1 TO (by simp) a8, a7, hm2, out2 z (by simp) a4, out2 TO (by simp) a9, out2 i1 (by simp) a10, out1 i2 (by simp) (Ne.symm a10)⟩
    exact wpAny_pyNext_zipD2_end S D1 D2 hz hTI hTO (up1 i h1) (up2 i h2) hl1 hl2 hend fun h' tk hk => ⟨rfl, I.turnedL (t' := tk) (ch := [z, TI, TO, i1, i2]) (fun c o hb q =>
      hk c o (fun q' => hb (by simp [q'])) (fun q' => hb (by simp [q'])) (fun q' => hb (by simp [q'])) (fun q' => hb (by simp [q'])) q) hf⟩
  self := fun A i s Q E st h => wpAny_pyIter_zip st.1 h
def iZipG (ta : TA) : TI := fun σ H R => ta σ H fun vs H1 => ∃ x n item C y n2 item2 C2, vs = [x, y] ∧ WalkV H1 x n item C ∧ WalkV H1 y n2 item2 C2 ∧ R (ItZ n item C n2 item2 C2) H1
theorem pi_zipG {X : Cx} {e e2 : Expr} {ta : TA} {p pos tpos : Pos} {elts : List Expr} {kk : Nat} (hg : Gl X "zip") (hm : X.mg "zip" = none) (ha : PA X [e, e2] ta)
    (hs : starEach [e, e2] X.env = (false, eval e X.env) :: starEach [e2] X.env := by rfl) (hpl : (backTo pos (starEach [e2] X.env)).any (·.1) = false := by rfl) :
    PI X (.Tuple elts kk tpos) (.Call (.Name "zip" p) [e, e2] [] pos) (iZipG ta) := by
  refine ⟨fun pins s σ H R I h => ?_⟩
  refine Call_ (ld_blt I hg hm PyProof.Rows.boot_zip (PyProof.Rows.callWith_type1 (thn (ha.run pos pins s σ H _ I h) fun us s1 ⟨vs, H1, I1, r1, q1⟩ => ?_) hs hpl))
  obtain ⟨x, n, item, C, y, n2, item2, C2, ex, hq, hq2, q⟩ := q1
  subst ex
  cases r1 with
  | cons r rr =>
    cases rr with
    | cons r' rr =>
      cases rr
      obtain ⟨o, Hh, st, B, hh⟩ := beg_of rfl rfl I1 r hq
      obtain ⟨o2, Hh2, st2, B2, hh2⟩ := beg_of rfl rfl I1 r' hq2
      have fresh5 : ∀ c, c ∈ [s1.heap.objs.size + 4, s1.heap.objs.size + 2, s1.heap.objs.size + 3, s1.heap.objs.size, s1.heap.objs.size + 1] → FpOk X pins H1 c := fun c hcm => by
        have e' : c = s1.heap.objs.size + 4 ∨ c = s1.heap.objs.size + 2 ∨ c = s1.heap.objs.size + 3 ∨ c = s1.heap.objs.size ∨ c = s1.heap.objs.size + 1 := by simpa using hcm
        have hle : s1.heap.objs.size ≤ c := by
          rcases e' with z | z | z | z | z
          · rw [z]; exact Nat.le_add_right _ _
          · rw [z]; exact Nat.le_add_right _ _
          · rw [z]; exact Nat.le_add_right _ _
          · rw [z]; exact Nat.le_refl _
          · rw [z]; exact Nat.le_add_right _ _
        exact I1.fpOk hle (I1.hok.fresh hle)
      refine zip_begins2 B.b B2.b hh hh2 fun h' hz hTI hTO h1 h2 hsz hk => wpAny_pyIter_zip hz ?_
      have I2 : Inv X pins σ H1 { s1 with heap := h' } := I1.kept (t' := s1.toks) hk
      exact ⟨s1.heap.objs.size + 4, [s1.heap.objs.size + 4, s1.heap.objs.size + 2, s1.heap.objs.size + 3, s1.heap.objs.size, s1.heap.objs.size + 1], _, _, H1, rfl, I2,
        turn_zipG (B.src s1.heap.objs.size) (B2.src (s1.heap.objs.size + 1)) (by generalize s1.heap.objs.size = m; simp [Addr] <;> omega), ⟨hz, hTI, ⟨_, _, hTO⟩, B.st0 _ _ h1, B2.st0 _ _ h2⟩, fresh5, q⟩
end PL
set_option Elab.async false
set_option linter.all false
set_option maxRecDepth 100000
set_option maxHeartbeats 4000000
/-! The pure layer, 4: what operators and built-ins do with data. -/
namespace PL
open PySem PySem.Spec PyProof.Rows L2

section
variable {X : Cx} {F H : Hp} {σ : L2.St} {c : Ct per} {e : Env}
theorem len_line {F : Hp} {l : List D} {vs : List V} (r : Rps F l vs) {n : Nat} (h : l.length + n ≤ 100000) : vs.length + n ≤ sizeLine := by
  rw [r.len]
  exact small_line h
/-- the parts of a list that lies in the heap -/
theorem Rel.tupNew (R : Rel c F σ H e) {p : Addr} (hp : H p = none) {ds : List D} {vs : List V} (r : Rps F ds vs) : Same F (upd F p (.tup vs)) ∧ Rel c (upd F p (.tup vs)) σ (upd H p (.tup vs)) e ∧ Rp (upd F p (.tup vs)) (.tup ds) (.ref p) := by
  have sm := same_upd' (o := .tup vs) (R.fnone hp)
  exact ⟨sm, R.new hp _, p, vs, rfl, upd_same, r.mono sm⟩
theorem Rel.lstNew (R : Rel c F σ H e) {p : Addr} (hp : H p = none) {ds : List D} {vs : List V} (r : Rps F ds vs) : Same F (upd F p (.lst vs)) ∧ Rel c (upd F p (.lst vs)) σ (upd H p (.lst vs)) e ∧ Rp (upd F p (.lst vs)) (.lst ds) (.ref p) := by
  have sm := same_upd' (o := .lst vs) (R.fnone hp)
  exact ⟨sm, R.new hp _, p, vs, rfl, upd_same, r.mono sm⟩

/-! ### arithmetic -/
def addD : D → D → Option D
  | .int i, .int j => some (.int (i + j))
  | .str x, .str y => if x.length + y.length ≤ 100000 then some (.str (x ++ y)) else none
  | .tup a, .tup b => if a.length + b.length ≤ 100000 then some (.tup (a ++ b)) else none
  | .lst a, .lst b => if a.length + b.length ≤ 100000 then some (.lst (a ++ b)) else none
  | _, _ => none
abbrev rStrAdd : R2 := fun x y H Q => ∃ i j, x = .str i ∧ y = .str j ∧ i.length + j.length ≤ sizeLine ∧ Q (.str (i ++ j)) H
def rAddA (K : PySem.W.Frag) : R2 := fun x y H Q => rI0 (fun i j => .int (i + j)) x y H Q ∨ rStrAdd x y H Q ∨ rCatA K x y H Q ∨ rCat x y H Q
theorem op_addA : OpR X (binaryOp .Add) (rAddA X.K) := op_add.or (op_add_str.or (op_catA.or op_cat))
theorem ops_add {K : PySem.W.Frag} : OpS per (rAddA K) addD := by
  intro c F σ H e x y d v w Q R rx ry hg q
  cases x <;> cases y <;> try cases hg
  · rename_i i j
    refine .inl ⟨i, j, rx, ry, q F H _ (Same.refl F) R rfl⟩
  · rename_i i j
    have hg : (if i.length + j.length ≤ 100000 then some (D.str (i ++ j)) else none) = some d := hg
    by_cases hl : i.length + j.length ≤ 100000
    · rw [if_pos hl] at hg
      cases hg
      exact .inr (.inl ⟨i, j, rx, ry, small_line hl, q F H _ (Same.refl F) R rfl⟩)
    · rw [if_neg hl] at hg
      cases hg
  · rename_i a b
    have hg : (if a.length + b.length ≤ 100000 then some (D.tup (a ++ b)) else none) = some d := hg
    by_cases hl : a.length + b.length ≤ 100000
    · rw [if_pos hl] at hg
      cases hg
      obtain ⟨p, xs, e1, h1, r1⟩ := rx
      obtain ⟨p2, ys, e2, h2, r2⟩ := ry
      refine .inr (.inr (.inl ⟨p, p2, xs, ys, e1, e2, SqT.of (R.fh _ _ h1), SqT.of (R.fh _ _ h2), by rw [r1.len, r2.len]; exact small_line hl, fun z => ?_, fun _ z => ?_, fun _ _ q2 hq => ?_⟩))
      · subst z
        have ea : a = [] := List.length_eq_zero_iff.mp r1.len.symm
        subst ea
        exact q F H _ (Same.refl F) R ⟨p2, ys, rfl, h2, r2⟩
      · subst z
        have eb : b = [] := List.length_eq_zero_iff.mp r2.len.symm
        subst eb
        exact q F H _ (Same.refl F) R ⟨p, xs, rfl, h1, by rw [List.append_nil]; exact r1⟩
      · obtain ⟨sm, R2, r⟩ := R.tupNew hq (r1.app r2)
        exact q _ _ _ sm R2 r
    · rw [if_neg hl] at hg
      cases hg
  · rename_i a b
    have hg : (if a.length + b.length ≤ 100000 then some (D.lst (a ++ b)) else none) = some d := hg
    by_cases hl : a.length + b.length ≤ 100000
    · rw [if_pos hl] at hg
      cases hg
      obtain ⟨p, xs, e1, h1, r1⟩ := rx
      obtain ⟨p2, ys, e2, h2, r2⟩ := ry
      refine .inr (.inr (.inr ⟨p, p2, xs, ys, e1, e2, h1, h2, by rw [r1.len, r2.len]; exact small_line hl, fun q2 hq => ?_⟩))
      obtain ⟨sm, R2, r⟩ := R.lstNew hq (r1.app r2)
      exact q _ _ _ sm R2 r
    · rw [if_neg hl] at hg
      cases hg
def intD (C : Int → Int → Bool) (g : Int → Int → D) : D → D → Option D
  | .int i, .int j => if C i j = true then some (g i j) else none
  | _, _ => none
theorem ops_int {C : Int → Int → Prop} {Cb : Int → Int → Bool} {g : Int → Int → V} {gd : Int → Int → D} (hC : ∀ i j, Cb i j = true → C i j) (hg : ∀ F i j, Rp F (gd i j) (g i j)) : OpS per (rI C g) (intD Cb gd) := by
  intro c F σ H e x y d v w Q R rx ry h q
  cases x <;> cases y <;> try cases h
  rename_i i j
  have h : (if Cb i j = true then some (gd i j) else none) = some d := h
  by_cases hl : Cb i j = true
  · rw [if_pos hl] at h
    cases h
    exact ⟨i, j, rx, ry, hC i j hl, q F H _ (Same.refl F) R (hg F i j)⟩
  · rw [if_neg hl] at h
    cases h
def int0D (g : Int → Int → D) : D → D → Option D
  | .int i, .int j => some (g i j)
  | _, _ => none
theorem ops_int0 {g : Int → Int → V} {gd : Int → Int → D} (hg : ∀ F i j, Rp F (gd i j) (g i j)) : OpS per (rI0 g) (int0D gd) := by
  intro c F σ H e x y d v w Q R rx ry h q
  cases x <;> cases y <;> try cases h
  rename_i i j
  exact ⟨i, j, rx, ry, q F H _ (Same.refl F) R (hg F i j)⟩
abbrev subD : D → D → Option D := int0D fun i j => .int (i - j)
theorem ops_sub : OpS per (rI0 fun i j => .int (i - j)) subD := ops_int0 fun _ _ _ => rfl
abbrev modD : D → D → Option D := intD (fun _ j => decide (0 < j)) fun i j => .int (i % j)
theorem ops_mod : OpS per (rI (fun _ j => 0 < j) fun i j => .int (i % j)) modD := ops_int (fun _ _ h => of_decide_eq_true h) fun _ _ _ => rfl
abbrev fdivD : D → D → Option D := intD (fun _ j => decide (0 < j ∧ j < 1073741824)) fun i j => .int (i / j)
theorem ops_fdiv : OpS per (rI CDiv fun i j => .int (i / j)) fdivD := ops_int (fun i j h => show 0 < j ∧ j < 1073741824 from of_decide_eq_true h) fun _ _ _ => rfl
abbrev powD : D → D → Option D := intD (fun i j => decide (0 ≤ j ∧ j ≤ 1000000 ∧ i.natAbs < 2 ^ 64)) fun i j => .int (i ^ j.toNat)
theorem ops_pow : OpS per (rI CPow fun i j => .int (i ^ j.toNat)) powD := ops_int (fun i j h => show 0 ≤ j ∧ j ≤ 1000000 ∧ i.natAbs < 2 ^ 64 from of_decide_eq_true h) fun _ _ _ => rfl
abbrev mulD : D → D → Option D := intD (fun i j => decide ((-(2 ^ 64) < i ∧ i < 2 ^ 64) ∨ (-(2 ^ 64) < j ∧ j < 2 ^ 64))) fun i j => .int (i * j)
theorem ops_mul : OpS per (rI CMul fun i j => .int (i * j)) mulD := ops_int (fun i j h => show (-(2 ^ 64) < i ∧ i < 2 ^ 64) ∨ (-(2 ^ 64) < j ∧ j < 2 ^ 64) from of_decide_eq_true h) fun _ _ _ => rfl

/-! ### comparisons -/
abbrev leD : D → D → Option D := int0D fun i j => .bl (decide (i ≤ j))
abbrev gtD : D → D → Option D := int0D fun i j => .bl (decide (j < i))
abbrev geD : D → D → Option D := int0D fun i j => .bl (decide (j ≤ i))
theorem ops_le : OpS per (rI0 fun i j => .bl (decide (i ≤ j))) leD := ops_int0 fun _ _ _ => rfl
theorem ops_gt : OpS per (rI0 fun i j => .bl (decide (j < i))) gtD := ops_int0 fun _ _ _ => rfl
theorem ops_ge : OpS per (rI0 fun i j => .bl (decide (j ≤ i))) geD := ops_int0 fun _ _ _ => rfl
def intsD : List D → Option (List Int)
  | [] => some []
  | .int i :: r => (intsD r).map (i :: ·)
  | _ => none
theorem ints_of {F : Hp} : ∀ {ds : List D} {ns : List Int} {vs : List V}, intsD ds = some ns → Rps F ds vs → vs = ns.map V.int
  | [], ns, vs, h, r => by
    cases h
    exact r
  | d :: ds, ns, vs, h, r => by
    obtain ⟨v, rr, e, r1, r2⟩ := r
    cases d <;> try cases h
    rename_i i
    have h : (intsD ds).map (i :: ·) = some ns := h
    cases q : intsD ds with
    | none => rw [q] at h; cases h
    | some ms =>
      rw [q] at h
      cases h
      rw [e, ints_of q r2, show v = V.int i from r1]
      rfl
def ltD : D → D → Option D
  | .int i, .int j => some (.bl (decide (i < j)))
  | .str x, .str y => some (.bl (decide (x.cps.toList < y.cps.toList)))
  | .tup a, .tup b => match intsD a, intsD b with
    | some m, some n => some (.bl (HT.lexLt m n))
    | _, _ => none
  | _, _ => none
abbrev rLtS : R2 := fun x y H Q => ∃ i j, x = .str i ∧ y = .str j ∧ Q (.bl (decide (i.cps.toList < j.cps.toList))) H
def rLtA (K : PySem.W.Frag) : R2 := fun x y H Q => rI0 (fun i j => .bl (decide (i < j))) x y H Q ∨ rLtS x y H Q ∨ rLtT K x y H Q
theorem op_ltA (hu : X.A.units < cLine) : OpR X (compareOp .Lt) (rLtA X.K) := op_lt.or (op_lt_str.or (op_ltT hu))
theorem ops_lt {K : PySem.W.Frag} : OpS per (rLtA K) ltD := by
  intro c F σ H e x y d v w Q R rx ry h q
  cases x <;> cases y <;> try cases h
  · rename_i i j
    exact .inl ⟨i, j, rx, ry, q F H _ (Same.refl F) R rfl⟩
  · rename_i i j
    exact .inr (.inl ⟨i, j, rx, ry, q F H _ (Same.refl F) R rfl⟩)
  · rename_i a b
    obtain ⟨p, xs, e1, h1, r1⟩ := rx
    obtain ⟨p2, ys, e2, h2, r2⟩ := ry
    cases ia : intsD a with
    | none => simp only [ltD, ia] at h; cases h
    | some m =>
      cases ib : intsD b with
      | none => simp only [ltD, ia, ib] at h; cases h
      | some n =>
        simp only [ltD, ia, ib] at h
        cases h
        refine .inr (.inr ⟨p, p2, m, n, e1, e2, ?_, ?_, q F H _ (Same.refl F) R rfl⟩)
        · rw [← ints_of ia r1]
          exact SqT.of (R.fh _ _ h1)
        · rw [← ints_of ib r2]
          exact SqT.of (R.fh _ _ h2)

/-! ### == -/
mutual
def toP : D → PyData
  | .non => .none
  | .bl b => .bool b
  | .int i => .int i
  | .str x => .str x
  | .tup l => .tuple (toPs l)
  | .lst l => .list (toPs l)
  | .scr l => .list (toPs l)
  | .opq _ => .none
def toPs : List D → List PyData
  | [] => []
  | d :: ds => toP d :: toPs ds
end
mutual
def okd : Nat → D → Bool
  | _, .non => true
  | _, .bl _ => true
  | _, .int _ => true
  | _, .str x => x.cps.all (· < 0x110000)
  | 0, .tup _ => false
  | n + 1, .tup l => okds n l
  | 0, .lst _ => false
  | n + 1, .lst l => okds n l
  | _, .scr _ => false
  | _, .opq _ => false
def okds : Nat → List D → Bool
  | _, [] => true
  | n, d :: ds => okd n d && okds n ds
end
mutual
theorem okd_lay : ∀ (n : Nat) (d : D), okd n d = true → (toP d).canLay0 = true ∧ (toP d).depth ≤ n
  | n, .non, h => by simp [toP, PyData.canLay0, PyData.depth]
  | n, .bl _, h => by simp [toP, PyData.canLay0, PyData.depth]
  | n, .int _, h => by simp [toP, PyData.canLay0, PyData.depth]
  | n, .str x, h => by
    simp only [toP, PyData.canLay0, PyData.depth, PyData.strOk]
    exact ⟨by cases n <;> simpa [okd] using h, Nat.zero_le _⟩
  | 0, .tup l, h => by simp [okd] at h
  | n + 1, .tup l, h => by
    obtain ⟨h1, h2⟩ := okds_lay n l (by simpa [okd] using h)
    simp only [toP, PyData.canLay0, PyData.depth]
    exact ⟨h1, by omega⟩
  | 0, .lst l, h => by simp [okd] at h
  | n + 1, .lst l, h => by
    obtain ⟨h1, h2⟩ := okds_lay n l (by simpa [okd] using h)
    simp only [toP, PyData.canLay0, PyData.depth]
    exact ⟨h1, by omega⟩
  | n, .scr l, h => by cases n <;> simp [okd] at h
  | n, .opq _, h => by cases n <;> simp [okd] at h
theorem okds_lay : ∀ (n : Nat) (l : List D), okds n l = true → PyData.canLayAll0 (toPs l) = true ∧ PyData.depthAll (toPs l) ≤ n
  | n, [], h => by simp [toPs, PyData.canLayAll0, PyData.depthAll]
  | n, d :: ds, h => by
    obtain ⟨h1, h2⟩ := Bool.and_eq_true_iff.mp (show (okd n d && okds n ds) = true by cases n <;> simpa [okds] using h)
    obtain ⟨a1, a2⟩ := okd_lay n d h1
    obtain ⟨b1, b2⟩ := okds_lay n ds h2
    simp only [toPs, PyData.canLayAll0, PyData.depthAll, a1, b1, Bool.and_self, true_and]
    omega
end
theorem okd_shaped {d : D} (h : okd 60 d = true) : SeqAt.shaped (toP d) = true := by
  obtain ⟨h1, h2⟩ := okd_lay 60 d h
  unfold SeqAt.shaped
  rw [h1, decide_eq_true (show (toP d).depth ≤ 64 by omega)]
  rfl
mutual
theorem dp_of {K : PySem.W.Frag} (fh : Same F H) : ∀ (n : Nat) (d : D) (v : V), okd n d = true → Rp F d v → Dp K H v (toP d)
  | n, .non, v, _, r => by rw [show v = _ from r]; exact .non
  | n, .bl _, v, _, r => by rw [show v = _ from r]; exact .bl _
  | n, .int _, v, _, r => by rw [show v = _ from r]; exact .int _
  | n, .str _, v, _, r => by rw [show v = _ from r]; exact .str _
  | 0, .tup l, _, h, _ => by simp [okd] at h
  | n + 1, .tup l, v, h, r => by
    obtain ⟨a, vs, e1, h1, r1⟩ := r
    rw [e1]
    exact .tup (SqT.of (fh _ _ h1)) (dps_of fh n l vs (by simpa [okd] using h) r1)
  | 0, .lst l, _, h, _ => by simp [okd] at h
  | n + 1, .lst l, v, h, r => by
    obtain ⟨a, vs, e1, h1, r1⟩ := r
    rw [e1]
    exact .lst (SqL.of (fh _ _ h1)) (dps_of fh n l vs (by simpa [okd] using h) r1)
  | n, .scr l, _, h, _ => by cases n <;> simp [okd] at h
  | n, .opq _, _, h, _ => by cases n <;> simp [okd] at h
theorem dps_of {K : PySem.W.Frag} (fh : Same F H) : ∀ (n : Nat) (l : List D) (vs : List V), okds n l = true → Rps F l vs → DpAll K H vs (toPs l)
  | n, [], vs, _, r => by rw [show vs = _ from r]; exact .nil
  | n, d :: ds, vs, h, r => by
    obtain ⟨h1, h2⟩ := Bool.and_eq_true_iff.mp (show (okd n d && okds n ds) = true by cases n <;> simpa [okds] using h)
    obtain ⟨v, rr, e1, r1, r2⟩ := r
    rw [e1]
    exact .cons (dp_of fh n d v h1 r1) (dps_of fh n ds rr h2 r2)
end
theorem dpq_of {K : PySem.W.Frag} (fh : Same F H) {d : D} {v : V} (h : okd 60 d = true) (r : Rq F H d v) : Dp K H v (toP d) := by
  cases d with
  | lst l =>
    obtain ⟨a, vs, e1, h1, r1⟩ := r
    rw [e1]
    exact .lst (SqL.of h1) (dps_of fh 59 l vs (by simpa [okd] using h) r1)
  | _ => exact dp_of fh 60 _ v h r
/-- == of data -/
def eqB (a b : D) : Bool := PyData.eqv (toP a) (toP b)
def eqD (a b : D) : Option D := if okd 60 a = true ∧ okd 60 b = true then some (.bl (eqB a b)) else none
def neD (a b : D) : Option D := if okd 60 a = true ∧ okd 60 b = true then some (.bl (!eqB a b)) else none
theorem ops_eq {K : PySem.W.Frag} : OpS per (rEqD K) eqD := by
  intro c F σ H e x y d v w Q R rx ry h q
  unfold eqD at h
  by_cases hk : okd 60 x = true ∧ okd 60 y = true
  · rw [if_pos hk] at h
    cases h
    exact ⟨_, _, dpq_of R.fh hk.1 rx, dpq_of R.fh hk.2 ry, okd_shaped hk.1, okd_shaped hk.2, q F H _ (Same.refl F) R rfl⟩
  · rw [if_neg hk] at h
    cases h
theorem ops_ne {K : PySem.W.Frag} : OpS per (rNeD K) neD := by
  intro c F σ H e x y d v w Q R rx ry h q
  unfold neD at h
  by_cases hk : okd 60 x = true ∧ okd 60 y = true
  · rw [if_pos hk] at h
    cases h
    exact ⟨_, _, dpq_of R.fh hk.1 rx, dpq_of R.fh hk.2 ry, okd_shaped hk.1, okd_shaped hk.2, q F H _ (Same.refl F) R rfl⟩
  · rw [if_neg hk] at h
    cases h
/-! ### is None, is a bool -/
def isNB : D → Bool
  | .non => true
  | _ => false
theorem isN_of {d : D} {v : V} (h : ∀ u, d ≠ .opq u) (r : Rq F H d v) : decide (v = V.non) = isNB d := by
  cases d with
  | non => rw [show v = _ from r]; rfl
  | bl b => rw [show v = _ from r]; rfl
  | int i => rw [show v = _ from r]; rfl
  | str x => rw [show v = _ from r]; rfl
  | tup l =>
    obtain ⟨a, vs, e1, _⟩ := r
    rw [e1]; rfl
  | lst l =>
    obtain ⟨a, vs, e1, _⟩ := r
    rw [e1]; rfl
  | scr l =>
    obtain ⟨a, o, vs, e1, _⟩ := r
    rw [e1]; rfl
  | opq u => exact absurd rfl (h u)
def isD (neg : Bool) : D → D → Option D
  | .opq _, _ => none
  | x, .non => some (.bl (if neg then !isNB x else isNB x))
  | .bl a, .bl b => some (.bl (if neg then !decide (a = b) else decide (a = b)))
  | _, _ => none
abbrev rIsNA : R2 := fun x y H Q => y = .non ∧ Q (.bl (decide (x = .non))) H
abbrev rNotNA : R2 := fun x y H Q => y = .non ∧ Q (.bl (!decide (x = .non))) H
theorem op_isA : OpR X (compareOp .Is) (fun x y H Q => rIsNA x y H Q ∨ rIsB x y H Q) := op_isN.or op_isBl
theorem op_isNotA : OpR X (compareOp .IsNot) (fun x y H Q => rNotNA x y H Q ∨ rNotB x y H Q) := op_notN.or op_notBl
theorem isD_cases {neg : Bool} {x y d : D} (h : isD neg x y = some d) : (y = .non ∧ (∀ u, x ≠ .opq u) ∧ d = .bl (if neg then !isNB x else isNB x)) ∨ ∃ a b, x = .bl a ∧ y = .bl b ∧ d = .bl (if neg then !decide (a = b) else decide (a = b)) := by
  cases x <;> cases y <;> first
    | (cases h; done)
    | exact .inl ⟨rfl, (fun u z => by cases z), (Option.some.inj h).symm⟩
    | exact .inr ⟨_, _, rfl, rfl, (Option.some.inj h).symm⟩
theorem ops_is : OpS per (fun x y H Q => rIsNA x y H Q ∨ rIsB x y H Q) (isD false) := by
  intro c F σ H e x y d v w Q R rx ry h q
  rcases isD_cases h with ⟨rfl, hn, rfl⟩ | ⟨a, b, rfl, rfl, rfl⟩
  · exact .inl ⟨ry, q F H _ (Same.refl F) R (by rw [isN_of hn rx]; rfl)⟩
  · exact .inr ⟨a, b, rx, ry, q F H _ (Same.refl F) R rfl⟩
theorem ops_isnot : OpS per (fun x y H Q => rNotNA x y H Q ∨ rNotB x y H Q) (isD true) := by
  intro c F σ H e x y d v w Q R rx ry h q
  rcases isD_cases h with ⟨rfl, hn, rfl⟩ | ⟨a, b, rfl, rfl, rfl⟩
  · exact .inl ⟨ry, q F H _ (Same.refl F) R (by rw [isN_of hn rx]; rfl)⟩
  · exact .inr ⟨a, b, rx, ry, q F H _ (Same.refl F) R rfl⟩

/-! ### isinstance -/
def tyD : D → Option String
  | .non => some "NoneType"
  | .bl _ => some "bool"
  | .int _ => some "int"
  | .str _ => some "str"
  | .tup _ => some "tuple"
  | .lst _ => some "list"
  | .scr _ => some "list"
  | .opq _ => none
def isiB : D → String → Option Bool
  | .non, T => if T = "int" ∨ T = "bool" ∨ T = "str" ∨ T = "tuple" ∨ T = "list" then some false else none
  | .bl _, T => if T = "int" ∨ T = "bool" then some true else if T = "str" ∨ T = "tuple" ∨ T = "list" then some false else none
  | .int _, T => if T = "int" then some true else if T = "bool" ∨ T = "str" ∨ T = "tuple" ∨ T = "list" then some false else none
  | .str _, T => if T = "str" then some true else if T = "int" ∨ T = "bool" ∨ T = "tuple" ∨ T = "list" then some false else none
  | .tup _, T => if T = "tuple" then some true else if T = "int" ∨ T = "bool" ∨ T = "str" ∨ T = "list" then some false else none
  | .lst _, T => if T = "list" then some true else if T = "int" ∨ T = "bool" ∨ T = "str" ∨ T = "tuple" then some false else none
  | .scr _, T => if T = "list" then some true else if T = "int" ∨ T = "bool" ∨ T = "str" ∨ T = "tuple" then some false else none
  | .opq _, _ => none
def isiD : List D → Option D
  | [x, .opq (.ty T)] => (isiB x T).map D.bl
  | _ => none
theorem kit_isi {d : D} {T t : String} {b : Bool} (h1 : isiB d T = some b) (h2 : tyD d = some t) : kitB t T = some b := by
  cases d <;> cases h2 <;> simp only [isiB] at h1 <;> (repeat' split at h1) <;> (first | (cases h1; done) | skip) <;> cases h1 <;>
    (rename_i h; first | (rcases h with rfl | rfl | rfl | rfl | rfl <;> decide +kernel) | (rcases h with rfl | rfl | rfl | rfl <;> decide +kernel) | (rcases h with rfl | rfl | rfl <;> decide +kernel) | (rcases h with rfl | rfl <;> decide +kernel) | (subst h; decide +kernel))
theorem tyx_of {K : PySem.W.Frag} (fh : Same F H) {d : D} {v : V} {t : String} (h : tyD d = some t) (r : Rq F H d v) : TyX K H v (.type t) := by
  cases d with
  | non => cases h; rw [show v = _ from r]; exact .base .non
  | bl b => cases h; rw [show v = _ from r]; exact .base (.bl _)
  | int i => cases h; rw [show v = _ from r]; exact .base (.int _)
  | str x => cases h; rw [show v = _ from r]; exact .base (.str _)
  | tup l =>
    cases h
    obtain ⟨a, vs, e1, ha, _⟩ := r
    rw [e1]
    exact .base (.tup (fh _ _ ha))
  | lst l =>
    cases h
    obtain ⟨a, vs, e1, ha, _⟩ := r
    rw [e1]
    exact .base (.lst ha)
  | scr l =>
    cases h
    obtain ⟨a, o, vs, e1, ha, _⟩ := r
    rw [e1]
    exact .base (.frz (fh _ _ ha))
  | opq u => cases h
theorem cas_isi {K : PySem.W.Frag} : CaS per (rIsi K) isiD := by
  intro c F σ H e xs d vs Q R rx h q
  unfold isiD at h
  split at h
  · rename_i x T
    cases hb : isiB x T with
    | none => rw [hb] at h; cases h
    | some b =>
      rw [hb] at h
      cases h
      obtain ⟨v, r, e1, r1, r2⟩ := rx
      obtain ⟨w, r', e2, r3, r4⟩ := r2
      have r4 : r' = [] := r4
      have r3 : w = V.ty T := r3
      subst r4 r3 e2 e1
      cases ht : tyD x with
      | none => cases x <;> first | (cases ht; done) | (cases hb; done)
      | some t => exact ⟨v, .ty T, _, _, b, rfl, .ty T, tyx_of R.fh ht r1, kit_ty (kit_isi hb ht), q F H _ (Same.refl F) R rfl⟩
  · cases h

/-! ### len, int, min, max, tuple, list, all, any, sum -/
theorem rqs1 {d : D} {vs : List V} (r : Rqs F H [d] vs) : ∃ v, vs = [v] ∧ Rq F H d v := by
  obtain ⟨v, r', e1, r1, r2⟩ := r
  have r2 : r' = [] := r2
  subst r2
  exact ⟨v, e1, r1⟩
theorem rqs2 {d d2 : D} {vs : List V} (r : Rqs F H [d, d2] vs) : ∃ v w, vs = [v, w] ∧ Rq F H d v ∧ Rq F H d2 w := by
  obtain ⟨v, r', e1, r1, r2⟩ := r
  obtain ⟨w, e2, r3⟩ := rqs1 r2
  subst e2
  exact ⟨v, w, e1, r1, r3⟩
def lenD : List D → Option D
  | [.str x] => if x.length ≤ 100000 then some (.int x.length) else none
  | [.tup l] => some (.int l.length)
  | [.lst l] => some (.int l.length)
  | [.scr l] => some (.int l.length)
  | _ => none
abbrev rLen (K : PySem.W.Frag) : List V → Hp → VK → Prop := fun xs H Q => ∃ x n, xs = [x] ∧ LenV K x H n ∧ Q (.int n) H
theorem cas_len {K : PySem.W.Frag} : CaS per (rLen K) lenD := by
  intro c F σ H e xs d vs Q R rx h q
  unfold lenD at h
  split at h
  · rename_i x
    split at h
    · rename_i hl
      cases h
      obtain ⟨v, rfl, r⟩ := rqs1 rx
      refine ⟨v, x.length, rfl, ?_, q F H _ (Same.refl F) R rfl⟩
      rw [show v = _ from r]
      exact ⟨small_line hl, rfl⟩
    · cases h
  · cases h
    obtain ⟨v, rfl, a, vs, rfl, ha, r⟩ := rqs1 rx
    exact ⟨.ref a, vs.length, rfl, .inr ⟨vs, SqT.of (R.fh _ _ ha), rfl⟩, q F H _ (Same.refl F) R (by rw [r.len]; rfl)⟩
  · cases h
    obtain ⟨v, rfl, a, vs, rfl, ha, r⟩ := rqs1 rx
    exact ⟨.ref a, vs.length, rfl, .inl ⟨vs, SqL.of ha, rfl⟩, q F H _ (Same.refl F) R (by rw [r.len]; rfl)⟩
  · cases h
    obtain ⟨v, rfl, a, o, vs, rfl, ha, r⟩ := rqs1 rx
    exact ⟨.ref a, vs.length, rfl, .inl ⟨vs, .inl (.inr ⟨o, R.fh _ _ ha⟩), rfl⟩, q F H _ (Same.refl F) R (by rw [r.len]; rfl)⟩
  · cases h
def intC : List D → Option D
  | [.int i] => some (.int i)
  | [.bl b] => some (.int (if b then 1 else 0))
  | _ => none
abbrev rInt1 : List V → Hp → VK → Prop := fun xs H Q => (∃ i, xs = [.int i] ∧ Q (.int i) H) ∨ ∃ k, xs = [.bl k] ∧ Q (.int (if k then 1 else 0)) H
theorem cas_int : CaS per rInt1 intC := by
  intro c F σ H e xs d vs Q R rx h q
  unfold intC at h
  split at h
  · cases h
    obtain ⟨v, rfl, r⟩ := rqs1 rx
    rw [show v = _ from r]
    exact .inl ⟨_, rfl, q F H _ (Same.refl F) R rfl⟩
  · cases h
    obtain ⟨v, rfl, r⟩ := rqs1 rx
    rw [show v = _ from r]
    exact .inr ⟨_, rfl, q F H _ (Same.refl F) R rfl⟩
  · cases h
def min2D : List D → Option D
  | [.int i, .int j] => some (.int (if j < i then j else i))
  | _ => none
def max2D : List D → Option D
  | [.int i, .int j] => some (.int (if j > i then j else i))
  | _ => none
abbrev rMin2 : List V → Hp → VK → Prop := fun xs H Q => ∃ i j, xs = [.int i, .int j] ∧ Q (.int (if j < i then j else i)) H
abbrev rMax2 : List V → Hp → VK → Prop := fun xs H Q => ∃ i j, xs = [.int i, .int j] ∧ Q (.int (if j > i then j else i)) H
theorem cas_min2 : CaS per rMin2 min2D := by
  intro c F σ H e xs d vs Q R rx h q
  unfold min2D at h
  split at h
  · cases h
    obtain ⟨v, w, rfl, r1, r2⟩ := rqs2 rx
    rw [show v = _ from r1, show w = _ from r2]
    exact ⟨_, _, rfl, q F H _ (Same.refl F) R rfl⟩
  · cases h
theorem cas_max2 : CaS per rMax2 max2D := by
  intro c F σ H e xs d vs Q R rx h q
  unfold max2D at h
  split at h
  · cases h
    obtain ⟨v, w, rfl, r1, r2⟩ := rqs2 rx
    rw [show v = _ from r1, show w = _ from r2]
    exact ⟨_, _, rfl, q F H _ (Same.refl F) R rfl⟩
  · cases h
def tupC : List D → Option D
  | [.tup l] => some (.tup l)
  | [.lst l] => some (.tup l)
  | _ => none
abbrev rTupOf (K : PySem.W.Frag) : List V → Hp → VK → Prop := fun xs H Q => ∃ p ys, xs = [.ref p] ∧ ((SqL K H p ys ∧ ∀ l, H l = none → Q (.ref l) (upd H l (.tup ys))) ∨ (SqT K H p ys ∧ Q (.ref p) H))
theorem cas_tup {K : PySem.W.Frag} : CaS per (rTupOf K) tupC := by
  intro c F σ H e xs d vs Q R rx h q
  unfold tupC at h
  split at h
  · cases h
    obtain ⟨v, rfl, a, vs, rfl, ha, r⟩ := rqs1 rx
    exact ⟨a, vs, rfl, .inr ⟨SqT.of (R.fh _ _ ha), q F H _ (Same.refl F) R ⟨a, vs, rfl, ha, r⟩⟩⟩
  · cases h
    obtain ⟨v, rfl, a, vs, rfl, ha, r⟩ := rqs1 rx
    refine ⟨a, vs, rfl, .inl ⟨SqL.of ha, fun p hp => ?_⟩⟩
    obtain ⟨sm, R2, r2⟩ := R.tupNew hp r
    exact q _ _ _ sm R2 r2
  · cases h
def lstC : List D → Option (List D)
  | [.tup l] => some l
  | [.lst l] => some l
  | _ => none
abbrev rLstOf (K : PySem.W.Frag) : List V → Hp → VK → Prop := fun xs H Q => ∃ p ys, xs = [.ref p] ∧ (SqL K H p ys ∨ SqT K H p ys) ∧ ∀ l, H l = none → Q (.ref l) (upd H l (.lst ys))
theorem can_lst {K : PySem.W.Frag} : CaN per (rLstOf K) lstC := by
  intro c F σ H e xs l vs Q R rx h q
  unfold lstC at h
  split at h
  · cases h
    obtain ⟨v, rfl, a, vs, rfl, ha, r⟩ := rqs1 rx
    refine ⟨a, vs, rfl, .inr (SqT.of (R.fh _ _ ha)), fun p hp => ?_⟩
    obtain ⟨R2, n2⟩ := R.newL hp vs
    exact q F _ p vs (Same.refl F) R2 n2 r
  · cases h
    obtain ⟨v, rfl, a, vs, rfl, ha, r⟩ := rqs1 rx
    refine ⟨a, vs, rfl, .inl (SqL.of ha), fun p hp => ?_⟩
    obtain ⟨R2, n2⟩ := R.newL hp vs
    exact q F _ p vs (Same.refl F) R2 n2 r
  · cases h
def blsD : List D → Option (List Bool)
  | [] => some []
  | .bl b :: r => (blsD r).map (b :: ·)
  | _ => none
theorem bls_of {F : Hp} : ∀ {ds : List D} {ns : List Bool} {vs : List V}, blsD ds = some ns → Rps F ds vs → vs = ns.map V.bl
  | [], ns, vs, h, r => by
    cases h
    exact r
  | d :: ds, ns, vs, h, r => by
    obtain ⟨v, rr, e, r1, r2⟩ := r
    cases d <;> try cases h
    rename_i i
    have h : (blsD ds).map (i :: ·) = some ns := h
    cases q : blsD ds with
    | none => rw [q] at h; cases h
    | some ms =>
      rw [q] at h
      cases h
      rw [e, bls_of q r2, show v = V.bl i from r1]
      rfl
def allC : List D → Option D
  | [.lst l] => (blsD l).map fun bs => .bl (bs.all id)
  | _ => none
def anyC : List D → Option D
  | [.lst l] => (blsD l).map fun bs => .bl (bs.any id)
  | _ => none
theorem cas_all {K : PySem.W.Frag} : CaS per (rAll K) allC := by
  intro c F σ H e xs d vs Q R rx h q
  unfold allC at h
  split at h
  · rename_i l
    cases hb : blsD l with
    | none => rw [hb] at h; cases h
    | some bs =>
      rw [hb] at h
      cases h
      obtain ⟨v, rfl, a, vs, rfl, ha, r⟩ := rqs1 rx
      refine ⟨a, bs, rfl, ?_, q F H _ (Same.refl F) R rfl⟩
      rw [← bls_of hb r]
      exact SqL.of ha
  · cases h
theorem cas_any {K : PySem.W.Frag} : CaS per (rAny K) anyC := by
  intro c F σ H e xs d vs Q R rx h q
  unfold anyC at h
  split at h
  · rename_i l
    cases hb : blsD l with
    | none => rw [hb] at h; cases h
    | some bs =>
      rw [hb] at h
      cases h
      obtain ⟨v, rfl, a, vs, rfl, ha, r⟩ := rqs1 rx
      refine ⟨a, bs, rfl, ?_, q F H _ (Same.refl F) R rfl⟩
      rw [← bls_of hb r]
      exact SqL.of ha
  · cases h
def sumC : List D → Option D
  | [.lst l] => (intsD l).map fun ns => .int ns.sum
  | _ => none
theorem cas_sum {K : PySem.W.Frag} : CaS per (rSum K) sumC := by
  intro c F σ H e xs d vs Q R rx h q
  unfold sumC at h
  split at h
  · rename_i l
    cases hb : intsD l with
    | none => rw [hb] at h; cases h
    | some bs =>
      rw [hb] at h
      cases h
      obtain ⟨v, rfl, a, vs, rfl, ha, r⟩ := rqs1 rx
      refine ⟨a, bs, rfl, ?_, q F H _ (Same.refl F) R rfl⟩
      rw [← ints_of hb r]
      exact SqL.of ha
  · cases h

/-! ### items and slices -/
theorem atI_rp {F : Hp} {ds : List D} {vs : List V} {i : Int} {d : D} (r : Rps F ds vs) (h : atI ds i = some d) : ∃ v, atI vs i = some v ∧ Rp F d v := by
  unfold atI at h ⊢
  rw [r.len]
  cases q : ixN ds.length i with
  | none => rw [q] at h; cases h
  | some j =>
    rw [q] at h
    exact r.get h
def idxD : D → D → Option D
  | .lst l, .int i => atI l i
  | .tup l, .int i => atI l i
  | .scr l, .int i => atI l i
  | .str z, .int i => if z.length ≤ 100000 then (atI z.cps.toList i).map fun c => .str ⟨#[c]⟩ else none
  | _, _ => none
theorem ops_idx {K : PySem.W.Frag} : OpS per (rIx K) idxD := by
  intro c F σ H e x y d v w Q R rx ry h q
  cases x <;> cases y <;> try cases h
  · rename_i z i
    have h : (if z.length ≤ 100000 then (atI z.cps.toList i).map fun c => D.str ⟨#[c]⟩ else none) = some d := h
    by_cases hl : z.length ≤ 100000
    · rw [if_pos hl] at h
      cases hc : atI z.cps.toList i with
      | none => rw [hc] at h; cases h
      | some ch =>
        rw [hc] at h
        cases h
        exact .inr (.inr ⟨z, i, ch, rx, ry, small_line hl, hc, q F H _ (Same.refl F) R rfl⟩)
    · rw [if_neg hl] at h
      cases h
  · rename_i l i
    obtain ⟨a, vs, e1, ha, r⟩ := rx
    obtain ⟨u, hu, ru⟩ := atI_rp r h
    exact .inr (.inl ⟨a, vs, i, u, e1, ry, SqT.of (R.fh _ _ ha), hu, q F H _ (Same.refl F) R ru⟩)
  · rename_i l i
    obtain ⟨a, vs, e1, ha, r⟩ := rx
    obtain ⟨u, hu, ru⟩ := atI_rp r h
    exact .inl ⟨a, vs, i, u, e1, ry, SqL.of ha, hu, q F H _ (Same.refl F) R ru⟩
  · rename_i l i
    obtain ⟨a, o, vs, e1, ha, r⟩ := rx
    obtain ⟨u, hu, ru⟩ := atI_rp r h
    exact .inl ⟨a, vs, i, u, e1, ry, .inl (.inr ⟨o, R.fh _ _ ha⟩), hu, q F H _ (Same.refl F) R ru⟩
def cutL {α : Type} (xs : List α) (lo hi : Option Int) : List α := (xs.drop (HT.sIx xs.length 0 lo)).take (HT.sIx xs.length xs.length hi - HT.sIx xs.length 0 lo)
theorem cut_rp {F : Hp} {ds : List D} {vs : List V} {lo hi : Option Int} (r : Rps F ds vs) : Rps F (cutL ds lo hi) (cutV vs lo hi) := by
  unfold cutL cutV
  rw [r.len]
  exact (r.drop _).take _
theorem sIx_all {ds : List D} {lo hi : Option Int} (h : HT.sIx ds.length 0 lo = 0 ∧ HT.sIx ds.length ds.length hi = ds.length) : cutL ds lo hi = ds := by
  unfold cutL
  rw [h.1, h.2]
  simp
def sliceD (lo hi : Option Int) : D → Option D
  | .tup l => some (.tup (cutL l lo hi))
  | .lst l => some (.lst (cutL l lo hi))
  | _ => none
abbrev rSl (K : PySem.W.Frag) : V → Option Int → Option Int → Hp → VK → Prop := fun x lo hi H Q => rSlA K x lo hi H Q ∨ rSlL K x lo hi H Q
theorem sl_any : SlR X (rSl X.K) := sl_tupA.or sl_list
theorem ops_slice {K : PySem.W.Frag} {lo hi : Option Int} {x d : D} {v : V} {Q : VK} (R : Rel c F σ H e) (rx : Rq F H x v) (h : sliceD lo hi x = some d) (q : ∀ F' H' u, Same F F' → Rel c F' σ H' e → Rp F' d u → Q u H') : rSl K v lo hi H Q := by
  cases x <;> try cases h
  · rename_i l
    obtain ⟨a, vs, e1, ha, r⟩ := rx
    refine .inl ⟨a, vs, e1, SqT.of (R.fh _ _ ha), fun z => ?_, fun z p hp => ?_⟩
    · rw [r.len] at z
      rw [sIx_all z] at q
      exact q F H _ (Same.refl F) R ⟨a, vs, rfl, ha, r⟩
    · obtain ⟨sm, R2, r2⟩ := R.tupNew hp (cut_rp (lo := lo) (hi := hi) r)
      exact q _ _ _ sm R2 r2
  · rename_i l
    obtain ⟨a, vs, e1, ha, r⟩ := rx
    refine .inr ⟨a, vs, e1, SqL.of ha, fun p hp => ?_⟩
    obtain ⟨sm, R2, r2⟩ := R.lstNew hp (cut_rp (lo := lo) (hi := hi) r)
    exact q _ _ _ sm R2 r2
end
section
variable {X : Cx} {ξ : Xi per} {a b : Expr} {pos : Pos}
theorem q_ix {fa fb : Env → R Hd} (ha : PE X a (rE ξ fa)) (hb : PE X b (rE ξ fb)) (hs : PlainIx b := by exact fun _ _ => rfl) : PE X (.Subscript a b pos) (rE ξ (op2F idxD fa fb)) :=
  PE.imp (pe_ix ix_seq ha hb hs) fun _ _ _ q => op2_core ops_idx q
/-- a part of a slice -/
def rO (ξ : Xi per) (f : Env → R (Option Int)) : TO := fun σ H Q => ∃ c F e, Rel c F σ H e ∧ Pst (f e) (fun o e' => ∀ F' H', Same F F' → Rel c F' σ H' e' → Q o H') (ErrP ξ c)
def noneF : Env → R (Option Int) := fun e => .ok none e
def someF (f : Env → R Hd) : Env → R (Option Int) := fun e => (f e).bind fun h e1 => match h with
  | .d (.int i) => .ok (some i) e1
  | _ => .no
theorem q_onone : PO X none (rO ξ noneF) := ⟨fun pins s σ H Q I h => by
  obtain ⟨c, F, e, R, q⟩ := h
  exact po_none.run pins s σ H Q I (q F H (Same.refl F) R)⟩
theorem q_osome {f : Env → R Hd} (h : PE X a (rE ξ f)) : PO X (some a) (rO ξ (someF f)) := ⟨fun pins s σ H Q I q => by
  refine (po_some h).run pins s σ H Q I ?_
  obtain ⟨c, F, e, R, q⟩ := q
  refine ⟨c, F, e, R, Pst.mono (pst_bind.mp q) (fun h1 e1 q1 F1 H1 v s1 R1 r1 => ?_) fun _ z => z⟩
  cases h1 with
  | s k => exact q1.elim
  | d x =>
    cases x <;> first | exact q1.elim | skip
    exact ⟨_, r1, q1 F1 H1 s1 R1⟩⟩
def sliceF (fa : Env → R Hd) (fl fh : Env → R (Option Int)) : Env → R Hd := fun e => (fa e).bind fun h e1 => (fl e1).bind fun lo e2 => (fh e2).bind fun hi e3 => lift1 (sliceD lo hi) e3 (hd e3 h)
theorem q_slice {lo hi : Option Expr} {p2 : Pos} {fa : Env → R Hd} {fl fh : Env → R (Option Int)} (ha : PE X a (rE ξ fa)) (hl : PO X lo (rO ξ fl)) (hh : PO X hi (rO ξ fh)) : PE X (.Subscript a (.Slice lo hi none p2) pos) (rE ξ (sliceF fa fl fh)) :=
  PE.imp (pe_slice sl_any ha hl hh) fun σ H Q q => by
    obtain ⟨c, F, e, R, q⟩ := q
    refine ⟨c, F, e, R, Pst.mono (pst_bind.mp q) (fun h1 e1 q1 F1 H1 v s1 R1 r1 => ?_) fun _ z => z⟩
    refine ⟨c, F1, e1, R1, Pst.mono (pst_bind.mp q1) (fun l e2 q2 F2 H2 s2 R2 => ?_) fun _ z => z⟩
    refine ⟨c, F2, e2, R2, Pst.mono (pst_bind.mp q2) (fun u e3 q3 F3 H3 s3 R3 => ?_) fun _ z => z⟩
    obtain ⟨x, d, x1, x2, q3⟩ := lift1_pst q3
    exact ops_slice R3 (R3.look (r1.mono (s2.trans s3)) x1) x2 fun F4 H4 w s4 R4 r4 => q3 F4 H4 w (s1.trans (s2.trans (s3.trans s4))) R4 r4
end
end PL
set_option Elab.async false
set_option linter.all false
set_option maxRecDepth 100000
set_option maxHeartbeats 4000000
/-! The pure layer, 5: targets, what is walked, comprehensions, statements. -/
namespace PL
open PySem PySem.Spec PyProof.Rows L2

/-! ### an object kept aside -/
section
variable {c : Ct per} {F : Hp} {σ : L2.St} {H : Hp} {e : Env} {p : Addr} {o : HO}
theorem keep_h0t (c : Ct per) (p : Addr) (ws : List V) : per.lam = true → ∀ a ps, upd c.H0 p (.lst ws) a = some (.tbl ps) → per.tab a := fun z a ps h => by
  by_cases ha : a = p
  · subst ha
    rw [upd_same] at h
    cases h
  · rw [upd_ne ha] at h
    exact c.h0t z a ps h
def Ct.keep (c : Ct per) (p : Addr) (ws : List V) : Ct per := { c with H0 := upd c.H0 p (.lst ws), h0t := keep_h0t c p ws }
/-- an object that nobody knows -/
structure Loose (c : Ct per) (F : Hp) (σ : L2.St) (e : Env) (p : Addr) : Prop where
  nf : F p = none
  n0 : c.H0 p = none
  nr : c.rw ≠ some p
  no : ∀ j, ¬ OwnA e σ j p
theorem Rel.keepO {ws : List V} (R : Rel c F σ H e) (L : Loose c F σ e p) (ho : H p = some (.lst ws)) : Rel (c.keep p ws) F σ H e := by
  refine ⟨R.fh, R.f0, fun a u q => ?_, fun a u q z kk => ?_, R.rk, R.len, fun j s q => ?_, R.ap, R.pu, fun a u q => by
    have q : upd c.H0 p (.lst ws) a = some u := q
    by_cases ha : a = p
    · subst ha; exact ⟨_, ho⟩
    · rw [upd_ne ha] at q
      exact R.kt a u q, R.pf⟩
  · have ne : a ≠ p := fun z => by rw [z, L.nf] at q; cases q
    rcases R.fn a u q with h | h
    · exact .inl h
    · exact .inr ⟨by show upd c.H0 p (.lst ws) a = none; rw [upd_ne ne]; exact h.1, h.2⟩
  · have q : upd c.H0 p (.lst ws) a = some u := q
    by_cases ha : a = p
    · subst ha
      rw [upd_same] at q
      cases q
      exact ho
    · rw [upd_ne ha] at q
      exact R.kp a u q z kk
  · have q' := R.sl j s q
    cases s with
    | no => trivial
    | va d => exact q'
    | ow l =>
      obtain ⟨a, vs, e1, ha, hf, h0, hr, r⟩ := q'
      have ne : a ≠ p := fun z => L.no j ⟨⟨l, q⟩, by rw [← z]; exact e1⟩
      exact ⟨a, vs, e1, ha, hf, by show upd c.H0 p (.lst ws) a = none; rw [upd_ne ne]; exact h0, hr, r⟩
    | pr l => exact q'
theorem Rel.unkeep {ws : List V} (R : Rel (c.keep p ws) F σ H e) (hk : per.kp (.lst ws)) (n0 : c.H0 p = none) (nf : c.F0 p = none) (nr : c.rw ≠ some p) : Rel c F σ H e ∧ H p = some (.lst ws) ∧ Loose c F σ e p := by
  have hp : H p = some (.lst ws) := R.kp p (.lst ws) (by show upd c.H0 p (.lst ws) p = _; exact upd_same) nr hk
  have fp : F p = none := by
    cases q : F p with
    | none => rfl
    | some u =>
      rcases R.fn p u q with h | h
      · have h : c.F0 p = some u := h
        rw [nf] at h
        cases h
      · have h : upd c.H0 p (.lst ws) p = none := h.1
        rw [upd_same] at h
        cases h
  have own : ∀ j, ¬ OwnA e σ j p := fun j q => by
    obtain ⟨⟨l, q1⟩, q2⟩ := q
    obtain ⟨a, vs, e1, ha, hf, h0, hr, r⟩ := R.sl j _ q1
    rw [q2] at e1
    cases e1
    have h0 : upd c.H0 p (.lst ws) p = none := h0
    rw [upd_same] at h0
    cases h0
  refine ⟨⟨R.fh, R.f0, fun a u q => ?_, fun a u q z kk => ?_, R.rk, R.len, fun j s q => ?_, R.ap, R.pu, fun a u q => R.kt a u (by
    have ne : a ≠ p := fun z => by rw [z, n0] at q; cases q
    show upd c.H0 p (.lst ws) a = _; rw [upd_ne ne]; exact q), R.pf⟩, hp, fp, n0, nr, own⟩
  · have ne : a ≠ p := fun z => by rw [z, fp] at q; cases q
    rcases R.fn a u q with h | h
    · exact .inl h
    · obtain ⟨h, hn⟩ := h
      have h : upd c.H0 p (.lst ws) a = none := h
      rw [upd_ne ne] at h
      exact .inr ⟨h, hn⟩
  · have ne : a ≠ p := fun z => by rw [z, n0] at q; cases q
    exact R.kp a u (by show upd c.H0 p (.lst ws) a = _; rw [upd_ne ne]; exact q) z kk
  · have q' := R.sl j s q
    cases s with
    | no => trivial
    | va d => exact q'
    | ow l =>
      obtain ⟨a, vs, e1, ha, hf, h0, hr, r⟩ := q'
      have ne : a ≠ p := fun z => own j ⟨⟨l, q⟩, by rw [← z]; exact e1⟩
      have h0 : upd c.H0 p (.lst ws) a = none := h0
      rw [upd_ne ne] at h0
      exact ⟨a, vs, e1, ha, hf, h0, hr, r⟩
    | pr l => exact q'
/-- a loose object changes -/
theorem Rel.updL (R : Rel c F σ H e) (L : Loose c F σ e p) {vs : List V} (hp : H p = some (.lst vs)) (o : HO) : Rel c F σ (upd H p o) e := by
  refine ⟨fun a u q => ?_, R.f0, R.fn, fun a u q z kk => ?_, fun a q => ?_, R.len, fun j s q => ?_, R.ap, R.pu, fun a u q => by
    by_cases ha : a = p
    · subst ha; exact ⟨_, upd_same⟩
    · obtain ⟨o', h'⟩ := R.kt a u q
      exact ⟨o', (upd_ne ha).trans h'⟩, Per.wr R.pf hp⟩
  · rw [upd_ne (ne_of_none q L.nf)]
    exact R.fh a u q
  · rw [upd_ne (ne_of_none q L.n0)]
    exact R.kp a u q z kk
  · have ne : a ≠ p := fun z => L.nr (by rw [← z]; exact q)
    obtain ⟨h1, u, h2⟩ := R.rk a q
    exact ⟨h1, u, by rw [upd_ne ne]; exact h2⟩
  · have q' := R.sl j s q
    cases s with
    | no => trivial
    | va d => exact q'
    | ow l =>
      obtain ⟨a, vs, e1, ha, hf, h0, hr, r⟩ := q'
      have ne : a ≠ p := fun z => L.no j ⟨⟨l, q⟩, by rw [← z]; exact e1⟩
      exact ⟨a, vs, e1, by rw [upd_ne ne]; exact ha, hf, h0, hr, r⟩
    | pr l =>
      obtain ⟨a, vs, e1, hr, ha, hf, r⟩ := q'
      have ne : a ≠ p := fun z => L.nr (by rw [← z]; exact hr)
      exact ⟨a, vs, e1, hr, by rw [upd_ne ne]; exact ha, hf, r⟩
end

/-! ### targets -/
/-- but for the places ks the slots are as they were -/
def Off (ks : List Nat) (σ σ' : L2.St) : Prop := σ'.length = σ.length ∧ ∀ j, j ∉ ks → σ'[j]? = σ[j]?
def PqG (c : Ct per) (F : Hp) (σ : L2.St) (ks : List Nat) (Q : L2.St → Hp → Prop) (e' : Env) : Prop := ∀ F' σ' H', Same F F' → Rel c F' σ' H' e' → Off ks σ σ' → Q σ' H'
def rG (per : Per) (ks : List Nat) (g : D → Env → Option Env) : TG := fun v σ H Q => ∃ (c : Ct per) (F : Hp) (e : Env) (d : D) (e' : Env), Rel c F σ H e ∧ Rp F d v ∧ g d e = some e' ∧ PqG c F σ ks Q e'
def rGs (per : Per) (ks : List Nat) (g : List D → Env → Option Env) : TGs := fun vs σ H Q => ∃ (c : Ct per) (F : Hp) (e : Env) (ds : List D) (e' : Env), Rel c F σ H e ∧ Rps F ds vs ∧ g ds e = some e' ∧ PqG c F σ ks Q e'
def gNm (k : Nat) : D → Env → Option Env := fun d e => if k < e.length then some (e.set k (.va d)) else none
def gsNil : List D → Env → Option Env
  | [], e => some e
  | _, _ => none
def gsCons (g : D → Env → Option Env) (gs : List D → Env → Option Env) : List D → Env → Option Env
  | d :: ds, e => (g d e).bind fun e1 => gs ds e1
  | [], _ => none
def gTp (n : Nat) (gs : List D → Env → Option Env) : D → Env → Option Env
  | .tup ds, e => if ds.length = n then gs ds e else none
  | _, _ => none
section
variable {X : Cx} {pos : Pos} {a b : Expr} {ks ks' : List Nat}
theorem PG.imp {t t' : TG} (h : PG X a t) (w : ∀ v σ H Q, t' v σ H Q → t v σ H Q) : PG X a t' := ⟨fun pins s σ H v u Q I r q => h.run pins s σ H v u Q I r (w v σ H Q q)⟩
theorem PGs.imp {es : List Expr} {t t' : TGs} (h : PGs X es t) (w : ∀ v σ H Q, t' v σ H Q → t v σ H Q) : PGs X es t' := ⟨fun pins s σ H v u Q I r q => h.run pins s σ H v u Q I r (w v σ H Q q)⟩
theorem q_gname (k : Nat) (h : PG X a (gName k)) : PG X a (rG per [k] (gNm k)) := PG.imp h fun v σ H Q q => by
  obtain ⟨c, F, e, d, e', R, r, hg, q⟩ := q
  unfold gNm at hg
  by_cases hk : k < e.length
  · rw [if_pos hk] at hg
    cases hg
    refine q F _ H (Same.refl F) (R.set hk r) ⟨by rw [List.length_set], fun j hj => ?_⟩
    rw [List.getElem?_set_ne (by simpa using fun z => hj (by simp [z]))]
  · rw [if_neg hk] at hg
    cases hg
theorem q_gsnil : PGs X [] (rGs per [] gsNil) := PGs.imp pgs_nil fun vs σ H Q q => by
  obtain ⟨c, F, e, ds, e', R, r, hg, q⟩ := q
  cases ds with
  | nil =>
    cases hg
    exact ⟨r, q F σ H (Same.refl F) R ⟨rfl, fun _ _ => rfl⟩⟩
  | cons d ds => cases hg
theorem q_gscons {es : List Expr} {g : D → Env → Option Env} {gs : List D → Env → Option Env} (h1 : PG X a (rG per ks g)) (h2 : PGs X es (rGs per ks' gs))
    (hs : (assignEach (a :: es) X.env).map (·.2) = assign a X.env :: (assignEach es X.env).map (·.2) := by rfl) : PGs X (a :: es) (rGs per (ks ++ ks') (gsCons g gs)) := PGs.imp (pgs_cons h1 h2 hs) fun vs σ H Q q => by
  obtain ⟨c, F, e, ds, e', R, r, hg, q⟩ := q
  cases ds with
  | nil => cases hg
  | cons d ds =>
    obtain ⟨v, vr, e1, r1, r2⟩ := r
    have hg : (g d e).bind (fun e1 => gs ds e1) = some e' := hg
    obtain ⟨e2, g1, g2⟩ := Option.bind_eq_some_iff.mp hg
    refine ⟨v, vr, e1, c, F, e, d, e2, R, r1, g1, fun F1 σ1 H1 s1 R1 o1 => ?_⟩
    refine ⟨c, F1, e2, ds, e', R1, r2.mono s1, g2, fun F2 σ2 H2 s2 R2 o2 => ?_⟩
    refine q F2 σ2 H2 (s1.trans s2) R2 ⟨o2.1.trans o1.1, fun j hj => ?_⟩
    rw [o2.2 j fun z => hj (List.mem_append_right _ z), o1.2 j fun z => hj (List.mem_append_left _ z)]
theorem q_gtup {es : List Expr} {k n : Nat} {gs : List D → Env → Option Env} (hc : X.calm = true) (h : PGs X es (rGs per ks gs))
    (hn : (assignEach es X.env).length = n := by rfl) (hst : (assignEach es X.env).findIdx? (·.1) = none := by rfl) : PG X (.Tuple es k pos) (rG per ks (gTp n gs)) := PG.imp (pg_tup hc h hn hst) fun v σ H Q q => by
  obtain ⟨c, F, e, d, e', R, r, hg, q⟩ := q
  cases d <;> try cases hg
  rename_i ds
  have hg : (if ds.length = n then gs ds e else none) = some e' := hg
  by_cases hl : ds.length = n
  · rw [if_pos hl] at hg
    obtain ⟨p, vs, e1, hp, r1⟩ := r
    exact ⟨p, vs, e1, SqT.of (R.fh _ _ hp), by rw [r1.len]; exact hl, c, F, e, ds, e', R, r1, hg, q⟩
  · rw [if_neg hl] at hg
    cases hg
end

/-! ### what is walked -/
def ItOk (per : Per) (J : It) (F : Hp) (ds : List D) : Prop := ∀ (c : Ct per) (F1 : Hp) (σ : L2.St) (H : Hp) (e : Env) (i : Nat), Same F F1 → Rel c F1 σ H e →
  (∀ d, ds[i]? = some d → J.go i H ∧ ∀ x H', J.yld i H x H' → ∃ F2, Same F1 F2 ∧ Rel c F2 σ H' e ∧ Rp F2 d x) ∧ (i = ds.length → J.stop i H)
def PqI (c : Ct per) (F : Hp) (σ : L2.St) (R : It → Hp → Prop) : List D → Env → Prop := fun ds e' => ∀ F' H' J, Same F F' → Rel c F' σ H' e' → ItOk per J F' ds → R J H'
def rI (ξ : Xi per) (f : Env → R (List D)) : TI := fun σ H Q => ∃ c F e, Rel c F σ H e ∧ Pst (f e) (PqI c F σ Q) (ErrP ξ c)
section
variable {X : Cx} {ξ : Xi per} {a b tg : Expr} {pos : Pos}
def signs (x : Str) : List D := x.cps.toList.map fun c => .str ⟨#[c]⟩
def itemsD : D → Option (List D)
  | .tup l => some l
  | .lst l => some l
  | .str x => some (signs x)
  | _ => none
def optI (e : Env) : Option (List D) → R (List D)
  | some l => .ok l e
  | none => .no
def itF (f : Env → R Hd) : Env → R (List D) := fun e => (f e).bind fun h e1 => match fz e1 h with
  | some (d, e2) => optI e2 (itemsD d)
  | none => .no
theorem itOk_list {K : PySem.W.Frag} {F : Hp} {a : Addr} {ds : List D} {vs : List V} (ha : F a = some (.lst vs)) (r : Rps F ds vs) : ItOk per (Itl K a) F ds := fun c F1 σ H e i s R => by
  have sq : SqL K H a vs := SqL.of (R.fh _ _ (s _ _ ha))
  refine ⟨fun d hd => ?_, fun hi => ⟨vs, sq, by rw [hi, ← r.len]; exact Nat.le_refl _⟩⟩
  obtain ⟨v, hv, rv⟩ := r.get hd
  refine ⟨⟨vs, v, sq, hv⟩, fun x H' y => ?_⟩
  obtain ⟨e1, y⟩ := y
  have := y vs sq
  rw [hv] at this
  cases this
  rw [e1]
  exact ⟨F1, Same.refl F1, R, rv.mono s⟩
theorem itOk_tup {K : PySem.W.Frag} {F : Hp} {a : Addr} {ds : List D} {vs : List V} (ha : F a = some (.tup vs)) (r : Rps F ds vs) : ItOk per (Itt K a) F ds := fun c F1 σ H e i s R => by
  have sq : SqT K H a vs := SqT.of (R.fh _ _ (s _ _ ha))
  refine ⟨fun d hd => ?_, fun hi => ⟨vs, sq, by rw [hi, ← r.len]; exact Nat.le_refl _⟩⟩
  obtain ⟨v, hv, rv⟩ := r.get hd
  refine ⟨⟨vs, v, sq, hv⟩, fun x H' y => ?_⟩
  obtain ⟨e1, y⟩ := y
  have := y vs sq
  rw [hv] at this
  cases this
  rw [e1]
  exact ⟨F1, Same.refl F1, R, rv.mono s⟩
theorem signs_at {x : Str} {i : Nat} {d : D} (h : (signs x)[i]? = some d) : ∃ c, x.cps[i]? = some c ∧ d = .str ⟨#[c]⟩ := by
  unfold signs at h
  rw [List.getElem?_map] at h
  cases q : x.cps.toList[i]? with
  | none => rw [q] at h; cases h
  | some c =>
    rw [q] at h
    cases h
    exact ⟨c, by simpa using q, rfl⟩
theorem signs_len (x : Str) : (signs x).length = x.cps.size := by
  unfold signs
  rw [List.length_map, Array.length_toList]
theorem itOk_str {F : Hp} {x : Str} : ItOk per (Its x) F (signs x) := fun c F1 σ H e i s R => by
  refine ⟨fun d hd => ?_, fun hi => by show x.cps.size ≤ i; rw [hi, signs_len]; exact Nat.le_refl _⟩
  obtain ⟨ch, hc, rfl⟩ := signs_at hd
  refine ⟨(Array.getElem?_eq_some_iff.mp hc).1, fun y H' q => ?_⟩
  obtain ⟨e1, c2, h2, rfl⟩ := q
  rw [hc] at h2
  cases h2
  rw [e1]
  exact ⟨F1, Same.refl F1, R, rfl⟩
theorem q_it {f : Env → R Hd} (h : PE X a (rE ξ f)) : PI X tg a (rI ξ (itF f)) := ⟨fun pins s σ H Q I q => by
  obtain ⟨c, F, e, R, q⟩ := q
  have q := pst_bind.mp q
  -- the value decides which walk it is: the three rules are joined by the value
  refine thn (h.run pins s σ H (fun v H1 => ∃ d F1 e1 ds, Rp F1 d v ∧ itemsD d = some ds ∧ Same F F1 ∧ Rel c F1 σ H1 e1 ∧ PqI c F σ Q ds e1) I ⟨c, F, e, R, Pst.mono q (fun h1 e1 q1 F1 H1 v s1 R1 r1 => ?_) fun _ z => z⟩) fun u s1 ⟨v, H1, I1, rv, d, F1, e1, ds, rp, hi, sm, R1, q1⟩ => ?_
  · cases x1 : fz e1 h1 with
    | none => simp only [x1] at q1; exact q1.elim
    | some p =>
      obtain ⟨d, e2⟩ := p
      simp only [x1] at q1
      obtain ⟨F2, s2, R2, rp⟩ := R1.hand r1 x1
      cases x2 : itemsD d with
      | none => simp only [x2] at q1; exact q1.elim
      | some ds =>
        simp only [x2] at q1
        exact ⟨d, F2, e2, ds, rp, x2, s1.trans s2, R2, q1⟩
  · have name : PE X (.Constant .none 0 ⟨0, 0, 0, 0⟩) (tC .non) := pe_non
    cases d <;> try cases hi
    · rename_i x
      have e0 : v = .str x := rp
      subst e0
      obtain ⟨t, rfl⟩ := rv
      cases ha : x.cps.all (· < 128)
      · exact wpAny_pyIter_wide ha (pi_one (tk := s1.toks) I1 _ (turn_str _ x t "str_iterator" (.inr rfl)) ⟨_, Heap.get?_push_size _ rfl, rfl, rfl⟩ (q1 F1 H1 _ sm R1 itOk_str))
      · exact wpAny_pyIter_ascii ha (pi_one (tk := s1.toks) I1 _ (turn_str _ x t "str_ascii_iterator" (.inl rfl)) ⟨_, Heap.get?_push_size _ rfl, rfl, rfl⟩ (q1 F1 H1 _ sm R1 itOk_str))
    · obtain ⟨p, vs, e0, hp, r⟩ := rp
      subst e0
      cases rv
      obtain ⟨its, rv, pl, hz⟩ := I1.tuple (SqT.of (R1.fh _ _ hp))
      exact wpAny_pyIter_tuple (show s1.heap.IsTuple p its.toArray from pl) (pi_one (tk := s1.toks) I1 _ (turn_tuple p _) ⟨_, Heap.get?_push_size _ rfl, rfl, rfl⟩ (q1 F1 H1 _ sm R1 (itOk_tup hp r)))
    · obtain ⟨p, vs, e0, hp, r⟩ := rp
      subst e0
      cases rv
      obtain ⟨its, rv, pl, hz⟩ := I1.list (SqL.of (R1.fh _ _ hp))
      exact wpAny_pyIter_list pl.isList (pi_one (tk := s1.toks) I1 _ (turn_list p _) ⟨_, Heap.get?_push_size _ rfl, rfl, rfl⟩ (q1 F1 H1 _ sm R1 (itOk_list hp r)))⟩
/-- ranges -/
def rangeL (lo : Int) (n : Nat) : List D := (List.range n).map fun i => .int (lo + (i : Nat))
theorem rangeL_at {lo : Int} {n i : Nat} {d : D} (h : (rangeL lo n)[i]? = some d) : i < n ∧ d = .int (lo + (i : Nat)) := by
  unfold rangeL at h
  rw [List.getElem?_map] at h
  cases q : (List.range n)[i]? with
  | none => rw [q] at h; cases h
  | some j =>
    rw [q] at h
    cases h
    obtain ⟨h1, h2⟩ := List.getElem?_eq_some_iff.mp q
    rw [List.getElem_range] at h2
    subst h2
    exact ⟨by simpa using h1, rfl⟩
theorem rangeL_len (lo : Int) (n : Nat) : (rangeL lo n).length = n := by unfold rangeL; rw [List.length_map, List.length_range]
theorem itOk_range {F : Hp} {lo : Int} {n : Nat} : ItOk per (Itr lo n) F (rangeL lo n) := fun c F1 σ H e i s R => by
  refine ⟨fun d hd => ?_, fun hi => by show n ≤ i; rw [hi, rangeL_len]; exact Nat.le_refl _⟩
  obtain ⟨h1, rfl⟩ := rangeL_at hd
  refine ⟨h1, fun y H' q => ?_⟩
  obtain ⟨e1, rfl⟩ := q
  rw [e1]
  exact ⟨F1, Same.refl F1, R, rfl⟩
def rng1 : List D → Option (List D)
  | [.int j] => if -100000 ≤ j ∧ j ≤ 100000 then some (rangeL 0 j.toNat) else none
  | _ => none
def rng2 : List D → Option (List D)
  | [.int i, .int j] => if -100000 ≤ i ∧ i ≤ 100000 ∧ -100000 ≤ j ∧ j ≤ 100000 then some (rangeL i (j - i).toNat) else none
  | _ => none
def itA (g : List D → Option (List D)) (f : Env → R (List Hd)) : Env → R (List D) := fun e => (f e).bind fun hs e1 => match fzs e1 hs with
  | some (ds, e2) => optI e2 (g ds)
  | none => .no
theorem itA_core {g : List D → Option (List D)} {f : Env → R (List Hd)} {σ : L2.St} {H : Hp} {Q : It → Hp → Prop} {Z : List V → Hp → Prop} (q : rI ξ (itA g f) σ H Q)
    (hz : ∀ (c : Ct per) F F1 e1 H1 ds vs l, Same F F1 → Rel c F1 σ H1 e1 → Rps F1 ds vs → g ds = some l → PqI c F σ Q l e1 → Z vs H1) : rA ξ f σ H Z := by
  obtain ⟨c, F, e, R, q⟩ := q
  refine ⟨c, F, e, R, Pst.mono (pst_bind.mp q) (fun hs e1 q1 F1 H1 vs s1 R1 r1 => ?_) fun _ z => z⟩
  cases x1 : fzs e1 hs with
  | none => simp only [x1] at q1; exact q1.elim
  | some p =>
    obtain ⟨ds, e2⟩ := p
    simp only [x1] at q1
    obtain ⟨F2, s2, R2, rp⟩ := R1.hands r1 x1
    cases x2 : g ds with
    | none => simp only [x2] at q1; exact q1.elim
    | some l =>
      simp only [x2] at q1
      exact hz c F F2 e2 H1 ds vs l (s1.trans s2) R2 rp x2 q1
theorem q_range1 {f : Env → R (List Hd)} {p : Pos} (hg : Gl X "range") (hm : X.mg "range" = none) (ha : PA X [a] (rA ξ f)) (hs : starEach [a] X.env = [(false, eval a X.env)] := by rfl) : PI X tg (.Call (.Name "range" p) [a] [] pos) (rI ξ (itA rng1 f)) :=
  PI.imp (pi_range1 hg hm ha hs) fun σ H Q q => itA_core q fun c F F1 e1 H1 ds vs l s R r hg q => by
    unfold rng1 at hg
    split at hg
    · rename_i j
      by_cases hb : -100000 ≤ j ∧ j ≤ 100000
      · rw [if_pos hb] at hg
        cases hg
        obtain ⟨v, r', e2, r1, r2⟩ := r
        rw [show v = V.int j from r1, show r' = [] from r2] at e2
        exact ⟨j, e2, by omega, by omega, q F1 H1 _ s R itOk_range⟩
      · rw [if_neg hb] at hg
        cases hg
    · cases hg
theorem q_range2 {f : Env → R (List Hd)} {p : Pos} (hg : Gl X "range") (hm : X.mg "range" = none) (ha : PA X [a, b] (rA ξ f)) (hs : starEach [a, b] X.env = [(false, eval a X.env), (false, eval b X.env)] := by rfl) (hs2 : starEach [b] X.env = [(false, eval b X.env)] := by rfl) : PI X tg (.Call (.Name "range" p) [a, b] [] pos) (rI ξ (itA rng2 f)) :=
  PI.imp (pi_range2 hg hm ha hs hs2) fun σ H Q q => itA_core q fun c F F1 e1 H1 ds vs l s R r hg q => by
    unfold rng2 at hg
    split at hg
    · rename_i i j
      by_cases hb : -100000 ≤ i ∧ i ≤ 100000 ∧ -100000 ≤ j ∧ j ≤ 100000
      · rw [if_pos hb] at hg
        cases hg
        obtain ⟨v, r', e2, r1, v2, r2', e3, r3, r4⟩ := r
        rw [show v = V.int i from r1, e3, show v2 = V.int j from r3, show r2' = [] from r4] at e2
        exact ⟨i, j, e2, ⟨by omega, by omega, by omega, by omega⟩, q F1 H1 _ s R itOk_range⟩
      · rw [if_neg hb] at hg
        cases hg
    · cases hg
/-- enumerate, zip -/
theorem walkV_of {c : Ct per} {F : Hp} {σ : L2.St} {H : Hp} {e : Env} {d : D} {v : V} {l : List D} (R : Rel c F σ H e) (r : Rp F d v) (h : itemsD d = some l) : ∃ item C, WalkV H v l.length item C ∧
    (∀ (c' : Ct per) F1 σ' H' e', Same F F1 → Rel c' F1 σ' H' e' → C H') ∧ ∀ i x, item i x → ∃ d, l[i]? = some d ∧ Rp F d x := by
  cases d <;> try cases h
  · rename_i x
    refine ⟨ixS x, fun _ => True, .inr (.inr ⟨x, r, by rw [signs_len], rfl, rfl⟩), fun _ _ _ _ _ _ _ => trivial, fun i y hy => ?_⟩
    obtain ⟨ch, h1, rfl⟩ := hy
    refine ⟨.str ⟨#[ch]⟩, ?_, rfl⟩
    unfold signs
    rw [List.getElem?_map, Array.getElem?_toList, h1]
    rfl
  · obtain ⟨p, vs, e1, hp, r1⟩ := r
    refine ⟨ixL vs, fun H => Rd H p (.tup vs), .inr (.inl ⟨p, vs, e1, .inl (R.fh _ _ hp), by rw [r1.len], rfl, rfl⟩), fun c' F1 σ' H' e' s R' => .inl (R'.fh _ _ (s _ _ hp)), fun i y hy => r1.get' hy⟩
  · obtain ⟨p, vs, e1, hp, r1⟩ := r
    refine ⟨ixL vs, fun H => Rd H p (.lst vs), .inl ⟨p, vs, e1, .inl (R.fh _ _ hp), by rw [r1.len], rfl, rfl⟩, fun c' F1 σ' H' e' s R' => .inl (R'.fh _ _ (s _ _ hp)), fun i y hy => r1.get' hy⟩
def enumL (l : List D) : List D := l.zipIdx.map fun p => .tup [.int (p.2 : Nat), p.1]
def enumI : List D → Option (List D)
  | [d] => (itemsD d).map enumL
  | _ => none
theorem enumL_at {l : List D} {i : Nat} {d : D} (h : (enumL l)[i]? = some d) : ∃ x, l[i]? = some x ∧ d = .tup [.int (i : Nat), x] := by
  unfold enumL at h
  rw [List.getElem?_map, List.getElem?_zipIdx] at h
  cases q : l[i]? with
  | none => rw [q] at h; cases h
  | some x =>
    rw [q] at h
    cases h
    exact ⟨x, rfl, by simp⟩
theorem enumL_len (l : List D) : (enumL l).length = l.length := by unfold enumL; rw [List.length_map, List.length_zipIdx]
theorem Rel.pair {c : Ct per} {F : Hp} {σ : L2.St} {H : Hp} {e : Env} (R : Rel c F σ H e) {T : Addr} (hT : H T = none) {d1 d2 : D} {x y : V} (r1 : Rp F d1 x) (r2 : Rp F d2 y) :
    ∃ F2, Same F F2 ∧ Rel c F2 σ (upd H T (.tup [x, y])) e ∧ Rp F2 (.tup [d1, d2]) (.ref T) := by
  obtain ⟨sm, R2, r⟩ := R.tupNew hT (ds := [d1, d2]) (vs := [x, y]) ⟨x, [y], rfl, r1, y, [], rfl, r2, rfl⟩
  exact ⟨_, sm, R2, r⟩
theorem q_enum {f : Env → R (List Hd)} {p tpos : Pos} {elts : List Expr} {kk : Nat} (hg : Gl X "enumerate") (hm : X.mg "enumerate" = none) (ha : PA X [a] (rA ξ f)) (hs : starEach [a] X.env = [(false, eval a X.env)] := by rfl) : PI X (.Tuple elts kk tpos) (.Call (.Name "enumerate" p) [a] [] pos) (rI ξ (itA enumI f)) :=
  PI.imp (pi_enumG hg hm ha hs) fun σ H Q q => itA_core q fun c F F1 e1 H1 ds vs l s R r hg q => by
    unfold enumI at hg
    split at hg
    · rename_i d
      cases hi : itemsD d with
      | none => rw [hi] at hg; cases hg
      | some l0 =>
        rw [hi] at hg
        cases hg
        obtain ⟨v, r', e2, r1, r2⟩ := r
        rw [show r' = [] from r2] at e2
        obtain ⟨item, C, hw, hC, hit⟩ := walkV_of R r1 hi
        refine ⟨v, l0.length, item, C, e2, hw, q F1 H1 _ s R fun c' F2 σ' H' e' i s2 R2 => ⟨fun d hd => ?_, fun hz => ⟨by rw [hz, enumL_len], hC _ _ _ _ _ s2 R2⟩⟩⟩
        obtain ⟨x, hx, rfl⟩ := enumL_at hd
        refine ⟨⟨(List.getElem?_eq_some_iff.mp hx).1, hC _ _ _ _ _ s2 R2⟩, fun y H3 z => ?_⟩
        obtain ⟨T, u, rfl, hT, rfl, hu⟩ := z
        obtain ⟨d2, hd2, rd⟩ := hit i u hu
        rw [hx] at hd2
        cases hd2
        exact R2.pair hT rfl (rd.mono s2)
    · cases hg
def zipL (l m : List D) : List D := List.zipWith (fun a b => .tup [a, b]) l m
def zipI : List D → Option (List D)
  | [d, d2] => match itemsD d, itemsD d2 with
    | some l, some m => some (zipL l m)
    | _, _ => none
  | _ => none
theorem q_zip {f : Env → R (List Hd)} {p tpos : Pos} {elts : List Expr} {kk : Nat} (hg : Gl X "zip") (hm : X.mg "zip" = none) (ha : PA X [a, b] (rA ξ f)) (hs : starEach [a, b] X.env = (false, eval a X.env) :: starEach [b] X.env := by rfl) (hpl : (backTo pos (starEach [b] X.env)).any (·.1) = false := by rfl) :
    PI X (.Tuple elts kk tpos) (.Call (.Name "zip" p) [a, b] [] pos) (rI ξ (itA zipI f)) :=
  PI.imp (pi_zipG hg hm ha hs hpl) fun σ H Q q => itA_core q fun c F F1 e1 H1 ds vs l s R r hg q => by
    unfold zipI at hg
    split at hg
    · rename_i d d2
      split at hg
      · rename_i l0 m0 hi hj
        cases hg
        obtain ⟨v, r', e2, r1, v2, r2', e3, r3, r4⟩ := r
        rw [e3, show r2' = [] from r4] at e2
        obtain ⟨item, C, hw, hC, hit⟩ := walkV_of R r1 hi
        obtain ⟨item2, C2, hw2, hC2, hit2⟩ := walkV_of R r3 hj
        refine ⟨v, l0.length, item, C, v2, m0.length, item2, C2, e2, hw, hw2, q F1 H1 _ s R fun c' F2 σ' H' e' i s2 R2 => ⟨fun d hd => ?_, fun hz => ?_⟩⟩
        · unfold zipL at hd
          obtain ⟨x, y, hx, hy, rfl⟩ : ∃ x y, l0[i]? = some x ∧ m0[i]? = some y ∧ D.tup [x, y] = d := by
            rw [List.getElem?_zipWith] at hd
            cases hx : l0[i]? with
            | none => rw [hx] at hd; cases hd
            | some x =>
              cases hy : m0[i]? with
              | none => rw [hx, hy] at hd; cases hd
              | some y =>
                rw [hx, hy] at hd
                exact ⟨x, y, rfl, rfl, Option.some.inj hd⟩
          refine ⟨⟨⟨(List.getElem?_eq_some_iff.mp hx).1, (List.getElem?_eq_some_iff.mp hy).1⟩, hC _ _ _ _ _ s2 R2, hC2 _ _ _ _ _ s2 R2⟩, fun w H3 z => ?_⟩
          obtain ⟨T, u, u2, rfl, hT, rfl, hu, hu2⟩ := z
          obtain ⟨d3, hd3, rd⟩ := hit i u hu
          obtain ⟨d4, hd4, rd2⟩ := hit2 i u2 hu2
          rw [hx] at hd3
          rw [hy] at hd4
          cases hd3
          cases hd4
          exact R2.pair hT (rd.mono s2) (rd2.mono s2)
        · unfold zipL at hz
          rw [List.length_zipWith] at hz
          exact ⟨⟨by omega, by omega, by omega⟩, hC _ _ _ _ _ s2 R2, hC2 _ _ _ _ _ s2 R2⟩
      · cases hg
    · cases hg
end
end PL
set_option Elab.async false
set_option linter.all false
set_option maxRecDepth 100000
set_option maxHeartbeats 4000000
/-! The pure layer, 6: comprehensions, statements. -/
namespace PL
open PySem PySem.Spec PyProof.Rows L2

/-! ### slots put aside -/
def wipeE (e : Env) : List Nat → Env
  | [] => e
  | v :: vs => (wipeE e vs).set v .no
def keepVa : Option Sl → Sl
  | some (.va d) => .va d
  | _ => .no
def restE (e1 : Env) : List Nat → Env → Env
  | [], ew => ew
  | v :: vs, ew => restE e1 vs (ew.set v (keepVa e1[v]?))
section
variable {c : Ct per} {F F' : Hp} {σ : L2.St} {H H' : Hp} {e e1 ew : Env}
theorem Rel.wipes (R : Rel c F σ H e) : ∀ vs : List Nat, Rel c F (wipe σ vs) H (wipeE e vs)
  | [] => R
  | v :: vs => (Rel.wipes R vs).forget none
theorem wipe_get (σ : L2.St) (j : Nat) : ∀ vs : List Nat, (wipe σ vs)[j]? = if j ∈ vs then (if j < σ.length then some none else none) else σ[j]?
  | [] => by simp [wipe]
  | v :: vs => by
    unfold wipe
    rw [List.getElem?_set, wipe_get σ j vs, wipe_length]
    by_cases h : v = j
    · subst h
      simp
    · have h' : ¬ j = v := fun z => h z.symm
      simp [h, h']
theorem wipe_off {ks vs : List Nat} {σ' : L2.St} (o : Off ks (wipe σ vs) σ') (h : ∀ k ∈ ks, k ∈ vs) : wipe σ' vs = wipe σ vs := by
  obtain ⟨hl, ho⟩ := o
  rw [wipe_length] at hl
  apply List.ext_getElem?
  intro j
  rw [wipe_get, wipe_get]
  by_cases hj : j ∈ vs
  · rw [if_pos hj, if_pos hj, hl]
  · rw [if_neg hj, if_neg hj, ho j fun z => hj (h j z), wipe_get, if_neg hj]
/-- a slot that was put aside comes back -/
theorem Rel.unwipe {v : Nat} {s : Sl} (R : Rel c F (σ.set v none) H e) (h : ∀ d, s = .va d → ∃ u, σ[v]? = some (some u) ∧ Rp F d u) (hs : ∀ l, s ≠ .ow l ∧ s ≠ .pr l) : Rel c F σ H (e.set v s) := by
  have no : ∀ a, ¬ OwnA (e.set v s) σ v a := fun a q => by
    obtain ⟨⟨l, q1⟩, _⟩ := q
    rw [List.getElem?_set] at q1
    simp only [if_true] at q1
    split at q1
    · exact (hs l).1 (Option.some.inj q1)
    · cases q1
  have lift : ∀ j a, v ≠ j → OwnA (e.set v s) σ j a → OwnA e (σ.set v none) j a := fun j a ne q => by
    obtain ⟨⟨l, q1⟩, q2⟩ := q
    rw [List.getElem?_set_ne ne] at q1
    exact ⟨⟨l, q1⟩, by rw [List.getElem?_set_ne ne]; exact q2⟩
  refine ⟨R.fh, R.f0, R.fn, R.kp, R.rk, ?_, fun j t q => ?_, fun j k a q1 q2 => ?_, pu_set R.pu fun l => (hs l).2, R.kt, R.pf⟩
  · have := R.len
    rw [List.length_set] at this ⊢
    exact this
  · by_cases hj : v = j
    · subst hj
      rw [List.getElem?_set] at q
      simp only [if_true] at q
      split at q
      · have e2 : s = t := Option.some.inj q
        subst e2
        cases s with
        | no => trivial
        | va d => exact h d rfl
        | ow l => exact absurd rfl (hs l).1
        | pr l => exact absurd rfl (hs l).2
      · cases q
    · rw [List.getElem?_set_ne hj] at q
      have q' := (R.sl j t q).set_ne (i := v) (x := none) hj
      have q2 := R.sl j t q
      cases t with
      | no => trivial
      | va d =>
        obtain ⟨u, e1, r⟩ := q2
        rw [List.getElem?_set_ne hj] at e1
        exact ⟨u, e1, r⟩
      | ow l =>
        obtain ⟨a, vs, e1, r⟩ := q2
        rw [List.getElem?_set_ne hj] at e1
        exact ⟨a, vs, e1, r⟩
      | pr l =>
        obtain ⟨a, vs, e1, r⟩ := q2
        rw [List.getElem?_set_ne hj] at e1
        exact ⟨a, vs, e1, r⟩
  · by_cases hj : v = j
    · subst hj
      exact absurd q1 (no a)
    · by_cases hk : v = k
      · subst hk
        exact absurd q2 (no a)
      · exact R.ap j k a (lift j a hj q1) (lift k a hk q2)
theorem keepVa_not (o : Option Sl) (l : List D) : keepVa o ≠ .ow l ∧ keepVa o ≠ .pr l := by
  unfold keepVa
  split <;> exact ⟨(fun z => by cases z), fun z => by cases z⟩
theorem Rel.restore (h0 : ∀ (v : Nat) d, keepVa e1[v]? = .va d → ∃ u, σ[v]? = some (some u) ∧ Rp F d u) : ∀ {vs : List Nat} {ew : Env}, vs.Nodup → Rel c F (wipe σ vs) H ew → Rel c F σ H (restE e1 vs ew)
  | [], ew, _, R => R
  | v :: vs, ew, nd, R => by
    obtain ⟨n1, n2⟩ := List.nodup_cons.mp nd
    refine Rel.restore h0 n2 (ew := ew.set v (keepVa e1[v]?)) (Rel.unwipe R (fun d hd => ?_) fun l => keepVa_not _ l)
    obtain ⟨u, h1, h2⟩ := h0 v d hd
    exact ⟨u, by rw [wipe_get, if_neg n1]; exact h1, h2⟩
theorem Rel.va_of (R : Rel c F σ H e) (s : Same F F') (v : Nat) (d : D) (h : keepVa e[v]? = .va d) : ∃ u, σ[v]? = some (some u) ∧ Rp F' d u := by
  unfold keepVa at h
  split at h
  · rename_i d' he
    cases h
    obtain ⟨u, h1, h2⟩ := R.sl v _ he
    exact ⟨u, h1, h2.mono s⟩
  · cases h
end

/-! ### comprehensions -/
/-- what a turn gives: a new item, none, or it fails -/
def lcTurn (ft : Env → R Bool) (fe : Env → R Hd) (e : Env) : R (Option D) := (ft e).bind fun k e1 => if k = true then (fe e1).bind fun h e2 => (match fz e2 h with
  | some (x, e3) => .ok (some x) e3
  | none => .no) else .ok none e1
def lcLoop (vs : List Nat) (g : D → Env → Option Env) (ft : Env → R Bool) (fe : Env → R Hd) : List D → List D → Env → R (List D)
  | [], acc, ew => .ok acc ew
  | d :: ds, acc, ew => match g d ew with
    | none => .no
    | some e2 => match lcTurn ft fe e2 with
      | .ok (some x) e3 => lcLoop vs g ft fe ds (acc ++ [x]) (wipeE e3 vs)
      | .ok none e3 => lcLoop vs g ft fe ds acc (wipeE e3 vs)
      | _ => .no
def lcF (vs : List Nat) (fi : Env → R (List D)) (g : D → Env → Option Env) (ft : Env → R Bool) (fe : Env → R Hd) : Env → R (List D) := fun e => (fi e).bind fun ds e1 => if ds.length ≤ 100000 then
  (match lcLoop vs g ft fe ds [] (wipeE e1 vs) with
    | .ok l ew => .ok l (restE e1 vs ew)
    | _ => .no) else .no
def yesF : Env → R Bool := fun e => .ok true e
section
variable {X : Cx} {ξ : Xi per} {a b tg : Expr} {pos : Pos}
/-- a list grows -/
theorem loose_of {c : Ct per} {F : Hp} {σ : L2.St} {H : Hp} {e : Env} {a : Addr} {vs : List V} (n : NewL c F σ H e a vs) : Loose c F σ e a := ⟨n.nf, n.n0, n.nr, n.no⟩
/-- the loop's end, told by what is left -/
def LcPost (ξ : Xi per) (c : Ct per) (F : Hp) (σ : L2.St) (Q : VK) (e1 : Env) (vs : List Nat) (r : R (List D)) : Prop := match r with
  | .ok l ew => PqN c F σ Q l (restE e1 vs ew)
  | _ => False
theorem lc_sound {ks vs : List Nat} {fi : Env → R (List D)} {g : D → Env → Option Env} {ft : Env → R Bool} {fe : Env → R Hd} (hks : ∀ k ∈ ks, k ∈ vs) (nd : vs.Nodup) {σ : L2.St} {H : Hp} {Q : VK} (q : rN ξ (lcF vs fi g ft fe) σ H Q) :
    tLc (rI ξ fi) (rG per ks g) (rT ξ.off ft) (rE ξ.off fe) vs σ H Q := by
  obtain ⟨c, F, e, R0, q⟩ := q
  refine ⟨c, F, e, R0, Pst.mono (pst_bind.mp q) (fun ds e1 q1 F1 H1 J s1 R1 ok A hA => ?_) fun _ z => z⟩
  by_cases hlen : ds.length ≤ 100000
  case neg => rw [if_neg hlen] at q1; exact q1.elim
  rw [if_pos hlen] at q1
  have q1 : LcPost ξ c F σ Q e1 vs (lcLoop vs g ft fe ds [] (wipeE e1 vs)) := by
    unfold LcPost
    cases z : lcLoop vs g ft fe ds [] (wipeE e1 vs) with
    | ok l ew => rw [z] at q1; exact q1
    | err x => rw [z] at q1; exact q1.elim
    | no => rw [z] at q1; exact q1.elim
  obtain ⟨h0, hr⟩ := R1.h0none hA
  have f0 : c.F0 A = none := by
    cases z : c.F0 A with
    | none => rfl
    | some u =>
      have := R1.fh _ _ (R1.f0 _ _ z)
      rw [hA] at this
      cases this
  refine ⟨fun i m H => m = ds.length - i ∧ i ≤ ds.length ∧ ∃ F2 ew acc avs, Same F1 F2 ∧ Rel c F2 (wipe σ vs) H ew ∧ NewL c F2 (wipe σ vs) H ew A avs ∧ Rps F2 acc avs ∧ acc.length ≤ i ∧ LcPost ξ c F σ Q e1 vs (lcLoop vs g ft fe (ds.drop i) acc ew),
    ⟨ds.length, rfl, Nat.zero_le _, F1, wipeE e1 vs, [], [], Same.refl F1, ?_⟩, fun i m H hW => ?_⟩
  · obtain ⟨R2, n2⟩ := (R1.wipes vs).newL hA []
    exact ⟨R2, n2, rfl, Nat.le_refl _, q1⟩
  · obtain ⟨hm, hi, F2, ew, acc, avs, s2, R2, n2, ra, hacc, q2⟩ := hW
    have L2' := loose_of n2
    have Rk : Rel (c.keep A avs) F2 (wipe σ vs) H ew := R2.keepO L2' n2.at_
    obtain ⟨go, stop⟩ := ok (c.keep A avs) F2 (wipe σ vs) H ew i s2 Rk
    by_cases hlt : i < ds.length
    · have hd : ds[i]? = some ds[i] := List.getElem?_eq_getElem hlt
      obtain ⟨hgo, yld⟩ := go _ hd
      rw [List.drop_eq_getElem_cons hlt] at q2
      unfold lcLoop at q2
      cases hg : g ds[i] ew with
      | none => rw [hg] at q2; exact q2.elim
      | some e2 =>
        rw [hg] at q2
        simp only at q2
        refine .inr ⟨hgo, fun H' => ∃ m', m' = ds.length - (i + 1) ∧ i + 1 ≤ ds.length ∧ ∃ F2 ew acc avs, Same F1 F2 ∧ Rel c F2 (wipe σ vs) H' ew ∧ NewL c F2 (wipe σ vs) H' ew A avs ∧ Rps F2 acc avs ∧ acc.length ≤ i + 1 ∧ LcPost ξ c F σ Q e1 vs (lcLoop vs g ft fe (ds.drop (i + 1)) acc ew),
          fun H' hN => ?_, fun x H' y => ?_⟩
        · obtain ⟨m', z1, z2, z3⟩ := hN
          exact ⟨m', by omega, z1, z2, z3⟩
        · obtain ⟨F3, s3, R3, rx⟩ := yld x H' y
          refine ⟨c.keep A avs, F3, ew, ds[i], e2, R3, rx, hg, fun F4 σ4 H4 s4 R4 o4 => ⟨wipe_off o4 hks, ?_⟩⟩
          -- the turn
          have turn : Pst (lcTurn ft fe e2) (fun o e3 => match o with
              | some x => LcPost ξ c F σ Q e1 vs (lcLoop vs g ft fe (ds.drop (i + 1)) (acc ++ [x]) (wipeE e3 vs))
              | none => LcPost ξ c F σ Q e1 vs (lcLoop vs g ft fe (ds.drop (i + 1)) acc (wipeE e3 vs))) (fun _ => False) := by
            cases z : lcTurn ft fe e2 with
            | ok o e3 =>
              rw [z] at q2
              cases o with
              | some x => exact q2
              | none => exact q2
            | err x => rw [z] at q2; exact q2.elim
            | no => rw [z] at q2; exact q2.elim
          have t1 := pst_bind.mp turn
          refine ⟨c.keep A avs, F4, e2, R4, Pst.mono t1 (fun k e3 t2 F5 H5 s5 R5 => ?_) fun _ z => z.elim⟩
          have eqw : wipe σ4 vs = wipe σ vs := wipe_off o4 hks
          cases k with
          | false =>
            have t2 : LcPost ξ c F σ Q e1 vs (lcLoop vs g ft fe (ds.drop (i + 1)) acc (wipeE e3 vs)) := t2
            obtain ⟨R6, hp6, L6⟩ := R5.unkeep Per.lst h0 f0 hr
            have R7 := R6.wipes vs
            rw [eqw] at R7
            refine ⟨_, rfl, hlt, F5, wipeE e3 vs, acc, avs, s2.trans (s3.trans (s4.trans s5)), R7, ⟨hp6, L6.nf, h0, hr, fun j z => ?_⟩, ra.mono (s3.trans (s4.trans s5)), by omega, t2⟩
            obtain ⟨⟨l, z1⟩, z2⟩ := z
            obtain ⟨b, ws, e5, hb, hfb, h0b, hrb, _⟩ := (R5.wipes vs).sl j _ z1
            rw [eqw, z2] at e5
            cases e5
            have h0b : upd c.H0 A (.lst avs) A = none := h0b
            rw [upd_same] at h0b
            cases h0b
          | true =>
            have t2 := pst_bind.mp (show Pst ((fe e3).bind fun h e4 => (match fz e4 h with
              | some (x, e5) => R.ok (some x) e5
              | none => R.no)) _ _ from t2)
            refine ⟨c.keep A avs, F5, e3, R5, Pst.mono t2 (fun h e4 t3 F6 H6 v s6 R6 r6 => ?_) fun _ z => z.elim⟩
            cases x1 : fz e4 h with
            | none => rw [x1] at t3; exact t3.elim
            | some p =>
              obtain ⟨x, e5⟩ := p
              rw [x1] at t3
              have t3 : LcPost ξ c F σ Q e1 vs (lcLoop vs g ft fe (ds.drop (i + 1)) (acc ++ [x]) (wipeE e5 vs)) := t3
              obtain ⟨F7, s7, R7, rp⟩ := R6.hand r6 x1
              have R7w := R7.wipes vs
              rw [eqw] at R7w
              obtain ⟨R8, hp8, L8⟩ := R7w.unkeep Per.lst h0 f0 hr
              have ra' : Rps F7 acc avs := ra.mono (s3.trans (s4.trans (s5.trans (s6.trans s7))))
              refine ⟨avs, hp8, Nat.lt_of_lt_of_le (show avs.length < 100001 by rw [ra'.len]; omega) (by rw [sizeLine_eq]; decide), _, rfl, hlt, F7, wipeE e5 vs, acc ++ [x], avs ++ [v], s2.trans (s3.trans (s4.trans (s5.trans (s6.trans s7)))), R8.updL L8 hp8 _, ⟨upd_same, L8.nf, h0, hr, L8.no⟩, ra'.app (Rps.one rp), by rw [List.length_append]; simp; omega, t3⟩
    · have e0 : i = ds.length := by omega
      subst e0
      rw [List.drop_length] at q2
      unfold lcLoop at q2
      have q2 : PqN c F σ Q acc (restE e1 vs ew) := q2
      refine .inl ⟨stop rfl, q2 F2 H A avs (s1.trans s2) (Rel.restore (fun v d hd => R1.va_of s2 v d hd) nd R2) ⟨n2.at_, n2.nf, h0, hr, fun j z => ?_⟩ ra⟩
      obtain ⟨⟨l, z1⟩, z2⟩ := z
      obtain ⟨b, ws, e5, hb, hfb, h0b, hrb, _⟩ := (Rel.restore (fun v d hd => R1.va_of s2 v d hd) nd Rk).sl j _ z1
      rw [z2] at e5
      cases e5
      have h0b : upd c.H0 A (.lst avs) A = none := h0b
      rw [upd_same] at h0b
      cases h0b
theorem q_lc {elt iter : Expr} {ifs : List Expr} {scope : Scope} {own : List (Str × Nat)} {ks : List Nat} {fi : Env → R (List D)} {g : D → Env → Option Env} {ft : Env → R Bool} {fe : Env → R Hd} (hc : X.calm = true) (hN : X.N.Nodup) (hi : PI X tg iter (rI ξ fi)) (ok : BlkOk X.N X.env.scope scope own)
    (hks : ∀ k ∈ ks, k ∈ own.map (·.2)) (nd : (own.map (·.2)).Nodup)
    (hg : ∀ (s : Shared) (H : Hp) (C : Addr) (cl : List (Str × Addr)) (fp : List Addr), PG (X.blk s H scope (compEnvC scope cl C X.env) fp) tg (rG per ks g)) (ht : ∀ (s : Shared) (H : Hp) (C : Addr) (cl : List (Str × Addr)) (fp : List Addr), PTs (X.blk s H scope (compEnvC scope cl C X.env) fp) ifs (rT ξ.off ft))
    (he : ∀ (s : Shared) (H : Hp) (C : Addr) (cl : List (Str × Addr)) (fp : List Addr), PE (X.blk s H scope (compEnvC scope cl C X.env) fp) elt (rE ξ.off fe)) (hs : ∀ x, foldedSetIterable iter X.env x = pure x := by intro _; rfl) :
    PE X (.ListComp elt [⟨tg, iter, ifs, 0⟩] scope pos) (rN ξ (lcF (own.map (·.2)) fi g ft fe)) := PE.imp (pe_lc hc hN hi ok hg ht he hs) fun _ _ _ q => lc_sound hks nd q
theorem q_tsnil : PTs X [] (rT ξ yesF) := ⟨fun pins s σ H Q I h => by
  obtain ⟨c, F, e, R, q⟩ := h
  exact pts_nil.run pins s σ H Q I (q F H (Same.refl F) R)⟩
theorem q_tsone {t : Expr} {f : Env → R Bool} (h : PT X t (rT ξ f)) : PTs X [t] (rT ξ f) := pts_one h

/-! ### statements -/
end
inductive SR where
  | nx (e : Env) | bk (e : Env) | ct (e : Env) | rt (d : D) (e : Env) | err (x : Exn) | no
def R.toS {α : Type} (r : R α) (k : α → Env → SR) : SR := match r with
  | .ok a e => k a e
  | .err x => .err x
  | .no => .no
def PqS (ξ : Xi per) (c : Ct per) (F : Hp) (W : Ends) : SR → Prop
  | .nx e' => ∀ F' σ' H', Same F F' → Rel c F' σ' H' e' → W.nx σ' H'
  | .bk e' => ∀ F' σ' H', Same F F' → Rel c F' σ' H' e' → W.bk σ' H'
  | .ct e' => ∀ F' σ' H', Same F F' → Rel c F' σ' H' e' → W.ct σ' H'
  | .rt d e' => ∀ F' σ' H' v, Same F F' → Rel c F' σ' H' e' → Rp F' d v → W.rt v H'
  | .err x => ErrP ξ c x
  | .no => False
theorem PqS.mono {ξ : Xi per} {c : Ct per} {F F1 : Hp} {W : Ends} (s : Same F F1) : ∀ {r : SR}, PqS ξ c F W r → PqS ξ c F1 W r
  | .nx _, q => fun F' σ' H' s' R => q F' σ' H' (s.trans s') R
  | .bk _, q => fun F' σ' H' s' R => q F' σ' H' (s.trans s') R
  | .ct _, q => fun F' σ' H' s' R => q F' σ' H' (s.trans s') R
  | .rt _ _, q => fun F' σ' H' v s' R r => q F' σ' H' v (s.trans s') R r
  | .err _, q => q
  | .no, q => q
def rS (ξ : Xi per) (f : Env → SR) : TS := fun W σ H => ∃ c F e, Rel c F σ H e ∧ PqS ξ c F W (f e)
/-- from an expression's result to a statement's -/
theorem toS_pst {α : Type} {ξ : Xi per} {c : Ct per} {F : Hp} {W : Ends} {r : R α} {k : α → Env → SR} (q : PqS ξ c F W (r.toS k)) : Pst r (fun a e => PqS ξ c F W (k a e)) (ErrP ξ c) := by
  cases r with
  | ok a e => exact q
  | err x => exact q
  | no => exact q
section
variable {X : Cx} {ξ : Xi per} {a b tg : Expr} {pos : Pos} {st : Stmt} {rest : List Stmt}
def seqF (f g : Env → SR) : Env → SR := fun e => match f e with
  | .nx e1 => g e1
  | r => r
def skipF : Env → SR := fun e => .nx e
theorem q_snil : PSs X [] (rS ξ skipF) := PSs.imp pss_nil fun W σ H q => by
  obtain ⟨c, F, e, R, q⟩ := q
  exact q F σ H (Same.refl F) R
theorem q_scons {f g : Env → SR} (h1 : PS X st (rS ξ f)) (h2 : PSs X rest (rS ξ g)) : PSs X (st :: rest) (rS ξ (seqF f g)) := PSs.imp (pss_cons h1 h2) fun W σ H q => by
  obtain ⟨c, F, e, R, q⟩ := q
  refine ⟨c, F, e, R, ?_⟩
  unfold seqF at q
  cases z : f e with
  | nx e1 =>
    rw [z] at q
    exact fun F' σ' H' s R' => ⟨c, F', e1, R', PqS.mono s q⟩
  | bk e1 => rw [z] at q; exact q
  | ct e1 => rw [z] at q; exact q
  | rt d e1 => rw [z] at q; exact q
  | err x => rw [z] at q; exact q
  | no => rw [z] at q; exact q
theorem q_sone {f : Env → SR} (h1 : PS X st (rS ξ f)) : PSs X [st] (rS ξ f) := pss_one h1
def bkF : Env → SR := fun e => .bk e
def ctF : Env → SR := fun e => .ct e
theorem q_break : PS X (.Break pos) (rS ξ bkF) := PS.imp ps_break fun W σ H q => by
  obtain ⟨c, F, e, R, q⟩ := q
  exact q F σ H (Same.refl F) R
theorem q_continue : PS X (.Continue pos) (rS ξ ctF) := PS.imp ps_continue fun W σ H q => by
  obtain ⟨c, F, e, R, q⟩ := q
  exact q F σ H (Same.refl F) R
theorem q_pass : PS X (.Pass pos) (rS ξ skipF) := PS.imp ps_pass fun W σ H q => by
  obtain ⟨c, F, e, R, q⟩ := q
  exact q F σ H (Same.refl F) R
/-- a name gets a value -/
def setF (g : D → Env → Option Env) (f : Env → R Hd) : Env → SR := fun e => (f e).toS fun h e1 => match fz e1 h with
  | some (d, e2) => (match g d e2 with
    | some e3 => .nx e3
    | none => .no)
  | none => .no
theorem set_core {ks : List Nat} {g : D → Env → Option Env} {f : Env → R Hd} {W : Ends} {σ : L2.St} {H : Hp} (q : rS ξ (setF g f) W σ H) : tAsg (rE ξ f) (rG per ks g) W σ H := by
  obtain ⟨c, F, e, R, q⟩ := q
  refine ⟨c, F, e, R, Pst.mono (toS_pst q) (fun h e1 q1 F1 H1 v s1 R1 r1 => ?_) fun _ z => z⟩
  cases x1 : fz e1 h with
  | none => simp only [x1] at q1; exact q1.elim
  | some p =>
    obtain ⟨d, e2⟩ := p
    simp only [x1] at q1
    obtain ⟨F2, s2, R2, rp⟩ := R1.hand r1 x1
    cases x2 : g d e2 with
    | none => simp only [x2] at q1; exact q1.elim
    | some e3 =>
      simp only [x2] at q1
      exact ⟨c, F2, e2, d, e3, R2, rp, x2, fun F3 σ3 H3 s3 R3 _ => q1 F3 σ3 H3 (s1.trans (s2.trans s3)) R3⟩
theorem setk_core {k : Nat} {f : Env → R Hd} {W : Ends} {σ : L2.St} {H : Hp} (q : rS ξ (setF (gNm k) f) W σ H) : tAsg (rE ξ f) (gName k) W σ H := by
  obtain ⟨c, F, e, R, q⟩ := q
  refine ⟨c, F, e, R, Pst.mono (toS_pst q) (fun h e1 q1 F1 H1 v s1 R1 r1 => ?_) fun _ z => z⟩
  cases x1 : fz e1 h with
  | none => simp only [x1] at q1; exact q1.elim
  | some p =>
    obtain ⟨d, e2⟩ := p
    simp only [x1] at q1
    obtain ⟨F2, s2, R2, rp⟩ := R1.hand r1 x1
    unfold gNm at q1
    by_cases hk : k < e2.length
    · simp only [if_pos hk] at q1
      exact q1 F2 _ H1 (s1.trans s2) (R2.set hk rp)
    · simp only [if_neg hk] at q1
      exact q1.elim
theorem q_set (k : Nat) {x : Str} {pos' : Pos} {f : Env → R Hd} (hN : X.N.Nodup) (hi : X.N[k]? = some x) (hx : Loc X.env.scope x) (he : PE X a (rE ξ f)) (hs : swapsWith a (some (.Name x pos')) pos.line X.env = pure false := by rfl) (hf : X.fn x = true ∨ X.env.scope.names.lookup x = some .local := by first | exact .inl rfl | exact .inr rfl | assumption) :
    PS X (.Assign [.Name x pos'] a pos) (rS ξ (setF (gNm k) f)) := PS.imp (ps_set (i := k) hN hi hx he hs hf) fun W σ H q => setk_core q
/-- targets that are not one name -/
theorem q_asg {ks : List Nat} {g : D → Env → Option Env} {f : Env → R Hd} (he : PE X a (rE ξ f)) (hg : PG X tg (rG per ks g)) (hs : swapsWithSole [tg] a pos.line X.env = pure false := by rfl) (hw : swappedStores [tg] a X.env = pure none := by rfl)
    (h1 : (assignEach [tg] X.env).map (·.2) = [assign tg X.env] := by rfl) : PS X (.Assign [tg] a pos) (rS ξ (setF g f)) := PS.imp (ps_asg he hg hs hw h1) fun W σ H q => set_core q
/-- a name gets a new list for itself -/
def setNF (k : Nat) (f : Env → R (List D)) : Env → SR := fun e => (f e).toS fun l e1 => if k < e1.length then .nx (e1.set k (.ow l)) else .no
theorem setN_core {k : Nat} {f : Env → R (List D)} {W : Ends} {σ : L2.St} {H : Hp} (q : rS ξ (setNF k f) W σ H) : tAsg (rN ξ f) (gName k) W σ H := by
  obtain ⟨c, F, e, R, q⟩ := q
  refine ⟨c, F, e, R, Pst.mono (toS_pst q) (fun l e1 q1 F1 H1 p vs s1 R1 n1 r1 => ?_) fun _ z => z⟩
  by_cases hk : k < e1.length
  · simp only [if_pos hk] at q1
    exact q1 F1 _ H1 s1 (R1.setOw hk n1.at_ n1.nf n1.n0 n1.nr n1.no r1)
  · simp only [if_neg hk] at q1
    exact q1.elim
theorem q_setN (k : Nat) {x : Str} {pos' : Pos} {f : Env → R (List D)} (hN : X.N.Nodup) (hi : X.N[k]? = some x) (hx : Loc X.env.scope x) (he : PE X a (rN ξ f)) (hs : swapsWith a (some (.Name x pos')) pos.line X.env = pure false := by rfl) (hf : X.fn x = true ∨ X.env.scope.names.lookup x = some .local := by first | exact .inl rfl | exact .inr rfl | assumption) :
    PS X (.Assign [.Name x pos'] a pos) (rS ξ (setNF k f)) := PS.imp (ps_set (i := k) hN hi hx he hs hf) fun W σ H q => setN_core q
/-- name = [.. for ..] on one line: two forms of the end -/
theorem q_setLc (k : Nat) {y : Str} {py spos : Pos} {elt iter : Expr} {ifs : List Expr} {scope : Scope} {own : List (Str × Nat)} {ks : List Nat} {fi : Env → R (List D)} {g : D → Env → Option Env} {ft : Env → R Bool} {fe : Env → R Hd} (hc : X.calm = true) (hN : X.N.Nodup) (hy : X.N[k]? = some y) (hyl : X.env.scope.names.lookup y = some .local)
    (hsw : swapsWith (.ListComp elt [⟨tg, iter, ifs, 0⟩] scope pos) (some (.Name y py)) spos.line X.env = pure true) (hi : PI X tg iter (rI ξ fi)) (ok : BlkOk X.N X.env.scope scope own)
    (hks : ∀ k ∈ ks, k ∈ own.map (·.2)) (nd : (own.map (·.2)).Nodup)
    (hg : ∀ (s : Shared) (H : Hp) (C : Addr) (cl : List (Str × Addr)) (fp : List Addr), PG (X.blk s H scope (compEnvC scope cl C X.env) fp) tg (rG per ks g)) (ht : ∀ (s : Shared) (H : Hp) (C : Addr) (cl : List (Str × Addr)) (fp : List Addr), PTs (X.blk s H scope (compEnvC scope cl C X.env) fp) ifs (rT ξ.off ft))
    (he : ∀ (s : Shared) (H : Hp) (C : Addr) (cl : List (Str × Addr)) (fp : List Addr), PE (X.blk s H scope (compEnvC scope cl C X.env) fp) elt (rE ξ.off fe)) (hs : ∀ x, foldedSetIterable iter X.env x = pure x := by intro _; rfl) :
    PS X (.Assign [.Name y py] (.ListComp elt [⟨tg, iter, ifs, 0⟩] scope pos) spos) (rS ξ (setNF k (lcF (own.map (·.2)) fi g ft fe))) :=
  PS.imp (ps_setLc (i := k) hc hN hy hyl hsw hi ok hg ht he hs) fun W σ H q => lc_sound hks nd (setN_core q)
/-- a slot's own list becomes plain data -/
def frzS (k : Nat) (f : Env → SR) : Env → SR := fun e => match f e with
  | .nx e1 => (match e1[k]? with
    | some (.ow l) => .nx (e1.set k (.va (.lst l)))
    | _ => .no)
  | r => r
theorem q_frz (k : Nat) {f : Env → SR} (h : PS X st (rS ξ f)) : PS X st (rS ξ (frzS k f)) := PS.imp h fun W σ H q => by
  obtain ⟨c, F, e, R, q⟩ := q
  refine ⟨c, F, e, R, ?_⟩
  unfold frzS at q
  cases z : f e with
  | nx e1 =>
    rw [z] at q
    intro F' σ' H' s R'
    cases hk : e1[k]? with
    | none => simp only [hk] at q; exact q.elim
    | some t =>
      simp only [hk] at q
      cases t <;> try exact q.elim
      obtain ⟨a, vs, e2, sm, R2, r2⟩ := R'.frz hk
      exact q _ σ' H' (s.trans sm) R2
  | bk e1 => rw [z] at q; exact q
  | ct e1 => rw [z] at q; exact q
  | rt d e1 => rw [z] at q; exact q
  | err x => rw [z] at q; exact q
  | no => rw [z] at q; exact q
/-- an expression for its effect -/
def dropF (f : Env → R Hd) : Env → SR := fun e => (f e).toS fun _ e1 => .nx e1
theorem q_expr {f : Env → R Hd} (he : PE X a (rE ξ f)) (hs : swapsWith a none pos.line X.env = pure false := by rfl) : PS X (.Expr a pos) (rS ξ (dropF f)) := PS.imp (ps_expr he hs) fun W σ H q => by
  obtain ⟨c, F, e, R, q⟩ := q
  exact ⟨c, F, e, R, Pst.mono (toS_pst q) (fun h e1 q1 F1 H1 v s1 R1 r1 => q1 F1 σ H1 s1 R1) fun _ z => z⟩
def retF (f : Env → R Hd) : Env → SR := fun e => (f e).toS fun h e1 => match fz e1 h with
  | some (d, e2) => .rt d e2
  | none => .no
theorem q_ret {f : Env → R Hd} (he : PE X a (rE ξ f)) : PS X (.Return (some a) pos) (rS ξ (retF f)) := PS.imp (ps_ret he) fun W σ H q => by
  obtain ⟨c, F, e, R, q⟩ := q
  refine ⟨c, F, e, R, Pst.mono (toS_pst q) (fun h e1 q1 F1 H1 v s1 R1 r1 => ?_) fun _ z => z⟩
  cases x1 : fz e1 h with
  | none => simp only [x1] at q1; exact q1.elim
  | some p =>
    obtain ⟨d, e2⟩ := p
    simp only [x1] at q1
    obtain ⟨F2, s2, R2, rp⟩ := R1.hand r1 x1
    exact q1 F2 σ H1 v (s1.trans s2) R2 rp
def ifS (ft : Env → R Bool) (f g : Env → SR) : Env → SR := fun e => (ft e).toS fun k e1 => if k = true then f e1 else g e1
theorem q_ifS {t : Expr} {p q : List Stmt} {ft : Env → R Bool} {f g : Env → SR} (hc : PT X t (rT ξ ft)) (h1 : PSs X p (rS ξ f)) (h2 : PSs X q (rS ξ g)) : PS X (.If t p q pos) (rS ξ (ifS ft f g)) := PS.imp (ps_if hc h1 h2) fun W σ H q => by
  obtain ⟨c, F, e, R, q⟩ := q
  refine ⟨c, F, e, R, Pst.mono (toS_pst q) (fun k e1 q1 F1 H1 s1 R1 => ?_) fun _ z => z⟩
  cases k with
  | true => exact ⟨c, F1, e1, R1, PqS.mono s1 q1⟩
  | false => exact ⟨c, F1, e1, R1, PqS.mono s1 q1⟩
/-- name += int -/
def augF (k : Nat) (gI : Int → Int → Int) (f : Env → R Hd) : Env → SR := fun e => match e[k]? with
  | some (.va (.int i)) => (f e).toS fun h e1 => (match h with
    | .d (.int j) => if k < e1.length then .nx (e1.set k (.va (.int (gI i j)))) else .no
    | _ => .no)
  | _ => .no
theorem q_aug (k : Nat) {x : Str} {op : Operator} {gI : Int → Int → Int} {pos' : Pos} {f : Env → R Hd} (hN : X.N.Nodup) (hi : X.N[k]? = some x) (hx : Loc X.env.scope x) (he : PE X a (rE ξ f)) (ho : PIp X op (ipI gI)) (hf : X.fn x = true ∨ X.env.scope.names.lookup x = some .local := by first | exact .inl rfl | exact .inr rfl | assumption) :
    PS X (.AugAssign (.Name x pos') op a pos) (rS ξ (augF k gI f)) := PS.imp (ps_aug (i := k) hN hi hx he ho hf) fun W σ H q => by
  obtain ⟨c, F, e, R, q⟩ := q
  unfold augF at q
  cases hk : e[k]? with
  | none => simp only [hk] at q; exact q.elim
  | some s =>
    simp only [hk] at q
    have z := R.sl k s hk
    cases s <;> try exact q.elim
    rename_i d
    cases d <;> try exact q.elim
    rename_i i
    obtain ⟨v, e0, rv⟩ := z
    have rv : v = V.int i := rv
    subst rv
    refine ⟨_, e0, c, F, e, R, Pst.mono (toS_pst q) (fun h e1 q1 F1 H1 w s1 R1 r1 => ?_) fun _ z => z⟩
    cases h with
    | s j => exact q1.elim
    | d y =>
      cases y <;> try exact q1.elim
      rename_i j
      by_cases hl : k < e1.length
      · simp only [if_pos hl] at q1
        exact ⟨i, j, rfl, r1, q1 F1 _ H1 s1 (R1.set hl rfl)⟩
      · simp only [if_neg hl] at q1
        exact q1.elim

/-! ### for, while -/
def forF (g : D → Env → Option Env) (b : Env → SR) : List D → Env → SR
  | [], e => .nx e
  | d :: ds, e => match g d e with
    | none => .no
    | some e1 => match b e1 with
      | .nx e2 => forF g b ds e2
      | .ct e2 => forF g b ds e2
      | .bk e2 => .nx e2
      | r => r
def forS (fi : Env → R (List D)) (g : D → Env → Option Env) (b : Env → SR) : Env → SR := fun e => (fi e).toS fun ds e1 => forF g b ds e1
theorem q_for {iter : Expr} {body : List Stmt} {ks : List Nat} {fi : Env → R (List D)} {g : D → Env → Option Env} {f : Env → SR} (hp : PassesOwn (model X.prog X.w) X.A X.env X.xe) (hc : X.calm = true) (hi : PI X tg iter (rI ξ fi)) (hg : PG X tg (rG per ks g)) (hb : PSs X body (rS ξ f))
    (hs : ∀ x, foldedSetIterable iter X.env x = pure x := by intro _; rfl) : PS X (.For tg iter body [] pos) (rS ξ (forS fi g f)) := PS.imp (ps_for hp hc hi hg hb hs) fun W σ H q => by
  obtain ⟨c, F, e, R, q⟩ := q
  refine ⟨c, F, e, R, Pst.mono (toS_pst q) (fun ds e1 q1 F1 H1 J s1 R1 ok => ?_) fun _ z => z⟩
  refine ⟨fun i m σ H => m = ds.length - i ∧ i ≤ ds.length ∧ ∃ F2 ew, Same F1 F2 ∧ Rel c F2 σ H ew ∧ PqS ξ c F2 W (forF g f (ds.drop i) ew), ⟨ds.length, rfl, Nat.zero_le _, F1, e1, Same.refl F1, R1, PqS.mono s1 q1⟩, fun i m σ H hW => ?_⟩
  obtain ⟨hm, hi, F2, ew, s2, R2, q2⟩ := hW
  obtain ⟨go, stop⟩ := ok c F2 σ H ew i s2 R2
  by_cases hlt : i < ds.length
  · have hd : ds[i]? = some ds[i] := List.getElem?_eq_getElem hlt
    obtain ⟨hgo, yld⟩ := go _ hd
    rw [List.drop_eq_getElem_cons hlt] at q2
    unfold forF at q2
    cases hg : g ds[i] ew with
    | none => rw [hg] at q2; exact q2.elim
    | some e2 =>
      rw [hg] at q2
      simp only at q2
      refine .inr ⟨hgo, fun σ' H' => i + 1 ≤ ds.length ∧ ∃ F2 ew, Same F1 F2 ∧ Rel c F2 σ' H' ew ∧ PqS ξ c F2 W (forF g f (ds.drop (i + 1)) ew), fun σ' H' hN => ⟨ds.length - (i + 1), by omega, rfl, hN⟩, fun x H' y => ?_⟩
      obtain ⟨F3, s3, R3, rx⟩ := yld x H' y
      refine ⟨c, F3, ew, ds[i], e2, R3, rx, hg, fun F4 σ4 H4 s4 R4 _ => ⟨c, F4, e2, R4, ?_⟩⟩
      cases z : f e2 with
      | nx e3 =>
        rw [z] at q2
        exact fun F5 σ5 H5 s5 R5 => ⟨hlt, F5, e3, s2.trans (s3.trans (s4.trans s5)), R5, PqS.mono (s3.trans (s4.trans s5)) q2⟩
      | ct e3 =>
        rw [z] at q2
        exact fun F5 σ5 H5 s5 R5 => ⟨hlt, F5, e3, s2.trans (s3.trans (s4.trans s5)), R5, PqS.mono (s3.trans (s4.trans s5)) q2⟩
      | bk e3 =>
        rw [z] at q2
        exact fun F5 σ5 H5 s5 R5 => q2 F5 σ5 H5 (s3.trans (s4.trans s5)) R5
      | rt d e3 =>
        rw [z] at q2
        exact fun F5 σ5 H5 v s5 R5 r5 => q2 F5 σ5 H5 v (s3.trans (s4.trans s5)) R5 r5
      | err x => rw [z] at q2; exact q2
      | no => rw [z] at q2; exact q2
  · have e0 : i = ds.length := by omega
    subst e0
    rw [List.drop_length] at q2
    exact .inl ⟨stop rfl, q2 F2 σ H (Same.refl F2) R2⟩
def whileF (ft : Env → R Bool) (b : Env → SR) : Nat → Env → SR
  | 0, _ => .no
  | n + 1, e => (ft e).toS fun k e1 => if k = true then (match b e1 with
    | .nx e2 => whileF ft b n e2
    | .ct e2 => whileF ft b n e2
    | .bk e2 => .nx e2
    | r => r) else .nx e1
theorem q_while (n : Nat) {t : Expr} {body : List Stmt} {ft : Env → R Bool} {f : Env → SR} (hp : PassesOwn (model X.prog X.w) X.A X.env X.xe) (hc : PT X t (rT ξ ft)) (hb : PSs X body (rS ξ f)) : PS X (.While t body [] pos) (rS ξ (whileF ft f n)) := PS.imp (ps_while hp hc hb) fun W σ H q => by
  obtain ⟨c, F, e, R, q⟩ := q
  refine ⟨fun m σ H => ∃ F2 ew, Same F F2 ∧ Rel c F2 σ H ew ∧ PqS ξ c F2 W (whileF ft f m ew), ⟨n, F, e, Same.refl F, R, q⟩, fun m σ H hW => ?_⟩
  obtain ⟨F2, ew, s2, R2, q2⟩ := hW
  cases m with
  | zero => exact q2.elim
  | succ m =>
    unfold whileF at q2
    refine ⟨c, F2, ew, R2, Pst.mono (toS_pst q2) (fun k e1 q3 F3 H3 s3 R3 => ?_) fun _ z => z⟩
    cases k with
    | false => exact q3 F3 σ H3 s3 R3
    | true =>
      rw [if_pos rfl] at q3
      rw [if_pos rfl]
      refine ⟨fun σ' H' => ∃ F2 ew, Same F F2 ∧ Rel c F2 σ' H' ew ∧ PqS ξ c F2 W (whileF ft f m ew), fun σ' H' hN => ⟨m, Nat.lt_succ_self m, hN⟩, c, F3, e1, R3, ?_⟩
      cases z : f e1 with
      | nx e3 =>
        rw [z] at q3
        exact fun F5 σ5 H5 s5 R5 => ⟨F5, e3, s2.trans (s3.trans s5), R5, PqS.mono (s3.trans s5) q3⟩
      | ct e3 =>
        rw [z] at q3
        exact fun F5 σ5 H5 s5 R5 => ⟨F5, e3, s2.trans (s3.trans s5), R5, PqS.mono (s3.trans s5) q3⟩
      | bk e3 =>
        rw [z] at q3
        exact fun F5 σ5 H5 s5 R5 => q3 F5 σ5 H5 (s3.trans s5) R5
      | rt d e3 =>
        rw [z] at q3
        exact fun F5 σ5 H5 v s5 R5 r5 => q3 F5 σ5 H5 v (s3.trans s5) R5 r5
      | err x => rw [z] at q3; exact q3
      | no => rw [z] at q3; exact q3

/-! ### own lists changed -/
/-- x.append(e) -/
def setRow (e : Env) (k : Nat) (g : List D → Option (List D)) : Option Env := match e[k]? with
  | some (.ow l) => (g l).map fun l' => e.set k (.ow l')
  | some (.pr l) => (g l).map fun l' => e.set k (.pr l')
  | _ => none
theorem Rel.row {c : Ct per} {F : Hp} {σ : L2.St} {H : Hp} {e e' : Env} {k : Nat} {g : List D → Option (List D)} (R : Rel c F σ H e) (h : setRow e k g = some e') :
    ∃ a vs l l', σ[k]? = some (some (.ref a)) ∧ H a = some (.lst vs) ∧ Rps F l vs ∧ g l = some l' ∧ ∀ F' ws, Same F F' → ∀ H2, Rel c F' σ H2 e → H2 a = some (.lst vs) → Rps F' l' ws → Rel c F' σ (upd H2 a (.lst ws)) e' := by
  unfold setRow at h
  cases hk : e[k]? with
  | none => simp only [hk] at h; cases h
  | some s =>
    simp only [hk] at h
    have z := R.sl k s hk
    cases s <;> try cases h
    · rename_i l
      obtain ⟨l', h1, h2⟩ := Option.map_eq_some_iff.mp h
      obtain ⟨a, vs, e1, ha, hf, h0, hr, r⟩ := z
      exact ⟨a, vs, l, l', e1, ha, r, h1, fun F' ws s H2 R2 _ rw' => by rw [← h2]; exact R2.write hk e1 rw'⟩
    · rename_i l
      obtain ⟨l', h1, h2⟩ := Option.map_eq_some_iff.mp h
      obtain ⟨a, vs, e1, hr, ha, hf, r⟩ := z
      exact ⟨a, vs, l, l', e1, ha, r, h1, fun F' ws s H2 R2 _ rw' => by rw [← h2]; exact R2.writeR hk e1 rw'⟩
def appF (k : Nat) (f : Env → R Hd) : Env → R Hd := fun e => (f e).bind fun h e1 => match fz e1 h with
  | some (d, e2) => (match setRow e2 k fun l => if l.length < 100000 then some (l ++ [d]) else none with
    | some e3 => .ok (.d .non) e3
    | none => .no)
  | none => .no
theorem own_ref {c : Ct per} {F : Hp} {σ : L2.St} {H : Hp} {e : Env} {k : Nat} (R : Rel c F σ H e) (h : (∃ l, e[k]? = some (.ow l)) ∨ ∃ l, e[k]? = some (.pr l)) : ∃ a vs, σ[k]? = some (some (.ref a)) ∧ H a = some (.lst vs) := by
  rcases h with ⟨l, h⟩ | ⟨l, h⟩
  · obtain ⟨a, vs, e1, ha, _⟩ := R.sl k _ h
    exact ⟨a, vs, e1, ha⟩
  · obtain ⟨a, vs, e1, hr, ha, _⟩ := R.sl k _ h
    exact ⟨a, vs, e1, ha⟩
def isOw : Option Sl → Bool
  | some (.ow _) => true
  | some (.pr _) => true
  | _ => false
theorem isOw_ref {c : Ct per} {F : Hp} {σ : L2.St} {H : Hp} {e : Env} {k : Nat} (R : Rel c F σ H e) (h : isOw e[k]? = true) : ∃ a vs, σ[k]? = some (some (.ref a)) ∧ H a = some (.lst vs) := by
  unfold isOw at h
  split at h
  · rename_i l hl
    exact own_ref R (.inl ⟨l, hl⟩)
  · rename_i l hl
    exact own_ref R (.inr ⟨l, hl⟩)
  · cases h
/-- only where the name holds a list of its own from the start -/
def guardO (k : Nat) {α : Type} (f : Env → R α) : Env → R α := fun e => if isOw e[k]? = true then f e else .no
theorem guard_pst {α : Type} {k : Nat} {f : Env → R α} {e : Env} {P : α → Env → Prop} {Er : Exn → Prop} (h : Pst (guardO k f e) P Er) : isOw e[k]? = true ∧ Pst (f e) P Er := by
  unfold guardO at h
  by_cases hz : isOw e[k]? = true
  · rw [if_pos hz] at h
    exact ⟨hz, h⟩
  · rw [if_neg hz] at h
    exact h.elim
theorem app_lt {F : Hp} {l : List D} {vs : List V} (r : Rps F l vs) (h : l.length < 100000) : vs.length < sizeLine := by
  rw [r.len]
  exact Nat.lt_of_lt_of_le h (by rw [sizeLine_eq]; decide)
theorem q_append (k : Nat) {o : Expr} {f : Env → R Hd} (ho : PE X o (tVar k)) (ha : PE X a (rE ξ f))
    (hx : PE X o (tVar k) → PA X [a] (rA ξ (consF f nilF)) → PE X b (tBM X.K "list" rAppend (tVar k) (rA ξ (consF f nilF))))
    (hs : starEach [a] X.env = (false, eval a X.env) :: starEach [] X.env := by rfl) : PE X b (rE ξ (guardO k (appF k f))) :=
  PE.imp (hx ho (q_cons ha q_nil hs)) fun σ H Q q => by
    obtain ⟨c, F, e, R, q⟩ := q
    obtain ⟨g0, q⟩ := guard_pst q
    obtain ⟨a0, vs0, h0, h1⟩ := isOw_ref R g0
    refine ⟨.ref a0, h0, .inl ⟨rfl, vs0, SqL.of h1⟩, c, F, e, R, ?_⟩
    have q := pst_bind.mp q
    refine pst_bind.mpr (Pst.mono q (fun h e1 q1 => ?_) fun _ z => z)
    refine pst_bind.mpr ?_
    intro F1 H1 ws s1 R1 r1
    obtain ⟨v, rr, ew, rv, rn⟩ := r1
    have rn : rr = [] := rn
    subst rn
    cases x1 : fz e1 h with
    | none => simp only [x1] at q1; exact q1.elim
    | some p =>
      obtain ⟨d, e2⟩ := p
      simp only [x1] at q1
      obtain ⟨F2, s2, R2, rp⟩ := R1.hand rv x1
      cases x2 : setRow e2 k fun l => if l.length < 100000 then some (l ++ [d]) else none with
      | none => simp only [x2] at q1; exact q1.elim
      | some e3 =>
        simp only [x2] at q1
        obtain ⟨p, vs, l, l', e4, hp, r, hg, fin⟩ := R2.row x2
        rw [h0] at e4
        cases e4
        by_cases hl : l.length < 100000
        · rw [if_pos hl] at hg
          cases hg
          exact ⟨a0, vs, v, rfl, ew, hp, app_lt r hl, q1 F2 _ _ (s1.trans s2) (fin F2 _ (Same.refl F2) H1 R2 hp (r.app (Rps.one rp))) rfl⟩
        · rw [if_neg hl] at hg
          cases hg
end
end PL
set_option Elab.async false
set_option linter.all false
set_option maxRecDepth 100000
set_option maxHeartbeats 4000000
/-! The pure layer, 7: an own exception class over ValueError whose __init__ says super().__init__(f); self.f = f. -/
namespace PLX
open PySem PySem.Spec PyProof.Rows
open PySem.W PySem.Calls PySem.HandSPX
def iA (f : Str) (p1 p2 : Pos) : Arguments := { posonlyargs := [], args := [{ arg := "self", annotation := none, pos := p1 }, { arg := f, annotation := none, pos := p2 }], vararg := none, kwonlyargs := [], kw_defaults := [], kwarg := none, defaults := [] }
/-- L: the line of super().__init__(f) -/
def iB (f : Str) (L c4 : Nat) (q0 q1 q3 q5 r1 r2 r3 r4 : Pos) : List Stmt :=
  [.Expr (.Call (.Attribute (.Call (.Name "super" q0) [] [] q1) "__init__" ⟨L, 8, L, 24⟩) [.Name f q3] [] ⟨L, 8, L, c4⟩) q5,
   .Assign [.Attribute (.Name "self" r1) f r2] (.Name f r3) r4]
def iS (f : Str) : Scope := { kind := .function, names := [(PySem.Str.ofString "self", .local), (f, .local), (PySem.Str.ofString "__class__", .free), (PySem.Str.ofString "super", .globalImplicit)], isGenerator := false, isCoroutine := false, more := [] }
/-- what the written part says of the class x at C and of its __init__ at fI -/
structure BadTxt (prog : Program) (K : Frag) (mg : Str → Option Value) (x f : Str) (L : Nat) (C fI : Addr) : Prop where
  gC : mg x = some (.ref C)
  cls : ∃ nm q N bs bm sn sub ab col dd k0 k1 k2 k3 k5, K.lookup C = some (excClassObj nm q C N bs bm true sn sub ab col dd k0 k1 k2 k3 k5 "ValueError.__new__") ∧ refsVE bm = true
  sa : findIn K (.ref C) "__setattr__" = some (some (.builtin "object.__setattr__"))
  ga : findIn K (.ref C) "__getattribute__" = some (some (.builtin "BaseException.__getattribute__"))
  gg : findIn K (.ref C) "__getattr__" = some none
  noN : findIn K (.ref C) f = some none
  iC : findIn K (.ref C) "__init__" = some (some (.ref fI))
  tC : typeIn K (.ref fI) = some (.type "function")
  kC : keepIn K (.ref C) = true
  exC : subIn K (.ref C) (.type "BaseException") = some true
  exV : subIn K (.ref C) (.type "ValueError") = some true
  tyC : typeIn K (.ref C) = some (.type "type")
  hdC : hasDictIn K C = true
  sup : ks_superIn K C C "__init__" = some (some (.builtin "ValueError.__init__"))
  opq : nsIn K cStatics "thirdparty.any" = some none
  msub : mroIn K C (.ref C) = some true
  msup : mg "super" = none
  fn : ∃ (oc : Value) (od : Option Addr) (doc pm : Value) (an : Option Addr) (cda : Addr) (ct : Value) (cc : Addr) (osl : Array (Option Value)) (q : Str) (p1 p2 : Pos) (c4 : Nat) (q0 q1 q3 q5 r1 r2 r3 r4 : Pos) (ccl : Value) (cdd : Option Addr) (vs : Array Value) (ccs : Array (Option Value)) (file : Str) (tf : Tok) (cl : Value) (cld : Option Addr) (csl : Array (Option Value)),
    K.lookup fI = some ⟨oc, od, .func (ksFn "__init__" q (iA f p1 p2) (iB f L c4 q0 q1 q3 q5 r1 r2 r3 r4) (iS f) .none .none doc pm an (.ref cda) ct cc), osl⟩ ∧ codeIn K (.ref cda) q = true ∧
    K.lookup cda = some ⟨ccl, cdd, .fields vs, ccs⟩ ∧ vs[2]? = some (.str file tf) ∧ ((prog.main.file : Str) == file) = true ∧ K.lookup cc = some ⟨cl, cld, .cell (some (.ref C)), csl⟩
  ftop : (prog.main.scope.names.lookup ("super" : Str)).isSome = false
  okf : (f = "name" ∧ L = 7) ∨ (f = "name" ∧ L = 10) ∨ (f = "limit" ∧ L = 12) ∨ (f = "limit" ∧ L = 15)
/-- what __init__ leaves of a fresh exception at x -/
structure InitEnd (h h' : Heap) (x C dx t1 : Addr) (f : Str) (v : Value) : Prop where
  keep : ∀ b o, b ≠ x → h.get? b = some o → h'.get? b = some o
  obj : h'.get? x = some { cls := .ref C, dict := some dx, data := .fields #[.ref t1, .none, .none, .none, .bool false, .none] }
  dbig : h.objs.size ≤ dx
  dne : dx ≠ x
  ns : h'.Ns1 dx (fun y => if y = f then some v else none)
/-- a made exception -/
structure OwnMade (h h' : Heap) (e C d : Addr) (f : Str) (v : Value) : Prop where
  keep : ∀ b o, h.get? b = some o → h'.get? b = some o
  new : h.objs.size ≤ e
  obj : ∃ oe vs, h'.get? e = some oe ∧ oe.cls = .ref C ∧ oe.dict = some d ∧ oe.data = .fields vs ∧ vs[1]? = some .none
  dbig : h.objs.size ≤ d
  dne : d ≠ e
  ns : h'.Ns1 d (fun y => if y = f then some v else none)
theorem one_size (v : Value) : [v].length ≤ sizeLine := by
  rw [sizeLine_eq]
  exact (by decide : 1 ≤ 16777216)
theorem kept_but {K : Frag} {h h' : Heap} {x : Addr} (X : K.In h) (hx : K.lookup x = none) (k : ∀ b o, b ≠ x → h.get? b = some o → h'.get? b = some o) : K.In h' := fun a o e =>
  k a o (fun z => by rw [z, hx] at e; cases e) (X a o e)
section
variable {prog : Program} {w : World} {A : Around} {E : Value → Shared → Prop} {R : Result → Shared → Prop} {s : Shared} {K : Frag} {mg : Str → Option Value} {C fI : Addr} {xn f : Str} {L : Nat} {base : Heap}
/-- ValueError's own __init__, bound to the exception, called -/
theorem call_mw {u e t0 : Addr} {rest : List Value} {Q : Value → Shared → Prop} {nm q : Str} {N : Addr} {bs bm : List Value} {sn : List Str} {sub : List Value} {ab : Bool} {col : Option Bool} {dd : Option Addr} {k0 k1 k2 k3 k5 : Option Value}
    (hC : s.heap.get? C = some (excClassObj nm q C N bs bm true sn sub ab col dd k0 k1 k2 k3 k5 "ValueError.__new__")) (he : s.heap.get? e = some (excO C t0)) (hu : s.heap.get? u = some (kxs_mw "ValueError.__init__" e)) (hrest : rest.length ≤ sizeLine)
    (hq : ∀ h' t1, (∀ b o, b ≠ e → s.heap.get? b = some o → h'.get? b = some o) → h'.get? e = some (excO C t1) → Q .none { s with heap := h' }) :
    wpAny (model prog w) A (call (.ref u) rest) Q E s := by
  obtain ⟨h, g, d, t, os⟩ := s
  refine wpAny_call (codeAny_of_tree ?_)
  show wpAny _ A.in1 (callAny (.ref u) ⟨rest, []⟩) _ _ _
  simp only [callAny]
  refine wpAny_bind (wpAny_load hu ?_)
  simp only [kxs_mw, show (Value.type "method-wrapper" == Value.type "method" || Value.type "method-wrapper" == Value.type "builtin_function_or_method" || Value.type "method-wrapper" == Value.type "method-wrapper") = true by decide, if_true]
  refine KFB.if_so (by decide) ?_
  refine wpAny_bind (check_bound_init PySem.F.excBase_ValueError.toExcCallFacts hC he rfl ?_)
  refine wpAny_bind (wpAny_pure (wpAny_pure ?_))
  refine ⟨plainId_quiet PySem.F.excBase_ValueError.init.plain _, codeAny_builtin PySem.F.excBase_ValueError.initEntry ?_⟩
  exact exc_init_tree (cls := .ref C) (t0 := t0) (dv := none) (c2 := .none) (c3 := .none) (b4 := .bool false) he hrest fun h' k e1 e2 => hq h' _ k e1
theorem ldC {M : Model} {env : Env} {m : Str → Option Value} {x : Str} {pos : Pos} {v : Value} {Q : Value → Shared → Prop} (hk : env.scope.kind = .function) (hl : env.scope.names.lookup x = some .local) (hd : (x == ("__debug__" : Str)) = false) (hn : s.heap.Ns env.locals m) (hv : m x = some v) (h : Q v s) : wpAny M A (eval (.Name x pos) env) Q E s :=
  wpAny_Name (wpAny_loadName_local hk hl hn hv h) hd
theorem ns_but {h h2 : Heap} {L x : Addr} {m : Str → Option Value} (hn : h.Ns L m) (ne : L ≠ x) (k : ∀ b o, b ≠ x → h.get? b = some o → h2.get? b = some o) : h2.Ns L m := by
  obtain ⟨o, es, ep, e, r⟩ := hn
  exact ⟨o, es, ep, k _ _ ne e, r⟩
theorem bad_init (T : BadTxt prog K mg xn f L C fI) {x t0 : Addr} {v : Value} (X : K.In s.heap) (hg : s.heap.Ns mainGlobals mg) (hb : ∃ mb, s.heap.Ns builtinsNs mb ∧ ∀ y : Str, y ≠ "__name__" → mb y = bootBuiltins y) (hlim : s.heap.NoLimit) (hx : s.heap.get? x = some (excO C t0)) (hnx : K.lookup x = none) (hroom : A.depth < recursionLimit)
    (hq : ∀ h' tk dx t1, InitEnd s.heap h' x C dx t1 f v → R (.ok (.ret .none)) { s with heap := h', toks := tk }) :
    codeAny (model prog w) A (.call (.ref fI) ⟨[.ref x, v], []⟩) R s := by
  obtain ⟨oc, od, doc, pm, an, cda, ct, cc, osl, q, p1, p2, c4, q0, q1, q3, q5, r1, r2, r3, r4, ccl, cdd, vs, ccs, file, tf, cl, cld, csl, ho, hcd, hcode, hvs, hfile, hcell⟩ := T.fn
  obtain ⟨nm, qc, N, bs, bm, sn, sub, ab, col, dd, k0, k1, k2, k3, k5, hC, hbm⟩ := T.cls
  obtain ⟨mb, hb1, hb2⟩ := hb
  have hcl : clsIn K C = some { name := nm, bases := bs, mro := .ref C :: bm, ns := N, qualname := qc, hasDict := true, slotNames := sn, subclasses := sub, abstract := ab, collection := col, hasDel := false } := by unfold clsIn; rw [hC] <;> rfl
  rcases T.okf with ⟨rfl, rfl⟩ | ⟨rfl, rfl⟩ | ⟨rfl, rfl⟩ | ⟨rfl, rfl⟩ <;>
  (refine ks_codeAny_call_defAt (fd := ksFn "__init__" q (iA _ p1 p2) (iB _ _ c4 q0 q1 q3 q5 r1 r2 r3 r4) (iS _) .none .none doc pm an (.ref cda) ct cc) (body := iB _ _ c4 q0 q1 q3 q5 r1 r2 r3 r4) (binds := [((PySem.Str.ofString "self"), .ref x), (_, v)]) hroom (X _ _ ho) rfl hlim (codeRec_of X hcd) rfl (BindsTo.of_eq rfl) (show ∀ y ∈ (iS _).names, y.2 ≠ .cell from by decide) (locs rfl) (fun h₁ hns hk => ?_)
   have X1 : K.In h₁ := X.keeps hk
   have hx1 := hk _ _ hx
   have hC1 := X1 _ _ hC
   have neL : s.heap.objs.size ≠ x := Nat.ne_of_gt (Heap.lt_size hx)
   -- super().__init__(f)
   show _root_.PySem.wpAt (model prog w) _ _ (execs (iB _ _ c4 q0 q1 q3 q5 r1 r2 r3 r4) _) _ _ _
   refine ks_wpAt_execs_cons (ks_wpAt_Expr_any (ks_wpAt_MethodCall ?_) rfl rfl)
   have ISx : InstAt h₁ x (excO C t0) C none := ⟨hx1, rfl, rfl, trivial⟩
   refine ks_wpAt_super_base (env := ksEnv q (iS _) s.heap.objs.size fI (.ref cda) cc) rfl rfl (by decide) rfl (hk _ _ (X _ _ ho)) rfl rfl rfl (X1 _ _ hcode) rfl hvs hfile T.ftop ?_
   refine ks_loadName_global rfl rfl (loadGlobal_builtin (env := ksEnv q (iS _) s.heap.objs.size fI (.ref cda) cc) (hg.keeps hk) T.msup (hb1.keeps hk) ((hb2 _ (by decide +kernel)).trans (show bootBuiltins "super" = some (.type "super") from by first | boot_by_name | rfl | kernel_rfl)) ⟨rfl, ?_⟩)
   refine wpAny_loadName_free rfl rfl rfl ⟨_, X1 _ _ hcell, rfl⟩ ?_
   refine wpAny_loadName_local rfl rfl hns rfl ?_
   refine ks_wpAny_isType_cls hC1 rfl ⟨rfl, ?_⟩
   refine ks_wpAny_call_super hC1 rfl ISx.at_ rfl (fun c e => by cases e) (looks_mroIn X1 T.msub) (fun h2 e2 k2 => ?_)
   have X2 : K.In h2 := X1.keeps k2
   have hm := T.sup
   unfold ks_superIn at hm
   rw [hcl] at hm
   have hx2 := k2 _ _ hx1
   refine kxs_getMethod kxs_ValueError e2 (looks_opaque X2 T.opq) (l₀ := .ref C :: bm) (fun A Q E s k q => wpAny_bind ((looks_clsIn X2 hcl) A _ E s k (wpAny_pure q))) rfl X2 hm ((show InstAt h2 x (excO C t0) C none from ⟨hx2, rfl, rfl, trivial⟩).type.andThen (looks_subIn X2 T.exV)) (fun z => by rw [z, hC1] at hx1; cases hx1) (by decide) ?_
   have k3 : ∀ b o, h2.get? b = some o → (h2.push (kxs_mw "ValueError.__init__" x)).get? b = some o := fun b o e => Heap.get?_push_of_some _ e
   have hu : (h2.push (kxs_mw "ValueError.__init__" x)).get? h2.objs.size = some (kxs_mw "ValueError.__init__" x) := Heap.get?_push_size _ rfl
   refine kxs_callWith (i := "ValueError.__init__") (x := x) rfl (evalArgs_plain ?_)
   refine spliced_cons (ldC rfl rfl (by decide) (ns_but hns neL fun b o _ e => k3 _ _ (k2 _ _ e)) rfl ?_)
   refine spliced_nil ⟨hu, ?_⟩
   refine call_mw (t0 := t0) (k3 _ _ (k2 _ _ hC1)) (k3 _ _ hx2) hu (one_size v) (fun h4 t1 k4 e4 => ?_)
   -- self.f = f
   have k04 : ∀ b o, b ≠ x → h₁.get? b = some o → h4.get? b = some o := fun b o hb e => k4 b o hb (k3 _ _ (k2 _ _ e))
   have X4 : K.In h4 := kept_but X1 hnx k04
   have n4 := ns_but hns neL k04
   show _root_.PySem.wpAt (model prog w) _ _ (execs [.Assign [.Attribute (.Name "self" r1) _ r2] (.Name _ r3) r4] _) _ _ _
   refine ks_wpAt_execs_cons (ks_wpAt_Assign_Attr (wpAt_of_wpAny (ldC rfl rfl (by decide) n4 rfl (ldC rfl rfl (by decide) n4 rfl ?_))))
   refine set_plain X4 (ox := excO C t1) (od := none) ⟨e4, rfl, rfl, trivial⟩ T.sa ?_
   refine PySem.HandSPX.exc_osa X4 e4 hcl (show refsVE (.ref C :: bm) = true from hbm) rfl T.noN (fun h5 tk5 dx k5 dn dne hx5 hn5 => ?_)
   show _root_.PySem.wpAt (model prog w) _ _ (execs [] _) _ _ _
   refine wpAt_of_wpAny (wpAny_execs_nil (hq h5 tk5 dx t1 ⟨fun b o hb e => k5 b o hb (k04 b o hb (hk b o e)), hx5, ?_, dne, hn5⟩))
   obtain ⟨_, _, _, eL, _⟩ := n4
   exact Nat.le_of_lt (Nat.lt_of_lt_of_le (Heap.lt_size eL) dn))
theorem bad_made (T : BadTxt prog K mg xn f L C fI) {v : Value} (X : K.In s.heap) (hg : s.heap.Ns mainGlobals mg) (hb : ∃ mb, s.heap.Ns builtinsNs mb ∧ ∀ y : Str, y ≠ "__name__" → mb y = bootBuiltins y) (hlim : s.heap.NoLimit) (hroom : A.depth + 1 < recursionLimit)
    (hq : ∀ h' tk e d, OwnMade s.heap h' e C d f v → R (.ok (.ret (.ref e))) { s with heap := h', toks := tk }) :
    codeAny (model prog w) A (.call (.ref C) ⟨[v], []⟩) R s := by
  obtain ⟨nm, q, N, bs, bm, sn, sub, ab, col, dd, k0, k1, k2, k3, k5, hC, hbm⟩ := T.cls
  obtain ⟨hp, g, dr, tk, os⟩ := s
  have k : ∀ b o, hp.get? b = some o → ((hp.push (kdv_tup [v])).push (excO C hp.objs.size)).get? b = some o := fun b o e => Heap.get?_push_of_some _ (Heap.get?_push_of_some _ e)
  have hget : ((hp.push (kdv_tup [v])).push (excO C hp.objs.size)).get? (hp.objs.size + 1) = some (excO C hp.objs.size) := by heap_get
  have hnx : K.lookup (hp.objs.size + 1) = none := by
    cases e : K.lookup (hp.objs.size + 1) with
    | none => rfl
    | some o =>
      have z : hp.get? (hp.objs.size + 1) = some o := X _ _ e
      exact absurd (Nat.lt_of_succ_lt (Heap.lt_size z)) (Nat.lt_irrefl _)
  obtain ⟨mb, hb1, hb2⟩ := hb
  refine call_own PySem.F.excBase_ValueError (fun X => refsVE_contains X bm hbm) (X _ _ hC) (looks_findIn X T.iC) (fun self => bind_fn X self T.tC) (one_size v) ?_
  refine bad_init (s := ⟨(hp.push (kdv_tup [v])).push (excO C hp.objs.size), g, dr, tk, os⟩) T (X.keeps k) (hg.keeps k) ⟨mb, hb1.keeps k, hb2⟩ (hlim.keeps k) hget hnx ?_ fun h' tk' dx t1 M => ?_
  · show A.depth + 1 < recursionLimit
    exact hroom
  · have old : ∀ b o, hp.get? b = some o → h'.get? b = some o := fun b o e => M.keep b o (Nat.ne_of_lt (Nat.lt_succ_of_lt (Heap.lt_size e))) (k b o e)
    have z : hp.objs.size + 1 + 1 ≤ dx := by
      have q := M.dbig
      first
        | (simpa only [Heap.size_push] using q)
        | exact q
        | (rw [Heap.size_push, Heap.size_push] at q; exact q)
    exact ⟨rfl, hq h' tk' (hp.objs.size + 1) dx ⟨old, Nat.le_succ _, ⟨_, _, M.obj, rfl, rfl, rfl, rfl⟩, Nat.le_trans (Nat.le_trans (Nat.le_succ _) (Nat.le_succ _)) z, M.dne, M.ns⟩⟩
end
end PLX
set_option Elab.async false
set_option linter.all false
set_option maxRecDepth 100000
set_option maxHeartbeats 4000000
/-! The pure layer, 8: the errors raised; defs and their calls. -/
namespace PLX
open PySem PySem.Spec PyProof.Rows L2
section
variable {X : Cx} {C fI : Addr} {x f : Str} {L : Nat}
/-- C(e), C an own class whose __init__ keeps its argument in f -/
theorem pmk_bad {a : Expr} {ta : TA} {p pos : Pos} {k : Nat} (T : BadTxt X.prog X.K X.mg x f L C fI) (hr : Room k X.A) (hk : 1 ≤ k) (ha : PA X [a] ta) (hg : Gl X x) (hdb : (x == ("__debug__" : Str)) = false := by decide)
    (he : starEach (a :: []) X.env = (false, eval a X.env) :: starEach [] X.env := by rfl) (hpl : (backTo pos (starEach [] X.env)).any (·.1) = false := by rfl) :
    PMk X (.Call (.Name x p) [a] [] pos) (fun σ H Q => ta σ H fun vs H1 => ∃ v, vs = [v] ∧ ∀ d, H1 d = none → Q (.ref C) (some d) (upd H1 d (.xd [(f, v)]))) := by
  intro pins s σ H Q I h
  refine wpAny_Call_Name_kw (ld_glob I hg T.gC ?_ hdb)
  refine PySem.W.callWith_K (h₀ := X.base) I.ok.mod.kin T.kC (thn (ha.run pos pins s σ H _ I h) fun us s1 hh => ?_) he hpl
  obtain ⟨vs, H1, I1, r1, v, ev, q1⟩ := hh
  subst ev
  refine ⟨I1.kIn, ?_⟩
  cases r1 with
  | cons rv rn =>
    rename_i v' us'
    cases rn
    show wpAny _ _ (call (.ref C) [v']) _ _ _
    have hlim := I1.nolimit
    have hgl := I1.ok.mod.glob.keeps I1.bk
    obtain ⟨mb, hb1, hb2⟩ := I1.ok.mod.blt
    have hb1' := hb1.keeps I1.bk
    obtain ⟨hp, g, dr, tk, os⟩ := s1
    refine wpAny_call (bad_made T I1.kIn hgl ⟨mb, hb1', hb2⟩ hlim (by have := hr.dp; omega) fun h' tk' e d M => ?_)
    show MkP X pins σ Q (.ref e) ⟨h', g, dr, tk', os⟩
    obtain ⟨oe, fv, hoe, hc, hd, hdat, h1⟩ := M.obj
    have hns := M.ns
    obtain ⟨G', g1, g2⟩ := restrict h' fun b => decide (b ≠ e)
    have gk : ∀ b, b ≠ e → G'.get? b = h'.get? b := fun b hb => g1 b (decide_eq_true hb)
    have ge : G'.get? e = none := g2 e (by simp)
    have old : ∀ b o, hp.get? b = some o → G'.get? b = some o := fun b o q => (gk b (Nat.ne_of_lt (Nat.lt_of_lt_of_le (Heap.lt_size q) M.new))).trans (M.keep b o q)
    have rel : ∀ y : Str, RelO (List.lookup y [(f, v)]) (if y = f then some v' else none) := fun y => by
      by_cases hw : y = f
      · subst hw
        rw [if_pos rfl]
        have q : List.lookup y [(y, v)] = some v := by simp [List.lookup]
        rw [q]
        exact rv
      · rw [if_neg hw]
        have qw : (y == f) = false := by simpa using hw
        have q2 : List.lookup y [(f, v)] = none := by simp [List.lookup, qw]
        rw [q2]
        trivial
    have ob : ObjOk X.prog X.w (upd H1 d (.xd [(f, v)])) G' d (.xd [(f, v)]) :=
      ⟨_, hns.at (fun o q => (gk d M.dne).trans q), rel⟩
    have J : Inv X pins σ (upd H1 d (.xd [(f, v)])) ⟨G', g, dr, tk', os⟩ := I1.laid (t' := tk') old M.dbig ob
    refine ⟨e, oe, fv, ⟨G', g, dr, tk', os⟩, _, .ref C, some d, rfl, J, fun b o q => ?_, ge, hoe, ⟨hc, hd⟩, hdat, h1, ?_, rfl, I1.bare, raises_own T.exC T.tyC, q1 d (I1.hok.fresh M.dbig)⟩
    · by_cases hb : b = e
      · have q' : G'.get? b = some o := q
        rw [hb, ge] at q'; cases q'
      · exact (gk b hb).symm.trans q
    · rw [upd_ne (Ne.symm M.dne)]
      exact I1.hok.fresh M.new
end
end PLX
set_option Elab.async false
set_option linter.all false
set_option maxRecDepth 100000
set_option maxHeartbeats 4000000
/-! The pure layer, 9: the errors raised; defs and their calls. -/
namespace PL
open PySem PySem.Spec PyProof.Rows L2
section
variable {X : Cx} {ξ : Xi per} {a : Expr} {C fI : Addr} {x f : Str} {L k : Nat} {pos pos2 p : Pos}
def excOf (f : Str) : List D → Option Exn
  | [.str n] => if f = "name" then some (.bad n) else none
  | [.int i] => if f = "limit" then some (.many i) else none
  | _ => none
def raiseF (f : Str) (t : Env → R (List Hd)) : Env → SR := fun e => (t e).toS fun hs e1 => match fzs e1 hs with
  | some (ds, _) => match excOf f ds with
    | some x => .err x
    | none => .no
  | none => .no
theorem nl_ne : ("name" : Str) ≠ "limit" := by decide +kernel
theorem excOf_some {f : Str} {ds : List D} {x : Exn} (h : excOf f ds = some x) : (∃ n, ds = [.str n] ∧ f = "name" ∧ x = .bad n) ∨ (∃ i, ds = [.int i] ∧ f = "limit" ∧ x = .many i) := by
  unfold excOf at h
  split at h
  · rename_i n
    split at h
    · rename_i hf
      cases h
      exact .inl ⟨n, rfl, hf, rfl⟩
    · cases h
  · rename_i i
    split at h
    · rename_i hf
      cases h
      exact .inr ⟨i, rfl, hf, rfl⟩
    · cases h
  · cases h
theorem exc_of_ok {ξ : Xi per} {f : Str} {ds : List D} {vs : List V} {F H : Hp} {x : Exn} {C d : Addr} (r : Rps F ds vs) (h : excOf f ds = some x) (hC : (f = "name" ∧ C = ξ.cb) ∨ (f = "limit" ∧ C = ξ.cm)) : ∃ v, vs = [v] ∧ ExcP ξ x (.ref C) (some d) (upd H d (.xd [(f, v)])) := by
  rcases excOf_some h with ⟨n, e1, e2, e3⟩ | ⟨n, e1, e2, e3⟩
  · subst e1 e3
    obtain ⟨v, w, e, r1, r2⟩ := r
    have r1 : v = .str n := r1
    have r2 : w = [] := r2
    subst r1
    subst r2
    refine ⟨_, e, ?_⟩
    rcases hC with ⟨_, hC⟩ | ⟨h2, _⟩
    · rw [hC, e2]
      exact ⟨rfl, d, rfl, upd_same⟩
    · exact absurd (e2.symm.trans h2) nl_ne
  · subst e1 e3
    obtain ⟨v, w, e, r1, r2⟩ := r
    have r1 : v = .int n := r1
    have r2 : w = [] := r2
    subst r1
    subst r2
    refine ⟨_, e, ?_⟩
    rcases hC with ⟨h2, _⟩ | ⟨_, hC⟩
    · exact absurd (h2.symm.trans e2) nl_ne
    · rw [hC, e2]
      exact ⟨rfl, d, rfl, upd_same⟩
theorem q_raise {t : Env → R (List Hd)} (hc : X.calm = true) (T : PLX.BadTxt X.prog X.K X.mg x f L C fI) (hC : (f = "name" ∧ C = ξ.cb) ∨ (f = "limit" ∧ C = ξ.cm)) (tk : Takes X (fun cls d _ H => ξ.E cls d H)) (hr : Room k X.A) (hk : 1 ≤ k) (hg : Gl X x) (ha : PA X [a] (rA ξ t)) (hdb : (x == ("__debug__" : Str)) = false := by decide)
    (he : starEach (a :: []) X.env = (false, eval a X.env) :: starEach [] X.env := by rfl) (hpl : (backTo pos (starEach [] X.env)).any (·.1) = false := by rfl) :
    PS X (.Raise (some (.Call (.Name x p) [a] [] pos)) none pos2) (rS ξ (raiseF f t)) := PS.imp (ps_raise hc tk (PLX.pmk_bad T hr hk ha hg hdb he hpl)) fun W σ H q => by
  obtain ⟨c, F, e, R, q⟩ := q
  refine ⟨c, F, e, R, Pst.mono (toS_pst q) (fun hs e1 q1 F1 H1 vs s1 R1 r1 => ?_) fun _ z => z⟩
  cases x1 : fzs e1 hs with
  | none => rw [x1] at q1; exact q1.elim
  | some pr =>
    obtain ⟨ds, e2⟩ := pr
    rw [x1] at q1
    simp only at q1
    obtain ⟨F2, s2, R2, rp⟩ := R1.hands r1 x1
    cases x2 : excOf f ds with
    | none => rw [x2] at q1; exact q1.elim
    | some xx =>
      rw [x2] at q1
      simp only at q1
      have q1 : ErrP ξ c xx := q1
      obtain ⟨v, ev, _⟩ := exc_of_ok (ξ := ξ) (d := 0) (H := H1) rp x2 hC
      refine ⟨v, ev, fun d hd => ?_⟩
      obtain ⟨v', ev', ex⟩ := exc_of_ok (ξ := ξ) (d := d) (H := H1) rp x2 hC
      rw [ev] at ev'
      cases ev'
      refine q1 _ _ _ ex (fun b o hb hz kk => ?_) (fun b o hb => ?_) (Per.new R1.pf hd).2
      · have hb1 := R1.kp b o hb hz kk
        rw [upd_ne (ne_of_none hb1 hd)]
        exact hb1
      · obtain ⟨o', ho'⟩ := R1.kt b o hb
        exact ⟨o', (upd_ne (ne_of_none ho' hd)).trans ho'⟩
end
end PL
set_option Elab.async false
set_option linter.all false
set_option maxRecDepth 100000
set_option maxHeartbeats 4000000
/-! The pure layer, 8: the errors raised; defs and their calls. -/
namespace PL
open PySem PySem.Spec PyProof.Rows L2
/-! ### defs -/
def per0 : Per := ⟨fun _ => True, fun _ => True, fun _ _ _ _ => trivial, fun _ _ _ _ => trivial, false, fun _ => False, fun _ _ _ z => z.elim⟩
inductive FR where
  | ok (d : D) | err (x : Exn) | no
def spF (P : Hp → Hp → Prop) (cb cm : Addr) (n : Nat) (g : List D → FR) : Sp := fun vs H Q E => ∃ F ds, Same F H ∧ P F H ∧ Rps F ds vs ∧ ds.length = n ∧ match g ds with
  | .ok d => ∀ F' H' v, Same F F' → Same F' H' → (∀ a o, F' a = some o → F a = some o ∨ (H a = none ∧ NT o)) → Same H H' → Rp F' d v → Q v H'
  | .err x => ∀ cls dd H', ExcP (per := per0) ⟨E, cb, cm⟩ x cls dd H' → Same H H' → E cls dd H'
  | .no => False
/-- .. whose first argument is the row -/
def spR (P : Hp → Hp → Prop) (cb cm : Addr) (n : Nat) (g : List D → List D → Option (D × List D)) : Sp := fun vs H Q E => ∃ F l ds a ws us, vs = .ref a :: us ∧ H a = some (.lst ws) ∧ F a = none ∧ Rps F l ws ∧ Same F H ∧ P F H ∧ Rps F ds us ∧ ds.length = n ∧ match g l ds with
  | some (d, l') => ∀ F' H' v ws', Same F F' → Same F' H' → (∀ b o, F' b = some o → F b = some o ∨ (H b = none ∧ NT o)) → (∀ b o, b ≠ a → H b = some o → H' b = some o) → H' a = some (.lst ws') → F' a = none → Rps F' l' ws' → Rp F' d v → Q v H'
  | none => False
def runF (φ : Env → SR) (m : Nat) (ds : List D) : FR := match φ (ds.map Sl.va ++ List.replicate (m - ds.length) Sl.no) with
  | .nx _ => .ok .non
  | .rt d _ => .ok d
  | .err x => .err x
  | _ => .no
def rowOf (d : D) (e : Env) : Option (D × List D) := match e[(0 : Nat)]? with
  | some (.pr l) => some (d, l)
  | _ => none
def runR (φ : Env → SR) (m : Nat) (l : List D) (ds : List D) : Option (D × List D) := match φ (Sl.pr l :: (ds.map Sl.va ++ List.replicate (m - (ds.length + 1)) Sl.no)) with
  | .nx e => rowOf .non e
  | .rt d e => rowOf d e
  | _ => none
theorem spF_len {cb cm : Addr} {n : Nat} {g : List D → FR} : ∀ vs H Q E, spF P cb cm n g vs H Q E → vs.length = n := fun vs H Q E ⟨F, ds, _, _, r, hl, _⟩ => r.len.trans hl
theorem spR_len {cb cm : Addr} {n : Nat} {g : List D → List D → Option (D × List D)} : ∀ vs H Q E, spR P cb cm n g vs H Q E → vs.length = n + 1 := fun vs H Q E ⟨F, l, ds, a, ws, us, ev, _, _, _, _, _, r, hl, _⟩ => by
  rw [ev, List.length_cons, r.len.trans hl]
theorem spF.mono {cb cm : Addr} {n : Nat} {g g' : List D → FR} (h : ∀ ds, ds.length = n → g ds ≠ .no → g' ds = g ds) : ∀ vs H Q E, spF P cb cm n g vs H Q E → spF P cb cm n g' vs H Q E := fun vs H Q E ⟨F, ds, s, pf, r, hl, q⟩ => by
  refine ⟨F, ds, s, pf, r, hl, ?_⟩
  have : g' ds = g ds := h ds hl fun z => by rw [z] at q; exact q
  rw [this]
  exact q
theorem start_get {N : List Str} {vs : List V} {i : Nat} {v : V} (h : vs[i]? = some v) : (L2.start N vs)[i]? = some (some v) := by
  unfold L2.start
  have hi : i < vs.length := (List.getElem?_eq_some_iff.mp h).1
  rw [List.getElem?_append_left (by rw [List.length_map]; exact hi), List.getElem?_map, h]
  rfl
theorem start_len {N : List Str} {vs : List V} (h : vs.length ≤ N.length) : (L2.start N vs).length = N.length := by
  unfold L2.start
  rw [List.length_append, List.length_map, List.length_replicate]
  omega
theorem vaE_get {ds : List D} {n i : Nat} {s : Sl} (h : (ds.map Sl.va ++ List.replicate n Sl.no)[i]? = some s) : s = .no ∨ ∃ d, s = .va d ∧ ds[i]? = some d := by
  rcases Nat.lt_or_ge i (ds.map Sl.va).length with hi | hi
  · rw [List.getElem?_append_left hi, List.getElem?_map] at h
    cases q : ds[i]? with
    | none => rw [q] at h; cases h
    | some d =>
      rw [q] at h
      cases h
      exact .inr ⟨d, rfl, rfl⟩
  · rw [List.getElem?_append_right hi, List.getElem?_replicate] at h
    split at h
    · cases h; exact .inl rfl
    · cases h
/-- at a def's entry -/
theorem Rel.start {per : Per} {F H : Hp} {ds : List D} {vs : List V} {N : List Str} (f0t : per.lam = true → ∀ a o, F a = some o → NT o) (h0t : per.lam = true → ∀ a ps, H a = some (.tbl ps) → per.tab a) (sm : Same F H) (pf : per.P F H) (r : Rps F ds vs) (hl : ds.length ≤ N.length) : Rel (per := per) ⟨F, H, none, f0t, h0t⟩ F (L2.start N vs) H (ds.map Sl.va ++ List.replicate (N.length - ds.length) Sl.no) := by
  have no : ∀ i a, ¬ OwnA (ds.map Sl.va ++ List.replicate (N.length - ds.length) Sl.no) (L2.start N vs) i a := fun i a h => by
    obtain ⟨⟨l, h1⟩, _⟩ := h
    rcases vaE_get h1 with z | ⟨d, z, _⟩ <;> cases z
  refine ⟨sm, Same.refl F, fun a o q => .inl q, fun a o q _ _ => q, fun a z => (by cases z), ?_, fun i s q => ?_, fun i j a h => absurd h (no i a), fun i l q => ?_, fun a o q => ⟨o, q⟩, pf⟩
  · rw [start_len (by rw [r.len]; exact hl), List.length_append, List.length_map, List.length_replicate]
    omega
  · rcases vaE_get q with z | ⟨d, z, hd⟩
    · subst z; trivial
    · subst z
      obtain ⟨v, hv, rv⟩ := r.get hd
      exact ⟨v, start_get hv, rv⟩
  · rcases vaE_get q with z | ⟨d, z, _⟩ <;> cases z
theorem Rel.startR {per : Per} {F H : Hp} {l ds : List D} {a : Addr} {ws us : List V} {N : List Str} (ha : H a = some (.lst ws)) (hf : F a = none) (rl : Rps F l ws) (f0t : per.lam = true → ∀ a o, F a = some o → NT o) (h0t : per.lam = true → ∀ a ps, H a = some (.tbl ps) → per.tab a) (sm : Same F H) (pf : per.P F H) (r : Rps F ds us) (hl : ds.length + 1 ≤ N.length) :
    Rel (per := per) ⟨F, H, some a, f0t, h0t⟩ F (L2.start N (.ref a :: us)) H (Sl.pr l :: (ds.map Sl.va ++ List.replicate (N.length - (ds.length + 1)) Sl.no)) := by
  have at_ : ∀ i s, (Sl.pr l :: (ds.map Sl.va ++ List.replicate (N.length - (ds.length + 1)) Sl.no))[i]? = some s → (i = 0 ∧ s = .pr l) ∨ (s = .no ∨ ∃ d j, s = .va d ∧ i = j + 1 ∧ ds[j]? = some d) := fun i s h => by
    cases i with
    | zero => cases h; exact .inl ⟨rfl, rfl⟩
    | succ i =>
      rw [List.getElem?_cons_succ] at h
      rcases vaE_get h with z | ⟨d, z, hd⟩
      · exact .inr (.inl z)
      · exact .inr (.inr ⟨d, i, z, rfl, hd⟩)
  have no : ∀ i b, ¬ OwnA (Sl.pr l :: (ds.map Sl.va ++ List.replicate (N.length - (ds.length + 1)) Sl.no)) (L2.start N (.ref a :: us)) i b := fun i b h => by
    obtain ⟨⟨l2, h1⟩, _⟩ := h
    rcases at_ _ _ h1 with ⟨_, z⟩ | z | ⟨d, j, z, _⟩ <;> cases z
  refine ⟨sm, Same.refl F, fun a o q => .inl q, fun a o q _ _ => q, fun b z => ?_, ?_, fun i s q => ?_, fun i j b h => absurd h (no i b), fun i l2 q => ?_, fun a o q => ⟨o, q⟩, pf⟩
  · have z : some a = some b := z
    cases z
    exact ⟨hf, _, ha⟩
  · rw [start_len (by rw [List.length_cons, r.len]; exact hl), List.length_cons, List.length_append, List.length_map, List.length_replicate]
    omega
  · rcases at_ _ _ q with ⟨z, zs⟩ | zs | ⟨d, j, zs, z, hd⟩
    · subst zs; subst z
      exact ⟨a, ws, start_get rfl, rfl, ha, hf, rl⟩
    · subst zs; trivial
    · subst zs; subst z
      obtain ⟨v, hv, rv⟩ := r.get hd
      exact ⟨v, start_get (by rw [List.getElem?_cons_succ]; exact hv), rv⟩
  · rcases at_ _ _ q with ⟨z, _⟩ | z | ⟨d, j, z, _⟩
    · exact z
    · cases z
    · cases z
theorem Rel.same {c : Ct per} {F : Hp} {σ : L2.St} {H : Hp} {e : Env} (R : Rel c F σ H e) (hl : per.lam = false) (h : c.rw = none) : Same c.H0 H := fun a o q => R.kp a o q (by rw [h]; intro z; cases z) (.inl hl)
theorem runF_ends {per : Per} (hlam : per.lam = false) {φ : Env → SR} {F H : Hp} {ds : List D} {vs : List V} {N : List Str} {cb cm : Addr} {n : Nat} {Q : VK} {E E' : XK} (hN : n ≤ N.length) (hE : ∀ x, φ (ds.map Sl.va ++ List.replicate (N.length - ds.length) Sl.no) = .err x → E' = E)
    (h : Same F H ∧ per.P F H ∧ Rps F ds vs ∧ ds.length = n ∧ match runF φ N.length ds with
      | .ok d => ∀ F' H' v, Same F F' → Same F' H' → (∀ a o, F' a = some o → F a = some o ∨ (H a = none ∧ NT o)) → Same H H' → Rp F' d v → Q v H'
      | .err x => ∀ cls dd H', ExcP (per := per0) ⟨E, cb, cm⟩ x cls dd H' → Same H H' → E cls dd H'
      | .no => False) : rS (per := per) ⟨E', cb, cm⟩ φ { nx := fun _ H' => Q .non H', rt := Q } (L2.start N vs) H := by
  obtain ⟨sm, pf, r, hl, q⟩ := h
  refine ⟨⟨F, H, none, fun z => (by rw [hlam] at z; cases z), fun z => (by rw [hlam] at z; cases z)⟩, F, _, Rel.start _ _ sm pf r (by rw [hl]; exact hN), ?_⟩
  unfold runF at q
  cases hφ : φ (ds.map Sl.va ++ List.replicate (N.length - ds.length) Sl.no) with
  | nx e =>
    rw [hφ] at q
    exact fun F' σ' H' s R => q F' H' .non s R.fh R.fn (R.same hlam rfl) rfl
  | rt d e =>
    rw [hφ] at q
    exact fun F' σ' H' v s R rp => q F' H' v s R.fh R.fn (R.same hlam rfl) rp
  | err x =>
    rw [hφ] at q
    have e := hE x hφ
    subst e
    exact fun cls dd H' ex k _ _ => q cls dd H' (by cases x <;> exact ex) fun a o ha => k a o ha (fun z => by cases z) (.inl hlam)
  | bk e => rw [hφ] at q; exact q.elim
  | ct e => rw [hφ] at q; exact q.elim
  | no => rw [hφ] at q; exact q.elim
theorem runR_ends {per : Per} (hlam : per.lam = false) {φ : Env → SR} {H : Hp} {vs : List V} {N : List Str} {cb cm : Addr} {n : Nat} {Q : VK} {E : XK} {ξ : Xi per} (hN : n + 1 ≤ N.length) (h : spR per.P cb cm n (runR φ N.length) vs H Q E) : rS ξ φ { nx := fun _ H' => Q .non H', rt := Q } (L2.start N vs) H := by
  obtain ⟨F, l, ds, a, ws, us, ev, ha, hf, rl, sm, pf, r, hl, q⟩ := h
  subst ev
  refine ⟨⟨F, H, some a, fun z => (by rw [hlam] at z; cases z), fun z => (by rw [hlam] at z; cases z)⟩, F, _, Rel.startR ha hf rl _ _ sm pf r (by rw [hl]; exact hN), ?_⟩
  unfold runR at q
  have fin : ∀ (d : D) (e : Env), (match rowOf d e with
      | some (d, l') => ∀ F' H' v ws', Same F F' → Same F' H' → (∀ b o, F' b = some o → F b = some o ∨ (H b = none ∧ NT o)) → (∀ b o, b ≠ a → H b = some o → H' b = some o) → H' a = some (.lst ws') → F' a = none → Rps F' l' ws' → Rp F' d v → Q v H'
      | none => False) → ∀ F' σ' H' v, Same F F' → Rel (per := per) ⟨F, H, some a, fun z => (by rw [hlam] at z; cases z), fun z => (by rw [hlam] at z; cases z)⟩ F' σ' H' e → Rp F' d v → Q v H' := fun d e q F' σ' H' v s R rp => by
    unfold rowOf at q
    cases h0 : e[0]? with
    | none => rw [h0] at q; exact q.elim
    | some sl =>
      rw [h0] at q
      cases sl with
      | pr l' =>
        simp only at q
        obtain ⟨b, ws', e1, hr, hb, hfb, rl'⟩ := R.sl 0 _ h0
        have hr : some a = some b := hr
        cases hr
        exact q F' H' v ws' s R.fh R.fn (fun b o hb hq => R.kp b o hq (fun z => by cases z; exact hb rfl) (.inl hlam)) hb hfb rl' rp
      | no => exact q.elim
      | va d => exact q.elim
      | ow l => exact q.elim
  cases hφ : φ (Sl.pr l :: (ds.map Sl.va ++ List.replicate (N.length - (ds.length + 1)) Sl.no)) with
  | nx e =>
    rw [hφ] at q
    exact fun F' σ' H' s R => fin .non e q F' σ' H' .non s R rfl
  | rt d e =>
    rw [hφ] at q
    exact fun F' σ' H' v s R rp => fin d e q F' σ' H' v s R rp
  | err x => rw [hφ] at q; exact q.elim
  | bk e => rw [hφ] at q; exact q.elim
  | ct e => rw [hφ] at q; exact q.elim
  | no => rw [hφ] at q; exact q.elim
section
variable {P : Program} {w : World} {K : PySem.W.Frag} {mg : Str → Option Value} {base : Heap} {x qual : Str} {st : Stmt} {f : Addr} {fd : FuncData} {N ps : List Str} {k n : Nat} {cb cm : Addr} {φ : Env → SR}
/-- a def that lets no error out -/
theorem okF0 {per : Per} (hlam : per.lam = false) (Fu : Fun K x qual st f fd) (S : FnScope N ps (defScope st)) (hn : ps.length = n)
    (hb : ∀ (cdv : Value) (A : Around) (outer : List PySem.Env) (s : Shared) (H : Hp) (E : XK), Room k (A.deeper (envOfC qual (defScope st) s.heap.objs.size f cdv)) → PSs (cxOf CX0 P w K mg base N qual (defScope st) f cdv A outer s H E).nox (defBody st) (rS (per := per) ⟨E0, cb, cm⟩ φ))
    (he : ∀ (ds : List D) (x : Exn), ds.length = n → φ (ds.map Sl.va ++ List.replicate (N.length - ds.length) Sl.no) ≠ .err x) :
    FnOk P w K mg base CX0 (k + 1) f fd ps (spF per.P cb cm n (runF φ N.length)) := by
  have hpl : ps.length ≤ N.length := by have := congrArg List.length S.pre; rw [List.length_take] at this; omega
  refine Fu.ok S (fun vs H Q E h => (spF_len vs H Q E h).trans hn.symm) fun cdv A outer s H vs Q E hr h => ⟨_, hb cdv A outer s H E hr, ?_⟩
  obtain ⟨F, ds, h⟩ := h
  exact runF_ends hlam (by omega) (fun x hx => absurd hx (he ds x h.2.2.2.1)) h
/-- .. the errors that it may let out are wanted nowhere -/
def noErr (g : List D → FR) : List D → FR := fun ds => match g ds with
  | .err _ => .no
  | r => r
theorem okF0' {per : Per} (hlam : per.lam = false) (Fu : Fun K x qual st f fd) (S : FnScope N ps (defScope st)) (hn : ps.length = n)
    (hb : ∀ (cdv : Value) (A : Around) (outer : List PySem.Env) (s : Shared) (H : Hp) (E : XK), Room k (A.deeper (envOfC qual (defScope st) s.heap.objs.size f cdv)) → PSs (cxOf CX0 P w K mg base N qual (defScope st) f cdv A outer s H E).nox (defBody st) (rS (per := per) ⟨E0, cb, cm⟩ φ)) :
    FnOk P w K mg base CX0 (k + 1) f fd ps (spF per.P cb cm n (noErr (runF φ N.length))) := by
  have hpl : ps.length ≤ N.length := by have := congrArg List.length S.pre; rw [List.length_take] at this; omega
  refine Fu.ok S (fun vs H Q E h => (spF_len vs H Q E h).trans hn.symm) fun cdv A outer s H vs Q E hr h => ⟨_, hb cdv A outer s H E hr, ?_⟩
  obtain ⟨F, ds, h1, hp, h2, h3, h4⟩ := h
  refine runF_ends hlam (F := F) (ds := ds) (n := n) (E := E) (by omega) (fun x hx => ?_) ⟨h1, hp, h2, h3, ?_⟩
  · unfold noErr runF at h4
    rw [hx] at h4
    exact h4.elim
  · unfold noErr at h4
    cases hq : runF φ N.length ds with
    | ok d => rw [hq] at h4; exact h4
    | err x => rw [hq] at h4; exact h4.elim
    | no => rw [hq] at h4; exact h4.elim
/-- a def that may raise -/
theorem okFX {per : Per} (hlam : per.lam = false) (Fu : Fun K x qual st f fd) (S : FnScope N ps (defScope st)) (hn : ps.length = n)
    (hb : ∀ (cdv : Value) (A : Around) (outer : List PySem.Env) (s : Shared) (H : Hp) (E : XK), Room k (A.deeper (envOfC qual (defScope st) s.heap.objs.size f cdv)) → PSs (cxOf (L2.CX P w) P w K mg base N qual (defScope st) f cdv A outer s H E) (defBody st) (rS (per := per) ⟨E, cb, cm⟩ φ)) :
    FnOk P w K mg base (L2.CX P w) (k + 1) f fd ps (spF per.P cb cm n (runF φ N.length)) := by
  have hpl : ps.length ≤ N.length := by have := congrArg List.length S.pre; rw [List.length_take] at this; omega
  refine Fu.okX S (fun vs H Q E h => (spF_len vs H Q E h).trans hn.symm) fun cdv A outer s H vs Q E hr h => ⟨_, hb cdv A outer s H E hr, ?_⟩
  obtain ⟨F, ds, h⟩ := h
  exact runF_ends hlam (by omega) (fun x hx => rfl) h
/-- a def whose first argument is the row -/
theorem okR {per : Per} (hlam : per.lam = false) (Fu : Fun K x qual st f fd) (S : FnScope N ps (defScope st)) (hn : ps.length = n + 1)
    (hb : ∀ (cdv : Value) (A : Around) (outer : List PySem.Env) (s : Shared) (H : Hp) (E : XK), Room k (A.deeper (envOfC qual (defScope st) s.heap.objs.size f cdv)) → PSs (cxOf CX0 P w K mg base N qual (defScope st) f cdv A outer s H E).nox (defBody st) (rS (per := per) ⟨E0, cb, cm⟩ φ)) :
    FnOk P w K mg base CX0 (k + 1) f fd ps (spR per.P cb cm n (runR φ N.length)) := by
  have hpl : ps.length ≤ N.length := by have := congrArg List.length S.pre; rw [List.length_take] at this; omega
  exact Fu.ok S (fun vs H Q E h => (spR_len vs H Q E h).trans hn.symm) fun cdv A outer s H vs Q E hr h => ⟨_, hb cdv A outer s H E hr, runR_ends hlam (by omega) h⟩
end
end PL
set_option Elab.async false
set_option linter.all false
set_option maxRecDepth 100000
set_option maxHeartbeats 4000000
/-! The pure layer, 8: the errors raised; defs and their calls. -/
namespace PL
open PySem PySem.Spec PyProof.Rows L2
/-! ### their calls -/
theorem Rel.after {c : Ct per} {F F' : Hp} {σ : L2.St} {H H' : Hp} {e : Env} (R : Rel c F σ H e) (s : Same F F') (fh : Same F' H') (nw : ∀ a o, F' a = some o → F a = some o ∨ (H a = none ∧ NT o)) (sh : Same H H') : Rel c F' σ H' e := by
  have fno : ∀ {a : Addr} {o : HO}, H a = some o → F a = none → F' a = none := fun {a o} h1 h2 => by
    cases q : F' a with
    | none => rfl
    | some u =>
      rcases nw a u q with z | z
      · rw [h2] at z; cases z
      · rw [h1] at z; cases z.1
  refine ⟨fh, fun a o q => s _ _ (R.f0 a o q), fun a o q => ?_, fun a o q z kk => sh _ _ (R.kp a o q z kk), fun a q => ?_, R.len, fun i sl q => ?_, R.ap, R.pu, fun a o q => let ⟨o', h'⟩ := R.kt a o q; ⟨o', sh _ _ h'⟩, per.cl F F' H H' s R.pf fun a o q _ => sh a o q⟩
  · rcases nw a o q with z | z
    · exact R.fn a o z
    · exact .inr ⟨(R.h0none z.1).1, z.2⟩
  · obtain ⟨h1, o, h2⟩ := R.rk a q
    exact ⟨fno h2 h1, o, sh _ _ h2⟩
  · have h := R.sl i sl q
    cases sl with
    | no => trivial
    | va d =>
      obtain ⟨v, e1, r⟩ := h
      exact ⟨v, e1, r.mono s⟩
    | ow l =>
      obtain ⟨a, vs, e1, ha, hf, h0, hr, r⟩ := h
      exact ⟨a, vs, e1, sh _ _ ha, fno ha hf, h0, hr, r.mono s⟩
    | pr l =>
      obtain ⟨a, vs, e1, hr, ha, hf, r⟩ := h
      exact ⟨a, vs, e1, hr, sh _ _ ha, fno ha hf, r.mono s⟩
theorem fr_ok {α : Type} {g : List D → FR} {ds : List D} {d : D} (h : g ds = .ok d) : g ds ≠ .err (.bad "") := by rw [h]; intro z; cases z
def frR (e : Env) : FR → R Hd
  | .ok d => .ok (.d d) e
  | .err x => .err x
  | .no => .no
def goF (n : Nat) (g : List D → FR) (e : Env) (hs : List Hd) : R Hd := match fzs e hs with
  | some (ds, e2) => if ds.length = n then frR e2 (g ds) else .no
  | none => .no
def callDF (n : Nat) (g : List D → FR) (t : Env → R (List Hd)) : Env → R Hd := fun e => (t e).bind fun hs e1 => goF n g e1 hs
/-- the row goes first -/
def rowRes (e : Env) (k : Nat) : Option (D × List D) → R Hd
  | some (d, l') => match e[k]? with
    | some (.ow _) => .ok (.d d) (e.set k (.ow l'))
    | some (.pr _) => .ok (.d d) (e.set k (.pr l'))
    | _ => .no
  | none => .no
def rowAt (e : Env) (k : Nat) : Option (List D) := match e[k]? with
  | some (.ow l) => some l
  | some (.pr l) => some l
  | _ => none
def goR (n : Nat) (g : List D → List D → Option (D × List D)) (e : Env) : List Hd → R Hd
  | .s k :: hs => match fzs e hs with
    | some (ds, e2) => if ds.length = n then (match rowAt e2 k with
      | some l => rowRes e2 k (g l ds)
      | none => .no) else .no
    | none => .no
  | _ => .no
def callRF (n : Nat) (g : List D → List D → Option (D × List D)) (t : Env → R (List Hd)) : Env → R Hd := fun e => (t e).bind fun hs e1 => goR n g e1 hs
section
variable {X : Cx} {ξ : Xi per} {CX : CXT} {k n : Nat} {f : Addr} {fd : FuncData} {ps ks : List Str} {g : List D → FR} {gr : List D → List D → Option (D × List D)} {x : Str} {p pos kpos : Pos} {a : Expr} {es : List Expr} {kws : List Keyword} {t : Env → R (List Hd)} {nm : Option Str}
theorem callD_sp {c : Ct per} {F : Hp} {σ : L2.St} {H : Hp} {e : Env} {hs : List Hd} {vs : List V} {Q : VK} (R : Rel c F σ H e) (r : RHs F σ hs vs) (q : Pst (goF n g e hs) (PqE c F σ Q) (ErrP ξ c)) : spF per.P ξ.cb ξ.cm n g vs H Q ξ.E := by
  unfold goF at q
  cases x1 : fzs e hs with
  | none => rw [x1] at q; exact q.elim
  | some pr =>
    obtain ⟨ds, e2⟩ := pr
    rw [x1] at q
    simp only at q
    obtain ⟨F2, s2, R2, rp⟩ := R.hands r x1
    by_cases hl : ds.length = n
    · rw [if_pos hl] at q
      refine ⟨F2, ds, R2.fh, R2.pf, rp, hl, ?_⟩
      cases hg : g ds with
      | ok d =>
        rw [hg] at q
        have q : PqE c F σ Q (.d d) e2 := q
        exact fun F' H' v s fh nw sh rv => q F' H' v (s2.trans s) (R2.after s fh nw sh) rv
      | err x =>
        rw [hg] at q
        have q : ErrP ξ c x := q
        exact fun cls dd H' ex sh => q cls dd H' (by cases x <;> exact ex) (fun b o hb hz kk => sh _ _ (R.kp b o hb hz kk)) (fun b o hb => let ⟨o', h'⟩ := R.kt b o hb; ⟨o', sh _ _ h'⟩) (per.c2 H H' R.pf.2 fun a o q _ => sh a o q)
      | no => rw [hg] at q; exact q.elim
    · rw [if_neg hl] at q
      exact q.elim
/-- a list that a name holds was written by a callee -/
theorem Rel.afterR {c : Ct per} {F F' : Hp} {σ : L2.St} {H H' : Hp} {e : Env} {i : Nat} {b : Addr} {ws0 ws : List V} {l' : List D} (R : Rel c F σ H e) (e1 : σ[i]? = some (some (.ref b))) (hb0 : H b = some (.lst ws0)) (s : Same F F') (fh : Same F' H') (nw : ∀ a o, F' a = some o → F a = some o ∨ (H a = none ∧ NT o)) (sh : ∀ a o, a ≠ b → H a = some o → H' a = some o) (hb : H' b = some (.lst ws)) (fb : F' b = none) (r : Rps F' l' ws) :
    (∀ l, e[i]? = some (.ow l) → Rel c F' σ H' (e.set i (.ow l'))) ∧ (∀ l, e[i]? = some (.pr l) → Rel c F' σ H' (e.set i (.pr l'))) := by
  have R2 : Rel c F' σ (upd H' b (.lst ws0)) e := R.after s (fun a o q => by
      have ne : a ≠ b := fun z => by rw [z, fb] at q; cases q
      rw [upd_ne ne]
      exact fh a o q) nw (fun a o q => by
      by_cases ha : a = b
      · subst ha
        rw [upd_same, ← hb0]
        exact q
      · rw [upd_ne ha]
        exact sh a o ha q)
  have eH : upd (upd H' b (.lst ws0)) b (.lst ws) = H' := by
    funext a
    by_cases ha : a = b
    · subst ha
      rw [upd_same, hb]
    · rw [upd_ne ha, upd_ne ha]
  refine ⟨fun l h => ?_, fun l h => ?_⟩
  · have := R2.write h e1 r
    rw [eH] at this
    exact this
  · have := R2.writeR h e1 r
    rw [eH] at this
    exact this
theorem callR_sp {c : Ct per} {F : Hp} {σ : L2.St} {H : Hp} {e : Env} {hs : List Hd} {vs : List V} {Q : VK} {E : XK} (R : Rel c F σ H e) (r : RHs F σ hs vs) (q : Pst (goR n gr e hs) (PqE c F σ Q) (ErrP ξ c)) : spR per.P ξ.cb ξ.cm n gr vs H Q E := by
  cases hs with
  | nil => exact q.elim
  | cons h hs =>
    cases h with
    | d x => exact q.elim
    | s k =>
      unfold goR at q
      cases x1 : fzs e hs with
      | none => simp only [x1] at q; exact q.elim
      | some pr =>
        obtain ⟨ds, e2⟩ := pr
        simp only [x1] at q
        obtain ⟨v, us, ev, rv, ru⟩ := r
        have rv : σ[k]? = some (some v) := rv
        obtain ⟨F2, s2, R2, rp⟩ := R.hands ru x1
        by_cases hl : ds.length = n
        · simp only [if_pos hl] at q
          cases x2 : rowAt e2 k with
          | none => simp only [x2] at q; exact q.elim
          | some l =>
            simp only [x2] at q
            have ho : e2[k]? = some (.ow l) ∨ e2[k]? = some (.pr l) := by
              unfold rowAt at x2
              split at x2
              · rename_i y hy; cases x2; exact .inl hy
              · rename_i y hy; cases x2; exact .inr hy
              · cases x2
            have hat : ∃ b ws, v = .ref b ∧ H b = some (.lst ws) ∧ F2 b = none ∧ Rps F2 l ws := by
              rcases ho with ho | ho
              · obtain ⟨b, ws, e1, hb, hf, _, _, rl⟩ := R2.sl k _ ho
                rw [rv] at e1
                cases e1
                exact ⟨b, ws, rfl, hb, hf, rl⟩
              · obtain ⟨b, ws, e1, _, hb, hf, rl⟩ := R2.sl k _ ho
                rw [rv] at e1
                cases e1
                exact ⟨b, ws, rfl, hb, hf, rl⟩
            obtain ⟨b, ws, ebv, hb, hf, rl⟩ := hat
            subst ebv
            refine ⟨F2, l, ds, b, ws, us, ev, hb, hf, rl, R2.fh, R2.pf, rp, hl, ?_⟩
            cases hg : gr l ds with
            | none => rw [hg] at q; exact q.elim
            | some z =>
              obtain ⟨d, l'⟩ := z
              rw [hg] at q
              intro F' H' v ws' s fh nw sh hb' fb' rl' rd
              have A := R2.afterR rv hb s fh nw sh hb' fb' rl'
              unfold rowRes at q
              rcases ho with ho | ho
              · simp only [ho] at q
                have q : PqE c F σ Q (.d d) (e2.set k (.ow l')) := q
                exact q F' H' v (s2.trans s) (A.1 l ho) rd
              · simp only [ho] at q
                have q : PqE c F σ Q (.d d) (e2.set k (.pr l')) := q
                exact q F' H' v (s2.trans s) (A.2 l ho) rd
        · simp only [if_neg hl] at q
          exact q.elim
/-- a def of the module that may be called: lets nothing out; may raise; takes the row -/
structure MF (Pf : Hp → Hp → Prop) (P : Program) (w : World) (K : PySem.W.Frag) (mg : Str → Option Value) (base : Heap) (x : Str) (cb cm : Addr) (n k : Nat) (g : List D → FR) : Prop where
  ex : ∃ f fd ps, FnOk P w K mg base CX0 k f fd ps (spF Pf cb cm n g) ∧ mg x = some (.ref f) ∧ PySem.W.keepIn K (.ref f) = true ∧ Binds K fd ps []
structure MX (Pf : Hp → Hp → Prop) (P : Program) (w : World) (K : PySem.W.Frag) (mg : Str → Option Value) (base : Heap) (x : Str) (cb cm : Addr) (n k : Nat) (g : List D → FR) : Prop where
  ex : ∃ f fd ps, FnOk P w K mg base (L2.CX P w) k f fd ps (spF Pf cb cm n g) ∧ mg x = some (.ref f) ∧ PySem.W.keepIn K (.ref f) = true ∧ Binds K fd ps []
structure MR (Pf : Hp → Hp → Prop) (P : Program) (w : World) (K : PySem.W.Frag) (mg : Str → Option Value) (base : Heap) (x : Str) (cb cm : Addr) (n k : Nat) (g : List D → List D → Option (D × List D)) : Prop where
  ex : ∃ f fd ps, FnOk P w K mg base CX0 k f fd ps (spR Pf cb cm n g) ∧ mg x = some (.ref f) ∧ PySem.W.keepIn K (.ref f) = true ∧ Binds K fd ps []
/-- .. all its arguments by name -/
structure MK (Pf : Hp → Hp → Prop) (P : Program) (w : World) (K : PySem.W.Frag) (mg : Str → Option Value) (base : Heap) (x : Str) (ks : List Str) (cb cm : Addr) (n k : Nat) (g : List D → FR) : Prop where
  ex : ∃ f fd ps, FnOk P w K mg base (L2.CX P w) k f fd ps (spF Pf cb cm n g) ∧ mg x = some (.ref f) ∧ PySem.W.keepIn K (.ref f) = true ∧ KBn K fd ps 0 ks (fun _ ws => ws) (fun _ zs => zs)
theorem passAny {X : Cx} {E : XK} : Passes CX0 X E := fun _ _ _ _ _ _ _ h => h.elim
theorem FnOk.gmono {P : Program} {w : World} {K : PySem.W.Frag} {mg : Str → Option Value} {base : Heap} {CX : CXT} {k : Nat} {f : Addr} {fd : FuncData} {ps : List Str} {cb cm : Addr} {n : Nat} {g g' : List D → FR} (Fn : FnOk P w K mg base CX k f fd ps (spF Pf cb cm n g)) (h : ∀ ds, ds.length = n → g' ds ≠ .no → g ds = g' ds) : FnOk P w K mg base CX k f fd ps (spF Pf cb cm n g') :=
  Fn.imp (spF.mono h)
theorem callM_core (hg : Gl X x) (hr : Room k X.A) (Fn : FnOk X.prog X.w X.K X.mg X.base CX k f fd ps (spF per.P ξ.cb ξ.cm n g)) (hm : X.mg x = some (.ref f)) (hk : PySem.W.keepIn X.K (.ref f) = true) (hb : Binds X.K fd ps []) (hx : Passes CX X ξ.E)
    (ha : PA X (a :: es) (rA ξ t)) (hdb : (x == ("__debug__" : Str)) = false) (he : starEach (a :: es) X.env = (false, eval a X.env) :: starEach es X.env) (hpl : (backTo pos (starEach es X.env)).any (·.1) = false) :
    PE X (.Call (.Name x p) (a :: es) [] pos) (rE ξ (callDF n g t)) := PE.imp (pe_call Fn hr hg hm hk hb .nil hx ha hdb he hpl) fun σ H Q q => by
  obtain ⟨c, F, e, R, q⟩ := q
  refine ⟨c, F, e, R, Pst.mono (pst_bind.mp q) (fun hs e1 q1 F1 H1 vs s1 R1 r1 => ?_) fun _ z => z⟩
  show spF per.P ξ.cb ξ.cm n g (vs ++ []) H1 Q ξ.E
  rw [List.append_nil]
  exact callD_sp R1 r1 (Pst.mono q1 (fun h e2 q2 F2 H2 v s2 R2 r2 => q2 F2 H2 v (s1.trans s2) R2 r2) fun _ z => z)
theorem q_call (c : MF per.P X.prog X.w X.K X.mg X.base x ξ.cb ξ.cm n k g) (hr : Room k X.A) (hg : Gl X x) (ha : PA X (a :: es) (rA ξ t)) (hdb : (x == ("__debug__" : Str)) = false := by decide) (he : starEach (a :: es) X.env = (false, eval a X.env) :: starEach es X.env := by rfl) (hpl : (backTo pos (starEach es X.env)).any (·.1) = false := by rfl) :
    PE X (.Call (.Name x p) (a :: es) [] pos) (rE ξ (callDF n g t)) := by
  obtain ⟨f, fd, ps, Fn, hm, hk, hb⟩ := c.ex
  exact PL.callM_core hg hr Fn hm hk hb passAny ha hdb he hpl
theorem q_callX (c : MX per.P X.prog X.w X.K X.mg X.base x ξ.cb ξ.cm n k g) (hr : Room k X.A) (hx : Passes (L2.CX X.prog X.w) X ξ.E) (hg : Gl X x) (ha : PA X (a :: es) (rA ξ t)) (hdb : (x == ("__debug__" : Str)) = false := by decide) (he : starEach (a :: es) X.env = (false, eval a X.env) :: starEach es X.env := by rfl) (hpl : (backTo pos (starEach es X.env)).any (·.1) = false := by rfl) :
    PE X (.Call (.Name x p) (a :: es) [] pos) (rE ξ (callDF n g t)) := by
  obtain ⟨f, fd, ps, Fn, hm, hk, hb⟩ := c.ex
  exact PL.callM_core hg hr Fn hm hk hb hx ha hdb he hpl
theorem q_callR (c : MR per.P X.prog X.w X.K X.mg X.base x ξ.cb ξ.cm n k gr) (hr : Room k X.A) (hg : Gl X x) (ha : PA X (a :: es) (rA ξ t)) (hdb : (x == ("__debug__" : Str)) = false := by decide) (he : starEach (a :: es) X.env = (false, eval a X.env) :: starEach es X.env := by rfl) (hpl : (backTo pos (starEach es X.env)).any (·.1) = false := by rfl) :
    PE X (.Call (.Name x p) (a :: es) [] pos) (rE ξ (callRF n gr t)) := by
  obtain ⟨f, fd, ps, Fn, hm, hk, hb⟩ := c.ex
  refine PE.imp (pe_call Fn hr hg hm hk hb .nil (E := ξ.E) passAny ha hdb he hpl) fun σ H Q q => ?_
  obtain ⟨c, F, e, R, q⟩ := q
  refine ⟨c, F, e, R, Pst.mono (pst_bind.mp q) (fun hs e1 q1 F1 H1 vs s1 R1 r1 => ?_) fun _ z => z⟩
  show spR per.P ξ.cb ξ.cm n gr (vs ++ []) H1 Q ξ.E
  rw [List.append_nil]
  exact callR_sp R1 r1 (Pst.mono q1 (fun h e2 q2 F2 H2 v s2 R2 r2 => q2 F2 H2 v (s1.trans s2) R2 r2) fun _ z => z)
theorem PK.imp {t t' : TA} (h : PK X kws t) (w : ∀ σ H Q, t' σ H Q → t σ H Q) : PK X kws t' := ⟨fun pos pins s σ H Q I q => h.run pos pins s σ H Q I (w σ H Q q)⟩
theorem q_knil : PK X [] (rA ξ nilF) := PK.imp pk_nil fun σ H Q q => by
  obtain ⟨c, F, e, R, q⟩ := q
  exact q F H [] (Same.refl F) R rfl
theorem q_kcons {f : Env → R Hd} {g : Env → R (List Hd)} (ha : PE X a (rE ξ f)) (hr : PK X kws (rA ξ g)) : PK X (⟨nm, a, kpos⟩ :: kws) (rA ξ (consF f g)) :=
  PK.imp (pk_cons ha hr) fun σ H Q q => by
    obtain ⟨c, F, e, R, q⟩ := q
    refine ⟨c, F, e, R, Pst.mono (pst_bind.mp q) (fun h e1 q1 F1 H1 v s1 R1 r1 => ?_) fun _ z => z⟩
    refine ⟨c, F1, e1, R1, Pst.mono (pst_bind.mp q1) (fun hs e2 q2 F2 H2 vs s2 R2 r2 => ?_) fun _ z => z⟩
    exact q2 F2 H2 (v :: vs) (s1.trans s2) R2 ⟨v, vs, rfl, r1.mono s2, r2⟩
theorem q_callK (c : MK per.P X.prog X.w X.K X.mg X.base x ks ξ.cb ξ.cm n k g) (hn : ks.length = n) (hr : Room k X.A) (hx : Passes (L2.CX X.prog X.w) X ξ.E) (hg : Gl X x) (hkw : PK X kws (rA ξ t)) (hall : (backToKw pos (keywordEach kws X.env)).all (·.1.isSome) = true := by rfl) (hks : (backToKw pos (keywordEach kws X.env)).filterMap (·.1) = ks := by rfl)
    (hdb : (x == ("__debug__" : Str)) = false := by decide) (hpl : ((backTo pos (starEach [] X.env)).any (·.1) || (backToKw pos (keywordEach kws X.env)).any (·.1.isNone)) = false := by rfl) :
    PE X (.Call (.Name x p) [] kws pos) (rE ξ (callDF n g t)) := by
  obtain ⟨f, fd, ps, Fn, hm, hk, hb⟩ := c.ex
  refine ⟨fun pins s σ H Q I h => ?_⟩
  have h2 : rA ξ t σ H fun vs H1 => spF per.P ξ.cb ξ.cm n g vs H1 Q ξ.E := by
    obtain ⟨c, F, e, R, q⟩ := h
    refine ⟨c, F, e, R, Pst.mono (pst_bind.mp q) (fun hs e1 q1 F1 H1 vs s1 R1 r1 => ?_) fun _ z => z⟩
    exact callD_sp R1 r1 (Pst.mono q1 (fun h e2 q2 F2 H2 v s2 R2 r2 => q2 F2 H2 v (s1.trans s2) R2 r2) fun _ z => z)
  refine wpAny_Call_Name_kw (ld_glob I hg hm ?_ hdb)
  refine PySem.W.callWith_KW0 (h₀ := X.base) I.ok.mod.kin hk hall ?_ hpl
  refine thn (hkw.run pos pins s σ H _ I h2) fun ws s2 ⟨zs, H2, I2, rz, q2⟩ => ⟨I2.kIn, ?_⟩
  rw [hks]
  exact run_fnN (us := []) (vs := []) Fn hr hb hx I2 .nil rz rfl ((spF_len zs H2 Q ξ.E q2).trans hn.symm) q2
end
end PL
set_option Elab.async false
set_option linter.all false
set_option maxRecDepth 100000
set_option maxHeartbeats 4000000
/-! The pure layer, 10: several names at once, lists written. -/
namespace PL
open PySem PySem.Spec PyProof.Rows L2
inductive Mx where
  | d (x : D) | n (l : List D)
def Mx.sl : Mx → Sl
  | .d x => .va x
  | .n l => .ow l
def newAs : List Mx → List V → List Addr
  | .n _ :: ms, .ref a :: r => a :: newAs ms r
  | _ :: ms, _ :: r => newAs ms r
  | _, _ => []
def RM1 (c : Ct per) (F : Hp) (σ : L2.St) (H : Hp) (e : Env) (rest : List Addr) : Mx → V → Prop
  | .d x, v => Rp F x v
  | .n l, v => ∃ a ws, v = .ref a ∧ NewL c F σ H e a ws ∧ Rps F l ws ∧ a ∉ rest
def RM (c : Ct per) (F : Hp) (σ : L2.St) (H : Hp) (e : Env) : List Mx → List V → Prop
  | [], vs => vs = []
  | m :: ms, vs => ∃ v r, vs = v :: r ∧ RM1 c F σ H e (newAs ms r) m v ∧ RM c F σ H e ms r
def PqM (c : Ct per) (F : Hp) (σ : L2.St) (Q : List V → Hp → Prop) : List Mx → Env → Prop := fun ms e' => ∀ F' H' vs, Same F F' → Rel c F' σ H' e' → RM c F' σ H' e' ms vs → Q vs H'
def rM (ξ : Xi per) (f : Env → R (List Mx)) : TA := fun σ H Q => ∃ c F e, Rel c F σ H e ∧ Pst (f e) (PqM c F σ Q) (ErrP ξ c)
def mnilF : Env → R (List Mx) := fun e => .ok [] e
def mdF (f : Env → R Hd) (g : Env → R (List Mx)) : Env → R (List Mx) := fun e => (f e).bind fun h e1 => match fz e1 h with
  | some (d, e2) => (g e2).bind fun ms e3 => .ok (.d d :: ms) e3
  | none => .no
def mnF (f : Env → R (List D)) (g : Env → R (List Mx)) : Env → R (List Mx) := fun e => (f e).bind fun l e1 => (g e1).bind fun ms e2 => .ok (.n l :: ms) e2
section
variable {c : Ct per} {F F' : Hp} {σ : L2.St} {H : Hp} {e : Env} {a p : Addr} {o : HO}
theorem RM.unkeep {zs : List V} (n0 : c.H0 p = none) : ∀ {ms : List Mx} {vs : List V}, RM (c.keep p zs) F σ H e ms vs → RM c F σ H e ms vs ∧ p ∉ newAs ms vs
  | [], vs, h => by
    have h : vs = [] := h
    subst h
    exact ⟨rfl, by simp [newAs]⟩
  | m :: ms, vs, h => by
    obtain ⟨v, r, ev, h1, h2⟩ := h
    obtain ⟨i1, i2⟩ := RM.unkeep n0 h2
    subst ev
    cases m with
    | d x => exact ⟨⟨v, r, rfl, h1, i1⟩, i2⟩
    | n l =>
      obtain ⟨a, ws, ea, nl, rl, na⟩ := h1
      subst ea
      have n0' : upd c.H0 p (.lst zs) a = none := nl.n0
      have ne : a ≠ p := fun z => by rw [z, upd_same] at n0'; cases n0'
      rw [upd_ne ne] at n0'
      refine ⟨⟨_, r, rfl, ⟨a, ws, rfl, ⟨nl.at_, nl.nf, n0', nl.nr, nl.no⟩, rl, na⟩, i1⟩, ?_⟩
      show p ∉ a :: newAs ms r
      exact fun z => by
        rcases List.mem_cons.mp z with z | z
        · exact ne z.symm
        · exact i2 z
theorem ErrP.keep {zs : List V} {ξ : Xi per} {x : Exn} (n0 : c.H0 p = none) (h : ErrP ξ c x) : ErrP ξ (c.keep p zs) x := by
  have up : ∀ b u, c.H0 b = some u → (c.keep p zs).H0 b = some u := fun b u hb => by
    have ne : b ≠ p := fun z => by rw [z, n0] at hb; cases hb
    show upd c.H0 p (.lst zs) b = some u
    rw [upd_ne ne]
    exact hb
  exact fun cls d H' ex k k2 k3 => h cls d H' ex (fun b u hb hz kk => k b u (up b u hb) hz kk) (fun b u hb => k2 b u (up b u hb)) k3
end
section
variable {X : Cx} {ξ : Xi per} {a b tg : Expr} {pos : Pos} {ks : List Nat} {es : List Expr}
theorem q_mnil : PA X [] (rM ξ mnilF) := PA.imp pa_nil fun σ H Q q => by
  obtain ⟨c, F, e, R, q⟩ := q
  exact q F H [] (Same.refl F) R rfl
theorem q_md {f : Env → R Hd} {g : Env → R (List Mx)} (ha : PE X a (rE ξ f)) (hr : PA X es (rM ξ g)) (hs : starEach (a :: es) X.env = (false, eval a X.env) :: starEach es X.env := by rfl) : PA X (a :: es) (rM ξ (mdF f g)) :=
  PA.imp (pa_cons ha hr hs) fun σ H Q q => by
    obtain ⟨c, F, e, R, q⟩ := q
    refine ⟨c, F, e, R, Pst.mono (pst_bind.mp q) (fun h e1 q1 F1 H1 v s1 R1 r1 => ?_) fun _ z => z⟩
    cases x1 : fz e1 h with
    | none => rw [x1] at q1; exact q1.elim
    | some pr =>
      obtain ⟨d, e2⟩ := pr
      rw [x1] at q1
      simp only at q1
      obtain ⟨F2, s2, R2, rp⟩ := R1.hand r1 x1
      refine ⟨c, F2, e2, R2, Pst.mono (pst_bind.mp q1) (fun ms e3 q3 F3 H3 vs s3 R3 r3 => ?_) fun _ z => z⟩
      exact q3 F3 H3 (v :: vs) (s1.trans (s2.trans s3)) R3 ⟨v, vs, rfl, rp.mono s3, r3⟩
theorem q_mn {f : Env → R (List D)} {g : Env → R (List Mx)} (ha : PE X a (rN ξ f)) (hr : PA X es (rM ξ g)) (hs : starEach (a :: es) X.env = (false, eval a X.env) :: starEach es X.env := by rfl) : PA X (a :: es) (rM ξ (mnF f g)) :=
  PA.imp (pa_cons ha hr hs) fun σ H Q q => by
    obtain ⟨c, F, e, R, q⟩ := q
    refine ⟨c, F, e, R, Pst.mono (pst_bind.mp q) (fun l e1 q1 F1 H1 p ws s1 R1 n1 r1 => ?_) fun _ z => z⟩
    have nF0 : c.F0 p = none := by
      cases z : c.F0 p with
      | none => rfl
      | some u =>
        have := R1.f0 _ _ z
        rw [n1.nf] at this
        cases this
    refine ⟨c.keep p ws, F1, e1, R1.keepO (loose_of n1) n1.at_, Pst.mono (pst_bind.mp q1) (fun ms e2 q2 F2 H2 vs s2 R2 r2 => ?_) fun _ z => z.keep n1.n0⟩
    obtain ⟨R3, hp, L3⟩ := R2.unkeep Per.lst n1.n0 nF0 n1.nr
    obtain ⟨i1, i2⟩ := RM.unkeep n1.n0 r2
    exact q2 F2 H2 (.ref p :: vs) (s1.trans s2) R3 ⟨_, vs, rfl, ⟨p, ws, rfl, ⟨hp, L3.nf, L3.n0, L3.nr, L3.no⟩, r1.mono s2, i2⟩, i1⟩
/-- the names get them, from the left -/
def setMs : List Nat → List Mx → Env → Option Env
  | [], [], e => some e
  | k :: ks, m :: ms, e => if k < e.length then setMs ks ms (e.set k m.sl) else none
  | _, _, _ => none
def setS (k : Nat) (v : V) (σ : L2.St) : L2.St := σ.set k (some v)
def setVs : List Nat → List V → L2.St → L2.St
  | k :: ks, v :: vs, σ => setVs ks vs (σ.set k (some v))
  | _, _, σ => σ
theorem RM.len {c : Ct per} {F : Hp} {σ : L2.St} {H : Hp} {e : Env} : ∀ {ms : List Mx} {vs : List V}, RM c F σ H e ms vs → vs.length = ms.length
  | [], vs, h => by rw [show vs = [] from h]; rfl
  | _ :: _, _, h => by
    obtain ⟨v, r, ev, _, h2⟩ := h
    rw [ev, List.length_cons, List.length_cons, RM.len h2]
theorem NewL.set {c : Ct per} {F : Hp} {σ : L2.St} {H : Hp} {e : Env} {b : Addr} {ws : List V} {k : Nat} {s : Sl} {v : V} (n : NewL c F σ H e b ws) (hs : (∃ l, s = .ow l) → k < e.length → k < σ.length → v ≠ .ref b) (hl : σ.length = e.length) : NewL c F (σ.set k (some v)) H (e.set k s) b ws :=
  ⟨n.at_, n.nf, n.n0, n.nr, fun j h => by
    by_cases hj : k = j
    · subst hj
      obtain ⟨⟨l, h1⟩, h2⟩ := h
      have hk : k < (e.set k s).length := (List.getElem?_eq_some_iff.mp h1).1
      rw [List.length_set] at hk
      rw [List.getElem?_set_self hk] at h1
      rw [List.getElem?_set_self (by rw [hl]; exact hk)] at h2
      cases h1
      cases h2
      exact hs ⟨l, rfl⟩ hk (by rw [hl]; exact hk) rfl
    · exact n.no j (h.set_ne hj)⟩
theorem RM.set {c : Ct per} {F : Hp} {σ : L2.St} {H : Hp} {e : Env} {k : Nat} {s : Sl} {v : V} (hl : σ.length = e.length) : ∀ {ms : List Mx} {vs : List V}, ((∃ l, s = .ow l) → ∀ a, v = .ref a → a ∉ newAs ms vs) → RM c F σ H e ms vs → RM c F (σ.set k (some v)) H (e.set k s) ms vs
  | [], vs, _, h => h
  | m :: ms, vs, hs, h => by
    obtain ⟨w, r, ev, h1, h2⟩ := h
    subst ev
    cases m with
    | d x => exact ⟨w, r, rfl, h1, RM.set hl hs h2⟩
    | n l =>
      obtain ⟨a, ws, ea, nl, rl, na⟩ := h1
      subst ea
      have hs' : (∃ l, s = .ow l) → ∀ b, v = .ref b → b ∉ a :: newAs ms r := hs
      refine ⟨_, r, rfl, ⟨a, ws, rfl, nl.set (fun ho _ _ ev => hs' ho a ev List.mem_cons_self) hl, rl, na⟩, RM.set hl (fun ho b eb hb => hs' ho b eb (List.mem_cons_of_mem _ hb)) h2⟩
theorem set_all {c : Ct per} {F : Hp} {H : Hp} : ∀ {ms : List Mx} {ks : List Nat} {vs : List V} {σ : L2.St} {e e' : Env}, Rel c F σ H e → RM c F σ H e ms vs → setMs ks ms e = some e' → Rel c F (setVs ks vs σ) H e' ∧ ks.length = ms.length
  | [], [], vs, σ, e, e', R, r, h => by
    cases h
    have r : vs = [] := r
    subst r
    exact ⟨R, rfl⟩
  | [], k :: ks, vs, σ, e, e', R, r, h => by cases h
  | m :: ms, [], vs, σ, e, e', R, r, h => by cases h
  | m :: ms, k :: ks, vs, σ, e, e', R, r, h => by
    have h : (if k < e.length then setMs ks ms (e.set k m.sl) else none) = some e' := h
    by_cases hk : k < e.length
    · rw [if_pos hk] at h
      obtain ⟨v, w, ev, r1, r2⟩ := r
      subst ev
      cases m with
      | d x =>
        obtain ⟨i1, i2⟩ := set_all (R.set hk r1) (RM.set R.len (fun z => by obtain ⟨l, z⟩ := z; cases z) r2) h
        exact ⟨i1, congrArg Nat.succ i2⟩
      | n l =>
        obtain ⟨a, ws, ea, nl, rl, na⟩ := r1
        subst ea
        obtain ⟨i1, i2⟩ := set_all (R.setOw hk nl.at_ nl.nf nl.n0 nl.nr nl.no rl) (RM.set R.len (fun _ b eb => by cases eb; exact na) r2) h
        exact ⟨i1, congrArg Nat.succ i2⟩
    · rw [if_neg hk] at h
      cases h
def parF (ks : List Nat) (f : Env → R (List Mx)) : Env → SR := fun e => (f e).toS fun ms e1 => if ks.length ≤ 100000 then (match setMs ks ms e1 with
  | some e2 => .nx e2
  | none => .no) else .no
theorem par_core {f : Env → R (List Mx)} {W : Ends} {σ : L2.St} {H : Hp} {Q : List V → Hp → Prop} (q : rS ξ (parF ks f) W σ H)
    (k : ∀ vs H1, vs.length = ks.length → ks.length ≤ 100000 → (∃ (c : Ct per) (F1 : Hp) (e1 e2 : Env) (ms : List Mx) (F : Hp), Same F F1 ∧ Rel c F1 σ H1 e1 ∧ RM c F1 σ H1 e1 ms vs ∧ setMs ks ms e1 = some e2 ∧ PqS ξ c F W (.nx e2)) → Q vs H1) : rM ξ f σ H Q := by
  obtain ⟨c, F, e, R, q⟩ := q
  refine ⟨c, F, e, R, Pst.mono (toS_pst q) (fun ms e1 q1 F1 H1 vs s1 R1 r1 => ?_) fun _ z => z⟩
  by_cases hl : ks.length ≤ 100000
  · simp only [if_pos hl] at q1
    cases x1 : setMs ks ms e1 with
    | none => simp only [x1] at q1; exact q1.elim
    | some e2 =>
      simp only [x1] at q1
      exact k vs H1 (r1.len.trans (set_all R1 r1 x1).2.symm) hl ⟨c, F1, e1, e2, ms, F, s1, R1, r1, x1, q1⟩
  · simp only [if_neg hl] at q1
    exact q1.elim
def gNames : List Nat → TGs
  | [] => gNil
  | k :: ks => gCons (gName k) (gNames ks)
theorem gNames_all : ∀ {ks : List Nat} {vs : List V} {σ : L2.St} {H : Hp} {Q : L2.St → Hp → Prop}, vs.length = ks.length → Q (setVs ks vs σ) H → gNames ks vs σ H Q
  | [], [], σ, H, Q, _, q => ⟨rfl, q⟩
  | k :: ks, v :: vs, σ, H, Q, h, q => ⟨v, vs, rfl, gNames_all (by simpa using h) q⟩
  | [], _ :: _, _, _, _, h, _ => by simp at h
  | _ :: _, [], _, _, _, h, _ => by simp at h
/-- (names) = (values), by a tuple -/
theorem q_parT {tgts : List Expr} {k k2 : Nat} {tp tp2 : Pos} {f : Env → R (List Mx)} (hc : X.calm = true) (ha : PA X es (rM ξ f)) (hg : PGs X tgts (gNames ks))
    (hn : (assignEach tgts X.env).length = ks.length := by rfl) (hst : (assignEach tgts X.env).findIdx? (·.1) = none := by rfl)
    (hs : swapsWithSole [.Tuple tgts k tp] (.Tuple es k2 tp2) pos.line X.env = pure false := by rfl) (hw : swappedStores [.Tuple tgts k tp] (.Tuple es k2 tp2) X.env = pure none := by rfl)
    (h1 : (assignEach [.Tuple tgts k tp] X.env).map (·.2) = [assign (.Tuple tgts k tp) X.env] := by rfl) : PS X (.Assign [.Tuple tgts k tp] (.Tuple es k2 tp2) pos) (rS ξ (parF ks f)) :=
  PS.imp (ps_asg (pe_tup ha) (pg_tup hc hg hn hst) hs hw h1) fun W σ H q => by
    refine par_core q fun vs H1 hv hl z => ⟨small_line (by rw [hv]; exact hl), fun p hp => ?_⟩
    obtain ⟨c, F1, e1, e2, ms, F, s1, R1, r1, x1, q⟩ := z
    refine ⟨p, vs, rfl, SqT.of upd_same, hv, gNames_all hv ?_⟩
    exact q F1 _ _ s1 ((set_all R1 r1 x1).1.newH hp _)
theorem q_par2 {i j : Nat} {x y : Str} {px py pt pt2 : Pos} {kt k2 : Nat} {f : Env → R (List Mx)} (hc : X.calm = true) (hN : X.N.Nodup) (hi : X.N[i]? = some x) (hj : X.N[j]? = some y) (hij : i ≠ j)
    (hx : X.env.scope.names.lookup x = some .local) (hy : X.env.scope.names.lookup y = some .local) (ha : PA X [a, b] (rM ξ f))
    (hw : swappedStores [.Tuple [.Name x px, .Name y py] kt pt] (.Tuple [a, b] k2 pt2) X.env = pure (some [x, y]))
    (hs : swapsWithSole [.Tuple [.Name x px, .Name y py] kt pt] (.Tuple [a, b] k2 pt2) pos.line X.env = pure false := by rfl) :
    PS X (.Assign [.Tuple [.Name x px, .Name y py] kt pt] (.Tuple [a, b] k2 pt2) pos) (rS ξ (parF [i, j] f)) :=
  PS.imp (ps_par hc hN hi hj hij hx hy ha hw hs) fun W σ H q => by
    refine par_core q fun vs H1 hv hl z => ?_
    obtain ⟨c, F1, e1, e2, ms, F, s1, R1, r1, x1, q⟩ := z
    match vs, hv with
    | [v, w], _ => exact ⟨v, w, rfl, q F1 _ _ s1 (set_all R1 r1 x1).1⟩
theorem q_par3 {i j l : Nat} {x y z : Str} {d : Expr} {px py pz pt pt2 : Pos} {kt k2 : Nat} {f : Env → R (List Mx)} (hc : X.calm = true) (hN : X.N.Nodup) (hi : X.N[i]? = some x) (hj : X.N[j]? = some y) (hl : X.N[l]? = some z) (hij : i ≠ j) (hil : i ≠ l) (hjl : j ≠ l)
    (hx : X.env.scope.names.lookup x = some .local) (hy : X.env.scope.names.lookup y = some .local) (hz : X.env.scope.names.lookup z = some .local) (ha : PA X [a, b, d] (rM ξ f))
    (hw : swappedStores [.Tuple [.Name x px, .Name y py, .Name z pz] kt pt] (.Tuple [a, b, d] k2 pt2) X.env = pure (some [x, y, z]))
    (hs : swapsWithSole [.Tuple [.Name x px, .Name y py, .Name z pz] kt pt] (.Tuple [a, b, d] k2 pt2) pos.line X.env = pure false := by rfl) :
    PS X (.Assign [.Tuple [.Name x px, .Name y py, .Name z pz] kt pt] (.Tuple [a, b, d] k2 pt2) pos) (rS ξ (parF [i, j, l] f)) :=
  PS.imp (ps_par3 hc hN hi hj hl hij hil hjl hx hy hz ha hw hs) fun W σ H q => by
    refine par_core q fun vs H1 hv hl z => ?_
    obtain ⟨c, F1, e1, e2, ms, F, s1, R1, r1, x1, q⟩ := z
    match vs, hv with
    | [v, w, u], _ => exact ⟨v, w, u, rfl, q F1 _ _ s1 (set_all R1 r1 x1).1⟩

/-! ### lists written -/
def setIF (k : Nat) (fi f : Env → R Hd) : Env → SR := fun e => (f e).toS fun h e1 => match fz e1 h with
  | some (d, e2) => if isOw e2[k]? = true then (fi e2).toS fun hi e3 => (match hi with
    | .d (.int i) => (match setRow e3 k fun l => (ixN l.length i).map fun j => l.set j d with
      | some e4 => .nx e4
      | none => .no)
    | _ => .no) else .no
  | none => .no
theorem q_setI (k : Nat) {o i : Expr} {spos : Pos} {fi f : Env → R Hd} (ho : PE X o (tVar k)) (hi : PE X i (rE ξ fi)) (he : PE X a (rE ξ f)) (ha : ∀ v, assign (.Subscript o i spos) X.env v = (do
      let ov ← holding [v] (eval o X.env)
      let iv ← holding [v, ov] (eval i X.env)
      standAt spos
      holding [v, ov, iv] (setItem ov iv v)
      release [v, ov, iv] []) := by intro _; rfl) (hs : swapsWithSole [.Subscript o i spos] a pos.line X.env = pure false := by rfl) (hw : swappedStores [.Subscript o i spos] a X.env = pure none := by rfl)
    (h1 : (assignEach [.Subscript o i spos] X.env).map (·.2) = [assign (.Subscript o i spos) X.env] := by rfl) : PS X (.Assign [.Subscript o i spos] a pos) (rS ξ (setIF k fi f)) :=
  PS.imp (ps_asg he (pg_sub ho hi set_list ha) hs hw h1) fun W σ H q => by
    obtain ⟨c, F, e, R, q⟩ := q
    refine ⟨c, F, e, R, Pst.mono (toS_pst q) (fun h e1 q1 F1 H1 v s1 R1 r1 => ?_) fun _ z => z⟩
    cases x1 : fz e1 h with
    | none => simp only [x1] at q1; exact q1.elim
    | some pr =>
      obtain ⟨d, e2⟩ := pr
      simp only [x1] at q1
      obtain ⟨F2, s2, R2, rp⟩ := R1.hand r1 x1
      by_cases hz : isOw e2[k]? = true
      · simp only [if_pos hz] at q1
        obtain ⟨a0, vs0, h0, h1⟩ := isOw_ref R2 hz
        refine ⟨.ref a0, h0, c, F2, e2, R2, Pst.mono (toS_pst q1) (fun hh e3 q3 F3 H3 iv s3 R3 r3 => ?_) fun _ z => z⟩
        cases hh with
        | s j => exact q3.elim
        | d y =>
          cases y <;> try exact q3.elim
          rename_i i
          have r3 : iv = .int i := r3
          subst r3
          simp only at q3
          cases x4 : setRow e3 k fun l => (ixN l.length i).map fun j => l.set j d with
          | none => simp only [x4] at q3; exact q3.elim
          | some e4 =>
            simp only [x4] at q3
            obtain ⟨p, vs, l, l', e5, hp, r, hg, fin⟩ := R3.row x4
            rw [h0] at e5
            cases e5
            obtain ⟨j, hj, hl⟩ := Option.map_eq_some_iff.mp hg
            subst hl
            refine ⟨a0, vs, i, j, rfl, rfl, hp, by rw [r.len]; exact hj, ?_⟩
            exact q3 F3 _ _ (s1.trans (s2.trans s3)) (fin F3 _ (Same.refl F3) H3 R3 hp (Rps.set (rp.mono s3) j r))
      · simp only [if_neg hz] at q1
        exact q1.elim
def extF (k : Nat) (f : Env → R Hd) : Env → R Hd := fun e => (f e).bind fun h e1 => match fz e1 h with
  | some (.lst m, e2) => (match setRow e2 k fun l => if l.length + m.length ≤ 100000 then some (l ++ m) else none with
    | some e3 => .ok (.d .non) e3
    | none => .no)
  | _ => .no
theorem q_extend (k : Nat) {o : Expr} {f : Env → R Hd} (ho : PE X o (tVar k)) (ha : PE X a (rE ξ f))
    (hx : PE X o (tVar k) → PA X [a] (rA ξ (consF f nilF)) → PE X b (tBM X.K "list" rExtend (tVar k) (rA ξ (consF f nilF))))
    (hs : starEach [a] X.env = (false, eval a X.env) :: starEach [] X.env := by rfl) : PE X b (rE ξ (guardO k (extF k f))) :=
  PE.imp (hx ho (q_cons ha q_nil hs)) fun σ H Q q => by
    obtain ⟨c, F, e, R, q⟩ := q
    obtain ⟨g0, q⟩ := guard_pst q
    obtain ⟨a0, vs0, h0, h1⟩ := isOw_ref R g0
    refine ⟨.ref a0, h0, .inl ⟨rfl, vs0, SqL.of h1⟩, c, F, e, R, ?_⟩
    have q := pst_bind.mp q
    refine pst_bind.mpr (Pst.mono q (fun h e1 q1 => ?_) fun _ z => z)
    refine pst_bind.mpr ?_
    intro F1 H1 ws s1 R1 r1
    obtain ⟨v, rr, ew, rv, rn⟩ := r1
    have rn : rr = [] := rn
    subst rn
    cases x1 : fz e1 h with
    | none => simp only [x1] at q1; exact q1.elim
    | some p =>
      obtain ⟨d, e2⟩ := p
      obtain ⟨F2, s2, R2, rp⟩ := R1.hand rv x1
      cases d <;> simp only [x1] at q1 <;> try exact q1.elim
      rename_i m
      cases x2 : setRow e2 k fun l => if l.length + m.length ≤ 100000 then some (l ++ m) else none with
      | none => simp only [x2] at q1; exact q1.elim
      | some e3 =>
        simp only [x2] at q1
        obtain ⟨p, vs, l, l', e4, hp, r, hg, fin⟩ := R2.row x2
        rw [h0] at e4
        cases e4
        by_cases hl : l.length + m.length ≤ 100000
        · rw [if_pos hl] at hg
          cases hg
          obtain ⟨bb, zs, ev, hb, rz⟩ := rp
          subst ev
          refine ⟨a0, bb, vs, zs, rfl, ew, hp, R2.fh _ _ hb, ?_, q1 F2 _ _ (s1.trans s2) (fin F2 _ (Same.refl F2) H1 R2 hp (r.app rz)) rfl⟩
          rw [r.len, rz.len]
          exact small_line hl
        · rw [if_neg hl] at hg
          cases hg
theorem Rel.rowAt {c : Ct per} {F : Hp} {σ : L2.St} {H : Hp} {e e' : Env} {k : Nat} {l : List D} {g : List D → Option (List D)} (R : Rel c F σ H e) (h0 : rowAt e k = some l) (h : setRow e k g = some e') :
    ∃ a vs l', σ[k]? = some (some (.ref a)) ∧ H a = some (.lst vs) ∧ Rps F l vs ∧ g l = some l' ∧ ∀ F' ws, Same F F' → ∀ H2, Rel c F' σ H2 e → H2 a = some (.lst vs) → Rps F' l' ws → Rel c F' σ (upd H2 a (.lst ws)) e' := by
  unfold PL.rowAt at h0
  split at h0
  · rename_i l2 hk
    cases h0
    unfold setRow at h
    simp only [hk] at h
    obtain ⟨l', h1, h2⟩ := Option.map_eq_some_iff.mp h
    obtain ⟨a, vs, e1, ha, hf, h0, hr, r⟩ := R.sl k _ hk
    exact ⟨a, vs, l', e1, ha, r, h1, fun F' ws s H2 R2 _ rw' => by rw [← h2]; exact R2.write hk e1 rw'⟩
  · rename_i l2 hk
    cases h0
    unfold setRow at h
    simp only [hk] at h
    obtain ⟨l', h1, h2⟩ := Option.map_eq_some_iff.mp h
    obtain ⟨a, vs, e1, hr, ha, hf, r⟩ := R.sl k _ hk
    exact ⟨a, vs, l', e1, ha, r, h1, fun F' ws s H2 R2 _ rw' => by rw [← h2]; exact R2.writeR hk e1 rw'⟩
  · cases h0
/-- x.pop() -/
def popF (k : Nat) : Env → R Hd := fun e => match rowAt e k with
  | some l => (match l.getLast? with
    | some d => (match setRow e k fun l => some l.dropLast with
      | some e2 => .ok (.d d) e2
      | none => .no)
    | none => .no)
  | none => .no
theorem q_pop (k : Nat) (h : PE X b (tBM0 X.K "list" rPop (tVar k))) : PE X b (rE ξ (popF k)) := PE.imp h fun σ H Q q => by
  obtain ⟨c, F, e, R, q⟩ := q
  unfold popF at q
  cases x0 : rowAt e k with
  | none => rw [x0] at q; exact q.elim
  | some l0 =>
    rw [x0] at q
    simp only at q
    cases x1 : l0.getLast? with
    | none => rw [x1] at q; exact q.elim
    | some d =>
      rw [x1] at q
      simp only at q
      cases x2 : setRow e k fun l => some l.dropLast with
      | none => rw [x2] at q; exact q.elim
      | some e2 =>
        rw [x2] at q
        obtain ⟨a, vs, l', e1, ha, r, hg, fin⟩ := Rel.rowAt R x0 x2
        cases hg
        refine ⟨.ref a, e1, .inl ⟨rfl, vs, SqL.of ha⟩, ?_⟩
        rw [List.getLast?_eq_getElem?] at x1
        obtain ⟨y, hy, ry⟩ := r.get x1
        refine ⟨a, vs, y, rfl, rfl, ha, by rw [r.len]; exact hy, ?_⟩
        exact q F _ y (Same.refl F) (fin F _ (Same.refl F) H R ha r.dropLast) ry
/-- list(range(n)) as a new list -/
def rgnF (g : List D → Option (List D)) (f : Env → R (List Hd)) : Env → R (List D) := fun e => (f e).bind fun hs e1 => match hds e1 hs with
  | some ds => optN e1 (g ds)
  | none => .no
theorem rgV_rep {F : Hp} {a b : Int} : Rps F (rangeL a (b - a).toNat) (rgV a b) := by
  unfold rangeL rgV
  have : ∀ l : List Nat, Rps F (l.map fun i => D.int (a + (i : Nat))) (l.map fun i => V.int (a + (i : Nat))) := fun l => by
    induction l with
    | nil => rfl
    | cons x r ih => exact ⟨_, _, rfl, rfl, ih⟩
  exact this _
theorem q_listRg1 {n : Expr} {p p2 pos2 : Pos} {f : Env → R Hd} (hc : X.calm = true) (hg : Gl X "list") (hm : X.mg "list" = none) (hg2 : Gl X "range") (hm2 : X.mg "range" = none) (ha : PE X n (rE ξ f)) (na2 : starEach [n] X.env = (false, eval n X.env) :: starEach [] X.env := by rfl)
    (na : starEach [.Call (.Name "range" p2) [n] [] pos2] X.env = (false, eval (.Call (.Name "range" p2) [n] [] pos2) X.env) :: starEach [] X.env := by rfl) : PE X (.Call (.Name "list" p) [.Call (.Name "range" p2) [n] [] pos2] [] pos) (rN ξ (rgnF rng1 (consF f nilF))) :=
  PE.imp (pe_listRg hc hg hm (prg_1 hg2 hm2 ha na2) na) fun σ H Q q => by
    obtain ⟨c, F, e, R, q⟩ := q
    refine ⟨c, F, e, R, ?_⟩
    have q := pst_bind.mp (pst_bind.mp q)
    refine Pst.mono q (fun h e1 q1 F1 H1 v s1 R1 r1 => ?_) fun _ z => z
    have q1 := pst_bind.mp q1
    have q1 : Pst (match hds e1 [h] with
      | some ds => optN e1 (rng1 ds)
      | none => .no : PL.R (List D)) (PqN c F σ Q) (ErrP ξ c) := q1
    cases x1 : hds e1 [h] with
    | none => rw [x1] at q1; exact q1.elim
    | some ds =>
      rw [x1] at q1
      simp only at q1
      obtain ⟨l, x2, q2⟩ := optN_pst q1
      have rq := R1.looks (hs := [h]) (vs := [v]) ⟨v, [], rfl, r1, rfl⟩ x1
      unfold rng1 at x2
      split at x2
      · rename_i j
        obtain ⟨w, ww, ew, rw', rn⟩ := rq
        have rw' : w = .int j := rw'
        subst rw'
        cases ew
        split at x2
        · rename_i hb
          cases x2
          refine ⟨j, rfl, ⟨by omega, by omega, by omega, by omega, by omega⟩, fun p hp => ?_⟩
          obtain ⟨R2, n2⟩ := R1.newL hp (rgV 0 j)
          have := rgV_rep (F := F1) (a := 0) (b := j)
          rw [Int.sub_zero] at this
          exact q2 F1 _ p _ s1 R2 n2 this
        · cases x2
      · cases x2
end
end PL
set_option Elab.async false
set_option linter.all false
set_option maxRecDepth 100000
set_option maxHeartbeats 4000000
/-! The pure layer, 11: the script; a lambda handed to a def that tells the error's name. -/
namespace PL
open PySem PySem.Spec PyProof.Rows L2
/-! ### the script's list, known by its address -/
def lenS (sa : Addr) (ns : List Int) : List D → Option D
  | [.opq (.ref b)] => if b = sa then some (.int ns.length) else none
  | xs => lenD xs
def idxS (sa : Addr) (ns : List Int) : D → D → Option D
  | .opq (.ref b), .int i => if b = sa then (atI ns i).map .int else none
  | x, y => idxD x y
section
variable {K : PySem.W.Frag} {sa : Addr} {ns : List Int}
theorem cas_lenS (hP : ∀ F H, per.P F H → SqL K F sa (ns.map V.int)) : CaS per (rLen K) (lenS sa ns) := by
  intro c F σ H e xs d vs Q R rx h q
  unfold lenS at h
  split at h
  · rename_i b
    split at h
    · rename_i hb
      cases h
      obtain ⟨v, rfl, r⟩ := rqs1 rx
      rw [show v = .ref b from r, hb]
      exact ⟨.ref sa, ns.length, rfl, .inl ⟨_, R.fh.seq (hP F H R.pf), by rw [List.length_map]⟩, q F H _ (Same.refl F) R rfl⟩
    · cases h
  · exact cas_len c F σ H e xs d vs Q R rx h q
theorem atI_map {f : Int → V} {l : List Int} {i : Int} {z : Int} (h : atI l i = some z) : atI (l.map f) i = some (f z) := by
  unfold atI at h ⊢
  rw [List.length_map]
  cases q : ixN l.length i with
  | none => rw [q] at h; cases h
  | some j =>
    rw [q] at h
    have h : l[j]? = some z := h
    show (l.map f)[j]? = _
    rw [List.getElem?_map, h]
    rfl
theorem ops_idxS (hP : ∀ F H, per.P F H → SqL K F sa (ns.map V.int)) : OpS per (rIx K) (idxS sa ns) := by
  intro c F σ H e x y d v w Q R rx ry h q
  unfold idxS at h
  split at h
  · rename_i b i
    split at h
    · rename_i hb
      obtain ⟨z, hz, hd⟩ := Option.map_eq_some_iff.mp h
      subst hd
      have rx : v = .ref b := rx
      rw [rx, hb]
      exact .inl ⟨sa, _, i, .int z, rfl, ry, R.fh.seq (hP F H R.pf), atI_map hz, q F H _ (Same.refl F) R rfl⟩
    · cases h
  · exact ops_idx c F σ H e x y d v w Q R rx ry h q
end
section
variable {X : Cx} {ξ : Xi per} {a b : Expr} {pos : Pos}
theorem q_ixS {sa : Addr} {ns : List Int} {fa fb : Env → R Hd} (hP : ∀ F H, per.P F H → SqL X.K F sa (ns.map V.int)) (ha : PE X a (rE ξ fa)) (hb : PE X b (rE ξ fb)) (hs : PlainIx b := by exact fun _ _ => rfl) : PE X (.Subscript a b pos) (rE ξ (op2F (idxS sa ns) fa fb)) :=
  PE.imp (pe_ix ix_seq ha hb hs) fun _ _ _ q => op2_core (ops_idxS hP) q
end
/-! ### a lambda -/
/-- what a captured context shows -/
def hideS : Sl → Sl
  | .va d => .va d
  | _ => .no
def hide (e : Env) : Env := e.map hideS
open Classical in
noncomputable def cutT (per : Per) (H : Hp) : Hp := fun a => match H a with
  | some (.tbl ps) => if per.tab a then some (.tbl ps) else none
  | o => o
theorem cutT_nt {H : Hp} {a : Addr} {o : HO} (h : H a = some o) (n : NT o) : cutT per H a = some o := by
  unfold cutT
  rw [h]
  cases o <;> first | rfl | exact absurd rfl (n _)
theorem cutT_tab {H : Hp} {a : Addr} {o : HO} (h : H a = some o) (n : per.tab a) : cutT per H a = some o := by
  unfold cutT
  rw [h]
  cases o <;> first | rfl | exact if_pos n
open Classical in
theorem of_cutT {H : Hp} {a : Addr} {o : HO} (h : cutT per H a = some o) : H a = some o := by
  unfold cutT at h
  cases q : H a with
  | none => rw [q] at h; cases h
  | some u =>
    rw [q] at h
    cases u <;> first | exact h | skip
    rename_i ps
    have h : (if per.tab a then some (HO.tbl ps) else none) = some o := h
    split at h
    · exact h
    · cases h
open Classical in
theorem cutT_tbl {H : Hp} {a : Addr} {ps : Array Value} (h : cutT per H a = some (.tbl ps)) : per.tab a := by
  have z := of_cutT h
  unfold cutT at h
  rw [z] at h
  have h : (if per.tab a then some (HO.tbl ps) else none) = some (HO.tbl ps) := h
  split at h
  · assumption
  · cases h
section
variable {c : Ct per} {F F' : Hp} {σ : L2.St} {H H' : Hp} {e : Env}
theorem Rel.nt (R : Rel c F σ H e) (hl : per.lam = true) {a : Addr} {o : HO} (h : F a = some o) : NT o := by
  rcases R.fn a o h with z | z
  · exact c.f0t hl a o z
  · exact z.2
theorem Rel.hide (R : Rel c F σ H e) (hl : per.lam = true) : Rel (per := per) ⟨F, cutT per H, none, fun z a o h => R.nt z h, fun z a ps h => cutT_tbl h⟩ F σ H (PL.hide e) := by
  have at_ : ∀ (i : Nat) (s : Sl), (PL.hide e)[i]? = some s → s = Sl.no ∨ ∃ d, s = Sl.va d ∧ e[i]? = some (Sl.va d) := fun i s h => by
    unfold PL.hide at h
    rw [List.getElem?_map] at h
    cases q : e[i]? with
    | none => rw [q] at h; cases h
    | some t =>
      rw [q] at h
      cases h
      cases t with
      | va d => exact .inr ⟨d, rfl, rfl⟩
      | _ => exact .inl rfl
  refine ⟨R.fh, Same.refl F, fun a o q => .inl q, fun a o q _ _ => of_cutT q, fun a z => (by cases z), by unfold PL.hide; rw [List.length_map]; exact R.len, fun i s q => ?_, fun i j a h => ?_, fun i l q => ?_, fun a o q => ⟨o, of_cutT q⟩, R.pf⟩
  · rcases at_ i s q with z | ⟨d, z, hd⟩
    · subst z; trivial
    · subst z
      exact R.sl i _ hd
  · obtain ⟨⟨l, h1⟩, _⟩ := h
    rcases at_ _ _ h1 with z | ⟨d, z, _⟩ <;> cases z
  · rcases at_ _ _ q with z | ⟨d, z, _⟩ <;> cases z
/-- tables may have grown -/
theorem Rel.afterL (R : Rel c F σ H e) (hl : per.lam = true) (s : Same F F') (fh : Same F' H') (nw : ∀ a o, F' a = some o → F a = some o ∨ (cutT per H a = none ∧ NT o)) (sh : ∀ a o, H a = some o → NT o → H' a = some o) (pf : per.P F' H') : Rel c F' σ H' e := by
  have fno : ∀ {a : Addr} {o : HO}, H a = some o → NT o → F a = none → F' a = none := fun {a o} h1 hn h2 => by
    cases q : F' a with
    | none => rfl
    | some u =>
      rcases nw a u q with z | z
      · rw [h2] at z; cases z
      · rw [cutT_nt h1 hn] at z; cases z.1
  have c0 : ∀ a o, c.H0 a = some o → cutT per H a ≠ none ∧ ∃ o', H' a = some o' := fun a o h => by
    by_cases hn : NT o
    · by_cases hr : c.rw = some a
      · obtain ⟨_, vs, hv⟩ := R.rk a hr
        have n : NT (.lst vs) := fun ps z => by cases z
        exact ⟨by rw [cutT_nt hv n]; exact fun z => (by cases z), _, sh _ _ hv n⟩
      · have hv := R.kp a o h hr (.inr hn)
        exact ⟨by rw [cutT_nt hv hn]; exact fun z => (by cases z), _, sh _ _ hv hn⟩
    · have : ∃ ps, o = .tbl ps := by
        cases o <;> first | exact ⟨_, rfl⟩ | exact absurd (fun ps z => by cases z) hn
      obtain ⟨ps, rfl⟩ := this
      have ht := c.h0t hl a ps h
      obtain ⟨u, hu⟩ := per.t2 H R.pf.2 a ht
      obtain ⟨u', hu'⟩ := per.t2 H' pf.2 a ht
      exact ⟨by rw [cutT_tab hu ht]; exact fun z => (by cases z), u', hu'⟩
  have lnt : ∀ vs, NT (HO.lst vs) := fun vs ps z => by cases z
  refine ⟨fh, fun a o q => s _ _ (R.f0 a o q), fun a o q => ?_, fun a o q z kk => ?_, fun a q => ?_, R.len, fun i sl q => ?_, R.ap, R.pu, fun a o q => (c0 a o q).2, pf⟩
  · rcases nw a o q with z | z
    · exact R.fn a o z
    · refine .inr ⟨?_, z.2⟩
      cases q : c.H0 a with
      | none => rfl
      | some u => exact absurd z.1 (c0 a u q).1
  · have hn : NT o := by
      rcases kk with k | k
      · rw [hl] at k; cases k
      · exact k
    exact sh _ _ (R.kp a o q z kk) hn
  · obtain ⟨h1, vs, h2⟩ := R.rk a q
    exact ⟨fno h2 (lnt vs) h1, vs, sh _ _ h2 (lnt vs)⟩
  · have h := R.sl i sl q
    cases sl with
    | no => trivial
    | va d =>
      obtain ⟨v, e1, r⟩ := h
      exact ⟨v, e1, r.mono s⟩
    | ow l =>
      obtain ⟨a, vs, e1, ha, hf, h0, hr, r⟩ := h
      exact ⟨a, vs, e1, sh _ _ ha (lnt vs), fno ha (lnt vs) hf, h0, hr, r.mono s⟩
    | pr l =>
      obtain ⟨a, vs, e1, hr, ha, hf, r⟩ := h
      exact ⟨a, vs, e1, hr, sh _ _ ha (lnt vs), fno ha (lnt vs) hf, r.mono s⟩
end
/-! the def that tells: try: a() / except x as e: return e.name / return '' -/
def TRef (CS : Addr) : (XK → Hp → VK → Prop) → Hp → VK → Prop := fun tl H Q =>
  tl (fun cls dd H' => ∃ (n : Str) (d : Addr), cls = .ref CS ∧ dd = some d ∧ H' d = some (.xd [(("name" : Str), .str n)]) ∧ Q (.str n) H') H (fun _ H' => Q (.str "") H')
theorem takes_len {X : Cx} {W : WX} (t : Takes X W) : Takes X (fun cls d σ H => σ.length = X.N.length → W cls d σ H) := fun u s' ⟨a, B, sI, pins, σ, H, cls, d, e, I, nb, up, sky, na, os, ag, w⟩ =>
  t u s' ⟨a, B, sI, pins, σ, H, cls, d, e, I, nb, up, sky, na, os, ag, w I.len⟩
def refB (a x : Str) (j : Nat) (p1 p2 p3 p4 p5 p6 p7 p8 p9 p10 p11 : Pos) : List Stmt :=
  [.Try [.Expr (.Call (.Name a p1) [] [] p2) p3] [.ExceptHandler (some (.Name x p4)) (some "e") [.Return (some (.Attribute (.Name "e" p5) "name" p6)) p7] p8] [] [] p9, .Return (some (.Constant (.str "") j p10)) p11]
theorem ref_gives {X : Cx} {a x ex q : Str} {sg : Scope} {g CS : Addr} {cdg : Value} {j : Nat} {p1 p2 p3 p4 p5 p6 p7 p8 p9 p10 p11 : Pos} (hne : a ≠ "e") (hge : sg.names.lookup ex = some .globalImplicit) (hle : sg.names.lookup ("e" : Str) = some .local) (hme : X.mg ex = some (.ref CS)) (hde : (ex == ("__debug__" : Str)) = false)
    (T : XfC X.K CS) (hno : PySem.W.findIn X.K (.ref CS) "name" = some none) (te : PySem.W.exmOne X.K (.ref CS) (.ref CS) = some true) :
    LamX.GivesTo X [a, "e"] x sg g cdg (refB a ex j p1 p2 p3 p4 p5 p6 p7 p8 p9 p10 p11) a q (TRef CS) := by
  intro f c' s H Q tl act hc h
  have hgl : Gl (cxOf C8.CX0 X.prog X.w X.K X.mg X.base [a, "e"] x sg g cdg X.A X.stack s H C8.E0).nox ex := hge
  have nd : (cxOf C8.CX0 X.prog X.w X.K X.mg X.base [a, "e"] x sg g cdg X.A X.stack s H C8.E0).nox.N.Nodup := by
    show [a, "e"].Nodup
    simp [hne]
  refine ⟨_, pss_cons (ps_try_as (i := 1) (X := (cxOf C8.CX0 X.prog X.w X.K X.mg X.base [a, "e"] x sg g cdg X.A X.stack s H C8.E0).nox) (c := .ref CS)
      (tb := fun W D σ H => ∃ Ech : XK, (∀ cls d σ' H', Ech cls d H' → σ'.length = 2 → W cls d σ' H') ∧ σ[0]? = some (some (.ref f)) ∧ H c' = some (LamX.CodeO c' q) ∧ tl Ech H (fun _ H' => D.nx σ H'))
      (ts := fun a0 cls d => tRet (tXf a0 cls d CS "name" (tVar 1))) (Wout := fun _ _ _ _ => False)
      rfl rfl nd rfl hle ⟨hgl, hde, .inl hme⟩ LamX.takes0 (fun W pn xe tk _ => ?_) (fun a0 oe cls d pn hz hf => ?_)) (pss_one (ps_ret pe_str)), ?_⟩
  · refine ⟨fun pins s' σ H' D I h' => ?_⟩
    obtain ⟨Ech, hW, h1, h2, h3⟩ := h'
    have hp := act (fun cls d σ H => σ.length = 2 → W cls d σ H) pn xe Ech p1 p2 (takes_len tk) (fun cls d σ' H' z => hW cls d σ' H' z)
    have hq := pss_one (ps_expr (pos := p3) hp)
    exact hq.run pins s' σ H' D I ⟨h1, h2, h3⟩
  · exact pss_one (ps_ret (pe_xf T hno hz hf (pe_var (i := 1) rfl (.inl hle))))
  · refine ⟨fun cls dd H' => ∃ (n : Str) (d : Addr), cls = .ref CS ∧ dd = some d ∧ H' d = some (.xd [(("name" : Str), .str n)]) ∧ Q (.str n) H', fun cls d σ' H' z hl => ?_, rfl, hc, h⟩
    obtain ⟨n, dd, e1, e2, e3, e4⟩ := z
    refine ⟨true, by rw [e1]; exact te, fun _ a0 _ => ?_, fun z => by cases z⟩
    refine ⟨.ref a0, List.getElem?_set_self (by rw [hl]; decide), rfl, e1, dd, _, .str n, e2, e3, ?_, e4⟩
    exact List.lookup_cons_self
section
variable {X : Cx} {ξ : Xi per} {pos : Pos}
def lamF (φ : Env → R Hd) : Env → R Hd := fun e => match φ (hide e) with
  | .ok _ _ => .ok (.d (.str "")) e
  | .err (.bad n) => .ok (.d (.str n)) e
  | _ => .no
theorem lam_core {T : List (Addr × Str)} {φ : Env → R Hd} {σ : L2.St} {H : Hp} {Q : VK} (hlam : per.lam = true) (hT : ∀ H, per.P2 H → LamX.Tabs T H) (hT2 : ∀ H H1, per.P2 H → LamX.ExtN H H1 → LamX.Tabs T H1 → per.P2 H1)
    (q : rE ξ (lamF φ) σ H Q) : LamX.tLam T (TRef ξ.cb) (fun E => rE (per := per) ⟨E, ξ.cb, ξ.cm⟩ φ) σ H Q := by
  obtain ⟨c, F, e, R, q⟩ := q
  refine ⟨hT H R.pf.2, fun H1 ex t1 => ?_⟩
  have R1 : Rel c F σ H1 e := R.afterL hlam (Same.refl F) (fun a o h => ex _ _ (R.fh _ _ h) (R.nt hlam h)) (fun a o h => .inl h) (fun a o h n => ex a o h n) ⟨R.pf.1, hT2 H H1 R.pf.2 ex t1⟩
  have RH := R1.hide hlam
  refine ⟨_, F, hide e, RH, ?_⟩
  unfold lamF at q
  cases hφ : φ (hide e) with
  | ok h e' =>
    rw [hφ] at q
    have q : PqE c F σ Q (.d (.str "")) e := q
    intro F' H' v s R' rv
    exact q F' H' _ s (R1.afterL hlam s R'.fh (fun a o h => by
      rcases R'.fn a o h with z | z
      · exact .inl z
      · exact .inr z) (fun a o h n => R'.kp a o (cutT_nt h n) (fun z => by cases z) (.inr n)) R'.pf) rfl
  | err x =>
    rw [hφ] at q
    cases x with
    | bad n =>
      have q : PqE c F σ Q (.d (.str n)) e := q
      intro cls dd H' ex k1 k2 k3
      obtain ⟨e1, d, e2, e3⟩ := ex
      refine ⟨n, d, e1, e2, e3, ?_⟩
      refine q F H' _ (Same.refl F) (R1.afterL hlam (Same.refl F) (fun a o h => ?_) (fun a o h => .inl h) (fun a o h nn => k1 a o (cutT_nt h nn) (fun z => by cases z) (.inr nn)) ⟨R.pf.1, k3⟩) rfl
      have nn := R.nt hlam h
      exact k1 a o (cutT_nt (R1.fh _ _ h) nn) (fun z => by cases z) (.inr nn)
    | many i => exact q.elim
  | no => rw [hφ] at q; exact q.elim
/-- what is known of the def that tells -/
structure RefF (K : PySem.W.Frag) (mg : Str → Option Value) (x a ex : Str) (CS : Addr) : Prop where
  hmex : mg ex = some (.ref CS)
  xf : XfC K CS
  hno : PySem.W.findIn K (.ref CS) "name" = some none
  te : PySem.W.exmOne K (.ref CS) (.ref CS) = some true
  ex : ∃ (g : Addr) (oc : Value) (od : Option Addr) (pg : Arguments) (j : Nat) (p1 p2 p3 p4 p5 p6 p7 p8 p9 p10 p11 : Pos) (sg : Scope) (dV kV doc pm : Value) (an : Option Addr) (cdv ct : Value) (osl : Array (Option Value)),
    mg x = some (.ref g) ∧ PySem.W.keepIn K (.ref g) = true ∧ K.lookup g = some ⟨oc, od, .func (PySem.W.fnOf x x pg (refB a ex j p1 p2 p3 p4 p5 p6 p7 p8 p9 p10 p11) sg dV kV doc pm an cdv ct), osl⟩ ∧ PySem.W.codeIn K cdv x = true ∧
    L2.Binds K (PySem.W.fnOf x x pg (refB a ex j p1 p2 p3 p4 p5 p6 p7 p8 p9 p10 p11) sg dV kV doc pm an cdv ct) [a] [] ∧ FnScope [a, "e"] [a] sg ∧ sg.names.lookup ex = some .globalImplicit ∧ sg.names.lookup ("e" : Str) = some .local ∧ Vis sg a
theorem q_lam {T : List (Addr × Str)} {x a ex : Str} {c P : Addr} {k : Nat} {params : Arguments} {body : Expr} {scope : Scope} {φ : Env → R Hd} {p lpos : Pos} (hlam : per.lam = true) (hT : ∀ H, per.P2 H → LamX.Tabs T H) (hT2 : ∀ H H1, per.P2 H → LamX.ExtN H H1 → LamX.Tabs T H1 → per.P2 H1)
    (RF : RefF X.K X.mg x a ex ξ.cb) (hg : Gl X x) (TB : LamX.TabB X.base X.mg c P) (hcode : X.env.code = .ref c) (hmT : (P, X.env.qual ++ "<lambda>") ∈ T) (hu : ∀ p ∈ T, p.1 = P → p.2 = X.env.qual ++ "<lambda>") (hr : Room (k + 2) X.A) (L : LamX.LamS X.env.scope scope) (hdef : defaultsOf params X.env = ([], []))
    (hbind : ∀ (q : Str) (cl : List (Str × Addr)) (pm cv ctv : Value), bindArgs (PySem.W.kla_fn "<lambda>" q params body scope cl pm cv ctv) ⟨[], []⟩ = pure [])
    (hbody : ∀ (A : Around) (outer : List PySem.Env) (s : Shared) (H : Hp) (E : XK) (f c' : Addr), Room k (A.deeper (LamX.lamEnv X scope s.heap.objs.size f c')) → PE (LamX.lamCx X A outer s H E scope f c') body (rE (per := per) ⟨E, ξ.cb, ξ.cm⟩ φ))
    (hne : a ≠ "e") (hde : (ex == ("__debug__" : Str)) = false := by decide) (hdb : (x == ("__debug__" : Str)) = false := by decide) (hd : (a == ("__debug__" : Str)) = false := by decide) (hcd : (a == ("__classdict__" : Str)) = false := by decide) :
    PE X (.Call (.Name x p) [.Lambda params body scope lpos] [] pos) (rE ξ (lamF φ)) := by
  obtain ⟨g, oc, od, pg, j, p1, p2, p3, p4, p5, p6, p7, p8, p9, p10, p11, sg, dV, kV, doc, pm, an, cdv, ct, osl, hm, hk, lk, hcg, hb, Sg, hge, hle, hva⟩ := RF.ex
  exact PE.imp (LamX.pe_lamcall hg hm hk lk hcg hb Sg rfl hva (ref_gives hne hge hle RF.hmex hde RF.xf RF.hno RF.te) TB hcode hmT hu hr L hdef hbind hbody hdb hd hcd) fun σ H Q q => lam_core hlam hT hT2 q
/-! a local name that holds one of several defs -/
structure MA (Pf : Hp → Hp → Prop) (P : Program) (w : World) (K : PySem.W.Frag) (mg : Str → Option Value) (base : Heap) (f : Addr) (cb cm : Addr) (n k : Nat) (g : List D → FR) : Prop where
  ex : ∃ fd ps, FnOk P w K mg base (L2.CX P w) k f fd ps (spF Pf cb cm n g) ∧ PySem.W.keepIn K (.ref f) = true ∧ Binds K fd ps []
def callVF (S : Addr → Option (List D → FR)) (n i : Nat) (t : Env → R (List Hd)) : Env → R Hd := fun e => match e[i]? with
  | some (.va (.opq (.ref f))) => (match S f with
    | some g => callDF n g t e
    | none => .no)
  | _ => .no
theorem q_callV (i : Nat) {S : Addr → Option (List D → FR)} {n k : Nat} {x : Str} {p : Pos} {a : Expr} {es : List Expr} {t : Env → R (List Hd)} (hS : ∀ f g, S f = some g → MA per.P X.prog X.w X.K X.mg X.base f ξ.cb ξ.cm n k g) (hr : Room k X.A) (hx : Passes (L2.CX X.prog X.w) X ξ.E) (hN : X.N[i]? = some x) (hv : Vis X.env.scope x) (ha : PA X (a :: es) (rA ξ t))
    (hdb : (x == ("__debug__" : Str)) = false := by decide) (hcd : (x == ("__classdict__" : Str)) = false := by decide) (he : starEach (a :: es) X.env = (false, eval a X.env) :: starEach es X.env := by rfl) (hpl : (backTo pos (starEach es X.env)).any (·.1) = false := by rfl) :
    PE X (.Call (.Name x p) (a :: es) [] pos) (rE ξ (callVF S n i t)) := by
  refine ⟨fun pins s σ H Q I h => ?_⟩
  obtain ⟨c, F, e, R, q⟩ := h
  unfold callVF at q
  cases h0 : e[i]? with
  | none => rw [h0] at q; exact q.elim
  | some sl =>
    rw [h0] at q
    cases sl <;> try exact q.elim
    rename_i d
    cases d <;> try exact q.elim
    rename_i v
    cases v <;> try exact q.elim
    rename_i f
    simp only at q
    cases h1 : S f with
    | none => rw [h1] at q; exact q.elim
    | some g =>
      rw [h1] at q
      obtain ⟨fd, ps, Fn, hk, hb⟩ := (hS f g h1).ex
      obtain ⟨u, hu, ru⟩ := R.sl i _ h0
      have ru : u = .ref f := ru
      subst ru
      refine (pe_callL (dvs := []) Fn hr hN hv hk hb .nil hx ha hdb hcd he hpl).run pins s σ H Q I ⟨hu, c, F, e, R, ?_⟩
      refine Pst.mono (pst_bind.mp q) (fun hs e1 q1 F1 H1 vs s1 R1 r1 => ?_) fun _ z => z
      show spF per.P ξ.cb ξ.cm n g (vs ++ []) H1 Q ξ.E
      rw [List.append_nil]
      exact callD_sp R1 r1 (Pst.mono q1 (fun h e2 q2 F2 H2 v s2 R2 r2 => q2 F2 H2 v (s1.trans s2) R2 r2) fun _ z => z)
end
end PL
set_option Elab.async false
set_option linter.all false
set_option maxRecDepth 100000
set_option maxHeartbeats 4000000
/-! The pure layer, 12: more operators. -/
namespace PL
open PySem PySem.Spec PyProof.Rows L2
section
variable {X : Cx} {ξ : Xi per} {a b : Expr} {pos : Pos}
def un1F (g : D → Option D) (fa : Env → R Hd) : Env → R Hd := fun e => (fa e).bind fun h e1 => lift1 g e1 (hd e1 h)
def negD : D → Option D
  | .int i => some (.int (-i))
  | _ => none
theorem q_neg {fa : Env → R Hd} (ha : PE X a (rE ξ fa)) : PE X (.UnaryOp .USub a pos) (rE ξ (un1F negD fa)) :=
  PE.imp (pe_un un_neg ha) fun σ H Q q => by
    obtain ⟨c, F, e, R, q⟩ := q
    refine ⟨c, F, e, R, Pst.mono (pst_bind.mp q) (fun h e1 q1 F1 H1 v s1 R1 r1 => ?_) fun _ z => z⟩
    obtain ⟨x, d, x1, x2, q1⟩ := lift1_pst q1
    have rx := R1.look r1 x1
    cases x <;> try cases x2
    rename_i i
    exact ⟨i, rx, q1 F1 H1 _ s1 R1 rfl⟩
/-- times: ints, a tuple or a list by an int -/
def mulA : D → D → Option D
  | .int i, .int j => mulD (.int i) (.int j)
  | .tup l, .int k => if l ≠ [] ∧ 2 ≤ k ∧ k ≤ 1000 ∧ l.length ≤ 100 then some (.tup (List.replicate k.toNat l).flatten) else none
  | _, _ => none
theorem Rps.flat {F : Hp} {ds : List D} {vs : List V} (r : Rps F ds vs) : ∀ n : Nat, Rps F (List.replicate n ds).flatten (List.replicate n vs).flatten
  | 0 => rfl
  | n + 1 => by
    rw [List.replicate_succ, List.replicate_succ, List.flatten_cons, List.flatten_cons]
    exact r.app (Rps.flat r n)
def rMulA (K : PySem.W.Frag) : R2 := fun x y H Q => L2.rI CMul (fun i j => .int (i * j)) x y H Q ∨ rRepT K x y H Q
theorem op_mulA : OpR X (binaryOp .Mult) (rMulA X.K) := op_mul.or op_repT
theorem ops_mulA {K : PySem.W.Frag} : OpS per (rMulA K) mulA := by
  intro c F σ H e x y d v w Q R rx ry h q
  unfold mulA at h
  split at h
  · exact .inl (ops_mul c F σ H e _ _ d v w Q R rx ry h q)
  · rename_i l k
    split at h
    · rename_i hb
      cases h
      obtain ⟨p, vs, e1, hp, r⟩ := rx
      have ry : w = .int k := ry
      subst e1
      subst ry
      refine .inr ⟨p, k, vs, rfl, rfl, SqT.of (R.fh _ _ hp), ?_, hb.2.1, hb.2.2.1, by rw [r.len]; omega, fun p' hp' => ?_⟩
      · intro z
        have := r.len
        rw [z] at this
        exact hb.1 (List.length_eq_zero_iff.mp this.symm)
      · obtain ⟨sm, R2, rp⟩ := R.tupNew hp' (Rps.flat r k.toNat)
        exact q _ _ _ sm R2 rp
    · cases h
  · cases h
/-- a built-in type by its name -/
theorem q_ty {x : Str} {T : String} (hg : Gl X x) (hm : X.mg x = none) (hv : bootBuiltins x = some (.type T)) (hn : x ≠ "__name__" := by decide) (hd : (x == ("__debug__" : Str)) = false := by decide) : PE X (.Name x pos) (rE ξ (conF (.opq (.ty T)))) := q_con (pe_bltn hg hm hv (show L2.RelV (.ty T) (.type T) from rfl) hn hd) fun _ => rfl
end
/-- a name of the module that holds a plain value -/
theorem q_gl {X : Cx} {ξ : Xi per} {pos : Pos} {x : Str} {v : V} {d : D} (hg : Gl X x) (h : ∃ u, X.mg x = some u ∧ RelV v u) (r : ∀ F, Rp F d v) (hd : (x == ("__debug__" : Str)) = false := by decide) : PE X (.Name x pos) (rE ξ (conF d)) := q_con (C8.pe_gc hg h hd) r
theorem Fun.kbn {K : PySem.W.Frag} {x qual : Str} {st : Stmt} {f : Addr} {fd : FuncData} {ps : List Str} (F : Fun K x qual st f fd)
    (h : ∀ (kV doc pm : Value) (an : Option Addr) (cdv ct : Value) (ws : List Value), ws.length = ps.length → bindArgs (PySem.W.fnOf x qual (defArgs st) (defBody st) (defScope st) .none kV doc pm an cdv ct) ⟨[], ps.zip ws⟩ = pure (ps.zip ws)) : KBn K fd ps 0 ps (fun _ ws => ws) (fun _ zs => zs) := by
  obtain ⟨oc, od, kV, doc, pm, an, cdv, ct, osl, rfl, lk, hcd⟩ := F.ex
  refine ⟨fun s us ws X hu hl => ?_, fun _ r => r⟩
  have : us = [] := List.length_eq_zero_iff.mp hu
  subst this
  exact .of_eq (h kV doc pm an cdv ct ws hl)
end PL
set_option Elab.async false
set_option linter.all false
set_option maxRecDepth 100000
set_option maxHeartbeats 4000000
/-! The pure layer, 13: the head's facts for an own error class. -/
namespace PLX
open PySem PySem.Spec PyProof.Rows L2 He PySem.HandSPX
open PySem.W (Frag)
def refsI (o : Obj) : List Addr := match o.data with
  | .func fd => fd.closure.map (·.2)
  | _ => []
def asI (g : Addr → Option Obj) (n : Nat) : List Addr := (cStatics :: (asD g n ++ (asD g n).flatMap fun a => match g a with
  | some o => refsI o
  | none => [])).eraseDups
def iAd (K : Frag) (x : Str) : Addr := ma K (ga K x) "__init__"
abbrev InW : Type := Option (Str × Str × Arguments × FuncBody × Scope × Addr × Addr)
def inW (K : Frag) (x : Str) : InW := match K.lookup (iAd K x) with
  | some ⟨_, _, .func fd, _⟩ => some (fd.name, fd.qualname, fd.params, fd.body, fd.scope, fd.globals, fd.builtins)
  | _ => none
def cellB (K : Frag) (C : Addr) : List (Str × Addr) → Bool
  | [(n, cc)] => n == "__class__" && (match K.lookup cc with
    | some ⟨_, _, .cell (some (.ref D)), _⟩ => D == C
    | _ => false)
  | _ => false
def codeB (prog : Program) (K : Frag) (cd : Value) : Bool := match cd with
  | .ref c => (match K.lookup c with
    | some ⟨_, _, .fields vs, _⟩ => (match vs[(2 : Nat)]? with
      | some (.str file _) => (prog.main.file : Str) == file
      | _ => false)
    | _ => false)
  | _ => false
def noneB : Value → Bool
  | .none => true
  | _ => false
theorem noneB_ok {v : Value} (h : noneB v = true) : v = .none := by
  cases v <;> first | rfl | cases h
def fnB (prog : Program) (K : Frag) (C f : Addr) : Bool := match K.lookup f with
  | some ⟨_, _, .func fd, _⟩ => cellB K C fd.closure && (noneB fd.defaults && (noneB fd.kwdefaults && (PySem.W.codeIn K fd.code fd.qualname && codeB prog K fd.code)))
  | _ => false
def clsB (K : Frag) (C : Addr) : Bool := match K.lookup C with
  | some ⟨.type c, _, .cls cd, sl⟩ => decide (c = "type") && (match cd.mro, sl.toList with
    | .ref D :: bm, [_, _, _, _, some (.builtin n), _] => decide (D = C) && (decide (n = "ValueError.__new__") && (refsVE bm && (cd.hasDict && !cd.hasDel)))
    | _, _ => false)
  | _ => false
theorem clsB_ok {K : Frag} {C : Addr} (h : clsB K C = true) : ∃ nm q N bs bm sn sub ab col dd k0 k1 k2 k3 k5, K.lookup C = some (excClassObj nm q C N bs bm true sn sub ab col dd k0 k1 k2 k3 k5 "ValueError.__new__") ∧ refsVE bm = true := by
  unfold clsB at h
  split at h
  · rename_i c dd cd sl hl
    obtain ⟨h1, h2⟩ := ba h
    have h1 := of_decide_eq_true h1
    subst h1
    split at h2
    · rename_i D bm k0 k1 k2 k3 n k5 hm hs
      obtain ⟨e1, h3⟩ := ba h2
      obtain ⟨e2, h4⟩ := ba h3
      obtain ⟨e3, h5⟩ := ba h4
      obtain ⟨e4, e5⟩ := ba h5
      have e1 := of_decide_eq_true e1
      have e2 := of_decide_eq_true e2
      subst e1 e2
      obtain ⟨nm, bs, mro, ns, qn, hd, sn, sub, ab, col, del⟩ := cd
      dsimp only at hm e4 e5
      subst hm
      have e5 : del = false := by simpa using e5
      subst e4 e5
      have hsl : sl = #[k0, k1, k2, k3, some (.builtin "ValueError.__new__"), k5] := by
        obtain ⟨l⟩ := sl
        simp only at hs
        rw [hs]
      subst hsl
      exact ⟨nm, qn, ns, bs, bm, sn, sub, ab, col, dd, k0, k1, k2, k3, k5, hl, e3⟩
    · cases h2
  · cases h
def oB (a b : Option Bool) : Bool := decide (a = b)
def badB (prog : Program) (K : Frag) (x f : Str) : Bool :=
  let C := ga K x
  let fI := iAd K x
  eqO (PySem.W.nsIn K mainGlobals x) (some (some (.ref C))) && (clsB K C && (eqO (PySem.W.findIn K (.ref C) "__setattr__") (some (some (.builtin "object.__setattr__"))) && (eqO (PySem.W.findIn K (.ref C) "__getattribute__") (some (some (.builtin "BaseException.__getattribute__"))) &&
  (eqO (PySem.W.findIn K (.ref C) "__getattr__") (some none) && (eqO (PySem.W.findIn K (.ref C) f) (some none) && (eqO (PySem.W.findIn K (.ref C) "__init__") (some (some (.ref fI))) && (decide (PySem.W.typeIn K (.ref fI) = some (.type "function")) &&
  (PySem.W.keepIn K (.ref C) && (oB (PySem.W.subIn K (.ref C) (.type "BaseException")) (some true) && (oB (PySem.W.subIn K (.ref C) (.type "ValueError")) (some true) && (decide (PySem.W.typeIn K (.ref C) = some (.type "type")) && (PySem.W.hasDictIn K C &&
  (eqO (PySem.W.ks_superIn K C C "__init__") (some (some (.builtin "ValueError.__init__"))) && (eqO (PySem.W.nsIn K cStatics "thirdparty.any") (some none) && (oB (PySem.W.mroIn K C (.ref C)) (some true) && (eqO (PySem.W.nsIn K mainGlobals "super") (some none) && (fnB prog K C fI && oB (PySem.W.exmOne K (.ref C) (.ref C)) (some true))))))))))))))))))
theorem eqO_of {a b : Option (Option Value)} (h : eqO a b = true) : a = b := eqO_ok h
theorem bad_of {prog : Program} {K : Frag} {h : Heap} {mg : Str → Option Value} {x f : Str} {L c4 : Nat} {qual : Str} {p1 p2 q0 q1 q3 q5 r1 r2 r3 r4 : Pos} (X : K.In h) (G : h.Ns mainGlobals mg) (c : badB prog K x f = true)
    (e : inW K x = some (("__init__" : Str), qual, iA f p1 p2, FuncBody.stmts (iB f L c4 q0 q1 q3 q5 r1 r2 r3 r4), iS f, mainGlobals, builtinsNs)) (ft : (prog.main.scope.names.lookup ("super" : Str)).isSome = false) (okf : (f = "name" ∧ L = 7) ∨ (f = "name" ∧ L = 10) ∨ (f = "limit" ∧ L = 12) ∨ (f = "limit" ∧ L = 15)) :
    BadTxt prog K mg x f L (ga K x) (iAd K x) ∧ XfC K (ga K x) ∧ PySem.W.findIn K (.ref (ga K x)) f = some none ∧ PySem.W.exmOne K (.ref (ga K x)) (.ref (ga K x)) = some true := by
  unfold badB at c
  obtain ⟨a1, c⟩ := ba c
  obtain ⟨a2, c⟩ := ba c
  obtain ⟨a3, c⟩ := ba c
  obtain ⟨a4, c⟩ := ba c
  obtain ⟨a5, c⟩ := ba c
  obtain ⟨a6, c⟩ := ba c
  obtain ⟨a7, c⟩ := ba c
  obtain ⟨a8, c⟩ := ba c
  obtain ⟨a9, c⟩ := ba c
  obtain ⟨a10, c⟩ := ba c
  obtain ⟨a11, c⟩ := ba c
  obtain ⟨a12, c⟩ := ba c
  obtain ⟨a13, c⟩ := ba c
  obtain ⟨a14, c⟩ := ba c
  obtain ⟨a15, c⟩ := ba c
  obtain ⟨a16, c⟩ := ba c
  obtain ⟨a17, c⟩ := ba c
  obtain ⟨a18, a19⟩ := ba c
  have hfn : ∃ (oc : Value) (od : Option Addr) (doc pm : Value) (an : Option Addr) (cda : Addr) (ct : Value) (cc : Addr) (osl : Array (Option Value)) (q : Str) (p1 p2 : Pos) (c4 : Nat) (q0 q1 q3 q5 r1 r2 r3 r4 : Pos) (ccl : Value) (cdd : Option Addr) (vs : Array Value) (ccs : Array (Option Value)) (file : Str) (tf : Tok) (cl : Value) (cld : Option Addr) (csl : Array (Option Value)),
    K.lookup (iAd K x) = some ⟨oc, od, .func (PySem.W.ksFn "__init__" q (iA f p1 p2) (iB f L c4 q0 q1 q3 q5 r1 r2 r3 r4) (iS f) .none .none doc pm an (.ref cda) ct cc), osl⟩ ∧ PySem.W.codeIn K (.ref cda) q = true ∧
    K.lookup cda = some ⟨ccl, cdd, .fields vs, ccs⟩ ∧ vs[2]? = some (.str file tf) ∧ ((prog.main.file : Str) == file) = true ∧ K.lookup cc = some ⟨cl, cld, .cell (some (.ref (ga K x))), csl⟩ := by
    unfold inW at e
    unfold fnB at a18
    split at a18
    · rename_i oc od fd osl hl
      rw [hl] at e
      obtain ⟨n1, n2, n3, n4, n5, n6, n7, n8, n9, n10, n11, n12, n13, n14, n15⟩ := fd
      simp only [Option.some.injEq, Prod.mk.injEq] at e
      obtain ⟨e1, e2, e3, e4, e5, e6, e7⟩ := e
      subst e1 e2 e3 e4 e5 e6 e7
      obtain ⟨b1, bx⟩ := ba a18
      obtain ⟨b2, by'⟩ := ba bx
      obtain ⟨b3, bz⟩ := ba by'
      obtain ⟨b4, b5⟩ := ba bz
      clear a18 bx by' bz
      have b2' : n8 = .none := noneB_ok b2
      have b3' : n9 = .none := noneB_ok b3
      dsimp only at b1 b4 b5
      subst b2'
      subst b3'
      clear b2 b3
      unfold cellB at b1
      split at b1
      · rename_i n cc
        obtain ⟨b6, b7⟩ := ba b1
        have b6 : n = "__class__" := eq_of_beq b6
        subst b6
        split at b7
        · rename_i cl cld D csl hc
          have b7 : D = ga K x := eq_of_beq b7
          subst b7
          unfold codeB at b5
          split at b5
          · rename_i cda
            split at b5
            · rename_i ccl cdd vs ccs hcd
              split at b5
              · rename_i file tf hv
                exact ⟨oc, od, _, _, _, cda, _, cc, osl, _, _, _, _, _, _, _, _, _, _, _, _, ccl, cdd, vs, ccs, file, tf, cl, cld, csl, hl, b4, hcd, hv, b5, hc⟩
              · cases b5
            · cases b5
          · cases b5
        · cases b7
      · cases b1
    · cases a18
  refine ⟨⟨PySem.W.mg_of X G (eqO_of a1), clsB_ok a2, eqO_of a3, eqO_of a4, eqO_of a5, eqO_of a6, eqO_of a7, of_decide_eq_true a8, a9, of_decide_eq_true a10, of_decide_eq_true a11, of_decide_eq_true a12, a13, eqO_of a14, eqO_of a15, of_decide_eq_true a16, PySem.W.mg_none_of X G (eqO_of a17), hfn, ft, okf⟩, ⟨eqO_of a4, eqO_of a5, of_decide_eq_true a10, a13⟩, eqO_of a6, of_decide_eq_true a19⟩
/-! ### the Hook -/
structure SaysI (fa : List Fa) (fn : List DefD) (tf : List Defn) (ex : Frag → Bool) (iw : List (Str × InW)) (h : Heap) (K : Frag) : Prop where
  d : SaysD fa fn K
  more : ex K = true
  ini : ∀ p ∈ iw, inW K p.1 = p.2
  hd : ∀ p ∈ tf, PySem.W.codeHdIn K (cT K p).1 (cT K p).2 = true
  out : ∀ p ∈ tf, K.lookup (cT K p).2 = none
  empty : ∀ p ∈ tf, h.get? (cT K p).2 = some { cls := .none, data := .fields #[] }
abbrev AlI : Type := (AlD × List InW) × Bool
def obsI (n : Nat) (fa : List Fa) (fn : List DefD) (tf : List Defn) (ex : Frag → Bool) (iw : List (Str × InW)) (g : Addr → Option Obj) : AlI :=
  ((obsD fa fn (frT g (asI g n)), iw.map fun p => inW (frT g (asI g n)) p.1), ex (frT g (asI g n)) && tabsB g tf (frT g (asI g n)))
def valI (fn : List DefD) (iw : List (Str × InW)) : AlI := ((valD fn, iw.map (·.2)), true)
theorem saysI_of {n : Nat} {fa : List Fa} {fn : List DefD} {tf : List Defn} {ex : Frag → Bool} {iw : List (Str × InW)} {h : Heap} (e : obsI n fa fn tf ex iw h.get? = valI fn iw) : SaysI fa fn tf ex iw h (frT h.get? (asI h.get? n)) := by
  have e1 : obsD fa fn (frT h.get? (asI h.get? n)) = valD fn := congrArg (fun z : AlI => z.1.1) e
  have e3 : (iw.map fun p => inW (frT h.get? (asI h.get? n)) p.1) = iw.map (·.2) := congrArg (fun z : AlI => z.1.2) e
  have e2 : (ex (frT h.get? (asI h.get? n)) && tabsB h.get? tf (frT h.get? (asI h.get? n))) = true := congrArg (fun z : AlI => z.2) e
  obtain ⟨h1, h2⟩ := ba e2
  have key : ∀ p ∈ tf, PySem.W.codeHdIn (frT h.get? (asI h.get? n)) (cT (frT h.get? (asI h.get? n)) p).1 (cT (frT h.get? (asI h.get? n)) p).2 = true ∧ ∃ o, h.get? (cT (frT h.get? (asI h.get? n)) p).2 = some o ∧ emptyTab o = true := fun p hp => by
    obtain ⟨h3, h4⟩ := ba (List.all_eq_true.mp h2 p hp)
    refine ⟨h3, ?_⟩
    cases q : h.get? (cT (frT h.get? (asI h.get? n)) p).2 with
    | none =>
      rw [q] at h4
      cases h4
    | some o =>
      rw [q] at h4
      exact ⟨o, rfl, h4⟩
  have mapEq : ∀ l : List (Str × InW), (l.map fun p => inW (frT h.get? (asI h.get? n)) p.1) = l.map (·.2) → ∀ p ∈ l, inW (frT h.get? (asI h.get? n)) p.1 = p.2 := fun l => by
    induction l with
    | nil => intro _ p hp; cases hp
    | cons a r ih =>
      intro hq p hp
      rw [List.map_cons, List.map_cons] at hq
      injection hq with q1 q2
      rcases List.mem_cons.mp hp with rfl | hp
      · exact q1
      · exact ih q2 p hp
  exact ⟨e1, h1, mapEq iw e3, fun p hp => (key p hp).1, fun p hp => by
    obtain ⟨_, o, q, z⟩ := key p hp
    exact frT_none q z, fun p hp => by
    obtain ⟨_, o, q, z⟩ := key p hp
    rw [q, emptyTab_eq z]⟩
def hookI (n : Nat) (fa : List Fa) (fn : List DefD) (tf : List Defn) (ex : Frag → Bool) (iw : List (Str × InW)) : PySem.W.Hook where
  α := AlI
  obs := fun s => obsI n fa fn tf ex iw s.heap.get?
  val := fun _ => valI fn iw
  says := fun _ h => ∃ K : Frag, K.In h ∧ SaysI fa fn tf ex iw h K
  of := fun _ _ e => ⟨_, frT_in, saysI_of e⟩
  keeps := fun _ _ _ ⟨K, hK, c⟩ k => ⟨K, PySem.W.Frag.In.keeps hK k, ⟨c.d, c.more, c.ini, c.hd, c.out, fun p hp => k _ _ (c.empty p hp)⟩⟩
theorem obsI_eq {n : Nat} {fa : List Fa} {fn : List DefD} {tf : List Defn} {ex : Frag → Bool} {iw : List (Str × InW)} {g : Addr → Option Obj} {s : Shared} (h : ∀ a, g a = s.heap.get? a) : obsI n fa fn tf ex iw g = (hookI n fa fn tf ex iw).obs s := by
  have e : g = s.heap.get? := funext h
  rw [e] <;> rfl
end PLX
set_option Elab.async false
set_option linter.all false
set_option maxRecDepth 100000
set_option maxHeartbeats 4000000
/-! The pure layer, 14: the law's own def, at the end. -/
namespace PL
open PySem PySem.Spec PyProof.Rows L2 He
def qlam : Str := (("law" : Str) ++ ".<locals>.") ++ "<lambda>"
theorem tabs_mono {T : List (Addr × Str)} {H H' : Hp} (h : LamX.Tabs T H) (k : ∀ a o, H a = some o → (∀ vs, o ≠ .lst vs) → H' a = some o) : LamX.Tabs T H' := fun p hp => by
  obtain ⟨ps, h1, h2, h3⟩ := h p hp
  refine ⟨ps, k _ _ h1 (fun vs z => by cases z), h2, fun pos cv hc => ?_⟩
  obtain ⟨c, e1, e2⟩ := h3 pos cv hc
  exact ⟨c, e1, k _ _ e2 (fun vs z => by unfold LamX.CodeO at z; cases z)⟩
def perL (K : PySem.W.Frag) (sa : Addr) (ns : List Int) (P : Addr) : Per where
  P1 F := SqL K F sa (ns.map V.int)
  P2 H := LamX.Tabs [(P, qlam)] H
  c1 F F' s h := s.seq h
  c2 H H' h k := tabs_mono h k
  lam := true
  tab a := a = P
  t2 H h a e := by
    obtain ⟨ps, h1, _⟩ := h (P, qlam) List.mem_cons_self
    exact ⟨_, by rw [e]; exact h1⟩
def spLaw (K : PySem.W.Frag) (P : Addr) : Sp := fun vs H Q _ => ∃ (a : Addr) (ns : List Int), vs = [.ref a] ∧ ns.length ≤ 63 ∧ SqL K H a (ns.map V.int) ∧ H P = some (.tbl #[]) ∧ ∀ H', Q (.bl true) H'
theorem part_of {K : PySem.W.Frag} {H : Hp} {a : Addr} {xs : List V} (h : SqL K H a xs) : ∃ F : Hp, Same F H ∧ SqL K F a xs ∧ ∀ b o, F b = some o → NT o := by
  rcases h with h | h
  · refine ⟨fun b => if b = a then H a else none, fun b o q => ?_, .inl ?_, fun b o q => ?_⟩
    · have q : (if b = a then H a else none) = some o := q
      by_cases hb : b = a
      · subst hb
        rw [if_pos rfl] at q
        exact q
      · rw [if_neg hb] at q
        cases q
    · rcases h with h | ⟨o, h⟩
      · exact .inl ((if_pos rfl).trans h)
      · exact .inr ⟨o, (if_pos rfl).trans h⟩
    · have q : (if b = a then H a else none) = some o := q
      by_cases hb : b = a
      · rw [if_pos hb] at q
        rcases h with h | ⟨o', h⟩
        · rw [h] at q
          cases q
          exact fun ps z => by cases z
        · rw [h] at q
          cases q
          exact fun ps z => by cases z
      · rw [if_neg hb] at q
        cases q
  · exact ⟨fun _ => none, fun b o q => (by cases q), .inr h, fun b o q => (by cases q)⟩
theorem law_ends {K : PySem.W.Frag} {P cb cm a : Addr} {ns : List Int} {φ : PL.Env → SR} {N : List Str} {m : Nat} {H : Hp} {Q : VK} {e' : PL.Env} (hN : N.length = m + 1) (hS : SqL K H a (ns.map V.int)) (hT : H P = some (.tbl #[])) (hq : ∀ H', Q (.bl true) H')
    (hφ : φ (Sl.va (.opq (.ref a)) :: List.replicate m Sl.no) = .rt (.bl true) e') : rS (per := perL K a ns P) ⟨E0, cb, cm⟩ φ { nx := fun _ H' => Q .non H', rt := Q } (L2.start N [.ref a]) H := by
  obtain ⟨F, sm, hF, hn⟩ := part_of hS
  have tb : LamX.Tabs [(P, qlam)] H := fun p hp => by
    rcases List.mem_cons.mp hp with rfl | hp
    · exact LamX.TabS.nil hT
    · cases hp
  have at_ : ∀ (i : Nat) (s : Sl), (Sl.va (.opq (.ref a)) :: List.replicate m Sl.no)[i]? = some s → s = Sl.no ∨ (i = 0 ∧ s = Sl.va (.opq (.ref a))) := fun i s h => by
    cases i with
    | zero => cases h; exact .inr ⟨rfl, rfl⟩
    | succ i =>
      rw [List.getElem?_cons_succ, List.getElem?_replicate] at h
      split at h
      · cases h; exact .inl rfl
      · cases h
  refine ⟨⟨F, cutT (perL K a ns P) H, none, fun _ b o q => hn b o q, fun _ b ps q => cutT_tbl q⟩, F, Sl.va (.opq (.ref a)) :: List.replicate m Sl.no, ⟨sm, Same.refl F, fun b o q => .inl q, fun b o q _ _ => of_cutT q, fun b z => (by cases z), ?_, fun i s q => ?_, fun i j b h => ?_, fun i l q => ?_, fun b o q => ⟨o, of_cutT q⟩, ⟨hF, tb⟩⟩, ?_⟩
  · rw [start_len (by rw [hN]; simp), hN]
    simp
  · rcases at_ i s q with z | ⟨z0, z⟩
    · subst z; trivial
    · subst z0; subst z
      exact ⟨.ref a, start_get rfl, rfl⟩
  · obtain ⟨⟨l, h1⟩, _⟩ := h
    rcases at_ _ _ h1 with z | ⟨_, z⟩ <;> cases z
  · rcases at_ _ _ q with z | ⟨_, z⟩ <;> cases z
  · rw [hφ]
    intro F' σ' H' v s R rv
    have rv : v = .bl true := rv
    rw [rv]
    exact hq H'
theorem fun_of {K : PySem.W.Frag} {x q : Str} {st : Stmt} {f : Addr} {fd : FuncData} (F : FunD K x q (defArgs st) (defBody st) (defScope st) [] [] f fd) : Fun K x q st f fd := by
  obtain ⟨oc, od, dV, kV, doc, pm, an, cdv, ct, osl, rfl, lk, hcd, hD, hK⟩ := F.ex
  rcases hD with ⟨_, rfl⟩ | ⟨e, _⟩
  · exact ⟨⟨oc, od, kV, doc, pm, an, cdv, ct, osl, rfl, lk, hcd⟩, F.kp⟩
  · exact absurd rfl e
/-- the law's def, by the walk of its body -/
theorem okLaw {w : World} {pr : Program} {K : PySem.W.Frag} {mg : Str → Option Value} {base : Heap} {st : Stmt} {f : Addr} {fd : FuncData} {N : List Str} {k m : Nat} {cb cm : Addr} {φ : Addr → List Int → PL.Env → SR} (Fu : Fun K "law" "law" st f fd) (hf : f = fAd K ("law", none)) (S : FnScope N ["script"] (defScope st)) (hN : N.length = m + 1)
    (hw : ∀ (sa : Addr) (ns : List Int) (A : Around) (outer : List PySem.Env) (s : Shared) (H : Hp) (E : XK), Room k (A.deeper (envOfC "law" (defScope st) s.heap.objs.size f (.ref (cT K ("law", none)).1))) → PSs (cxOf CX0 pr w K mg base N "law" (defScope st) f (.ref (cT K ("law", none)).1) A outer s H E).nox (defBody st) (rS (per := perL K sa ns (cT K ("law", none)).2) ⟨E0, cb, cm⟩ (φ sa ns)))
    (hφ : ∀ (sa : Addr) (ns : List Int), ns.length ≤ 63 → ∃ e', φ sa ns (Sl.va (.opq (.ref sa)) :: List.replicate m Sl.no) = .rt (.bl true) e') : FnOk pr w K mg base CX0 (k + 1) f fd ["script"] (spLaw K (cT K ("law", none)).2) := by
  obtain ⟨oc, od, kV, doc, pm, an, cdv, ct, osl, rfl, lk, hcd⟩ := Fu.ex
  obtain ⟨c, ec⟩ := codeIn_ref hcd
  subst ec
  have hc : (cT K ("law", none)).1 = c := codeOf_eq (by rw [← hf]; exact lk) rfl
  refine fn_of lk hcd S (fun vs H Q E h => ?_) fun A outer s H vs Q E hr hsp => ?_
  · obtain ⟨a, ns, rfl, _⟩ := h
    rfl
  · obtain ⟨a, ns, rfl, hl, hS, hT, hq⟩ := hsp
    obtain ⟨e', he⟩ := hφ a ns hl
    have hw' := hw a ns A outer s H E
    rw [hc] at hw'
    exact ⟨_, (hw' hr).nox, law_ends hN hS hT hq he⟩
end PL
set_option Elab.async false
set_option linter.all false
set_option maxRecDepth 100000
set_option maxHeartbeats 4000000
/-! The pure layer, 15: the plain side: what every law's own small defs do. -/
namespace PL
open PySem PySem.Spec PyProof.Rows L2
def phiTaken (sa : Addr) (ns : List Int) : PL.Env → SR :=
  (seqF (ifS (bF (op2F gtD (op2F idxD (nameF 0) (conF (.int 3))) (conF (.int 0)))) (seqF (setF (gNm 2) (op2F modD (callF intC (consF (op2F idxD (nameF 0) (conF (.int 3))) nilF)) (nameF 1)))
  (seqF (setIF 0 (conF (.int 3)) (op2F fdivD (op2F idxD (nameF 0) (conF (.int 3))) (nameF 1)))
  (retF (nameF 2)))) skipF)
  (seqF (setIF 0 (conF (.int 1)) (op2F addD (op2F idxD (nameF 0) (conF (.int 1))) (conF (.int 1))))
  (seqF (ifS (bF (op2F gtD (op2F idxD (nameF 0) (conF (.int 1))) (callF (lenS sa ns) (consF (op2F idxD (nameF 0) (conF (.int 0))) nilF)))) (seqF (setIF 0 (conF (.int 2)) (op2F modD (callF intC (consF (op2F addD (op2F mulA (op2F idxD (nameF 0) (conF (.int 2))) (conF (.int 48271))) (conF (.int 11))) nilF)) (conF (.int 2147483647))))
  (retF (op2F modD (callF intC (consF (op2F fdivD (op2F idxD (nameF 0) (conF (.int 2))) (conF (.int 7))) nilF)) (nameF 1)))) skipF)
  (seqF (setF (gNm 3) (op2F (idxS sa ns) (op2F idxD (nameF 0) (conF (.int 0))) (op2F subD (op2F idxD (nameF 0) (conF (.int 1))) (conF (.int 1)))))
  (seqF (setIF 0 (conF (.int 2)) (op2F modD (callF intC (consF (op2F addD (op2F addD (op2F mulA (op2F idxD (nameF 0) (conF (.int 2))) (conF (.int 48271))) (callF intC (consF (nameF 3) nilF))) (conF (.int 11))) nilF)) (conF (.int 2147483647))))
  (seqF (ifS (bF (op2F geD (nameF 3) (op2F powD (conF (.int 10)) (conF (.int 18))))) (setIF 0 (conF (.int 3)) (op2F fdivD (callF intC (consF (op2F modD (callF intC (consF (nameF 3) nilF)) (op2F powD (conF (.int 10)) (conF (.int 90)))) nilF)) (nameF 1))) skipF)
  (retF (op2F modD (callF intC (consF (nameF 3) nilF)) (nameF 1)))))))))
def gTaken (sa : Addr) (ns : List Int) : List D → List D → Option (D × List D) := runR (phiTaken sa ns) 4
def phiPick (sa : Addr) (ns : List Int) : PL.Env → SR :=
  (retF (op2F idxD (nameF 1) (callRF 1 (gTaken sa ns) (consF (nameF 0) (consF (callF lenD (consF (nameF 1) nilF)) nilF)))))
def gPick (sa : Addr) (ns : List Int) : List D → List D → Option (D × List D) := runR (phiPick sa ns) 2
def phiAlike (gself : List D → FR) : PL.Env → SR :=
  (seqF (ifS (truF (callF isiD (consF (nameF 1) (consF (conF (.opq (.ty "tuple"))) nilF)))) (seqF (ifS (torF (tnotF (truF (callF isiD (consF (nameF 0) (consF (conF (.opq (.ty "tuple"))) nilF))))) (bF (op2F neD (callF lenD (consF (nameF 0) nilF)) (callF lenD (consF (nameF 1) nilF))))) (retF (conF (.bl false))) skipF)
  (retF (op2F eqD (nE (lcF [2] (itA rng1 (consF (callF lenD (consF (nameF 1) nilF)) nilF)) (gNm 2) (tnotF (truF (callDF 2 gself (consF (op2F idxD (nameF 0) (nameF 2)) (consF (op2F idxD (nameF 1) (nameF 2)) nilF))))) (nameF 2))) (nE (ndispF nilF))))) skipF)
  (seqF (ifS (torF (bF (op2F (isD false) (nameF 1) (conF .non))) (truF (callF isiD (consF (nameF 1) (consF (conF (.opq (.ty "str"))) nilF))))) (retF (andF (op2F eqD (nameF 0) (nameF 1)) (op2F eqD (callF isiD (consF (nameF 0) (consF (conF (.opq (.ty "str"))) nilF))) (callF isiD (consF (nameF 1) (consF (conF (.opq (.ty "str"))) nilF)))))) skipF)
  (retF (andF (callF isiD (consF (nameF 0) (consF (conF (.opq (.ty "int"))) nilF))) (andF (op2F eqD (callF isiD (consF (nameF 0) (consF (conF (.opq (.ty "bool"))) nilF))) (callF isiD (consF (nameF 1) (consF (conF (.opq (.ty "bool"))) nilF)))) (op2F eqD (nameF 0) (nameF 1)))))))
def gAlike : Nat → List D → FR
  | 0 => fun _ => .no
  | n + 1 => noErr (runF (phiAlike (gAlike n)) 3)
/-- a row state -/
def RowOk (sa : Addr) (l : List D) : Prop := ∃ i s z : Int, l = [.opq (.ref sa), .int i, .int s, .int z] ∧ 0 ≤ i ∧ 0 ≤ z
theorem row3 {a b c d : D} : atI [a, b, c, d] 3 = some d := rfl
theorem row2 {a b c d : D} : atI [a, b, c, d] 2 = some c := rfl
theorem row1 {a b c d : D} : atI [a, b, c, d] 1 = some b := rfl
theorem row0 {a b c d : D} : atI [a, b, c, d] 0 = some a := rfl
def P90 : Int := 10 ^ 90
theorem pow18 : powD (.int 10) (.int 18) = some (.int 1000000000000000000) := rfl
theorem pow90 : powD (.int 10) (.int 90) = some (.int P90) := by unfold P90; rfl
theorem p90 : 0 < P90 := by decide +kernel
theorem ix43 : ixN 4 3 = some 3 := rfl
theorem ix41 : ixN 4 1 = some 1 := rfl
theorem ix42 : ixN 4 2 = some 2 := rfl
theorem taken_ok {sa : Addr} {ns : List Int} {l : List D} {m : Int} (hl : RowOk sa l) (h1 : 1 ≤ m) (h2 : m < 1073741824) : ∃ v l', gTaken sa ns l [.int m] = some (.int v, l') ∧ 0 ≤ v ∧ v < m ∧ RowOk sa l' := by
  obtain ⟨i, s, z, rfl, hi, hz⟩ := hl
  have hm : 0 < m := by omega
  have e1 : (10 : Int) ^ (18 : Int).toNat = 1000000000000000000 := by decide
  unfold gTaken phiTaken
  by_cases c1 : 0 < z
  · refine ⟨z % m, [.opq (.ref sa), .int i, .int s, .int (z / m)], ?_, Int.emod_nonneg _ (by omega), Int.emod_lt_of_pos _ hm, i, s, z / m, rfl, hi, Int.ediv_nonneg hz (by omega)⟩
    simp only [runR, runF, noErr, rowOf, List.map_cons, List.map_nil, List.cons_append, List.nil_append, List.length_cons, List.length_nil, List.replicate, Nat.reduceAdd, Nat.reduceSub, Nat.zero_add, Nat.sub_self, seqF, ifS, setF, setIF, retF, dropF, skipF, augF, setNF, parF, setMs, mdF, mnF, mnilF, Mx.sl, appF, extF, guardO, isOw, setRow, rowAt, rowRes, goR, goF, callDF, callRF, frR, raiseF, excOf, nameF, conF, op2F, un1F, bF, chainF, truF, truR, andF, orF, notF, tandF, torF, tnotF, ifF, nilF, consF, dispF, ndispF, nE, callF, ncallF, liftA, liftN, optR, optN, lift1, lift2, R.bind, R.toS, hd, hdS, fz, fzS, fzs, hds, truD, gNm, gTp, gsCons, gsNil, itF, itA, optI, itemsD, forS, yesF, List.getElem?_cons_zero, List.getElem?_cons_succ, List.set_cons_zero, List.set_cons_succ, List.length_set, Option.bind, Option.map, if_true, if_false, ite_true, ite_false, reduceIte, Nat.reduceLT, Nat.reduceLeDiff, Bool.not_true, Bool.not_false, Nat.lt_add_left_iff_pos, Nat.zero_lt_succ, Bool.false_eq_true, Bool.true_eq_false, reduceCtorEq, gtD, int0D, intD, idxD, row3, c1, modD, fdivD, hm, h2, intC, decide_true, and_true, true_and, ix43]
  · by_cases c2 : (ns.length : Int) < i + 1
    · refine ⟨(s * 48271 + 11) % 2147483647 / 7 % m, [.opq (.ref sa), .int (i + 1), .int ((s * 48271 + 11) % 2147483647), .int z], ?_, Int.emod_nonneg _ (by omega), Int.emod_lt_of_pos _ hm, _, _, z, rfl, by omega, hz⟩
      simp only [runR, runF, noErr, rowOf, List.map_cons, List.map_nil, List.cons_append, List.nil_append, List.length_cons, List.length_nil, List.replicate, Nat.reduceAdd, Nat.reduceSub, Nat.zero_add, Nat.sub_self, seqF, ifS, setF, setIF, retF, dropF, skipF, augF, setNF, parF, setMs, mdF, mnF, mnilF, Mx.sl, appF, extF, guardO, isOw, setRow, rowAt, rowRes, goR, goF, callDF, callRF, frR, raiseF, excOf, nameF, conF, op2F, un1F, bF, chainF, truF, truR, andF, orF, notF, tandF, torF, tnotF, ifF, nilF, consF, dispF, ndispF, nE, callF, ncallF, liftA, liftN, optR, optN, lift1, lift2, R.bind, R.toS, hd, hdS, fz, fzS, fzs, hds, truD, gNm, gTp, gsCons, gsNil, itF, itA, optI, itemsD, forS, yesF, List.getElem?_cons_zero, List.getElem?_cons_succ, List.set_cons_zero, List.set_cons_succ, List.length_set, Option.bind, Option.map, if_true, if_false, ite_true, ite_false, reduceIte, Nat.reduceLT, Nat.reduceLeDiff, Bool.not_true, Bool.not_false, Nat.lt_add_left_iff_pos, Nat.zero_lt_succ, Bool.false_eq_true, Bool.true_eq_false, reduceCtorEq, gtD, int0D, intD, idxD, row3, row1, row2, row0, c1, c2, modD, fdivD, hm, h2, intC, decide_true, and_true, true_and, decide_false, ix41, ix42, addD, lenS, mulA, mulD, or_true, Int.reduceLT, Int.reduceNeg, Int.reducePow, Int.reduceToNat, Int.reduceMul]
    · have hlt : i.toNat < ns.length := by omega
      obtain ⟨x, hx⟩ : ∃ x, atI ns (i + 1 - 1) = some x := by
        have e0 : i + 1 - 1 = i := by omega
        have hix : ixN ns.length i = some i.toNat := by
          unfold ixN
          rw [if_pos hi, if_pos (by omega)]
        rw [e0]
        exact ⟨ns[i.toNat], by unfold atI; rw [hix]; exact List.getElem?_eq_getElem hlt⟩
      by_cases c3 : (1000000000000000000 : Int) ≤ x
      · refine ⟨x % m, [.opq (.ref sa), .int (i + 1), .int ((s * 48271 + x + 11) % 2147483647), .int (x % P90 / m)], ?_, Int.emod_nonneg _ (by omega), Int.emod_lt_of_pos _ hm, _, _, _, rfl, by omega, Int.ediv_nonneg (Int.emod_nonneg _ (by decide +kernel)) (by omega)⟩
        simp only [runR, runF, noErr, rowOf, List.map_cons, List.map_nil, List.cons_append, List.nil_append, List.length_cons, List.length_nil, List.replicate, Nat.reduceAdd, Nat.reduceSub, Nat.zero_add, Nat.sub_self, seqF, ifS, setF, setIF, retF, dropF, skipF, augF, setNF, parF, setMs, mdF, mnF, mnilF, Mx.sl, appF, extF, guardO, isOw, setRow, rowAt, rowRes, goR, goF, callDF, callRF, frR, raiseF, excOf, nameF, conF, op2F, un1F, bF, chainF, truF, truR, andF, orF, notF, tandF, torF, tnotF, ifF, nilF, consF, dispF, ndispF, nE, callF, ncallF, liftA, liftN, optR, optN, lift1, lift2, R.bind, R.toS, hd, hdS, fz, fzS, fzs, hds, truD, gNm, gTp, gsCons, gsNil, itF, itA, optI, itemsD, forS, yesF, List.getElem?_cons_zero, List.getElem?_cons_succ, List.set_cons_zero, List.set_cons_succ, List.length_set, Option.bind, Option.map, if_true, if_false, ite_true, ite_false, reduceIte, Nat.reduceLT, Nat.reduceLeDiff, Bool.not_true, Bool.not_false, Nat.lt_add_left_iff_pos, Nat.zero_lt_succ, Bool.false_eq_true, Bool.true_eq_false, reduceCtorEq, gtD, geD, int0D, intD, idxD, row3, row1, row2, row0, c1, c2, c3, modD, fdivD, hm, h2, intC, decide_true, and_true, true_and, decide_false, ix41, ix42, ix43, addD, subD, lenS, idxS, hx, mulA, mulD, or_true, Int.reduceLT, Int.reduceNeg, Int.reducePow, Int.reduceToNat, Int.reduceMul, pow18, pow90, p90]
      · refine ⟨x % m, [.opq (.ref sa), .int (i + 1), .int ((s * 48271 + x + 11) % 2147483647), .int z], ?_, Int.emod_nonneg _ (by omega), Int.emod_lt_of_pos _ hm, _, _, _, rfl, by omega, hz⟩
        simp only [runR, runF, noErr, rowOf, List.map_cons, List.map_nil, List.cons_append, List.nil_append, List.length_cons, List.length_nil, List.replicate, Nat.reduceAdd, Nat.reduceSub, Nat.zero_add, Nat.sub_self, seqF, ifS, setF, setIF, retF, dropF, skipF, augF, setNF, parF, setMs, mdF, mnF, mnilF, Mx.sl, appF, extF, guardO, isOw, setRow, rowAt, rowRes, goR, goF, callDF, callRF, frR, raiseF, excOf, nameF, conF, op2F, un1F, bF, chainF, truF, truR, andF, orF, notF, tandF, torF, tnotF, ifF, nilF, consF, dispF, ndispF, nE, callF, ncallF, liftA, liftN, optR, optN, lift1, lift2, R.bind, R.toS, hd, hdS, fz, fzS, fzs, hds, truD, gNm, gTp, gsCons, gsNil, itF, itA, optI, itemsD, forS, yesF, List.getElem?_cons_zero, List.getElem?_cons_succ, List.set_cons_zero, List.set_cons_succ, List.length_set, Option.bind, Option.map, if_true, if_false, ite_true, ite_false, reduceIte, Nat.reduceLT, Nat.reduceLeDiff, Bool.not_true, Bool.not_false, Nat.lt_add_left_iff_pos, Nat.zero_lt_succ, Bool.false_eq_true, Bool.true_eq_false, reduceCtorEq, gtD, geD, int0D, intD, idxD, row3, row1, row2, row0, c1, c2, c3, modD, fdivD, hm, h2, intC, decide_true, and_true, true_and, decide_false, ix41, ix42, ix43, addD, subD, lenS, idxS, hx, mulA, mulD, or_true, Int.reduceLT, Int.reduceNeg, Int.reducePow, Int.reduceToNat, Int.reduceMul, pow18]
/-- a pick from a list that is not empty -/
theorem pick_ok {sa : Addr} {ns : List Int} {l : List D} {ds : List D} (hl : RowOk sa l) (h1 : ds ≠ []) (h2 : ds.length < 1073741824) : ∃ d l', gPick sa ns l [.lst ds] = some (d, l') ∧ d ∈ ds ∧ RowOk sa l' := by
  have hp : 0 < ds.length := List.length_pos_iff.mpr h1
  obtain ⟨v, l', e, hv, hv2, hl'⟩ := taken_ok (ns := ns) (m := ds.length) hl (by omega) (by omega)
  have hlt : v.toNat < ds.length := by omega
  have ha : atI ds v = some ds[v.toNat] := by
    have hix : ixN ds.length v = some v.toNat := by
      unfold ixN
      rw [if_pos hv, if_pos hv2]
    unfold atI
    rw [hix]
    exact List.getElem?_eq_getElem hlt
  refine ⟨ds[v.toNat], l', ?_, List.getElem_mem hlt, hl'⟩
  unfold gPick phiPick
  simp only [runR, runF, noErr, rowOf, List.map_cons, List.map_nil, List.cons_append, List.nil_append, List.length_cons, List.length_nil, List.replicate, Nat.reduceAdd, Nat.reduceSub, Nat.zero_add, Nat.sub_self, seqF, ifS, setF, setIF, retF, dropF, skipF, augF, setNF, parF, setMs, mdF, mnF, mnilF, Mx.sl, appF, extF, guardO, isOw, setRow, rowAt, rowRes, goR, goF, callDF, callRF, frR, raiseF, excOf, nameF, conF, op2F, un1F, bF, chainF, truF, truR, andF, orF, notF, tandF, torF, tnotF, ifF, nilF, consF, dispF, ndispF, nE, callF, ncallF, liftA, liftN, optR, optN, lift1, lift2, R.bind, R.toS, hd, hdS, fz, fzS, fzs, hds, truD, gNm, gTp, gsCons, gsNil, itF, itA, optI, itemsD, forS, yesF, List.getElem?_cons_zero, List.getElem?_cons_succ, List.set_cons_zero, List.set_cons_succ, List.length_set, Option.bind, Option.map, if_true, if_false, ite_true, ite_false, reduceIte, Nat.reduceLT, Nat.reduceLeDiff, Bool.not_true, Bool.not_false, Nat.lt_add_left_iff_pos, Nat.zero_lt_succ, Bool.false_eq_true, Bool.true_eq_false, reduceCtorEq, lenD, e, idxD, ha]
/-! ### loops -/
theorem lcLoop_inv {vs : List Nat} {g : D → Env → Option Env} {ft : Env → R Bool} {fe : Env → R Hd} (P : Nat → List D → Env → Prop) : ∀ (ds : List D) (i : Nat) (acc : List D) (e : Env), P i acc e →
    (∀ j d acc e, ds[j]? = some d → P (i + j) acc e → ∃ e2 r e3, g d e = some e2 ∧ lcTurn ft fe e2 = .ok r e3 ∧ P (i + j + 1) (acc ++ r.toList) (wipeE e3 vs)) → ∃ acc' e', lcLoop vs g ft fe ds acc e = .ok acc' e' ∧ P (i + ds.length) acc' e'
  | [], i, acc, e, h, _ => ⟨acc, e, rfl, h⟩
  | d :: ds, i, acc, e, h, st => by
    obtain ⟨e2, r, e3, h1, h2, h3⟩ := st 0 d acc e rfl h
    have st' : ∀ j x acc e, ds[j]? = some x → P (i + 1 + j) acc e → ∃ e2 r e3, g x e = some e2 ∧ lcTurn ft fe e2 = .ok r e3 ∧ P (i + 1 + j + 1) (acc ++ r.toList) (wipeE e3 vs) := fun j x acc e hx hp => by
      have := st (j + 1) x acc e (by rw [List.getElem?_cons_succ]; exact hx) (by rw [show i + (j + 1) = i + 1 + j by omega]; exact hp)
      rw [show i + (j + 1) + 1 = i + 1 + j + 1 by omega] at this
      exact this
    obtain ⟨acc', e', k1, k2⟩ := lcLoop_inv P ds (i + 1) _ _ h3 st'
    refine ⟨acc', e', ?_, by rw [List.length_cons, show i + (ds.length + 1) = i + 1 + ds.length by omega]; exact k2⟩
    rw [← k1]
    conv => lhs; unfold lcLoop
    rw [h1]
    simp only [h2]
    cases r with
    | none => simp only [Option.toList, List.append_nil]
    | some x => simp only [Option.toList]
theorem lcLoop_pure {vs : List Nat} {g : D → Env → Option Env} {ft : Env → R Bool} {fe : Env → R Hd} {ew : Env} (t : D → Option D) {ds : List D} (h : ∀ d ∈ ds, ∃ e2 e3, g d ew = some e2 ∧ lcTurn ft fe e2 = .ok (t d) e3 ∧ wipeE e3 vs = ew) : lcLoop vs g ft fe ds [] ew = .ok (ds.filterMap t) ew := by
  have : ∀ (l : List D), (∀ d ∈ l, d ∈ ds) → ∀ acc, lcLoop vs g ft fe l acc ew = .ok (acc ++ l.filterMap t) ew := fun l => by
    induction l with
    | nil => intro _ acc; simp [lcLoop]
    | cons d r ih =>
      intro hm acc
      obtain ⟨e2, e3, h1, h2, h3⟩ := h d (hm d List.mem_cons_self)
      unfold lcLoop
      rw [h1]
      simp only [h2]
      have ih' := ih fun x hx => hm x (List.mem_cons_of_mem _ hx)
      cases ht : t d with
      | none =>
        simp only [h3]
        rw [ih', List.filterMap_cons, ht]
      | some x =>
        simp only [h3]
        rw [ih', List.filterMap_cons, ht, List.append_assoc]
        rfl
  have q := this ds (fun d hd => hd) []
  rw [List.nil_append] at q
  exact q
theorem forF_inv {g : D → Env → Option Env} {b : Env → SR} (P : Nat → Env → Prop) : ∀ (ds : List D) (i : Nat) (e : Env), P i e → (∀ j d e, ds[j]? = some d → P (i + j) e → ∃ e1 e2, g d e = some e1 ∧ (b e1 = .nx e2 ∨ b e1 = .ct e2) ∧ P (i + j + 1) e2) → ∃ e', forF g b ds e = .nx e' ∧ P (i + ds.length) e'
  | [], i, e, h, _ => ⟨e, rfl, h⟩
  | d :: ds, i, e, h, st => by
    obtain ⟨e1, e2, h1, h2, h3⟩ := st 0 d e rfl h
    have st' : ∀ j x e, ds[j]? = some x → P (i + 1 + j) e → ∃ e1 e2, g x e = some e1 ∧ (b e1 = .nx e2 ∨ b e1 = .ct e2) ∧ P (i + 1 + j + 1) e2 := fun j x e hx hp => by
      have := st (j + 1) x e (by rw [List.getElem?_cons_succ]; exact hx) (by rw [show i + (j + 1) = i + 1 + j by omega]; exact hp)
      rw [show i + (j + 1) + 1 = i + 1 + j + 1 by omega] at this
      exact this
    obtain ⟨e', k1, k2⟩ := forF_inv P ds (i + 1) e2 h3 st'
    refine ⟨e', ?_, by rw [List.length_cons, show i + (ds.length + 1) = i + 1 + ds.length by omega]; exact k2⟩
    rw [← k1]
    conv => lhs; unfold forF
    rw [h1]
    rcases h2 with h2 | h2 <;> simp only [h2]
/-! ### alike -/
def atom : D → Bool
  | .non => true
  | .bl _ => true
  | .int _ => true
  | .str x => okd 60 (.str x)
  | _ => false
def gd : Nat → D → Prop
  | 0, d => atom d = true
  | n + 1, d => atom d = true ∨ ∃ l, d = .tup l ∧ l.length ≤ 100000 ∧ ∀ x ∈ l, gd n x
theorem eqD_int {a b : Int} : eqD (.int a) (.int b) = some (.bl (a == b)) := rfl
theorem neD_int {a b : Int} : neD (.int a) (.int b) = some (.bl (!(a == b))) := rfl
theorem eqD_bl {a b : Bool} : eqD (.bl a) (.bl b) = some (.bl (a == b)) := rfl
theorem eqD_nil : eqD (.lst []) (.lst []) = some (.bl true) := rfl
theorem eqD_non : eqD .non .non = some (.bl true) := rfl
theorem eqD_str {x y : Str} (hx : okd 60 (.str x) = true) (hy : okd 60 (.str y) = true) : eqD (.str x) (.str y) = some (.bl (x == y)) := by
  unfold eqD
  rw [if_pos ⟨hx, hy⟩]
  rfl
theorem i_non_int  : isiD [.non, .opq (.ty "int")] = some (.bl false) := rfl
theorem i_non_bool  : isiD [.non, .opq (.ty "bool")] = some (.bl false) := rfl
theorem i_non_str  : isiD [.non, .opq (.ty "str")] = some (.bl false) := rfl
theorem i_non_tuple  : isiD [.non, .opq (.ty "tuple")] = some (.bl false) := rfl
theorem i_non_list  : isiD [.non, .opq (.ty "list")] = some (.bl false) := rfl
theorem i_bl_int {x : Bool} : isiD [.bl x, .opq (.ty "int")] = some (.bl true) := rfl
theorem i_bl_bool {x : Bool} : isiD [.bl x, .opq (.ty "bool")] = some (.bl true) := rfl
theorem i_bl_str {x : Bool} : isiD [.bl x, .opq (.ty "str")] = some (.bl false) := rfl
theorem i_bl_tuple {x : Bool} : isiD [.bl x, .opq (.ty "tuple")] = some (.bl false) := rfl
theorem i_bl_list {x : Bool} : isiD [.bl x, .opq (.ty "list")] = some (.bl false) := rfl
theorem i_int_int {x : Int} : isiD [.int x, .opq (.ty "int")] = some (.bl true) := rfl
theorem i_int_bool {x : Int} : isiD [.int x, .opq (.ty "bool")] = some (.bl false) := rfl
theorem i_int_str {x : Int} : isiD [.int x, .opq (.ty "str")] = some (.bl false) := rfl
theorem i_int_tuple {x : Int} : isiD [.int x, .opq (.ty "tuple")] = some (.bl false) := rfl
theorem i_int_list {x : Int} : isiD [.int x, .opq (.ty "list")] = some (.bl false) := rfl
theorem i_str_int {x : Str} : isiD [.str x, .opq (.ty "int")] = some (.bl false) := rfl
theorem i_str_bool {x : Str} : isiD [.str x, .opq (.ty "bool")] = some (.bl false) := rfl
theorem i_str_str {x : Str} : isiD [.str x, .opq (.ty "str")] = some (.bl true) := rfl
theorem i_str_tuple {x : Str} : isiD [.str x, .opq (.ty "tuple")] = some (.bl false) := rfl
theorem i_str_list {x : Str} : isiD [.str x, .opq (.ty "list")] = some (.bl false) := rfl
theorem i_tup_int {x : List D} : isiD [.tup x, .opq (.ty "int")] = some (.bl false) := rfl
theorem i_tup_bool {x : List D} : isiD [.tup x, .opq (.ty "bool")] = some (.bl false) := rfl
theorem i_tup_str {x : List D} : isiD [.tup x, .opq (.ty "str")] = some (.bl false) := rfl
theorem i_tup_tuple {x : List D} : isiD [.tup x, .opq (.ty "tuple")] = some (.bl true) := rfl
theorem i_tup_list {x : List D} : isiD [.tup x, .opq (.ty "list")] = some (.bl false) := rfl
theorem i_lst_int {x : List D} : isiD [.lst x, .opq (.ty "int")] = some (.bl false) := rfl
theorem i_lst_bool {x : List D} : isiD [.lst x, .opq (.ty "bool")] = some (.bl false) := rfl
theorem i_lst_str {x : List D} : isiD [.lst x, .opq (.ty "str")] = some (.bl false) := rfl
theorem i_lst_tuple {x : List D} : isiD [.lst x, .opq (.ty "tuple")] = some (.bl false) := rfl
theorem i_lst_list {x : List D} : isiD [.lst x, .opq (.ty "list")] = some (.bl true) := rfl
theorem isi_tup_t {l : List D} : isiD [.tup l, .opq (.ty "tuple")] = some (.bl true) := rfl
theorem rangeL_mem {n : Nat} {d : D} (h : d ∈ rangeL 0 n) : ∃ i : Nat, i < n ∧ d = .int (i : Nat) := by
  unfold rangeL at h
  obtain ⟨i, hi, e⟩ := List.mem_map.mp h
  rw [Int.zero_add] at e
  exact ⟨i, List.mem_range.mp hi, e.symm⟩
theorem atI_nat {α : Type} {l : List α} {i : Nat} (h : i < l.length) : atI l (i : Nat) = some l[i] := by
  have hix : ixN l.length (i : Nat) = some i := by
    unfold ixN
    rw [if_pos (by omega), if_pos (by omega)]
    simp
  unfold atI
  rw [hix]
  exact List.getElem?_eq_getElem h
theorem alike_atom {d : D} (g : List D → FR) (h : atom d = true) : noErr (runF (phiAlike g) 3) [d, d] = .ok (.bl true) := by
  unfold phiAlike
  cases d with
  | non => rfl
  | bl b => cases b <;> rfl
  | int i =>
    simp only [runR, runF, noErr, rowOf, List.map_cons, List.map_nil, List.cons_append, List.nil_append, List.length_cons, List.length_nil, List.replicate, Nat.reduceAdd, Nat.reduceSub, Nat.zero_add, Nat.sub_self, seqF, ifS, setF, setIF, retF, dropF, skipF, augF, setNF, parF, setMs, mdF, mnF, mnilF, Mx.sl, appF, extF, guardO, isOw, setRow, rowAt, rowRes, goR, goF, callDF, callRF, frR, raiseF, excOf, nameF, conF, op2F, un1F, bF, chainF, truF, truR, andF, orF, notF, tandF, torF, tnotF, ifF, nilF, consF, dispF, ndispF, nE, callF, ncallF, liftA, liftN, optR, optN, lift1, lift2, R.bind, R.toS, hd, hdS, fz, fzS, fzs, hds, truD, gNm, gTp, gsCons, gsNil, itF, itA, optI, itemsD, forS, yesF, List.getElem?_cons_zero, List.getElem?_cons_succ, List.set_cons_zero, List.set_cons_succ, List.length_set, Option.bind, Option.map, if_true, if_false, ite_true, ite_false, reduceIte, Nat.reduceLT, Nat.reduceLeDiff, Bool.not_true, Bool.not_false, Nat.lt_add_left_iff_pos, Nat.zero_lt_succ, Bool.false_eq_true, Bool.true_eq_false, reduceCtorEq, i_non_int, i_non_bool, i_non_str, i_non_tuple, i_non_list, i_bl_int, i_bl_bool, i_bl_str, i_bl_tuple, i_bl_list, i_int_int, i_int_bool, i_int_str, i_int_tuple, i_int_list, i_str_int, i_str_bool, i_str_str, i_str_tuple, i_str_list, i_tup_int, i_tup_bool, i_tup_str, i_tup_tuple, i_tup_list, i_lst_int, i_lst_bool, i_lst_str, i_lst_tuple, i_lst_list, isD, isNB, eqD_int, eqD_bl, beq_self_eq_true]
  | str x =>
    have hx : okd 60 (.str x) = true := h
    simp only [runR, runF, noErr, rowOf, List.map_cons, List.map_nil, List.cons_append, List.nil_append, List.length_cons, List.length_nil, List.replicate, Nat.reduceAdd, Nat.reduceSub, Nat.zero_add, Nat.sub_self, seqF, ifS, setF, setIF, retF, dropF, skipF, augF, setNF, parF, setMs, mdF, mnF, mnilF, Mx.sl, appF, extF, guardO, isOw, setRow, rowAt, rowRes, goR, goF, callDF, callRF, frR, raiseF, excOf, nameF, conF, op2F, un1F, bF, chainF, truF, truR, andF, orF, notF, tandF, torF, tnotF, ifF, nilF, consF, dispF, ndispF, nE, callF, ncallF, liftA, liftN, optR, optN, lift1, lift2, R.bind, R.toS, hd, hdS, fz, fzS, fzs, hds, truD, gNm, gTp, gsCons, gsNil, itF, itA, optI, itemsD, forS, yesF, List.getElem?_cons_zero, List.getElem?_cons_succ, List.set_cons_zero, List.set_cons_succ, List.length_set, Option.bind, Option.map, if_true, if_false, ite_true, ite_false, reduceIte, Nat.reduceLT, Nat.reduceLeDiff, Bool.not_true, Bool.not_false, Nat.lt_add_left_iff_pos, Nat.zero_lt_succ, Bool.false_eq_true, Bool.true_eq_false, reduceCtorEq, i_non_int, i_non_bool, i_non_str, i_non_tuple, i_non_list, i_bl_int, i_bl_bool, i_bl_str, i_bl_tuple, i_bl_list, i_int_int, i_int_bool, i_int_str, i_int_tuple, i_int_list, i_str_int, i_str_bool, i_str_str, i_str_tuple, i_str_list, i_tup_int, i_tup_bool, i_tup_str, i_tup_tuple, i_tup_list, i_lst_int, i_lst_bool, i_lst_str, i_lst_tuple, i_lst_list, isD, isNB, eqD_str hx hx, eqD_bl, beq_self_eq_true]
  | _ => cases h
theorem alike_ok : ∀ (n : Nat) (d : D), gd n d → gAlike (n + 1) [d, d] = .ok (.bl true)
  | 0, d, h => alike_atom (gAlike 0) h
  | n + 1, d, h => by
    rcases h with h | ⟨l, rfl, hl, hx⟩
    · exact alike_atom (gAlike (n + 1)) h
    · show noErr (runF (phiAlike (gAlike (n + 1))) 3) [.tup l, .tup l] = _
      have hr : rng1 [.int (l.length : Nat)] = some (rangeL 0 l.length) := by
        show (if -100000 ≤ (l.length : Int) ∧ (l.length : Int) ≤ 100000 then some (rangeL 0 (l.length : Int).toNat) else none) = _
        rw [if_pos (by omega)]
        simp
      have lp : lcLoop [2] (gNm 2) (tnotF (truF (callDF 2 (gAlike (n + 1)) (consF (op2F idxD (nameF 0) (nameF 2)) (consF (op2F idxD (nameF 1) (nameF 2)) nilF))))) (nameF 2) (rangeL 0 l.length) [] [Sl.va (.tup l), Sl.va (.tup l), Sl.no] = .ok ((rangeL 0 l.length).filterMap fun _ => none) [Sl.va (.tup l), Sl.va (.tup l), Sl.no] :=
        lcLoop_pure (fun _ => none) fun d hdm => by
          obtain ⟨i, hi, rfl⟩ := rangeL_mem hdm
          have ha := alike_ok n l[i] (hx _ (List.getElem_mem hi))
          refine ⟨[Sl.va (.tup l), Sl.va (.tup l), Sl.va (.int (i : Nat))], [Sl.va (.tup l), Sl.va (.tup l), Sl.va (.int (i : Nat))], rfl, ?_, rfl⟩
          unfold lcTurn
          simp only [runR, runF, noErr, rowOf, List.map_cons, List.map_nil, List.cons_append, List.nil_append, List.length_cons, List.length_nil, List.replicate, Nat.reduceAdd, Nat.reduceSub, Nat.zero_add, Nat.sub_self, seqF, ifS, setF, setIF, retF, dropF, skipF, augF, setNF, parF, setMs, mdF, mnF, mnilF, Mx.sl, appF, extF, guardO, isOw, setRow, rowAt, rowRes, goR, goF, callDF, callRF, frR, raiseF, excOf, nameF, conF, op2F, un1F, bF, chainF, truF, truR, andF, orF, notF, tandF, torF, tnotF, ifF, nilF, consF, dispF, ndispF, nE, callF, ncallF, liftA, liftN, optR, optN, lift1, lift2, R.bind, R.toS, hd, hdS, fz, fzS, fzs, hds, truD, gNm, gTp, gsCons, gsNil, itF, itA, optI, itemsD, forS, yesF, List.getElem?_cons_zero, List.getElem?_cons_succ, List.set_cons_zero, List.set_cons_succ, List.length_set, Option.bind, Option.map, if_true, if_false, ite_true, ite_false, reduceIte, Nat.reduceLT, Nat.reduceLeDiff, Bool.not_true, Bool.not_false, Nat.lt_add_left_iff_pos, Nat.zero_lt_succ, Bool.false_eq_true, Bool.true_eq_false, reduceCtorEq, idxD, atI_nat hi, ha]
      have e0 : ((rangeL 0 l.length).filterMap fun _ => (none : Option D)) = [] := by simp
      rw [e0] at lp
      unfold phiAlike
      simp only [runR, runF, noErr, rowOf, List.map_cons, List.map_nil, List.cons_append, List.nil_append, List.length_cons, List.length_nil, List.replicate, Nat.reduceAdd, Nat.reduceSub, Nat.zero_add, Nat.sub_self, seqF, ifS, setF, setIF, retF, dropF, skipF, augF, setNF, parF, setMs, mdF, mnF, mnilF, Mx.sl, appF, extF, guardO, isOw, setRow, rowAt, rowRes, goR, goF, callDF, callRF, frR, raiseF, excOf, nameF, conF, op2F, un1F, bF, chainF, truF, truR, andF, orF, notF, tandF, torF, tnotF, ifF, nilF, consF, dispF, ndispF, nE, callF, ncallF, liftA, liftN, optR, optN, lift1, lift2, R.bind, R.toS, hd, hdS, fz, fzS, fzs, hds, truD, gNm, gTp, gsCons, gsNil, itF, itA, optI, itemsD, forS, yesF, List.getElem?_cons_zero, List.getElem?_cons_succ, List.set_cons_zero, List.set_cons_succ, List.length_set, Option.bind, Option.map, if_true, if_false, ite_true, ite_false, reduceIte, Nat.reduceLT, Nat.reduceLeDiff, Bool.not_true, Bool.not_false, Nat.lt_add_left_iff_pos, Nat.zero_lt_succ, Bool.false_eq_true, Bool.true_eq_false, reduceCtorEq, i_non_int, i_non_bool, i_non_str, i_non_tuple, i_non_list, i_bl_int, i_bl_bool, i_bl_str, i_bl_tuple, i_bl_list, i_int_int, i_int_bool, i_int_str, i_int_tuple, i_int_list, i_str_int, i_str_bool, i_str_str, i_str_tuple, i_str_list, i_tup_int, i_tup_bool, i_tup_str, i_tup_tuple, i_tup_list, i_lst_int, i_lst_bool, i_lst_str, i_lst_tuple, i_lst_list, lenD, neD_int, lcF, hr, rangeL_len, hl, wipeE, lp, restE, keepVa, eqD_nil, beq_self_eq_true]
end PL
set_option Elab.async false
set_option linter.all false
set_option maxRecDepth 100000
set_option maxHeartbeats 4000000
namespace G41
open PySem PySem.Spec PyProof.Rows L2 PL
abbrev pw := PySem.Challenge.pw_channelshared_k41_whole_windows_round_by
def top (i : Nat) : Stmt := pw.main.body.getD i (.Pass ⟨0, 0, 0, 0⟩)
theorem hu_of1 {A : Around} {k : Nat} (hr : Room k A) : A.units < cLine := Nat.lt_of_le_of_lt (Nat.le_add_right _ _) hr.units

structure Txt (K : PySem.W.Frag) (mg : Str → Option Value) (C fI : Addr) : Prop where
  b_all : mg "all" = none
  b_bool : mg "bool" = none
  b_enumerate : mg "enumerate" = none
  b_int : mg "int" = none
  b_isinstance : mg "isinstance" = none
  b_len : mg "len" = none
  b_list : mg "list" = none
  b_min : mg "min" = none
  b_range : mg "range" = none
  b_str : mg "str" = none
  b_tuple : mg "tuple" = none
  b_zip : mg "zip" = none
  c_MOST_LATE : ∃ u, mg "MOST_LATE" = some u ∧ RelV (.int 4) u
  c_MOST_MODULUS : ∃ u, mg "MOST_MODULUS" = some u ∧ RelV (.int 20) u
  c_MOST_ROUNDS : ∃ u, mg "MOST_ROUNDS" = some u ∧ RelV (.int 40) u
  c_MOST_WIDTH : ∃ u, mg "MOST_WIDTH" = some u ∧ RelV (.int 4) u
  x_BadArgument : PLX.BadTxt pw K mg "BadArgument" "name" 7 C fI
/-! ### need: X, level 2; slots is_valid, name -/
abbrev s_need : Stmt := top 3
abbrev N_need : List Str := ["is_valid", "name"]
theorem sc_need : FnScope ["is_valid", "name"] ["is_valid", "name"] (defScope s_need) := ⟨rfl, rfl, rfl, by decide +kernel, rfl, by decide +kernel, by decide +kernel⟩
def phi_need : PL.Env → SR :=
  (ifS (tnotF (truF (nameF 0))) (raiseF "name" (consF (nameF 1) nilF)) skipF)
def g_need : List D → FR := runF (phi_need) 2
theorem ok_need {per : Per} (hlam : per.lam = false) {w : World} {K : PySem.W.Frag} {mg : Str → Option Value} {base : Heap} {cb cm fI : Addr} (T : Txt K mg cb fI) {f : Addr} {fd : FuncData} (Fu : Fun K "need" "need" s_need f fd)  : FnOk pw w K mg base (L2.CX pw w) 2 f fd ["is_valid", "name"] (spF per.P cb cm 2 (g_need)) := by
  refine okFX (N := ["is_valid", "name"]) (n := 2) (k := 1) (φ := phi_need) hlam Fu sc_need rfl fun cdv A outer s H E hr => ?_
  have nd := sc_need.nd
  exact (q_sone (q_ifS (q_tnot (q_truth (q_name 0 (pv 0)))) (q_sone (q_raise rfl T.x_BadArgument (.inl ⟨rfl, rfl⟩) (takes_of rfl rfl rfl rfl) hr (by decide) (by rfl) (q_cons (q_name 1 (pv 1)) q_nil))) q_snil))
/-! ### is_number: F, level 2; slots value, least, most -/
abbrev s_is_number : Stmt := top 5
abbrev N_is_number : List Str := ["value", "least", "most"]
theorem sc_is_number : FnScope ["value", "least", "most"] ["value", "least", "most"] (defScope s_is_number) := ⟨rfl, rfl, rfl, by decide +kernel, rfl, by decide +kernel, by decide +kernel⟩
def phi_is_number : PL.Env → SR :=
  (retF (andF (callF isiD (consF (nameF 0) (consF (conF (.opq (.ty "int"))) nilF))) (andF (notF (callF isiD (consF (nameF 0) (consF (conF (.opq (.ty "bool"))) nilF)))) (chainF leD leD (nameF 1) (nameF 0) (nameF 2)))))
def g_is_number : List D → FR := noErr (runF (phi_is_number) 3)
theorem ok_is_number {per : Per} (hlam : per.lam = false) {w : World} {K : PySem.W.Frag} {mg : Str → Option Value} {base : Heap} {cb cm fI : Addr} (T : Txt K mg cb fI) {f : Addr} {fd : FuncData} (Fu : Fun K "is_number" "is_number" s_is_number f fd)  : FnOk pw w K mg base CX0 2 f fd ["value", "least", "most"] (spF per.P cb cm 3 (g_is_number)) := by
  refine okF0' (N := ["value", "least", "most"]) (n := 3) (k := 1) (φ := phi_is_number) hlam Fu sc_is_number rfl fun cdv A outer s H E hr => ?_
  have nd := sc_is_number.nd
  exact (q_sone (q_ret (q_and (q_callB call_isi cas_isi (by rfl) T.b_isinstance (by decide +kernel) (q_cons (q_name 0 (pv 0)) (q_cons (q_ty (by rfl) T.b_int (by decide +kernel)) q_nil))) (q_and (q_not (q_callB call_isi cas_isi (by rfl) T.b_isinstance (by decide +kernel) (q_cons (q_name 0 (pv 0)) (q_cons (q_ty (by rfl) T.b_bool (by decide +kernel)) q_nil)))) (q_one (q_chain op_le ops_le op_le ops_le (q_name 1 (pv 1)) (q_name 0 (pv 0)) (q_name 2 (pv 2))))))))
/-! ### is_rising: F, level 2; slots row, one, other -/
abbrev s_is_rising : Stmt := top 6
abbrev N_is_rising : List Str := ["row", "one", "other"]
theorem sc_is_rising : FnScope ["row", "one", "other"] ["row"] (defScope s_is_rising) := ⟨rfl, rfl, rfl, by decide +kernel, rfl, by decide +kernel, by decide +kernel⟩
def phi_is_rising : PL.Env → SR :=
  (retF (callF allC (consF (nE (lcF [1, 2] (itA zipI (consF (nameF 0) (consF (sliceF (nameF 0) (someF (conF (.int 1))) noneF) nilF))) (gTp 2 (gsCons (gNm 1) (gsCons (gNm 2) gsNil))) yesF (op2F ltD (nameF 1) (nameF 2)))) nilF)))
def g_is_rising : List D → FR := noErr (runF (phi_is_rising) 3)
theorem ok_is_rising {per : Per} (hlam : per.lam = false) {w : World} {K : PySem.W.Frag} {mg : Str → Option Value} {base : Heap} {cb cm fI : Addr} (T : Txt K mg cb fI) {f : Addr} {fd : FuncData} (Fu : Fun K "is_rising" "is_rising" s_is_rising f fd)  : FnOk pw w K mg base CX0 2 f fd ["row"] (spF per.P cb cm 1 (g_is_rising)) := by
  refine okF0' (N := ["row", "one", "other"]) (n := 1) (k := 1) (φ := phi_is_rising) hlam Fu sc_is_rising rfl fun cdv A outer s H E hr => ?_
  have nd := sc_is_rising.nd
  exact (q_sone (q_ret (q_callB (cr_all rfl) cas_all (by rfl) T.b_all (by decide +kernel) (q_cons (q_n (q_lc (own := [("one", 1), ("other", 2)]) rfl nd (q_zip (by rfl) T.b_zip (q_cons (q_name 0 (pv 0)) (q_cons (q_slice (q_name 0 (pv 0)) (q_osome q_int) q_onone) q_nil))) (blkOk_by (N := N_is_rising) (sc := defScope s_is_rising) (own := [("one", 1), ("other", 2)]) (by decide +kernel)) (by decide) (by decide) (fun _ _ _ _ _ => (q_gtup rfl (q_gscons (q_gname 1 (pg_name (i := 1) nd rfl (by first | exact Or.inl rfl | exact Or.inr rfl))) (q_gscons (q_gname 2 (pg_name (i := 2) nd rfl (by first | exact Or.inl rfl | exact Or.inr rfl))) q_gsnil)))) (fun _ _ _ _ _ => q_tsnil) (fun _ _ _ _ _ => (q_cmp (op_ltA (hu_of1 hr)) ops_lt (q_name 1 (pv 1)) (q_name 2 (pv 2)) (nomark _))))) q_nil))))
/-! ### check_windows: X, level 3; slots width, modulus, late -/
abbrev s_check_windows : Stmt := top 12
abbrev N_check_windows : List Str := ["width", "modulus", "late"]
theorem sc_check_windows : FnScope ["width", "modulus", "late"] ["width", "modulus", "late"] (defScope s_check_windows) := ⟨rfl, rfl, rfl, by decide +kernel, rfl, by decide +kernel, by decide +kernel⟩
def phi_check_windows : PL.Env → SR :=
  (seqF (dropF (callDF 2 g_need (consF (callDF 3 g_is_number (consF (nameF 0) (consF (conF (.int 1)) (consF (conF (.int 4)) nilF)))) (consF (conF (.str "width")) nilF))))
  (seqF (dropF (callDF 2 g_need (consF (callDF 3 g_is_number (consF (nameF 1) (consF (conF (.int 1)) (consF (conF (.int 20)) nilF)))) (consF (conF (.str "modulus")) nilF))))
  (dropF (callDF 2 g_need (consF (callDF 3 g_is_number (consF (nameF 2) (consF (conF (.int 0)) (consF (conF (.int 4)) nilF)))) (consF (conF (.str "late")) nilF))))))
def g_check_windows : List D → FR := runF (phi_check_windows) 3
theorem ok_check_windows {per : Per} (hlam : per.lam = false) {w : World} {K : PySem.W.Frag} {mg : Str → Option Value} {base : Heap} {cb cm fI : Addr} (T : Txt K mg cb fI) {f : Addr} {fd : FuncData} (Fu : Fun K "check_windows" "check_windows" s_check_windows f fd) (M_need : MX per.P pw w K mg base "need" cb cm 2 2 g_need) (M_is_number : MF per.P pw w K mg base "is_number" cb cm 3 2 g_is_number) : FnOk pw w K mg base (L2.CX pw w) 3 f fd ["width", "modulus", "late"] (spF per.P cb cm 3 (g_check_windows)) := by
  refine okFX (N := ["width", "modulus", "late"]) (n := 3) (k := 2) (φ := phi_check_windows) hlam Fu sc_check_windows rfl fun cdv A outer s H E hr => ?_
  have nd := sc_check_windows.nd
  exact (q_scons (q_expr (q_callX M_need (hr.mono (by decide)) (passes_call (takes_of rfl rfl rfl rfl) (fun _ _ _ _ h => h)) (by rfl) (q_cons (q_call M_is_number (hr.mono (by decide)) (by rfl) (q_cons (q_name 0 (pv 0)) (q_cons q_int (q_cons (q_gl (v := .int 4) (by rfl) T.c_MOST_WIDTH (fun _ => rfl)) q_nil)))) (q_cons q_str q_nil))))
  (q_scons (q_expr (q_callX M_need (hr.mono (by decide)) (passes_call (takes_of rfl rfl rfl rfl) (fun _ _ _ _ h => h)) (by rfl) (q_cons (q_call M_is_number (hr.mono (by decide)) (by rfl) (q_cons (q_name 1 (pv 1)) (q_cons q_int (q_cons (q_gl (v := .int 20) (by rfl) T.c_MOST_MODULUS (fun _ => rfl)) q_nil)))) (q_cons q_str q_nil))))
  (q_sone (q_expr (q_callX M_need (hr.mono (by decide)) (passes_call (takes_of rfl rfl rfl rfl) (fun _ _ _ _ h => h)) (by rfl) (q_cons (q_call M_is_number (hr.mono (by decide)) (by rfl) (q_cons (q_name 2 (pv 2)) (q_cons q_int (q_cons (q_gl (v := .int 4) (by rfl) T.c_MOST_LATE (fun _ => rfl)) q_nil)))) (q_cons q_str q_nil)))))))
/-! ### is_copy: F, level 3; slots value, width, most -/
abbrev s_is_copy : Stmt := top 13
abbrev N_is_copy : List Str := ["value", "width", "most"]
theorem sc_is_copy : FnScope ["value", "width", "most"] ["value", "width", "most"] (defScope s_is_copy) := ⟨rfl, rfl, rfl, by decide +kernel, rfl, by decide +kernel, by decide +kernel⟩
def phi_is_copy : PL.Env → SR :=
  (seqF (ifS (tnotF (tandF (truF (callF isiD (consF (nameF 0) (consF (conF (.opq (.ty "tuple"))) nilF)))) (tandF (bF (op2F eqD (callF lenD (consF (nameF 0) nilF)) (conF (.int 2)))) (truF (callDF 3 g_is_number (consF (op2F idxD (nameF 0) (conF (.int 0))) (consF (conF (.int 1)) (consF (nameF 2) nilF)))))))) (retF (conF (.bl false))) skipF)
  (retF (callDF 3 g_is_number (consF (op2F idxD (nameF 0) (conF (.int 1))) (consF (conF (.int 0)) (consF (op2F subD (nameF 1) (conF (.int 1))) nilF))))))
def g_is_copy : List D → FR := noErr (runF (phi_is_copy) 3)
theorem ok_is_copy {per : Per} (hlam : per.lam = false) {w : World} {K : PySem.W.Frag} {mg : Str → Option Value} {base : Heap} {cb cm fI : Addr} (T : Txt K mg cb fI) {f : Addr} {fd : FuncData} (Fu : Fun K "is_copy" "is_copy" s_is_copy f fd) (M_is_number : MF per.P pw w K mg base "is_number" cb cm 3 2 g_is_number) : FnOk pw w K mg base CX0 3 f fd ["value", "width", "most"] (spF per.P cb cm 3 (g_is_copy)) := by
  refine okF0' (N := ["value", "width", "most"]) (n := 3) (k := 2) (φ := phi_is_copy) hlam Fu sc_is_copy rfl fun cdv A outer s H E hr => ?_
  have nd := sc_is_copy.nd
  exact (q_scons (q_ifS (q_tnot (q_wand (q_truth (q_callB call_isi cas_isi (by rfl) T.b_isinstance (by decide +kernel) (q_cons (q_name 0 (pv 0)) (q_cons (q_ty (by rfl) T.b_tuple (by decide +kernel)) q_nil)))) (q_wand (q_tcmp (op_eqD hr.units) ops_eq (q_callB call_len cas_len (by rfl) T.b_len (by decide +kernel) (q_cons (q_name 0 (pv 0)) q_nil)) q_int (nomark _)) (q_wand1 (q_truth (q_call M_is_number (hr.mono (by decide)) (by rfl) (q_cons (q_ix (q_name 0 (pv 0)) q_int) (q_cons q_int (q_cons (q_name 2 (pv 2)) q_nil)))))))).pt) (q_sone (q_ret q_bl)) q_snil)
  (q_sone (q_ret (q_call M_is_number (hr.mono (by decide)) (by rfl) (q_cons (q_ix (q_name 0 (pv 0)) q_int) (q_cons q_int (q_cons (q_op op_sub ops_sub (q_name 1 (pv 1)) q_int) q_nil)))))))
/-! ### is_round: F, level 4; slots value, width, most, own -/
abbrev s_is_round : Stmt := top 14
abbrev N_is_round : List Str := ["value", "width", "most", "own"]
theorem sc_is_round : FnScope ["value", "width", "most", "own"] ["value", "width", "most"] (defScope s_is_round) := ⟨rfl, rfl, rfl, by decide +kernel, rfl, by decide +kernel, by decide +kernel⟩
def phi_is_round : PL.Env → SR :=
  (seqF (ifS (tnotF (tandF (truF (callF isiD (consF (nameF 0) (consF (conF (.opq (.ty "tuple"))) nilF)))) (tandF (bF (op2F eqD (callF lenD (consF (nameF 0) nilF)) (conF (.int 3)))) (truF (callF isiD (consF (op2F idxD (nameF 0) (conF (.int 0))) (consF (conF (.opq (.ty "tuple"))) nilF))))))) (retF (conF (.bl false))) skipF)
  (seqF (ifS (torF (tnotF (truF (callF allC (consF (nE (lcF [3] (itF (op2F idxD (nameF 0) (conF (.int 0)))) (gNm 3) yesF (callDF 3 g_is_copy (consF (nameF 3) (consF (nameF 1) (consF (nameF 2) nilF)))))) nilF)))) (tnotF (truF (callDF 1 g_is_rising (consF (op2F idxD (nameF 0) (conF (.int 0))) nilF))))) (retF (conF (.bl false))) skipF)
  (seqF (ifS (tnotF (tandF (truF (callF isiD (consF (op2F idxD (nameF 0) (conF (.int 1))) (consF (conF (.opq (.ty "tuple"))) nilF)))) (truF (callF allC (consF (nE (lcF [3] (itF (op2F idxD (nameF 0) (conF (.int 1)))) (gNm 3) yesF (callDF 3 g_is_number (consF (nameF 3) (consF (conF (.int 0)) (consF (op2F subD (nameF 1) (conF (.int 1))) nilF)))))) nilF))))) (retF (conF (.bl false))) skipF)
  (retF (andF (callDF 1 g_is_rising (consF (op2F idxD (nameF 0) (conF (.int 1))) nilF)) (callF isiD (consF (op2F idxD (nameF 0) (conF (.int 2))) (consF (conF (.opq (.ty "bool"))) nilF))))))))
def g_is_round : List D → FR := noErr (runF (phi_is_round) 4)
theorem ok_is_round {per : Per} (hlam : per.lam = false) {w : World} {K : PySem.W.Frag} {mg : Str → Option Value} {base : Heap} {cb cm fI : Addr} (T : Txt K mg cb fI) {f : Addr} {fd : FuncData} (Fu : Fun K "is_round" "is_round" s_is_round f fd) (M_is_copy : MF per.P pw w K mg base "is_copy" cb cm 3 3 g_is_copy) (M_is_rising : MF per.P pw w K mg base "is_rising" cb cm 1 2 g_is_rising) (M_is_number : MF per.P pw w K mg base "is_number" cb cm 3 2 g_is_number) : FnOk pw w K mg base CX0 4 f fd ["value", "width", "most"] (spF per.P cb cm 3 (g_is_round)) := by
  refine okF0' (N := ["value", "width", "most", "own"]) (n := 3) (k := 3) (φ := phi_is_round) hlam Fu sc_is_round rfl fun cdv A outer s H E hr => ?_
  have nd := sc_is_round.nd
  exact (q_scons (q_ifS (q_tnot (q_wand (q_truth (q_callB call_isi cas_isi (by rfl) T.b_isinstance (by decide +kernel) (q_cons (q_name 0 (pv 0)) (q_cons (q_ty (by rfl) T.b_tuple (by decide +kernel)) q_nil)))) (q_wand (q_tcmp (op_eqD hr.units) ops_eq (q_callB call_len cas_len (by rfl) T.b_len (by decide +kernel) (q_cons (q_name 0 (pv 0)) q_nil)) q_int (nomark _)) (q_wand1 (q_truth (q_callB call_isi cas_isi (by rfl) T.b_isinstance (by decide +kernel) (q_cons (q_ix (q_name 0 (pv 0)) q_int) (q_cons (q_ty (by rfl) T.b_tuple (by decide +kernel)) q_nil))))))).pt) (q_sone (q_ret q_bl)) q_snil)
  (q_scons (q_ifS (q_wor (q_tnot (q_truth (q_callB (cr_all rfl) cas_all (by rfl) T.b_all (by decide +kernel) (q_cons (q_n (q_lc (own := [("own", 3)]) rfl nd (q_it (q_ix (q_name 0 (pv 0)) q_int)) (blkOk_by (N := N_is_round) (sc := defScope s_is_round) (own := [("own", 3)]) (by decide +kernel)) (by decide) (by decide) (fun _ _ _ _ _ => (q_gname 3 (pg_name (i := 3) nd rfl (by first | exact Or.inl rfl | exact Or.inr rfl)))) (fun _ _ _ _ _ => q_tsnil) (fun _ _ _ _ _ => (q_call M_is_copy (hr.mono (by decide)) (by rfl) (q_cons (q_name 3 (pv 3)) (q_cons (q_name 1 (pv 1)) (q_cons (q_name 2 (pv 2)) q_nil))))))) q_nil)))) (q_wor1 (q_tnot (q_truth (q_call M_is_rising (hr.mono (by decide)) (by rfl) (q_cons (q_ix (q_name 0 (pv 0)) q_int) q_nil)))))).pt (q_sone (q_ret q_bl)) q_snil)
  (q_scons (q_ifS (q_tnot (q_wand (q_truth (q_callB call_isi cas_isi (by rfl) T.b_isinstance (by decide +kernel) (q_cons (q_ix (q_name 0 (pv 0)) q_int) (q_cons (q_ty (by rfl) T.b_tuple (by decide +kernel)) q_nil)))) (q_wand1 (q_truth (q_callB (cr_all rfl) cas_all (by rfl) T.b_all (by decide +kernel) (q_cons (q_n (q_lc (own := [("own", 3)]) rfl nd (q_it (q_ix (q_name 0 (pv 0)) q_int)) (blkOk_by (N := N_is_round) (sc := defScope s_is_round) (own := [("own", 3)]) (by decide +kernel)) (by decide) (by decide) (fun _ _ _ _ _ => (q_gname 3 (pg_name (i := 3) nd rfl (by first | exact Or.inl rfl | exact Or.inr rfl)))) (fun _ _ _ _ _ => q_tsnil) (fun _ _ _ _ _ => (q_call M_is_number (hr.mono (by decide)) (by rfl) (q_cons (q_name 3 (pv 3)) (q_cons q_int (q_cons (q_op op_sub ops_sub (q_name 1 (pv 1)) q_int) q_nil))))))) q_nil))))).pt) (q_sone (q_ret q_bl)) q_snil)
  (q_sone (q_ret (q_and (q_call M_is_rising (hr.mono (by decide)) (by rfl) (q_cons (q_ix (q_name 0 (pv 0)) q_int) q_nil)) (q_one (q_callB call_isi cas_isi (by rfl) T.b_isinstance (by decide +kernel) (q_cons (q_ix (q_name 0 (pv 0)) q_int) (q_cons (q_ty (by rfl) T.b_bool (by decide +kernel)) q_nil))))))))))
/-! ### check_rounds: X, level 5; slots rounds, width, late, is_row, at, own -/
abbrev s_check_rounds : Stmt := top 15
abbrev N_check_rounds : List Str := ["rounds", "width", "late", "is_row", "at", "own"]
theorem sc_check_rounds : FnScope ["rounds", "width", "late", "is_row", "at", "own"] ["rounds", "width", "late"] (defScope s_check_rounds) := ⟨rfl, rfl, rfl, by decide +kernel, rfl, by decide +kernel, by decide +kernel⟩
def phi_check_rounds : PL.Env → SR :=
  (seqF (setF (gNm 3) (andF (callF isiD (consF (nameF 0) (consF (conF (.opq (.ty "tuple"))) nilF))) (op2F leD (callF lenD (consF (nameF 0) nilF)) (conF (.int 40)))))
  (dropF (callDF 2 g_need (consF (andF (nameF 3) (callF allC (consF (nE (lcF [4, 5] (itA enumI (consF (nameF 0) nilF)) (gTp 2 (gsCons (gNm 4) (gsCons (gNm 5) gsNil))) yesF (callDF 3 g_is_round (consF (nameF 5) (consF (nameF 1) (consF (callF min2D (consF (nameF 2) (consF (nameF 4) nilF))) nilF)))))) nilF))) (consF (conF (.str "rounds")) nilF)))))
def g_check_rounds : List D → FR := runF (phi_check_rounds) 6
theorem ok_check_rounds {per : Per} (hlam : per.lam = false) {w : World} {K : PySem.W.Frag} {mg : Str → Option Value} {base : Heap} {cb cm fI : Addr} (T : Txt K mg cb fI) {f : Addr} {fd : FuncData} (Fu : Fun K "check_rounds" "check_rounds" s_check_rounds f fd) (M_need : MX per.P pw w K mg base "need" cb cm 2 2 g_need) (M_is_round : MF per.P pw w K mg base "is_round" cb cm 3 4 g_is_round) : FnOk pw w K mg base (L2.CX pw w) 5 f fd ["rounds", "width", "late"] (spF per.P cb cm 3 (g_check_rounds)) := by
  refine okFX (N := ["rounds", "width", "late", "is_row", "at", "own"]) (n := 3) (k := 4) (φ := phi_check_rounds) hlam Fu sc_check_rounds rfl fun cdv A outer s H E hr => ?_
  have nd := sc_check_rounds.nd
  exact (q_scons (q_set 3 nd rfl (by first | exact Or.inl rfl | exact Or.inr rfl) (q_and (q_callB call_isi cas_isi (by rfl) T.b_isinstance (by decide +kernel) (q_cons (q_name 0 (pv 0)) (q_cons (q_ty (by rfl) T.b_tuple (by decide +kernel)) q_nil))) (q_one (q_cmp op_le ops_le (q_callB call_len cas_len (by rfl) T.b_len (by decide +kernel) (q_cons (q_name 0 (pv 0)) q_nil)) (q_gl (v := .int 40) (by rfl) T.c_MOST_ROUNDS (fun _ => rfl)) (nomark _)))))
  (q_sone (q_expr (q_callX M_need (hr.mono (by decide)) (passes_call (takes_of rfl rfl rfl rfl) (fun _ _ _ _ h => h)) (by rfl) (q_cons (q_and (q_name 3 (pv 3)) (q_one (q_callB (cr_all rfl) cas_all (by rfl) T.b_all (by decide +kernel) (q_cons (q_n (q_lc (own := [("at", 4), ("own", 5)]) rfl nd (q_enum (by rfl) T.b_enumerate (q_cons (q_name 0 (pv 0)) q_nil)) (blkOk_by (N := N_check_rounds) (sc := defScope s_check_rounds) (own := [("at", 4), ("own", 5)]) (by decide +kernel)) (by decide) (by decide) (fun _ _ _ _ _ => (q_gtup rfl (q_gscons (q_gname 4 (pg_name (i := 4) nd rfl (by first | exact Or.inl rfl | exact Or.inr rfl))) (q_gscons (q_gname 5 (pg_name (i := 5) nd rfl (by first | exact Or.inl rfl | exact Or.inr rfl))) q_gsnil)))) (fun _ _ _ _ _ => q_tsnil) (fun _ _ _ _ _ => (q_call M_is_round (hr.mono (by decide)) (by rfl) (q_cons (q_name 5 (pv 5)) (q_cons (q_name 1 (pv 1)) (q_cons (q_callB (call_min2 rfl) cas_min2 (by rfl) T.b_min (by decide +kernel) (q_cons (q_name 2 (pv 2)) (q_cons (q_name 4 (pv 4)) q_nil))) q_nil))))))) q_nil)))) (q_cons q_str q_nil))))))
/-! ### played: F, level 2; slots modulus, rounds, firsts, told, first, wished, copies, places, answered, accepted, message, age, place -/
abbrev s_played : Stmt := top 16
abbrev N_played : List Str := ["modulus", "rounds", "firsts", "told", "first", "wished", "copies", "places", "answered", "accepted", "message", "age", "place"]
theorem sc_played : FnScope ["modulus", "rounds", "firsts", "told", "first", "wished", "copies", "places", "answered", "accepted", "message", "age", "place"] ["modulus", "rounds"] (defScope s_played) := ⟨rfl, rfl, rfl, by decide +kernel, rfl, by decide +kernel, by decide +kernel⟩
def phi_played : PL.Env → SR :=
  (seqF (parF [2, 3, 4, 5] (mnF (ndispF nilF) (mnF (ndispF nilF) (mdF (conF (.int 0)) (mdF (conF (.int 0)) mnilF)))))
  (seqF (forS (itF (nameF 1)) (gTp 3 (gsCons (gNm 6) (gsCons (gNm 7) (gsCons (gNm 8) gsNil))))
  (seqF (dropF (guardO 2 (appF 2 (nameF 4))))
  (seqF (setNF 9 (ndispF nilF))
  (seqF (forS (itF (op2F addD (nE (lcF [11, 12] (itF (nameF 6)) (gTp 2 (gsCons (gNm 11) (gsCons (gNm 12) gsNil))) yesF (op2F addD (op2F idxD (nameF 2) (op2F subD (un1F negD (conF (.int 1))) (nameF 11))) (nameF 12)))) (nE (lcF [12] (itF (nameF 7)) (gNm 12) yesF (op2F addD (nameF 4) (nameF 12)))))) (gNm 10)
  (ifS (bF (op2F eqD (op2F modD (nameF 10) (nameF 0)) (op2F modD (nameF 5) (nameF 0)))) (seqF (dropF (guardO 9 (appF 9 (nameF 10))))
  (augF 5 (fun i j => i + j) (conF (.int 1)))) skipF))
  (seqF (ifS (truF (nameF 8)) (setF (gNm 4) (nameF 5)) skipF)
  (dropF (guardO 3 (appF 3 (dispF .tup (consF (callF tupC (consF (nameF 9) nilF)) (consF (nameF 4) nilF)))))))))))
  (retF (callF tupC (consF (nameF 3) nilF)))))
def g_played : List D → FR := noErr (runF (phi_played) 13)
theorem ok_played {per : Per} (hlam : per.lam = false) {w : World} {K : PySem.W.Frag} {mg : Str → Option Value} {base : Heap} {cb cm fI : Addr} (T : Txt K mg cb fI) {f : Addr} {fd : FuncData} (Fu : Fun K "played" "played" s_played f fd)  : FnOk pw w K mg base CX0 2 f fd ["modulus", "rounds"] (spF per.P cb cm 2 (g_played)) := by
  refine okF0' (N := ["modulus", "rounds", "firsts", "told", "first", "wished", "copies", "places", "answered", "accepted", "message", "age", "place"]) (n := 2) (k := 1) (φ := phi_played) hlam Fu sc_played rfl fun cdv A outer s H E hr => ?_
  have nd := sc_played.nd
  exact (q_scons (q_parT (ks := [2, 3, 4, 5]) rfl (q_mn (q_lst q_nil) (q_mn (q_lst q_nil) (q_md q_int (q_md q_int q_mnil)))) (pgs_cons (pg_name (i := 2) nd rfl (by first | exact Or.inl rfl | exact Or.inr rfl)) (pgs_cons (pg_name (i := 3) nd rfl (by first | exact Or.inl rfl | exact Or.inr rfl)) (pgs_cons (pg_name (i := 4) nd rfl (by first | exact Or.inl rfl | exact Or.inr rfl)) (pgs_cons (pg_name (i := 5) nd rfl (by first | exact Or.inl rfl | exact Or.inr rfl)) pgs_nil)))))
  (q_scons (q_for PassesOwn.never rfl (q_it (q_name 1 (pv 1))) (q_gtup rfl (q_gscons (q_gname 6 (pg_name (i := 6) nd rfl (by first | exact Or.inl rfl | exact Or.inr rfl))) (q_gscons (q_gname 7 (pg_name (i := 7) nd rfl (by first | exact Or.inl rfl | exact Or.inr rfl))) (q_gscons (q_gname 8 (pg_name (i := 8) nd rfl (by first | exact Or.inl rfl | exact Or.inr rfl))) q_gsnil))))
  (q_scons (q_expr (q_append 2 (pv 2) (q_name 4 (pv 4)) (fun ho hp => pe_bm PySem.F.plainAttrs_list PySem.F.slot_list_append PySem.F.type_list_append mt_append ho hp)))
  (q_scons (q_setN 9 nd rfl (by first | exact Or.inl rfl | exact Or.inr rfl) (q_lst q_nil))
  (q_scons (q_for PassesOwn.never rfl (q_it (q_op op_addA ops_add (q_n (q_lc (own := [("age", 11), ("place", 12)]) rfl nd (q_it (q_name 6 (pv 6))) (blkOk_by (N := N_played) (sc := defScope s_played) (own := [("age", 11), ("place", 12)]) (by decide +kernel)) (by decide) (by decide) (fun _ _ _ _ _ => (q_gtup rfl (q_gscons (q_gname 11 (pg_name (i := 11) nd rfl (by first | exact Or.inl rfl | exact Or.inr rfl))) (q_gscons (q_gname 12 (pg_name (i := 12) nd rfl (by first | exact Or.inl rfl | exact Or.inr rfl))) q_gsnil)))) (fun _ _ _ _ _ => q_tsnil) (fun _ _ _ _ _ => (q_op op_addA ops_add (q_ix (q_name 2 (pv 2)) (q_op op_sub ops_sub (q_neg q_int) (q_name 11 (pv 11)))) (q_name 12 (pv 12)))))) (q_n (q_lc (own := [("place", 12)]) rfl nd (q_it (q_name 7 (pv 7))) (blkOk_by (N := N_played) (sc := defScope s_played) (own := [("place", 12)]) (by decide +kernel)) (by decide) (by decide) (fun _ _ _ _ _ => (q_gname 12 (pg_name (i := 12) nd rfl (by first | exact Or.inl rfl | exact Or.inr rfl)))) (fun _ _ _ _ _ => q_tsnil) (fun _ _ _ _ _ => (q_op op_addA ops_add (q_name 4 (pv 4)) (q_name 12 (pv 12)))))))) (q_gname 10 (pg_name (i := 10) nd rfl (by first | exact Or.inl rfl | exact Or.inr rfl)))
  (q_sone (q_ifS (q_tcmp (op_eqD hr.units) ops_eq (q_op op_mod ops_mod (q_name 10 (pv 10)) (q_name 0 (pv 0))) (q_op op_mod ops_mod (q_name 5 (pv 5)) (q_name 0 (pv 0))) (nomark _)) (q_scons (q_expr (q_append 9 (pv 9) (q_name 10 (pv 10)) (fun ho hp => pe_bm PySem.F.plainAttrs_list PySem.F.slot_list_append PySem.F.type_list_append mt_append ho hp)))
  (q_sone (q_aug 5 nd rfl (by first | exact Or.inl rfl | exact Or.inr rfl) q_int ip_add))) q_snil)))
  (q_scons (q_ifS (q_truth (q_name 8 (pv 8))) (q_sone (q_set 4 nd rfl (by first | exact Or.inl rfl | exact Or.inr rfl) (q_name 5 (pv 5)))) q_snil)
  (q_sone (q_expr (q_append 3 (pv 3) (q_tup (q_cons (q_callTy call_tuple_of cas_tup (by rfl) T.b_tuple (by decide +kernel) (q_cons (q_name 9 (pv 9)) q_nil)) (q_cons (q_name 4 (pv 4)) q_nil))) (fun ho hp => pe_bm PySem.F.plainAttrs_list PySem.F.slot_list_append PySem.F.type_list_append mt_append ho hp)))))))))
  (q_sone (q_ret (q_callTy call_tuple_of cas_tup (by rfl) T.b_tuple (by decide +kernel) (q_cons (q_name 3 (pv 3)) q_nil))))))
/-! ### run_windows: X, level 6; slots width, modulus, late, rounds -/
abbrev s_run_windows : Stmt := top 17
abbrev N_run_windows : List Str := ["width", "modulus", "late", "rounds"]
theorem sc_run_windows : FnScope ["width", "modulus", "late", "rounds"] ["width", "modulus", "late", "rounds"] (defScope s_run_windows) := ⟨rfl, rfl, rfl, by decide +kernel, rfl, by decide +kernel, by decide +kernel⟩
def phi_run_windows : PL.Env → SR :=
  (seqF (dropF (callDF 3 g_check_windows (consF (nameF 0) (consF (nameF 1) (consF (nameF 2) nilF)))))
  (seqF (dropF (callDF 3 g_check_rounds (consF (nameF 3) (consF (nameF 0) (consF (nameF 2) nilF)))))
  (retF (callDF 2 g_played (consF (nameF 1) (consF (nameF 3) nilF))))))
def g_run_windows : List D → FR := runF (phi_run_windows) 4
theorem ok_run_windows {per : Per} (hlam : per.lam = false) {w : World} {K : PySem.W.Frag} {mg : Str → Option Value} {base : Heap} {cb cm fI : Addr} (T : Txt K mg cb fI) {f : Addr} {fd : FuncData} (Fu : Fun K "run_windows" "run_windows" s_run_windows f fd) (M_check_windows : MX per.P pw w K mg base "check_windows" cb cm 3 3 g_check_windows) (M_check_rounds : MX per.P pw w K mg base "check_rounds" cb cm 3 5 g_check_rounds) (M_played : MF per.P pw w K mg base "played" cb cm 2 2 g_played) : FnOk pw w K mg base (L2.CX pw w) 6 f fd ["width", "modulus", "late", "rounds"] (spF per.P cb cm 4 (g_run_windows)) := by
  refine okFX (N := ["width", "modulus", "late", "rounds"]) (n := 4) (k := 5) (φ := phi_run_windows) hlam Fu sc_run_windows rfl fun cdv A outer s H E hr => ?_
  have nd := sc_run_windows.nd
  exact (q_scons (q_expr (q_callX M_check_windows (hr.mono (by decide)) (passes_call (takes_of rfl rfl rfl rfl) (fun _ _ _ _ h => h)) (by rfl) (q_cons (q_name 0 (pv 0)) (q_cons (q_name 1 (pv 1)) (q_cons (q_name 2 (pv 2)) q_nil)))))
  (q_scons (q_expr (q_callX M_check_rounds (hr.mono (by decide)) (passes_call (takes_of rfl rfl rfl rfl) (fun _ _ _ _ h => h)) (by rfl) (q_cons (q_name 3 (pv 3)) (q_cons (q_name 0 (pv 0)) (q_cons (q_name 2 (pv 2)) q_nil)))))
  (q_sone (q_ret (q_call M_played (hr.mono (by decide)) (by rfl) (q_cons (q_name 1 (pv 1)) (q_cons (q_name 3 (pv 3)) q_nil)))))))
/-! ### are_in_order: X, level 7; slots width, modulus, late, rounds, found, accepted, first -/
abbrev s_are_in_order : Stmt := top 18
abbrev N_are_in_order : List Str := ["width", "modulus", "late", "rounds", "found", "accepted", "first"]
theorem sc_are_in_order : FnScope ["width", "modulus", "late", "rounds", "found", "accepted", "first"] ["width", "modulus", "late", "rounds"] (defScope s_are_in_order) := ⟨rfl, rfl, rfl, by decide +kernel, rfl, by decide +kernel, by decide +kernel⟩
def phi_are_in_order : PL.Env → SR :=
  (seqF (setNF 4 (ndispF nilF))
  (seqF (forS (itF (callDF 4 g_run_windows (consF (nameF 0) (consF (nameF 1) (consF (nameF 2) (consF (nameF 3) nilF)))))) (gTp 2 (gsCons (gNm 5) (gsCons (gNm 6) gsNil)))
  (dropF (guardO 4 (extF 4 (nE (ncallF lstC (consF (nameF 5) nilF)))))))
  (retF (op2F eqD (nameF 4) (nE (rgnF rng1 (consF (callF lenD (consF (nameF 4) nilF)) nilF)))))))
def g_are_in_order : List D → FR := runF (phi_are_in_order) 7
theorem ok_are_in_order {per : Per} (hlam : per.lam = false) {w : World} {K : PySem.W.Frag} {mg : Str → Option Value} {base : Heap} {cb cm fI : Addr} (T : Txt K mg cb fI) {f : Addr} {fd : FuncData} (Fu : Fun K "are_in_order" "are_in_order" s_are_in_order f fd) (M_run_windows : MX per.P pw w K mg base "run_windows" cb cm 4 6 g_run_windows) : FnOk pw w K mg base (L2.CX pw w) 7 f fd ["width", "modulus", "late", "rounds"] (spF per.P cb cm 4 (g_are_in_order)) := by
  refine okFX (N := ["width", "modulus", "late", "rounds", "found", "accepted", "first"]) (n := 4) (k := 6) (φ := phi_are_in_order) hlam Fu sc_are_in_order rfl fun cdv A outer s H E hr => ?_
  have nd := sc_are_in_order.nd
  exact (q_scons (q_setN 4 nd rfl (by first | exact Or.inl rfl | exact Or.inr rfl) (q_lst q_nil))
  (q_scons (q_for (passes_of rfl) rfl (q_it (q_callX M_run_windows (hr.mono (by decide)) (passes_call (takes_of rfl rfl rfl rfl) (fun _ _ _ _ h => h)) (by rfl) (q_cons (q_name 0 (pv 0)) (q_cons (q_name 1 (pv 1)) (q_cons (q_name 2 (pv 2)) (q_cons (q_name 3 (pv 3)) q_nil)))))) (q_gtup rfl (q_gscons (q_gname 5 (pg_name (i := 5) nd rfl (by first | exact Or.inl rfl | exact Or.inr rfl))) (q_gscons (q_gname 6 (pg_name (i := 6) nd rfl (by first | exact Or.inl rfl | exact Or.inr rfl))) q_gsnil)))
  (q_sone (q_expr (q_extend 4 (pv 4) (q_n (q_ncallTy call_list_of can_lst (by rfl) T.b_list (by decide +kernel) (q_cons (q_name 5 (pv 5)) q_nil))) (fun ho hp => pe_bm PySem.F.plainAttrs_list PySem.F.slot_list_extend PySem.F.type_list_extend mt_extend ho hp)))))
  (q_sone (q_ret (q_cmp (op_eqD hr.units) ops_eq (q_name 4 (pv 4)) (q_n (q_listRg1 rfl (by rfl) T.b_list (by rfl) T.b_range (q_callB call_len cas_len (by rfl) T.b_len (by decide +kernel) (q_cons (q_name 4 (pv 4)) q_nil)))) (nomark _))))))
/-! ### _law_taken: R, level 2; slots row, many, found, cell -/
abbrev s__law_taken : Stmt := top 20
abbrev N__law_taken : List Str := ["row", "many", "found", "cell"]
theorem sc__law_taken : FnScope ["row", "many", "found", "cell"] ["row", "many"] (defScope s__law_taken) := ⟨rfl, rfl, rfl, by decide +kernel, rfl, by decide +kernel, by decide +kernel⟩
def phi__law_taken (sa : Addr) (ns : List Int) : PL.Env → SR :=
  (seqF (ifS (bF (op2F gtD (op2F idxD (nameF 0) (conF (.int 3))) (conF (.int 0)))) (seqF (setF (gNm 2) (op2F modD (callF intC (consF (op2F idxD (nameF 0) (conF (.int 3))) nilF)) (nameF 1)))
  (seqF (setIF 0 (conF (.int 3)) (op2F fdivD (op2F idxD (nameF 0) (conF (.int 3))) (nameF 1)))
  (retF (nameF 2)))) skipF)
  (seqF (setIF 0 (conF (.int 1)) (op2F addD (op2F idxD (nameF 0) (conF (.int 1))) (conF (.int 1))))
  (seqF (ifS (bF (op2F gtD (op2F idxD (nameF 0) (conF (.int 1))) (callF (lenS sa ns) (consF (op2F idxD (nameF 0) (conF (.int 0))) nilF)))) (seqF (setIF 0 (conF (.int 2)) (op2F modD (callF intC (consF (op2F addD (op2F mulA (op2F idxD (nameF 0) (conF (.int 2))) (conF (.int 48271))) (conF (.int 11))) nilF)) (conF (.int 2147483647))))
  (retF (op2F modD (callF intC (consF (op2F fdivD (op2F idxD (nameF 0) (conF (.int 2))) (conF (.int 7))) nilF)) (nameF 1)))) skipF)
  (seqF (setF (gNm 3) (op2F (idxS sa ns) (op2F idxD (nameF 0) (conF (.int 0))) (op2F subD (op2F idxD (nameF 0) (conF (.int 1))) (conF (.int 1)))))
  (seqF (setIF 0 (conF (.int 2)) (op2F modD (callF intC (consF (op2F addD (op2F addD (op2F mulA (op2F idxD (nameF 0) (conF (.int 2))) (conF (.int 48271))) (callF intC (consF (nameF 3) nilF))) (conF (.int 11))) nilF)) (conF (.int 2147483647))))
  (seqF (ifS (bF (op2F geD (nameF 3) (op2F powD (conF (.int 10)) (conF (.int 18))))) (setIF 0 (conF (.int 3)) (op2F fdivD (callF intC (consF (op2F modD (callF intC (consF (nameF 3) nilF)) (op2F powD (conF (.int 10)) (conF (.int 90)))) nilF)) (nameF 1))) skipF)
  (retF (op2F modD (callF intC (consF (nameF 3) nilF)) (nameF 1)))))))))
def g__law_taken (sa : Addr) (ns : List Int) : List D → List D → Option (D × List D) := runR (phi__law_taken sa ns) 4
theorem ok__law_taken {per : Per} (hlam : per.lam = false) {w : World} {K : PySem.W.Frag} {mg : Str → Option Value} {base : Heap} {cb cm fI : Addr} {sa : Addr} {ns : List Int} (T : Txt K mg cb fI) {f : Addr} {fd : FuncData} (Fu : Fun K "_law_taken" "_law_taken" s__law_taken f fd) (hP : ∀ F H, per.P F H → SqL K F sa (ns.map V.int)) : FnOk pw w K mg base CX0 2 f fd ["row", "many"] (spR per.P cb cm 1 (g__law_taken sa ns)) := by
  refine okR (N := ["row", "many", "found", "cell"]) (n := 1) (k := 1) (φ := phi__law_taken sa ns) hlam Fu sc__law_taken rfl fun cdv A outer s H E hr => ?_
  have nd := sc__law_taken.nd
  exact (q_scons (q_ifS (q_tcmp op_gt ops_gt (q_ix (q_name 0 (pv 0)) q_int) q_int (nomark _)) (q_scons (q_set 2 nd rfl (by first | exact Or.inl rfl | exact Or.inr rfl) (q_op op_mod ops_mod (q_callTy call_int1 cas_int (by rfl) T.b_int (by decide +kernel) (q_cons (q_ix (q_name 0 (pv 0)) q_int) q_nil)) (q_name 1 (pv 1))))
  (q_scons (q_setI 0 (pv 0) q_int (q_op op_fdiv ops_fdiv (q_ix (q_name 0 (pv 0)) q_int) (q_name 1 (pv 1))))
  (q_sone (q_ret (q_name 2 (pv 2)))))) q_snil)
  (q_scons (q_setI 0 (pv 0) q_int (q_op op_addA ops_add (q_ix (q_name 0 (pv 0)) q_int) q_int))
  (q_scons (q_ifS (q_tcmp op_gt ops_gt (q_ix (q_name 0 (pv 0)) q_int) (q_callB call_len (cas_lenS hP) (by rfl) T.b_len (by decide +kernel) (q_cons (q_ix (q_name 0 (pv 0)) q_int) q_nil)) (nomark _)) (q_scons (q_setI 0 (pv 0) q_int (q_op op_mod ops_mod (q_callTy call_int1 cas_int (by rfl) T.b_int (by decide +kernel) (q_cons (q_op op_addA ops_add (q_op op_mulA ops_mulA (q_ix (q_name 0 (pv 0)) q_int) q_int) q_int) q_nil)) q_int))
  (q_sone (q_ret (q_op op_mod ops_mod (q_callTy call_int1 cas_int (by rfl) T.b_int (by decide +kernel) (q_cons (q_op op_fdiv ops_fdiv (q_ix (q_name 0 (pv 0)) q_int) q_int) q_nil)) (q_name 1 (pv 1)))))) q_snil)
  (q_scons (q_set 3 nd rfl (by first | exact Or.inl rfl | exact Or.inr rfl) (q_ixS hP (q_ix (q_name 0 (pv 0)) q_int) (q_op op_sub ops_sub (q_ix (q_name 0 (pv 0)) q_int) q_int)))
  (q_scons (q_setI 0 (pv 0) q_int (q_op op_mod ops_mod (q_callTy call_int1 cas_int (by rfl) T.b_int (by decide +kernel) (q_cons (q_op op_addA ops_add (q_op op_addA ops_add (q_op op_mulA ops_mulA (q_ix (q_name 0 (pv 0)) q_int) q_int) (q_callTy call_int1 cas_int (by rfl) T.b_int (by decide +kernel) (q_cons (q_name 3 (pv 3)) q_nil))) q_int) q_nil)) q_int))
  (q_scons (q_ifS (q_tcmp op_ge ops_ge (q_name 3 (pv 3)) (q_op op_pow ops_pow q_int q_int) (nomark _)) (q_sone (q_setI 0 (pv 0) q_int (q_op op_fdiv ops_fdiv (q_callTy call_int1 cas_int (by rfl) T.b_int (by decide +kernel) (q_cons (q_op op_mod ops_mod (q_callTy call_int1 cas_int (by rfl) T.b_int (by decide +kernel) (q_cons (q_name 3 (pv 3)) q_nil)) (q_op op_pow ops_pow q_int q_int)) q_nil)) (q_name 1 (pv 1))))) q_snil)
  (q_sone (q_ret (q_op op_mod ops_mod (q_callTy call_int1 cas_int (by rfl) T.b_int (by decide +kernel) (q_cons (q_name 3 (pv 3)) q_nil)) (q_name 1 (pv 1)))))))))))
/-! ### _law_pick: R, level 3; slots row, some -/
abbrev s__law_pick : Stmt := top 21
abbrev N__law_pick : List Str := ["row", "some"]
theorem sc__law_pick : FnScope ["row", "some"] ["row", "some"] (defScope s__law_pick) := ⟨rfl, rfl, rfl, by decide +kernel, rfl, by decide +kernel, by decide +kernel⟩
def phi__law_pick (sa : Addr) (ns : List Int) : PL.Env → SR :=
  (retF (op2F idxD (nameF 1) (callRF 1 (g__law_taken sa ns) (consF (nameF 0) (consF (callF lenD (consF (nameF 1) nilF)) nilF)))))
def g__law_pick (sa : Addr) (ns : List Int) : List D → List D → Option (D × List D) := runR (phi__law_pick sa ns) 2
theorem ok__law_pick {per : Per} (hlam : per.lam = false) {w : World} {K : PySem.W.Frag} {mg : Str → Option Value} {base : Heap} {cb cm fI : Addr} {sa : Addr} {ns : List Int} (T : Txt K mg cb fI) {f : Addr} {fd : FuncData} (Fu : Fun K "_law_pick" "_law_pick" s__law_pick f fd) (M__law_taken : MR per.P pw w K mg base "_law_taken" cb cm 1 2 (g__law_taken sa ns)) : FnOk pw w K mg base CX0 3 f fd ["row", "some"] (spR per.P cb cm 1 (g__law_pick sa ns)) := by
  refine okR (N := ["row", "some"]) (n := 1) (k := 2) (φ := phi__law_pick sa ns) hlam Fu sc__law_pick rfl fun cdv A outer s H E hr => ?_
  have nd := sc__law_pick.nd
  exact (q_sone (q_ret (q_ix (q_name 1 (pv 1)) (q_callR M__law_taken (hr.mono (by decide)) (by rfl) (q_cons (q_name 0 (pv 0)) (q_cons (q_callB call_len cas_len (by rfl) T.b_len (by decide +kernel) (q_cons (q_name 1 (pv 1)) q_nil)) q_nil))))))
/-! ### _law_refused: T, level 0; slots call, e -/
abbrev s__law_refused : Stmt := top 22
/-! ### _law_alike: F, level 10; slots found, due, at -/
abbrev s__law_alike : Stmt := top 23
abbrev N__law_alike : List Str := ["found", "due", "at"]
theorem sc__law_alike : FnScope ["found", "due", "at"] ["found", "due"] (defScope s__law_alike) := ⟨rfl, rfl, rfl, by decide +kernel, rfl, by decide +kernel, by decide +kernel⟩
def phi__law_alike (gself : List D → FR) : PL.Env → SR :=
  (seqF (ifS (truF (callF isiD (consF (nameF 1) (consF (conF (.opq (.ty "tuple"))) nilF)))) (seqF (ifS (torF (tnotF (truF (callF isiD (consF (nameF 0) (consF (conF (.opq (.ty "tuple"))) nilF))))) (bF (op2F neD (callF lenD (consF (nameF 0) nilF)) (callF lenD (consF (nameF 1) nilF))))) (retF (conF (.bl false))) skipF)
  (retF (op2F eqD (nE (lcF [2] (itA rng1 (consF (callF lenD (consF (nameF 1) nilF)) nilF)) (gNm 2) (tnotF (truF (callDF 2 gself (consF (op2F idxD (nameF 0) (nameF 2)) (consF (op2F idxD (nameF 1) (nameF 2)) nilF))))) (nameF 2))) (nE (ndispF nilF))))) skipF)
  (seqF (ifS (torF (bF (op2F (isD false) (nameF 1) (conF .non))) (truF (callF isiD (consF (nameF 1) (consF (conF (.opq (.ty "str"))) nilF))))) (retF (andF (op2F eqD (nameF 0) (nameF 1)) (op2F eqD (callF isiD (consF (nameF 0) (consF (conF (.opq (.ty "str"))) nilF))) (callF isiD (consF (nameF 1) (consF (conF (.opq (.ty "str"))) nilF)))))) skipF)
  (retF (andF (callF isiD (consF (nameF 0) (consF (conF (.opq (.ty "int"))) nilF))) (andF (op2F eqD (callF isiD (consF (nameF 0) (consF (conF (.opq (.ty "bool"))) nilF))) (callF isiD (consF (nameF 1) (consF (conF (.opq (.ty "bool"))) nilF)))) (op2F eqD (nameF 0) (nameF 1)))))))
def g__law_alike : Nat → List D → FR
  | 0 => fun _ => .no
  | n + 1 => noErr (runF (phi__law_alike (g__law_alike n)) 3)
theorem ok__law_alike {per : Per} (hlam : per.lam = false) {w : World} {K : PySem.W.Frag} {mg : Str → Option Value} {base : Heap} {cb cm fI : Addr} (T : Txt K mg cb fI) {f : Addr} {fd : FuncData} (Fu : Fun K "_law_alike" "_law_alike" s__law_alike f fd)  (hm : mg "_law_alike" = some (.ref f)) (hkp : PySem.W.keepIn K (.ref f) = true) (hb : Binds K fd ["found", "due"] []) : ∀ n : Nat, FnOk pw w K mg base CX0 (2 + n) f fd ["found", "due"] (spF per.P cb cm 2 (g__law_alike n))
  | 0 => ⟨fun vs H Q E h => spF_len vs H Q E h, fun A outer s H args us vs Q E _ _ _ _ h => by obtain ⟨_, _, _, _, _, _, z⟩ := h; exact z.elim⟩
  | n + 1 => by
    have M__law_alike : MF per.P pw w K mg base "_law_alike" cb cm 2 (2 + n) (g__law_alike n) := ⟨f, fd, _, ok__law_alike hlam T Fu  hm hkp hb n, hm, hkp, hb⟩
    refine okF0' (N := ["found", "due", "at"]) (n := 2) (k := 2 + n) (φ := phi__law_alike (g__law_alike n)) hlam Fu sc__law_alike rfl fun cdv A outer s H E hr => ?_
    have nd := sc__law_alike.nd
    exact (q_scons (q_ifS (q_truth (q_callB call_isi cas_isi (by rfl) T.b_isinstance (by decide +kernel) (q_cons (q_name 1 (pv 1)) (q_cons (q_ty (by rfl) T.b_tuple (by decide +kernel)) q_nil)))) (q_scons (q_ifS (q_wor (q_tnot (q_truth (q_callB call_isi cas_isi (by rfl) T.b_isinstance (by decide +kernel) (q_cons (q_name 0 (pv 0)) (q_cons (q_ty (by rfl) T.b_tuple (by decide +kernel)) q_nil))))) (q_wor1 (q_tcmp (op_neD hr.units) ops_ne (q_callB call_len cas_len (by rfl) T.b_len (by decide +kernel) (q_cons (q_name 0 (pv 0)) q_nil)) (q_callB call_len cas_len (by rfl) T.b_len (by decide +kernel) (q_cons (q_name 1 (pv 1)) q_nil)) (nomark _)))).pt (q_sone (q_ret q_bl)) q_snil)
  (q_sone (q_ret (q_cmp (op_eqD hr.units) ops_eq (q_n (q_lc (own := [("at", 2)]) rfl nd (q_range1 (by rfl) T.b_range (q_cons (q_callB call_len cas_len (by rfl) T.b_len (by decide +kernel) (q_cons (q_name 1 (pv 1)) q_nil)) q_nil)) (blkOk_by (N := N__law_alike) (sc := defScope s__law_alike) (own := [("at", 2)]) (by decide +kernel)) (by decide) (by decide) (fun _ _ _ _ _ => (q_gname 2 (pg_name (i := 2) nd rfl (by first | exact Or.inl rfl | exact Or.inr rfl)))) (fun _ _ _ _ _ => (q_tsone (q_tnot (q_truth (q_call M__law_alike hr (by rfl) (q_cons (q_ix (q_name 0 (pv 0)) (q_name 2 (pv 2))) (q_cons (q_ix (q_name 1 (pv 1)) (q_name 2 (pv 2))) q_nil))))))) (fun _ _ _ _ _ => (q_name 2 (pv 2))))) (q_n (q_lst q_nil)) (nomark _))))) q_snil)
  (q_scons (q_ifS (q_wor (q_tcmp op_isA ops_is (q_name 1 (pv 1)) q_non (nomark _)) (q_wor1 (q_truth (q_callB call_isi cas_isi (by rfl) T.b_isinstance (by decide +kernel) (q_cons (q_name 1 (pv 1)) (q_cons (q_ty (by rfl) T.b_str (by decide +kernel)) q_nil)))))).pt (q_sone (q_ret (q_and (q_cmp (op_eqD hr.units) ops_eq (q_name 0 (pv 0)) (q_name 1 (pv 1)) (nomark _)) (q_one (q_cmp (op_eqD hr.units) ops_eq (q_callB call_isi cas_isi (by rfl) T.b_isinstance (by decide +kernel) (q_cons (q_name 0 (pv 0)) (q_cons (q_ty (by rfl) T.b_str (by decide +kernel)) q_nil))) (q_callB call_isi cas_isi (by rfl) T.b_isinstance (by decide +kernel) (q_cons (q_name 1 (pv 1)) (q_cons (q_ty (by rfl) T.b_str (by decide +kernel)) q_nil))) (nomark _)))))) q_snil)
  (q_sone (q_ret (q_and (q_callB call_isi cas_isi (by rfl) T.b_isinstance (by decide +kernel) (q_cons (q_name 0 (pv 0)) (q_cons (q_ty (by rfl) T.b_int (by decide +kernel)) q_nil))) (q_and (q_cmp (op_eqD hr.units) ops_eq (q_callB call_isi cas_isi (by rfl) T.b_isinstance (by decide +kernel) (q_cons (q_name 0 (pv 0)) (q_cons (q_ty (by rfl) T.b_bool (by decide +kernel)) q_nil))) (q_callB call_isi cas_isi (by rfl) T.b_isinstance (by decide +kernel) (q_cons (q_name 1 (pv 1)) (q_cons (q_ty (by rfl) T.b_bool (by decide +kernel)) q_nil))) (nomark _)) (q_one (q_cmp (op_eqD hr.units) ops_eq (q_name 0 (pv 0)) (q_name 1 (pv 1)) (nomark _)))))))))
/-! ### _law_rounds: R, level 3; slots row, width, late, many, found, at, copies, age, places, place -/
abbrev s__law_rounds : Stmt := top 24
abbrev N__law_rounds : List Str := ["row", "width", "late", "many", "found", "at", "copies", "age", "places", "place"]
theorem sc__law_rounds : FnScope ["row", "width", "late", "many", "found", "at", "copies", "age", "places", "place"] ["row", "width", "late", "many"] (defScope s__law_rounds) := ⟨rfl, rfl, rfl, by decide +kernel, rfl, by decide +kernel, by decide +kernel⟩
def phi__law_rounds (sa : Addr) (ns : List Int) : PL.Env → SR :=
  (seqF (setNF 4 (ndispF nilF))
  (seqF (forS (itA rng1 (consF (nameF 3) nilF)) (gNm 5)
  (seqF (setF (gNm 6) (nE (ndispF nilF)))
  (seqF (forS (itA rng2 (consF (conF (.int 1)) (consF (op2F addD (callF min2D (consF (nameF 2) (consF (nameF 5) nilF))) (conF (.int 1))) nilF))) (gNm 7)
  (setF (gNm 6) (op2F addD (nameF 6) (nE (lcF [9] (itA rng1 (consF (nameF 1) nilF)) (gNm 9) (bF (op2F eqD (callRF 1 (g__law_taken sa ns) (consF (nameF 0) (consF (conF (.int 4)) nilF))) (conF (.int 0)))) (dispF .tup (consF (nameF 7) (consF (nameF 9) nilF))))))))
  (seqF (setF (gNm 8) (callF tupC (consF (nE (lcF [9] (itA rng1 (consF (nameF 1) nilF)) (gNm 9) (bF (op2F gtD (callRF 1 (g__law_taken sa ns) (consF (nameF 0) (consF (conF (.int 4)) nilF))) (conF (.int 0)))) (nameF 9))) nilF)))
  (dropF (guardO 4 (appF 4 (dispF .tup (consF (callF tupC (consF (nameF 6) nilF)) (consF (nameF 8) (consF (op2F eqD (callRF 1 (g__law_taken sa ns) (consF (nameF 0) (consF (conF (.int 2)) nilF))) (conF (.int 0))) nilF)))))))))))
  (retF (callF tupC (consF (nameF 4) nilF)))))
def g__law_rounds (sa : Addr) (ns : List Int) : List D → List D → Option (D × List D) := runR (phi__law_rounds sa ns) 10
theorem ok__law_rounds {per : Per} (hlam : per.lam = false) {w : World} {K : PySem.W.Frag} {mg : Str → Option Value} {base : Heap} {cb cm fI : Addr} {sa : Addr} {ns : List Int} (T : Txt K mg cb fI) {f : Addr} {fd : FuncData} (Fu : Fun K "_law_rounds" "_law_rounds" s__law_rounds f fd) (M__law_taken : MR per.P pw w K mg base "_law_taken" cb cm 1 2 (g__law_taken sa ns)) : FnOk pw w K mg base CX0 3 f fd ["row", "width", "late", "many"] (spR per.P cb cm 3 (g__law_rounds sa ns)) := by
  refine okR (N := ["row", "width", "late", "many", "found", "at", "copies", "age", "places", "place"]) (n := 3) (k := 2) (φ := phi__law_rounds sa ns) hlam Fu sc__law_rounds rfl fun cdv A outer s H E hr => ?_
  have nd := sc__law_rounds.nd
  exact (q_scons (q_setN 4 nd rfl (by first | exact Or.inl rfl | exact Or.inr rfl) (q_lst q_nil))
  (q_scons (q_for PassesOwn.never rfl (q_range1 (by rfl) T.b_range (q_cons (q_name 3 (pv 3)) q_nil)) (q_gname 5 (pg_name (i := 5) nd rfl (by first | exact Or.inl rfl | exact Or.inr rfl)))
  (q_scons (q_set 6 nd rfl (by first | exact Or.inl rfl | exact Or.inr rfl) (q_n (q_lst q_nil)))
  (q_scons (q_for PassesOwn.never rfl (q_range2 (by rfl) T.b_range (q_cons q_int (q_cons (q_op op_addA ops_add (q_callB (call_min2 rfl) cas_min2 (by rfl) T.b_min (by decide +kernel) (q_cons (q_name 2 (pv 2)) (q_cons (q_name 5 (pv 5)) q_nil))) q_int) q_nil))) (q_gname 7 (pg_name (i := 7) nd rfl (by first | exact Or.inl rfl | exact Or.inr rfl)))
  (q_sone (q_set 6 nd rfl (by first | exact Or.inl rfl | exact Or.inr rfl) (q_op op_addA ops_add (q_name 6 (pv 6)) (q_n (q_lc (own := [("place", 9)]) rfl nd (q_range1 (by rfl) T.b_range (q_cons (q_name 1 (pv 1)) q_nil)) (blkOk_by (N := N__law_rounds) (sc := defScope s__law_rounds) (own := [("place", 9)]) (by decide +kernel)) (by decide) (by decide) (fun _ _ _ _ _ => (q_gname 9 (pg_name (i := 9) nd rfl (by first | exact Or.inl rfl | exact Or.inr rfl)))) (fun _ _ _ _ _ => (q_tsone (q_tcmp (op_eqD hr.units) ops_eq (q_callR M__law_taken (hr.mono (by decide)) (by rfl) (q_cons (q_name 0 (pv 0)) (q_cons q_int q_nil))) q_int (nomark _)))) (fun _ _ _ _ _ => (q_tup (q_cons (q_name 7 (pv 7)) (q_cons (q_name 9 (pv 9)) q_nil))))))))))
  (q_scons (q_set 8 nd rfl (by first | exact Or.inl rfl | exact Or.inr rfl) (q_callTy call_tuple_of cas_tup (by rfl) T.b_tuple (by decide +kernel) (q_cons (q_n (q_lc (own := [("place", 9)]) rfl nd (q_range1 (by rfl) T.b_range (q_cons (q_name 1 (pv 1)) q_nil)) (blkOk_by (N := N__law_rounds) (sc := defScope s__law_rounds) (own := [("place", 9)]) (by decide +kernel)) (by decide) (by decide) (fun _ _ _ _ _ => (q_gname 9 (pg_name (i := 9) nd rfl (by first | exact Or.inl rfl | exact Or.inr rfl)))) (fun _ _ _ _ _ => (q_tsone (q_tcmp op_gt ops_gt (q_callR M__law_taken (hr.mono (by decide)) (by rfl) (q_cons (q_name 0 (pv 0)) (q_cons q_int q_nil))) q_int (nomark _)))) (fun _ _ _ _ _ => (q_name 9 (pv 9))))) q_nil)))
  (q_sone (q_expr (q_append 4 (pv 4) (q_tup (q_cons (q_callTy call_tuple_of cas_tup (by rfl) T.b_tuple (by decide +kernel) (q_cons (q_name 6 (pv 6)) q_nil)) (q_cons (q_name 8 (pv 8)) (q_cons (q_cmp (op_eqD hr.units) ops_eq (q_callR M__law_taken (hr.mono (by decide)) (by rfl) (q_cons (q_name 0 (pv 0)) (q_cons q_int q_nil))) q_int (nomark _)) q_nil)))) (fun ho hp => pe_bm PySem.F.plainAttrs_list PySem.F.slot_list_append PySem.F.type_list_append mt_append ho hp))))))))
  (q_sone (q_ret (q_callTy call_tuple_of cas_tup (by rfl) T.b_tuple (by decide +kernel) (q_cons (q_name 4 (pv 4)) q_nil))))))
/-! ### _law_run: F, level 2; slots modulus, rounds, windows, found, wished, at, copies, places, answered, line, taken, message, age, place -/
abbrev s__law_run : Stmt := top 25
abbrev N__law_run : List Str := ["modulus", "rounds", "windows", "found", "wished", "at", "copies", "places", "answered", "line", "taken", "message", "age", "place"]
theorem sc__law_run : FnScope ["modulus", "rounds", "windows", "found", "wished", "at", "copies", "places", "answered", "line", "taken", "message", "age", "place"] ["modulus", "rounds"] (defScope s__law_run) := ⟨rfl, rfl, rfl, by decide +kernel, rfl, by decide +kernel, by decide +kernel⟩
def phi__law_run : PL.Env → SR :=
  (seqF (parF [2, 3, 4] (mnF (ndispF (consF (conF (.int 0)) nilF)) (mnF (ndispF nilF) (mdF (conF (.int 0)) mnilF))))
  (seqF (forS (itA rng1 (consF (callF lenD (consF (nameF 1) nilF)) nilF)) (gNm 5)
  (seqF (setF (gTp 3 (gsCons (gNm 6) (gsCons (gNm 7) (gsCons (gNm 8) gsNil)))) (op2F idxD (nameF 1) (nameF 5)))
  (seqF (setF (gNm 9) (op2F addD (nE (lcF [12, 13] (itF (nameF 6)) (gTp 2 (gsCons (gNm 12) (gsCons (gNm 13) gsNil))) yesF (op2F addD (op2F idxD (nameF 2) (op2F subD (nameF 5) (nameF 12))) (nameF 13)))) (nE (lcF [13] (itF (nameF 7)) (gNm 13) yesF (op2F addD (op2F idxD (nameF 2) (nameF 5)) (nameF 13))))))
  (seqF (setNF 10 (ndispF nilF))
  (seqF (forS (itF (nameF 9)) (gNm 11)
  (ifS (bF (op2F eqD (op2F modD (callF intC (consF (nameF 11) nilF)) (nameF 0)) (op2F modD (callF intC (consF (nameF 4) nilF)) (nameF 0)))) (seqF (dropF (guardO 10 (appF 10 (nameF 11))))
  (setF (gNm 4) (op2F addD (nameF 4) (conF (.int 1))))) skipF))
  (seqF (dropF (guardO 2 (appF 2 (ifF (truF (nameF 8)) (nameF 4) (op2F idxD (nameF 2) (nameF 5))))))
  (dropF (guardO 3 (appF 3 (dispF .tup (consF (callF tupC (consF (nameF 10) nilF)) (consF (op2F idxD (nameF 2) (un1F negD (conF (.int 1)))) nilF))))))))))))
  (retF (callF tupC (consF (nameF 3) nilF)))))
def g__law_run : List D → FR := noErr (runF (phi__law_run) 14)
theorem ok__law_run {per : Per} (hlam : per.lam = false) {w : World} {K : PySem.W.Frag} {mg : Str → Option Value} {base : Heap} {cb cm fI : Addr} (T : Txt K mg cb fI) {f : Addr} {fd : FuncData} (Fu : Fun K "_law_run" "_law_run" s__law_run f fd)  : FnOk pw w K mg base CX0 2 f fd ["modulus", "rounds"] (spF per.P cb cm 2 (g__law_run)) := by
  refine okF0' (N := ["modulus", "rounds", "windows", "found", "wished", "at", "copies", "places", "answered", "line", "taken", "message", "age", "place"]) (n := 2) (k := 1) (φ := phi__law_run) hlam Fu sc__law_run rfl fun cdv A outer s H E hr => ?_
  have nd := sc__law_run.nd
  exact (q_scons (q_parT (ks := [2, 3, 4]) rfl (q_mn (q_lst (q_cons q_int q_nil)) (q_mn (q_lst q_nil) (q_md q_int q_mnil))) (pgs_cons (pg_name (i := 2) nd rfl (by first | exact Or.inl rfl | exact Or.inr rfl)) (pgs_cons (pg_name (i := 3) nd rfl (by first | exact Or.inl rfl | exact Or.inr rfl)) (pgs_cons (pg_name (i := 4) nd rfl (by first | exact Or.inl rfl | exact Or.inr rfl)) pgs_nil))))
  (q_scons (q_for PassesOwn.never rfl (q_range1 (by rfl) T.b_range (q_cons (q_callB call_len cas_len (by rfl) T.b_len (by decide +kernel) (q_cons (q_name 1 (pv 1)) q_nil)) q_nil)) (q_gname 5 (pg_name (i := 5) nd rfl (by first | exact Or.inl rfl | exact Or.inr rfl)))
  (q_scons (q_asg (q_ix (q_name 1 (pv 1)) (q_name 5 (pv 5))) (q_gtup rfl (q_gscons (q_gname 6 (pg_name (i := 6) nd rfl (by first | exact Or.inl rfl | exact Or.inr rfl))) (q_gscons (q_gname 7 (pg_name (i := 7) nd rfl (by first | exact Or.inl rfl | exact Or.inr rfl))) (q_gscons (q_gname 8 (pg_name (i := 8) nd rfl (by first | exact Or.inl rfl | exact Or.inr rfl))) q_gsnil)))))
  (q_scons (q_set 9 nd rfl (by first | exact Or.inl rfl | exact Or.inr rfl) (q_op op_addA ops_add (q_n (q_lc (own := [("age", 12), ("place", 13)]) rfl nd (q_it (q_name 6 (pv 6))) (blkOk_by (N := N__law_run) (sc := defScope s__law_run) (own := [("age", 12), ("place", 13)]) (by decide +kernel)) (by decide) (by decide) (fun _ _ _ _ _ => (q_gtup rfl (q_gscons (q_gname 12 (pg_name (i := 12) nd rfl (by first | exact Or.inl rfl | exact Or.inr rfl))) (q_gscons (q_gname 13 (pg_name (i := 13) nd rfl (by first | exact Or.inl rfl | exact Or.inr rfl))) q_gsnil)))) (fun _ _ _ _ _ => q_tsnil) (fun _ _ _ _ _ => (q_op op_addA ops_add (q_ix (q_name 2 (pv 2)) (q_op op_sub ops_sub (q_name 5 (pv 5)) (q_name 12 (pv 12)))) (q_name 13 (pv 13)))))) (q_n (q_lc (own := [("place", 13)]) rfl nd (q_it (q_name 7 (pv 7))) (blkOk_by (N := N__law_run) (sc := defScope s__law_run) (own := [("place", 13)]) (by decide +kernel)) (by decide) (by decide) (fun _ _ _ _ _ => (q_gname 13 (pg_name (i := 13) nd rfl (by first | exact Or.inl rfl | exact Or.inr rfl)))) (fun _ _ _ _ _ => q_tsnil) (fun _ _ _ _ _ => (q_op op_addA ops_add (q_ix (q_name 2 (pv 2)) (q_name 5 (pv 5))) (q_name 13 (pv 13))))))))
  (q_scons (q_setN 10 nd rfl (by first | exact Or.inl rfl | exact Or.inr rfl) (q_lst q_nil))
  (q_scons (q_for PassesOwn.never rfl (q_it (q_name 9 (pv 9))) (q_gname 11 (pg_name (i := 11) nd rfl (by first | exact Or.inl rfl | exact Or.inr rfl)))
  (q_sone (q_ifS (q_tcmp (op_eqD hr.units) ops_eq (q_op op_mod ops_mod (q_callTy call_int1 cas_int (by rfl) T.b_int (by decide +kernel) (q_cons (q_name 11 (pv 11)) q_nil)) (q_name 0 (pv 0))) (q_op op_mod ops_mod (q_callTy call_int1 cas_int (by rfl) T.b_int (by decide +kernel) (q_cons (q_name 4 (pv 4)) q_nil)) (q_name 0 (pv 0))) (nomark _)) (q_scons (q_expr (q_append 10 (pv 10) (q_name 11 (pv 11)) (fun ho hp => pe_bm PySem.F.plainAttrs_list PySem.F.slot_list_append PySem.F.type_list_append mt_append ho hp)))
  (q_sone (q_set 4 nd rfl (by first | exact Or.inl rfl | exact Or.inr rfl) (q_op op_addA ops_add (q_name 4 (pv 4)) q_int)))) q_snil)))
  (q_scons (q_expr (q_append 2 (pv 2) (q_if (q_truth (q_name 8 (pv 8))) (q_name 4 (pv 4)) (q_ix (q_name 2 (pv 2)) (q_name 5 (pv 5)))) (fun ho hp => pe_bm PySem.F.plainAttrs_list PySem.F.slot_list_append PySem.F.type_list_append mt_append ho hp)))
  (q_sone (q_expr (q_append 3 (pv 3) (q_tup (q_cons (q_callTy call_tuple_of cas_tup (by rfl) T.b_tuple (by decide +kernel) (q_cons (q_name 10 (pv 10)) q_nil)) (q_cons (q_ix (q_name 2 (pv 2)) (q_neg q_int)) q_nil))) (fun ho hp => pe_bm PySem.F.plainAttrs_list PySem.F.slot_list_append PySem.F.type_list_append mt_append ho hp))))))))))
  (q_sone (q_ret (q_callTy call_tuple_of cas_tup (by rfl) T.b_tuple (by decide +kernel) (q_cons (q_name 3 (pv 3)) q_nil))))))
/-! ### law: L, level 13; slots script, row, turn, width, modulus, late, rounds, due, messages, taken, first, whole, bad, odd, call, told -/
abbrev s_law : Stmt := top 26
abbrev N_law : List Str := ["script", "row", "turn", "width", "modulus", "late", "rounds", "due", "messages", "taken", "first", "whole", "bad", "odd", "call", "told"]
theorem sc_law : FnScope ["script", "row", "turn", "width", "modulus", "late", "rounds", "due", "messages", "taken", "first", "whole", "bad", "odd", "call", "told"] ["script"] (defScope s_law) := ⟨rfl, rfl, rfl, by decide +kernel, rfl, by decide +kernel, by decide +kernel⟩
def phi_law (sa : Addr) (ns : List Int) (f_are_in_order : Addr) (f_run_windows : Addr) (Sv : Addr → Option (List D → FR)) : PL.Env → SR :=
  (seqF (setNF 1 (ndispF (consF (nameF 0) (consF (conF (.int 0)) (consF (conF (.int 126359)) (consF (conF (.int 0)) nilF))))))
  (seqF (forS (itA rng1 (consF (conF (.int 10)) nilF)) (gNm 2)
  (seqF (parF [3, 4, 5] (mdF (op2F addD (conF (.int 1)) (callRF 1 (g__law_taken sa ns) (consF (nameF 1) (consF (conF (.int 4)) nilF)))) (mdF (op2F addD (conF (.int 1)) (callRF 1 (g__law_taken sa ns) (consF (nameF 1) (consF (conF (.int 20)) nilF)))) (mdF (callRF 1 (g__law_taken sa ns) (consF (nameF 1) (consF (conF (.int 5)) nilF))) mnilF))))
  (seqF (setF (gNm 6) (callRF 3 (g__law_rounds sa ns) (consF (nameF 1) (consF (nameF 3) (consF (nameF 5) (consF (callRF 1 (g__law_pick sa ns) (consF (nameF 1) (consF (nE (ndispF (consF (conF (.int 0)) (consF (conF (.int 1)) (consF (conF (.int 3)) (consF (conF (.int 8)) (consF (conF (.int 20)) (consF (conF (.int 40)) nilF)))))))) nilF))) nilF))))))
  (seqF (setF (gNm 7) (callDF 2 g__law_run (consF (nameF 4) (consF (nameF 6) nilF))))
  (seqF (ifS (tnotF (truF (callDF 2 (g__law_alike 8) (consF (callDF 4 g_run_windows (consF (nameF 3) (consF (nameF 4) (consF (nameF 5) (consF (nameF 6) nilF))))) (consF (nameF 7) nilF))))) (retF (conF (.bl false))) skipF)
  (seqF (setF (gNm 8) (nE (ndispF nilF)))
  (seqF (forS (itF (nameF 7)) (gTp 2 (gsCons (gNm 9) (gsCons (gNm 10) gsNil)))
  (setF (gNm 8) (op2F addD (nameF 8) (nE (ncallF lstC (consF (nameF 9) nilF))))))
  (seqF (ifS (tnotF (truF (callDF 2 (g__law_alike 8) (consF (callDF 4 g_are_in_order (consF (nameF 3) (consF (nameF 4) (consF (nameF 5) (consF (nameF 6) nilF))))) (consF (op2F eqD (nameF 8) (nE (rgnF rng1 (consF (callF lenD (consF (nameF 8) nilF)) nilF)))) nilF))))) (retF (conF (.bl false))) skipF)
  (seqF (setF (gNm 11) (dispF .tup (consF (dispF .tup nilF) (consF (dispF .tup nilF) (consF (conF (.bl false)) nilF)))))
  (seqF (setF (gNm 12) (callRF 1 (g__law_pick sa ns) (consF (nameF 1) (consF (nE (ndispF (consF (conF .non) (consF (nE (ndispF nilF)) (consF (op2F mulA (dispF .tup (consF (nameF 11) nilF)) (conF (.int 41))) (consF (dispF .tup (consF (dispF .tup (consF (dispF .tup nilF) (consF (dispF .tup (consF (nameF 3) nilF)) (consF (conF (.bl false)) nilF)))) nilF)) (consF (dispF .tup (consF (dispF .tup (consF (dispF .tup nilF) (consF (dispF .tup (consF (conF (.int 0)) (consF (conF (.int 0)) nilF))) (consF (conF (.bl false)) nilF)))) nilF)) (consF (dispF .tup (consF (dispF .tup (consF (dispF .tup nilF) (consF (dispF .tup nilF) (consF (conF (.int 0)) nilF)))) nilF)) (consF (dispF .tup (consF (dispF .tup (consF (dispF .tup (consF (dispF .tup (consF (conF (.int 1)) (consF (conF (.int 0)) nilF))) nilF)) (consF (dispF .tup nilF) (consF (conF (.bl false)) nilF)))) nilF)) (consF (dispF .tup (consF (dispF .tup (consF (dispF .tup nilF) (consF (dispF .tup nilF) nilF))) nilF)) (consF (dispF .tup (consF (conF (.int 5)) nilF)) nilF))))))))))) nilF))))
  (seqF (ifS (tandF (bF (op2F gtD (nameF 5) (conF (.int 0)))) (bF (op2F eqD (callRF 1 (g__law_taken sa ns) (consF (nameF 1) (consF (conF (.int 2)) nilF))) (conF (.int 0))))) (setF (gNm 12) (dispF .tup (consF (nameF 11) (consF (callRF 1 (g__law_pick sa ns) (consF (nameF 1) (consF (nE (ndispF (consF (dispF .tup (consF (dispF .tup (consF (dispF .tup (consF (conF (.int 2)) (consF (conF (.int 0)) nilF))) nilF)) (consF (dispF .tup nilF) (consF (conF (.bl true)) nilF)))) (consF (dispF .tup (consF (dispF .tup (consF (dispF .tup (consF (conF (.int 1)) (consF (nameF 3) nilF))) nilF)) (consF (dispF .tup nilF) (consF (conF (.bl true)) nilF)))) (consF (dispF .tup (consF (dispF .tup (consF (dispF .tup (consF (conF (.int 1)) (consF (conF (.int 0)) nilF))) (consF (dispF .tup (consF (conF (.int 1)) (consF (conF (.int 0)) nilF))) nilF))) (consF (dispF .tup nilF) (consF (conF (.bl true)) nilF)))) (consF (dispF .tup (consF (dispF .tup (consF (dispF .tup (consF (conF (.int 0)) (consF (conF (.int 0)) nilF))) nilF)) (consF (dispF .tup nilF) (consF (conF (.bl true)) nilF)))) (consF (dispF .tup (consF (dispF .tup (consF (dispF .tup (consF (conF (.bl true)) (consF (conF (.int 0)) nilF))) nilF)) (consF (dispF .tup nilF) (consF (conF (.bl true)) nilF)))) (consF (dispF .tup (consF (nE (ndispF nilF)) (consF (dispF .tup nilF) (consF (conF (.bl true)) nilF)))) nilF)))))))) nilF))) nilF)))) skipF)
  (seqF (setF (gNm 13) (nE (ndispF (consF (callRF 1 (g__law_pick sa ns) (consF (nameF 1) (consF (nE (ndispF (consF (conF (.int 0)) (consF (conF (.int 5)) (consF (conF .non) (consF (conF (.bl true)) nilF)))))) nilF))) (consF (callRF 1 (g__law_pick sa ns) (consF (nameF 1) (consF (nE (ndispF (consF (conF (.int 0)) (consF (conF (.int 21)) (consF (conF (.str "1")) (consF (conF (.bl true)) nilF)))))) nilF))) (consF (callRF 1 (g__law_pick sa ns) (consF (nameF 1) (consF (nE (ndispF (consF (un1F negD (conF (.int 1))) (consF (conF (.int 5)) (consF (conF .non) (consF (conF (.bl false)) nilF)))))) nilF))) nilF))))))
  (forS (itF (nE (ndispF (consF (conF (.opq (.ref f_run_windows))) (consF (conF (.opq (.ref f_are_in_order))) nilF))))) (gNm 14)
  (seqF (setF (gNm 15) (nE (ndispF (consF (lamF (callVF Sv 4 14 (consF (nameF 3) (consF (nameF 4) (consF (nameF 5) (consF (nameF 12) nilF)))))) (consF (lamF (callVF Sv 4 14 (consF (nameF 3) (consF (nameF 4) (consF (op2F idxD (nameF 13) (conF (.int 2))) (consF (nameF 12) nilF)))))) nilF)))))
  (seqF (setF (gNm 15) (op2F addD (nameF 15) (nE (ndispF (consF (lamF (callVF Sv 4 14 (consF (nameF 3) (consF (op2F idxD (nameF 13) (conF (.int 1))) (consF (op2F idxD (nameF 13) (conF (.int 2))) (consF (nameF 12) nilF)))))) (consF (lamF (callVF Sv 4 14 (consF (op2F idxD (nameF 13) (conF (.int 0))) (consF (op2F idxD (nameF 13) (conF (.int 1))) (consF (op2F idxD (nameF 13) (conF (.int 2))) (consF (nameF 12) nilF)))))) nilF))))))
  (ifS (bF (op2F neD (nameF 15) (nE (ndispF (consF (conF (.str "rounds")) (consF (conF (.str "late")) (consF (conF (.str "modulus")) (consF (conF (.str "width")) nilF)))))))) (retF (conF (.bl false))) skipF))))))))))))))))
  (retF (op2F eqD (callDF 4 g_run_windows (consF (conF (.int 2)) (consF (conF (.int 3)) (consF (conF (.int 0)) (consF (dispF .tup (consF (dispF .tup (consF (dispF .tup nilF) (consF (dispF .tup (consF (conF (.int 1)) nilF)) (consF (conF (.bl true)) nilF)))) (consF (dispF .tup (consF (dispF .tup nilF) (consF (dispF .tup (consF (conF (.int 0)) (consF (conF (.int 1)) nilF))) (consF (conF (.bl true)) nilF)))) nilF))) nilF))))) (dispF .tup (consF (dispF .tup (consF (dispF .tup nilF) (consF (conF (.int 0)) nilF))) (consF (dispF .tup (consF (dispF .tup (consF (conF (.int 0)) (consF (conF (.int 1)) nilF))) (consF (conF (.int 2)) nilF))) nilF)))))))
theorem w_law {per : Per} (hlam : per.lam = true) {w : World} {K : PySem.W.Frag} {mg : Str → Option Value} {base : Heap} {cb cm fI : Addr} {sa : Addr} {ns : List Int} {f_are_in_order : Addr} {f_run_windows : Addr} {Sv : Addr → Option (List D → FR)} (T : Txt K mg cb fI) (M__law_taken : MR per.P pw w K mg base "_law_taken" cb cm 1 2 (g__law_taken sa ns)) (M__law_rounds : MR per.P pw w K mg base "_law_rounds" cb cm 3 3 (g__law_rounds sa ns)) (M__law_pick : MR per.P pw w K mg base "_law_pick" cb cm 1 3 (g__law_pick sa ns)) (M__law_run : MF per.P pw w K mg base "_law_run" cb cm 2 2 g__law_run) (M__law_alike : MF per.P pw w K mg base "_law_alike" cb cm 2 10 (g__law_alike 8)) (M_run_windows : MX per.P pw w K mg base "run_windows" cb cm 4 6 g_run_windows) (K_run_windows : MK per.P pw w K mg base "run_windows" ["width", "modulus", "late", "rounds"] cb cm 4 6 g_run_windows) (M_are_in_order : MX per.P pw w K mg base "are_in_order" cb cm 4 7 g_are_in_order) (K_are_in_order : MK per.P pw w K mg base "are_in_order" ["width", "modulus", "late", "rounds"] cb cm 4 7 g_are_in_order) (m_are_in_order : mg "are_in_order" = some (.ref f_are_in_order)) (m_run_windows : mg "run_windows" = some (.ref f_run_windows)) {Tb : List (Addr × Str)} {c Pt : Addr} (hT : ∀ H, per.P2 H → LamX.Tabs Tb H) (hT2 : ∀ H H1, per.P2 H → LamX.ExtN H H1 → LamX.Tabs Tb H1 → per.P2 H1) (RF : RefF K mg "_law_refused" "call" "BadArgument" cb) (TB : LamX.TabB base mg c Pt) (hmT : (Pt, (("law" : Str) ++ ".<locals>.") ++ "<lambda>") ∈ Tb) (hu1 : ∀ p ∈ Tb, p.1 = Pt → p.2 = (("law" : Str) ++ ".<locals>.") ++ "<lambda>") (hSv : ∀ f g, Sv f = some g → MA per.P pw w K mg base f cb cm 4 10 g)
    (A : Around) (outer : List PySem.Env) (s : Shared) (H : Hp) (E : XK) (f : Addr) (hr : Room 12 (A.deeper (envOfC "law" (defScope s_law) s.heap.objs.size f (.ref c)))) : PSs (cxOf CX0 pw w K mg base ["script", "row", "turn", "width", "modulus", "late", "rounds", "due", "messages", "taken", "first", "whole", "bad", "odd", "call", "told"] "law" (defScope s_law) f (.ref c) A outer s H E).nox (defBody s_law) (rS (per := per) ⟨E0, cb, cm⟩ (phi_law sa ns f_are_in_order f_run_windows Sv)) := by
  have nd := sc_law.nd
  exact (q_scons (q_setN 1 nd rfl (by first | exact Or.inl rfl | exact Or.inr rfl) (q_lst (q_cons (q_name 0 (pv 0)) (q_cons q_int (q_cons q_int (q_cons q_int q_nil))))))
  (q_scons (q_for PassesOwn.never rfl (q_range1 (by rfl) T.b_range (q_cons q_int q_nil)) (q_gname 2 (pg_name (i := 2) nd rfl (by first | exact Or.inl rfl | exact Or.inr rfl)))
  (q_scons (q_parT (ks := [3, 4, 5]) rfl (q_md (q_op op_addA ops_add q_int (q_callR M__law_taken (hr.mono (by decide)) (by rfl) (q_cons (q_name 1 (pv 1)) (q_cons q_int q_nil)))) (q_md (q_op op_addA ops_add q_int (q_callR M__law_taken (hr.mono (by decide)) (by rfl) (q_cons (q_name 1 (pv 1)) (q_cons q_int q_nil)))) (q_md (q_callR M__law_taken (hr.mono (by decide)) (by rfl) (q_cons (q_name 1 (pv 1)) (q_cons q_int q_nil))) q_mnil))) (pgs_cons (pg_name (i := 3) nd rfl (by first | exact Or.inl rfl | exact Or.inr rfl)) (pgs_cons (pg_name (i := 4) nd rfl (by first | exact Or.inl rfl | exact Or.inr rfl)) (pgs_cons (pg_name (i := 5) nd rfl (by first | exact Or.inl rfl | exact Or.inr rfl)) pgs_nil))))
  (q_scons (q_set 6 nd rfl (by first | exact Or.inl rfl | exact Or.inr rfl) (q_callR M__law_rounds (hr.mono (by decide)) (by rfl) (q_cons (q_name 1 (pv 1)) (q_cons (q_name 3 (pv 3)) (q_cons (q_name 5 (pv 5)) (q_cons (q_callR M__law_pick (hr.mono (by decide)) (by rfl) (q_cons (q_name 1 (pv 1)) (q_cons (q_n (q_lst (q_cons q_int (q_cons q_int (q_cons q_int (q_cons q_int (q_cons q_int (q_cons q_int q_nil)))))))) q_nil))) q_nil))))))
  (q_scons (q_set 7 nd rfl (by first | exact Or.inl rfl | exact Or.inr rfl) (q_call M__law_run (hr.mono (by decide)) (by rfl) (q_cons (q_name 4 (pv 4)) (q_cons (q_name 6 (pv 6)) q_nil))))
  (q_scons (q_ifS (q_tnot (q_truth (q_call M__law_alike (hr.mono (by decide)) (by rfl) (q_cons (q_callK K_run_windows rfl (hr.mono (by decide)) passL (by rfl) (q_kcons (q_name 3 (pv 3)) (q_kcons (q_name 4 (pv 4)) (q_kcons (q_name 5 (pv 5)) (q_kcons (q_name 6 (pv 6)) q_knil))))) (q_cons (q_name 7 (pv 7)) q_nil))))) (q_sone (q_ret q_bl)) q_snil)
  (q_scons (q_set 8 nd rfl (by first | exact Or.inl rfl | exact Or.inr rfl) (q_n (q_lst q_nil)))
  (q_scons (q_for PassesOwn.never rfl (q_it (q_name 7 (pv 7))) (q_gtup rfl (q_gscons (q_gname 9 (pg_name (i := 9) nd rfl (by first | exact Or.inl rfl | exact Or.inr rfl))) (q_gscons (q_gname 10 (pg_name (i := 10) nd rfl (by first | exact Or.inl rfl | exact Or.inr rfl))) q_gsnil)))
  (q_sone (q_set 8 nd rfl (by first | exact Or.inl rfl | exact Or.inr rfl) (q_op op_addA ops_add (q_name 8 (pv 8)) (q_n (q_ncallTy call_list_of can_lst (by rfl) T.b_list (by decide +kernel) (q_cons (q_name 9 (pv 9)) q_nil)))))))
  (q_scons (q_ifS (q_tnot (q_truth (q_call M__law_alike (hr.mono (by decide)) (by rfl) (q_cons (q_callK K_are_in_order rfl (hr.mono (by decide)) passL (by rfl) (q_kcons (q_name 3 (pv 3)) (q_kcons (q_name 4 (pv 4)) (q_kcons (q_name 5 (pv 5)) (q_kcons (q_name 6 (pv 6)) q_knil))))) (q_cons (q_cmp (op_eqD hr.units) ops_eq (q_name 8 (pv 8)) (q_n (q_listRg1 rfl (by rfl) T.b_list (by rfl) T.b_range (q_callB call_len cas_len (by rfl) T.b_len (by decide +kernel) (q_cons (q_name 8 (pv 8)) q_nil)))) (nomark _)) q_nil))))) (q_sone (q_ret q_bl)) q_snil)
  (q_scons (q_set 11 nd rfl (by first | exact Or.inl rfl | exact Or.inr rfl) (q_tup (q_cons (q_tup q_nil) (q_cons (q_tup q_nil) (q_cons q_bl q_nil)))))
  (q_scons (q_set 12 nd rfl (by first | exact Or.inl rfl | exact Or.inr rfl) (q_callR M__law_pick (hr.mono (by decide)) (by rfl) (q_cons (q_name 1 (pv 1)) (q_cons (q_n (q_lst (q_cons q_non (q_cons (q_n (q_lst q_nil)) (q_cons (q_op op_mulA ops_mulA (q_tup (q_cons (q_name 11 (pv 11)) q_nil)) q_int) (q_cons (q_tup (q_cons (q_tup (q_cons (q_tup q_nil) (q_cons (q_tup (q_cons (q_name 3 (pv 3)) q_nil)) (q_cons q_bl q_nil)))) q_nil)) (q_cons (q_tup (q_cons (q_tup (q_cons (q_tup q_nil) (q_cons (q_tup (q_cons q_int (q_cons q_int q_nil))) (q_cons q_bl q_nil)))) q_nil)) (q_cons (q_tup (q_cons (q_tup (q_cons (q_tup q_nil) (q_cons (q_tup q_nil) (q_cons q_int q_nil)))) q_nil)) (q_cons (q_tup (q_cons (q_tup (q_cons (q_tup (q_cons (q_tup (q_cons q_int (q_cons q_int q_nil))) q_nil)) (q_cons (q_tup q_nil) (q_cons q_bl q_nil)))) q_nil)) (q_cons (q_tup (q_cons (q_tup (q_cons (q_tup q_nil) (q_cons (q_tup q_nil) q_nil))) q_nil)) (q_cons (q_tup (q_cons q_int q_nil)) q_nil))))))))))) q_nil))))
  (q_scons (q_ifS (q_wand (q_tcmp op_gt ops_gt (q_name 5 (pv 5)) q_int (nomark _)) (q_wand1 (q_tcmp (op_eqD hr.units) ops_eq (q_callR M__law_taken (hr.mono (by decide)) (by rfl) (q_cons (q_name 1 (pv 1)) (q_cons q_int q_nil))) q_int (nomark _)))).pt (q_sone (q_set 12 nd rfl (by first | exact Or.inl rfl | exact Or.inr rfl) (q_tup (q_cons (q_name 11 (pv 11)) (q_cons (q_callR M__law_pick (hr.mono (by decide)) (by rfl) (q_cons (q_name 1 (pv 1)) (q_cons (q_n (q_lst (q_cons (q_tup (q_cons (q_tup (q_cons (q_tup (q_cons q_int (q_cons q_int q_nil))) q_nil)) (q_cons (q_tup q_nil) (q_cons q_bl q_nil)))) (q_cons (q_tup (q_cons (q_tup (q_cons (q_tup (q_cons q_int (q_cons (q_name 3 (pv 3)) q_nil))) q_nil)) (q_cons (q_tup q_nil) (q_cons q_bl q_nil)))) (q_cons (q_tup (q_cons (q_tup (q_cons (q_tup (q_cons q_int (q_cons q_int q_nil))) (q_cons (q_tup (q_cons q_int (q_cons q_int q_nil))) q_nil))) (q_cons (q_tup q_nil) (q_cons q_bl q_nil)))) (q_cons (q_tup (q_cons (q_tup (q_cons (q_tup (q_cons q_int (q_cons q_int q_nil))) q_nil)) (q_cons (q_tup q_nil) (q_cons q_bl q_nil)))) (q_cons (q_tup (q_cons (q_tup (q_cons (q_tup (q_cons q_bl (q_cons q_int q_nil))) q_nil)) (q_cons (q_tup q_nil) (q_cons q_bl q_nil)))) (q_cons (q_tup (q_cons (q_n (q_lst q_nil)) (q_cons (q_tup q_nil) (q_cons q_bl q_nil)))) q_nil)))))))) q_nil))) q_nil))))) q_snil)
  (q_scons (q_set 13 nd rfl (by first | exact Or.inl rfl | exact Or.inr rfl) (q_n (q_lst (q_cons (q_callR M__law_pick (hr.mono (by decide)) (by rfl) (q_cons (q_name 1 (pv 1)) (q_cons (q_n (q_lst (q_cons q_int (q_cons q_int (q_cons q_non (q_cons q_bl q_nil)))))) q_nil))) (q_cons (q_callR M__law_pick (hr.mono (by decide)) (by rfl) (q_cons (q_name 1 (pv 1)) (q_cons (q_n (q_lst (q_cons q_int (q_cons q_int (q_cons q_str (q_cons q_bl q_nil)))))) q_nil))) (q_cons (q_callR M__law_pick (hr.mono (by decide)) (by rfl) (q_cons (q_name 1 (pv 1)) (q_cons (q_n (q_lst (q_cons (q_neg q_int) (q_cons q_int (q_cons q_non (q_cons q_bl q_nil)))))) q_nil))) q_nil))))))
  (q_sone (q_for PassesOwn.never rfl (q_it (q_n (q_lst (q_cons (q_gl (v := .ref f_run_windows) (by rfl) ⟨_, m_run_windows, rfl⟩ (fun _ => rfl)) (q_cons (q_gl (v := .ref f_are_in_order) (by rfl) ⟨_, m_are_in_order, rfl⟩ (fun _ => rfl)) q_nil))))) (q_gname 14 (pg_name (i := 14) nd rfl (by first | exact Or.inl rfl | exact Or.inr rfl)))
  (q_scons (q_set 15 nd rfl (by first | exact Or.inl rfl | exact Or.inr rfl) (q_n (q_lst (q_cons (q_lam hlam hT hT2 RF (by rfl) TB rfl hmT hu1 hr (LamX.lamS_by (sc := defScope s_law) (by decide +kernel)) rfl (fun _ _ _ _ _ => rfl) (fun A outer s H E f c' hr => (q_callV 14 hSv hr (passes_call (takes_of rfl rfl rfl rfl) (fun _ _ _ _ h => h)) rfl (by first | exact Or.inl rfl | exact Or.inr (Or.inl rfl) | exact Or.inr (Or.inr rfl)) (q_cons (q_name 3 (pv 3)) (q_cons (q_name 4 (pv 4)) (q_cons (q_name 5 (pv 5)) (q_cons (q_name 12 (pv 12)) q_nil)))))) (by decide)) (q_cons (q_lam hlam hT hT2 RF (by rfl) TB rfl hmT hu1 hr (LamX.lamS_by (sc := defScope s_law) (by decide +kernel)) rfl (fun _ _ _ _ _ => rfl) (fun A outer s H E f c' hr => (q_callV 14 hSv hr (passes_call (takes_of rfl rfl rfl rfl) (fun _ _ _ _ h => h)) rfl (by first | exact Or.inl rfl | exact Or.inr (Or.inl rfl) | exact Or.inr (Or.inr rfl)) (q_cons (q_name 3 (pv 3)) (q_cons (q_name 4 (pv 4)) (q_cons (q_ix (q_name 13 (pv 13)) q_int) (q_cons (q_name 12 (pv 12)) q_nil)))))) (by decide)) q_nil)))))
  (q_scons (q_set 15 nd rfl (by first | exact Or.inl rfl | exact Or.inr rfl) (q_op op_addA ops_add (q_name 15 (pv 15)) (q_n (q_lst (q_cons (q_lam hlam hT hT2 RF (by rfl) TB rfl hmT hu1 hr (LamX.lamS_by (sc := defScope s_law) (by decide +kernel)) rfl (fun _ _ _ _ _ => rfl) (fun A outer s H E f c' hr => (q_callV 14 hSv hr (passes_call (takes_of rfl rfl rfl rfl) (fun _ _ _ _ h => h)) rfl (by first | exact Or.inl rfl | exact Or.inr (Or.inl rfl) | exact Or.inr (Or.inr rfl)) (q_cons (q_name 3 (pv 3)) (q_cons (q_ix (q_name 13 (pv 13)) q_int) (q_cons (q_ix (q_name 13 (pv 13)) q_int) (q_cons (q_name 12 (pv 12)) q_nil)))))) (by decide)) (q_cons (q_lam hlam hT hT2 RF (by rfl) TB rfl hmT hu1 hr (LamX.lamS_by (sc := defScope s_law) (by decide +kernel)) rfl (fun _ _ _ _ _ => rfl) (fun A outer s H E f c' hr => (q_callV 14 hSv hr (passes_call (takes_of rfl rfl rfl rfl) (fun _ _ _ _ h => h)) rfl (by first | exact Or.inl rfl | exact Or.inr (Or.inl rfl) | exact Or.inr (Or.inr rfl)) (q_cons (q_ix (q_name 13 (pv 13)) q_int) (q_cons (q_ix (q_name 13 (pv 13)) q_int) (q_cons (q_ix (q_name 13 (pv 13)) q_int) (q_cons (q_name 12 (pv 12)) q_nil)))))) (by decide)) q_nil))))))
  (q_sone (q_ifS (q_tcmp (op_neD hr.units) ops_ne (q_name 15 (pv 15)) (q_n (q_lst (q_cons q_str (q_cons q_str (q_cons q_str (q_cons q_str q_nil)))))) (nomark _)) (q_sone (q_ret q_bl)) q_snil))))))))))))))))))
  (q_sone (q_ret (q_cmp (op_eqD hr.units) ops_eq (q_callX M_run_windows (hr.mono (by decide)) passL (by rfl) (q_cons q_int (q_cons q_int (q_cons q_int (q_cons (q_tup (q_cons (q_tup (q_cons (q_tup q_nil) (q_cons (q_tup (q_cons q_int q_nil)) (q_cons q_bl q_nil)))) (q_cons (q_tup (q_cons (q_tup q_nil) (q_cons (q_tup (q_cons q_int (q_cons q_int q_nil))) (q_cons q_bl q_nil)))) q_nil))) q_nil))))) (q_tup (q_cons (q_tup (q_cons (q_tup q_nil) (q_cons q_int q_nil))) (q_cons (q_tup (q_cons (q_tup (q_cons q_int (q_cons q_int q_nil))) (q_cons q_int q_nil))) q_nil))) (nomark _))))))
end G41
set_option Elab.async false
set_option linter.all false
set_option maxRecDepth 100000
set_option maxHeartbeats 8000000
namespace G41
open PySem PySem.Spec PyProof.Rows L2 PL He
def dd_need : DefD := ⟨("need", none), "need", "need", defArgs s_need, defBody s_need, defScope s_need, [], []⟩
def dd_is_number : DefD := ⟨("is_number", none), "is_number", "is_number", defArgs s_is_number, defBody s_is_number, defScope s_is_number, [], []⟩
def dd_is_rising : DefD := ⟨("is_rising", none), "is_rising", "is_rising", defArgs s_is_rising, defBody s_is_rising, defScope s_is_rising, [], []⟩
def dd_check_windows : DefD := ⟨("check_windows", none), "check_windows", "check_windows", defArgs s_check_windows, defBody s_check_windows, defScope s_check_windows, [], []⟩
def dd_is_copy : DefD := ⟨("is_copy", none), "is_copy", "is_copy", defArgs s_is_copy, defBody s_is_copy, defScope s_is_copy, [], []⟩
def dd_is_round : DefD := ⟨("is_round", none), "is_round", "is_round", defArgs s_is_round, defBody s_is_round, defScope s_is_round, [], []⟩
def dd_check_rounds : DefD := ⟨("check_rounds", none), "check_rounds", "check_rounds", defArgs s_check_rounds, defBody s_check_rounds, defScope s_check_rounds, [], []⟩
def dd_played : DefD := ⟨("played", none), "played", "played", defArgs s_played, defBody s_played, defScope s_played, [], []⟩
def dd_run_windows : DefD := ⟨("run_windows", none), "run_windows", "run_windows", defArgs s_run_windows, defBody s_run_windows, defScope s_run_windows, [], []⟩
def dd_are_in_order : DefD := ⟨("are_in_order", none), "are_in_order", "are_in_order", defArgs s_are_in_order, defBody s_are_in_order, defScope s_are_in_order, [], []⟩
def dd__law_taken : DefD := ⟨("_law_taken", none), "_law_taken", "_law_taken", defArgs s__law_taken, defBody s__law_taken, defScope s__law_taken, [], []⟩
def dd__law_pick : DefD := ⟨("_law_pick", none), "_law_pick", "_law_pick", defArgs s__law_pick, defBody s__law_pick, defScope s__law_pick, [], []⟩
def dd__law_refused : DefD := ⟨("_law_refused", none), "_law_refused", "_law_refused", defArgs s__law_refused, defBody s__law_refused, defScope s__law_refused, [], []⟩
def dd__law_alike : DefD := ⟨("_law_alike", none), "_law_alike", "_law_alike", defArgs s__law_alike, defBody s__law_alike, defScope s__law_alike, [], []⟩
def dd__law_rounds : DefD := ⟨("_law_rounds", none), "_law_rounds", "_law_rounds", defArgs s__law_rounds, defBody s__law_rounds, defScope s__law_rounds, [], []⟩
def dd__law_run : DefD := ⟨("_law_run", none), "_law_run", "_law_run", defArgs s__law_run, defBody s__law_run, defScope s__law_run, [], []⟩
def dd_law : DefD := ⟨("law", none), "law", "law", defArgs s_law, defBody s_law, defScope s_law, [], []⟩
def fns : List DefD := [dd_need, dd_is_number, dd_is_rising, dd_check_windows, dd_is_copy, dd_is_round, dd_check_rounds, dd_played, dd_run_windows, dd_are_in_order, dd__law_taken, dd__law_pick, dd__law_refused, dd__law_alike, dd__law_rounds, dd__law_run, dd_law]
def fas : List Fa := [.glo "need", .glo "is_number", .glo "is_rising", .glo "check_windows", .glo "is_copy", .glo "is_round", .glo "check_rounds", .glo "played", .glo "run_windows", .glo "are_in_order", .glo "_law_taken", .glo "_law_pick", .glo "_law_refused", .glo "_law_alike", .glo "_law_rounds", .glo "_law_run", .glo "law", .free "all", .free "bool", .free "enumerate", .free "int", .free "isinstance", .free "len", .free "list", .free "min", .free "range", .free "str", .free "tuple", .free "zip", .int "MOST_LATE" 4, .int "MOST_MODULUS" 20, .int "MOST_ROUNDS" 40, .int "MOST_WIDTH" 4]
def ex (K : PySem.W.Frag) : Bool := PLX.badB pw K "BadArgument" "name" && (decide (ga K "are_in_order" ≠ ga K "run_windows"))
def iw : List (Str × PLX.InW) := [("BadArgument", some ("__init__", "BadArgument.__init__", PLX.iA "name" ⟨6, 17, 6, 21⟩ ⟨6, 23, 6, 27⟩, FuncBody.stmts (PLX.iB "name" 7 30 ⟨7, 8, 7, 13⟩ ⟨7, 8, 7, 15⟩ ⟨7, 25, 7, 29⟩ ⟨7, 8, 7, 30⟩ ⟨8, 8, 8, 12⟩ ⟨8, 8, 8, 17⟩ ⟨8, 20, 8, 24⟩ ⟨8, 8, 8, 24⟩), PLX.iS "name", mainGlobals, builtinsNs))]
abbrev R : PySem.W.OpenRow := PySem.W.OpenLaw.row PySem.Challenge.rw_channelshared_k41_whole_windows_round_by
def tf : List Defn := [("law", none)]
abbrev hk : PySem.W.Hook := PLX.hookI 5 fas fns tf ex iw
def ob (s : PySem.W.SharedT) : PLX.AlI := PLX.obsI 5 fas fns tf ex iw (HandSHeadRun.getT s)
theorem ob_eq (s : PySem.W.SharedT) : ob s = hk.obs s.abs := PLX.obsI_eq (HandSHeadRun.getT_eq s)
def names : List PySem.Str := ["ChannelError", "BadArgument", "need", "is_number", "is_rising", "MOST_WIDTH", "MOST_MODULUS", "MOST_LATE", "MOST_ROUNDS", "check_windows", "is_copy", "is_round", "check_rounds", "played", "run_windows", "are_in_order", "_law_taken", "_law_pick", "_law_refused", "_law_alike", "_law_rounds", "_law_run"]
def M : Nat := 4000
theorem run (w : World) : HandSHeadRun.RunEq R (PySem.W.view R.prog [26]) hk ob M names w := by
  intro os
  kernel_rfl
def Sv (f_are_in_order f_run_windows : Addr) : Addr → Option (List D → FR) := fun f => if f = f_are_in_order then some g_are_in_order else if f = f_run_windows then some g_run_windows else none
abbrev phiL (f_are_in_order f_run_windows sa : Addr) (ns : List Int) : PL.Env → SR := phi_law sa ns f_are_in_order f_run_windows (Sv f_are_in_order f_run_windows)
/-- the plain law, as it is wanted -/
def Plain : Prop := ∀ (f_are_in_order f_run_windows sa : Addr) (ns : List Int), f_are_in_order ≠ f_run_windows → ns.length ≤ 63 → ∃ e', phiL f_are_in_order f_run_windows sa ns (Sl.va (.opq (.ref sa)) :: List.replicate 15 Sl.no) = .rt (.bl true) e'
theorem at_law (LT : Plain) (w : World) (mg : Str → Option Value) (fa : Addr) (h : Heap) (K : PySem.W.Frag) (KX : K.In h) (c : PLX.SaysI fas fns tf ex iw h K) (G : h.Ns mainGlobals mg) (hfa : mg ("law" : Str) = some (.ref fa)) :
    LamX.LawAtS PySem.Challenge.rw_channelshared_k41_whole_windows_round_by w K CX0 13 63 "script" mg fa h := by
  obtain ⟨x1, x2⟩ := ba (show (PLX.badB pw K "BadArgument" "name" && (decide (ga K "are_in_order" ≠ ga K "run_windows"))) = true from c.more)
  obtain ⟨bT, bx, bn, bm⟩ := PLX.bad_of KX G x1 (c.ini _ List.mem_cons_self) (by decide +kernel) (by decide)
  have m_need := glo_ok KX G (c.d.fact 0 (f := .glo "need") rfl)
  have m_is_number := glo_ok KX G (c.d.fact 1 (f := .glo "is_number") rfl)
  have m_is_rising := glo_ok KX G (c.d.fact 2 (f := .glo "is_rising") rfl)
  have m_check_windows := glo_ok KX G (c.d.fact 3 (f := .glo "check_windows") rfl)
  have m_is_copy := glo_ok KX G (c.d.fact 4 (f := .glo "is_copy") rfl)
  have m_is_round := glo_ok KX G (c.d.fact 5 (f := .glo "is_round") rfl)
  have m_check_rounds := glo_ok KX G (c.d.fact 6 (f := .glo "check_rounds") rfl)
  have m_played := glo_ok KX G (c.d.fact 7 (f := .glo "played") rfl)
  have m_run_windows := glo_ok KX G (c.d.fact 8 (f := .glo "run_windows") rfl)
  have m_are_in_order := glo_ok KX G (c.d.fact 9 (f := .glo "are_in_order") rfl)
  have m__law_taken := glo_ok KX G (c.d.fact 10 (f := .glo "_law_taken") rfl)
  have m__law_pick := glo_ok KX G (c.d.fact 11 (f := .glo "_law_pick") rfl)
  have m__law_refused := glo_ok KX G (c.d.fact 12 (f := .glo "_law_refused") rfl)
  have m__law_alike := glo_ok KX G (c.d.fact 13 (f := .glo "_law_alike") rfl)
  have m__law_rounds := glo_ok KX G (c.d.fact 14 (f := .glo "_law_rounds") rfl)
  have m__law_run := glo_ok KX G (c.d.fact 15 (f := .glo "_law_run") rfl)
  have m_law := glo_ok KX G (c.d.fact 16 (f := .glo "law") rfl)
  have T : Txt K mg (ga K "BadArgument") (PLX.iAd K "BadArgument") :=
    { b_all := free_ok KX G (c.d.fact 17 (f := .free "all") rfl), b_bool := free_ok KX G (c.d.fact 18 (f := .free "bool") rfl), b_enumerate := free_ok KX G (c.d.fact 19 (f := .free "enumerate") rfl), b_int := free_ok KX G (c.d.fact 20 (f := .free "int") rfl), b_isinstance := free_ok KX G (c.d.fact 21 (f := .free "isinstance") rfl), b_len := free_ok KX G (c.d.fact 22 (f := .free "len") rfl), b_list := free_ok KX G (c.d.fact 23 (f := .free "list") rfl), b_min := free_ok KX G (c.d.fact 24 (f := .free "min") rfl), b_range := free_ok KX G (c.d.fact 25 (f := .free "range") rfl), b_str := free_ok KX G (c.d.fact 26 (f := .free "str") rfl), b_tuple := free_ok KX G (c.d.fact 27 (f := .free "tuple") rfl), b_zip := free_ok KX G (c.d.fact 28 (f := .free "zip") rfl), c_MOST_LATE := (int_ok KX G (c.d.fact 29 (f := .int "MOST_LATE" 4) rfl)).elim fun t e => ⟨_, e, t, rfl⟩, c_MOST_MODULUS := (int_ok KX G (c.d.fact 30 (f := .int "MOST_MODULUS" 20) rfl)).elim fun t e => ⟨_, e, t, rfl⟩, c_MOST_ROUNDS := (int_ok KX G (c.d.fact 31 (f := .int "MOST_ROUNDS" 40) rfl)).elim fun t e => ⟨_, e, t, rfl⟩, c_MOST_WIDTH := (int_ok KX G (c.d.fact 32 (f := .int "MOST_WIDTH" 4) rfl)).elim fun t e => ⟨_, e, t, rfl⟩, x_BadArgument := bT }
  obtain ⟨fd_need, FD_need⟩ := c.d.def_ 0 (d := dd_need) rfl
  have F_need : Fun K "need" "need" s_need (ga K "need") fd_need := fun_of FD_need
  have b_need : Binds K fd_need ["is_valid", "name"] [] := F_need.binds fun _ _ _ _ _ _ us hl => match us, hl with | [_, _], _ => rfl
  obtain ⟨fd_is_number, FD_is_number⟩ := c.d.def_ 1 (d := dd_is_number) rfl
  have F_is_number : Fun K "is_number" "is_number" s_is_number (ga K "is_number") fd_is_number := fun_of FD_is_number
  have b_is_number : Binds K fd_is_number ["value", "least", "most"] [] := F_is_number.binds fun _ _ _ _ _ _ us hl => match us, hl with | [_, _, _], _ => rfl
  obtain ⟨fd_is_rising, FD_is_rising⟩ := c.d.def_ 2 (d := dd_is_rising) rfl
  have F_is_rising : Fun K "is_rising" "is_rising" s_is_rising (ga K "is_rising") fd_is_rising := fun_of FD_is_rising
  have b_is_rising : Binds K fd_is_rising ["row"] [] := F_is_rising.binds fun _ _ _ _ _ _ us hl => match us, hl with | [_], _ => rfl
  obtain ⟨fd_check_windows, FD_check_windows⟩ := c.d.def_ 3 (d := dd_check_windows) rfl
  have F_check_windows : Fun K "check_windows" "check_windows" s_check_windows (ga K "check_windows") fd_check_windows := fun_of FD_check_windows
  have b_check_windows : Binds K fd_check_windows ["width", "modulus", "late"] [] := F_check_windows.binds fun _ _ _ _ _ _ us hl => match us, hl with | [_, _, _], _ => rfl
  obtain ⟨fd_is_copy, FD_is_copy⟩ := c.d.def_ 4 (d := dd_is_copy) rfl
  have F_is_copy : Fun K "is_copy" "is_copy" s_is_copy (ga K "is_copy") fd_is_copy := fun_of FD_is_copy
  have b_is_copy : Binds K fd_is_copy ["value", "width", "most"] [] := F_is_copy.binds fun _ _ _ _ _ _ us hl => match us, hl with | [_, _, _], _ => rfl
  obtain ⟨fd_is_round, FD_is_round⟩ := c.d.def_ 5 (d := dd_is_round) rfl
  have F_is_round : Fun K "is_round" "is_round" s_is_round (ga K "is_round") fd_is_round := fun_of FD_is_round
  have b_is_round : Binds K fd_is_round ["value", "width", "most"] [] := F_is_round.binds fun _ _ _ _ _ _ us hl => match us, hl with | [_, _, _], _ => rfl
  obtain ⟨fd_check_rounds, FD_check_rounds⟩ := c.d.def_ 6 (d := dd_check_rounds) rfl
  have F_check_rounds : Fun K "check_rounds" "check_rounds" s_check_rounds (ga K "check_rounds") fd_check_rounds := fun_of FD_check_rounds
  have b_check_rounds : Binds K fd_check_rounds ["rounds", "width", "late"] [] := F_check_rounds.binds fun _ _ _ _ _ _ us hl => match us, hl with | [_, _, _], _ => rfl
  obtain ⟨fd_played, FD_played⟩ := c.d.def_ 7 (d := dd_played) rfl
  have F_played : Fun K "played" "played" s_played (ga K "played") fd_played := fun_of FD_played
  have b_played : Binds K fd_played ["modulus", "rounds"] [] := F_played.binds fun _ _ _ _ _ _ us hl => match us, hl with | [_, _], _ => rfl
  obtain ⟨fd_run_windows, FD_run_windows⟩ := c.d.def_ 8 (d := dd_run_windows) rfl
  have F_run_windows : Fun K "run_windows" "run_windows" s_run_windows (ga K "run_windows") fd_run_windows := fun_of FD_run_windows
  have b_run_windows : Binds K fd_run_windows ["width", "modulus", "late", "rounds"] [] := F_run_windows.binds fun _ _ _ _ _ _ us hl => match us, hl with | [_, _, _, _], _ => rfl
  obtain ⟨fd_are_in_order, FD_are_in_order⟩ := c.d.def_ 9 (d := dd_are_in_order) rfl
  have F_are_in_order : Fun K "are_in_order" "are_in_order" s_are_in_order (ga K "are_in_order") fd_are_in_order := fun_of FD_are_in_order
  have b_are_in_order : Binds K fd_are_in_order ["width", "modulus", "late", "rounds"] [] := F_are_in_order.binds fun _ _ _ _ _ _ us hl => match us, hl with | [_, _, _, _], _ => rfl
  obtain ⟨fd__law_taken, FD__law_taken⟩ := c.d.def_ 10 (d := dd__law_taken) rfl
  have F__law_taken : Fun K "_law_taken" "_law_taken" s__law_taken (ga K "_law_taken") fd__law_taken := fun_of FD__law_taken
  have b__law_taken : Binds K fd__law_taken ["row", "many"] [] := F__law_taken.binds fun _ _ _ _ _ _ us hl => match us, hl with | [_, _], _ => rfl
  obtain ⟨fd__law_pick, FD__law_pick⟩ := c.d.def_ 11 (d := dd__law_pick) rfl
  have F__law_pick : Fun K "_law_pick" "_law_pick" s__law_pick (ga K "_law_pick") fd__law_pick := fun_of FD__law_pick
  have b__law_pick : Binds K fd__law_pick ["row", "some"] [] := F__law_pick.binds fun _ _ _ _ _ _ us hl => match us, hl with | [_, _], _ => rfl
  obtain ⟨fd__law_refused, FD__law_refused⟩ := c.d.def_ 12 (d := dd__law_refused) rfl
  have F__law_refused : Fun K "_law_refused" "_law_refused" s__law_refused (ga K "_law_refused") fd__law_refused := fun_of FD__law_refused
  have b__law_refused : Binds K fd__law_refused ["call"] [] := F__law_refused.binds fun _ _ _ _ _ _ us hl => match us, hl with | [_], _ => rfl
  obtain ⟨fd__law_alike, FD__law_alike⟩ := c.d.def_ 13 (d := dd__law_alike) rfl
  have F__law_alike : Fun K "_law_alike" "_law_alike" s__law_alike (ga K "_law_alike") fd__law_alike := fun_of FD__law_alike
  have b__law_alike : Binds K fd__law_alike ["found", "due"] [] := F__law_alike.binds fun _ _ _ _ _ _ us hl => match us, hl with | [_, _], _ => rfl
  obtain ⟨fd__law_rounds, FD__law_rounds⟩ := c.d.def_ 14 (d := dd__law_rounds) rfl
  have F__law_rounds : Fun K "_law_rounds" "_law_rounds" s__law_rounds (ga K "_law_rounds") fd__law_rounds := fun_of FD__law_rounds
  have b__law_rounds : Binds K fd__law_rounds ["row", "width", "late", "many"] [] := F__law_rounds.binds fun _ _ _ _ _ _ us hl => match us, hl with | [_, _, _, _], _ => rfl
  obtain ⟨fd__law_run, FD__law_run⟩ := c.d.def_ 15 (d := dd__law_run) rfl
  have F__law_run : Fun K "_law_run" "_law_run" s__law_run (ga K "_law_run") fd__law_run := fun_of FD__law_run
  have b__law_run : Binds K fd__law_run ["modulus", "rounds"] [] := F__law_run.binds fun _ _ _ _ _ _ us hl => match us, hl with | [_, _], _ => rfl
  obtain ⟨fd_law, FD_law⟩ := c.d.def_ 16 (d := dd_law) rfl
  have F_law : Fun K "law" "law" s_law (ga K "law") fd_law := fun_of FD_law
  have b_law : Binds K fd_law ["script"] [] := F_law.binds fun _ _ _ _ _ _ us hl => match us, hl with | [_], _ => rfl
  have e := hfa.symm.trans m_law
  cases e
  have d2 : ∀ {a b : Addr}, decide (a ≠ b) = true → a ≠ b := fun h => of_decide_eq_true h
  refine ⟨fd_law, [cT K ("law", none)], spLaw K (cT K ("law", none)).2, fun q hq => ?_, fun q hq => ?_, fun q hq => ?_, fun s u => ?_, fun H a ns hl _ hT hS => ⟨a, ns, rfl, hl, hS, hT _ List.mem_cons_self, fun _ => rfl⟩, fun base kb gb tb => ?_⟩
  · obtain rfl := List.mem_singleton.mp hq
    exact c.empty ("law", none) List.mem_cons_self
  · obtain rfl := List.mem_singleton.mp hq
    exact c.out ("law", none) List.mem_cons_self
  · obtain rfl := List.mem_singleton.mp hq
    exact PySem.W.codeHd_of_K KX (c.hd ("law", none) List.mem_cons_self)
  · exact FunD.bindsA (ps := ["script"]) FD_law (fun _ _ _ _ _ _ us hl => match us, hl with | [_], _ => rfl) s [u] rfl
  · have TB := tb _ List.mem_cons_self
    refine okLaw (k := 12) (m := 15) (φ := fun sa ns => phiL (ga K "are_in_order") (ga K "run_windows") sa ns) (cb := ga K "BadArgument") (cm := 0) F_law rfl sc_law rfl (fun sa ns A outer s H E hr => ?_) (fun sa ns hl => LT (ga K "are_in_order") (ga K "run_windows") sa ns (d2 x2) hl)
    have pe : (perL K sa ns (cT K ("law", none)).2).off.lam = false := rfl
    have hP : ∀ F H, (perL K sa ns (cT K ("law", none)).2).off.P F H → SqL K F sa (ns.map V.int) := fun F H h => h.1
    have O_need := ok_need (w := w) (base := base) (cm := 0) (per := (perL K sa ns (cT K ("law", none)).2).off) pe T F_need 
    have M_need : MX (perL K sa ns (cT K ("law", none)).2).off.P pw w K mg base "need" (ga K "BadArgument") 0 2 2 (g_need) := ⟨_, fd_need, _, O_need, m_need, F_need.kp, b_need⟩
    have O_is_number := ok_is_number (w := w) (base := base) (cm := 0) (per := (perL K sa ns (cT K ("law", none)).2).off) pe T F_is_number 
    have M_is_number : MF (perL K sa ns (cT K ("law", none)).2).off.P pw w K mg base "is_number" (ga K "BadArgument") 0 3 2 (g_is_number) := ⟨_, fd_is_number, _, O_is_number, m_is_number, F_is_number.kp, b_is_number⟩
    have O_is_rising := ok_is_rising (w := w) (base := base) (cm := 0) (per := (perL K sa ns (cT K ("law", none)).2).off) pe T F_is_rising 
    have M_is_rising : MF (perL K sa ns (cT K ("law", none)).2).off.P pw w K mg base "is_rising" (ga K "BadArgument") 0 1 2 (g_is_rising) := ⟨_, fd_is_rising, _, O_is_rising, m_is_rising, F_is_rising.kp, b_is_rising⟩
    have O_check_windows := ok_check_windows (w := w) (base := base) (cm := 0) (per := (perL K sa ns (cT K ("law", none)).2).off) pe T F_check_windows M_need M_is_number
    have M_check_windows : MX (perL K sa ns (cT K ("law", none)).2).off.P pw w K mg base "check_windows" (ga K "BadArgument") 0 3 3 (g_check_windows) := ⟨_, fd_check_windows, _, O_check_windows, m_check_windows, F_check_windows.kp, b_check_windows⟩
    have O_is_copy := ok_is_copy (w := w) (base := base) (cm := 0) (per := (perL K sa ns (cT K ("law", none)).2).off) pe T F_is_copy M_is_number
    have M_is_copy : MF (perL K sa ns (cT K ("law", none)).2).off.P pw w K mg base "is_copy" (ga K "BadArgument") 0 3 3 (g_is_copy) := ⟨_, fd_is_copy, _, O_is_copy, m_is_copy, F_is_copy.kp, b_is_copy⟩
    have O_is_round := ok_is_round (w := w) (base := base) (cm := 0) (per := (perL K sa ns (cT K ("law", none)).2).off) pe T F_is_round M_is_copy M_is_rising M_is_number
    have M_is_round : MF (perL K sa ns (cT K ("law", none)).2).off.P pw w K mg base "is_round" (ga K "BadArgument") 0 3 4 (g_is_round) := ⟨_, fd_is_round, _, O_is_round, m_is_round, F_is_round.kp, b_is_round⟩
    have O_check_rounds := ok_check_rounds (w := w) (base := base) (cm := 0) (per := (perL K sa ns (cT K ("law", none)).2).off) pe T F_check_rounds M_need M_is_round
    have M_check_rounds : MX (perL K sa ns (cT K ("law", none)).2).off.P pw w K mg base "check_rounds" (ga K "BadArgument") 0 3 5 (g_check_rounds) := ⟨_, fd_check_rounds, _, O_check_rounds, m_check_rounds, F_check_rounds.kp, b_check_rounds⟩
    have O_played := ok_played (w := w) (base := base) (cm := 0) (per := (perL K sa ns (cT K ("law", none)).2).off) pe T F_played 
    have M_played : MF (perL K sa ns (cT K ("law", none)).2).off.P pw w K mg base "played" (ga K "BadArgument") 0 2 2 (g_played) := ⟨_, fd_played, _, O_played, m_played, F_played.kp, b_played⟩
    have O_run_windows := ok_run_windows (w := w) (base := base) (cm := 0) (per := (perL K sa ns (cT K ("law", none)).2).off) pe T F_run_windows M_check_windows M_check_rounds M_played
    have M_run_windows : MX (perL K sa ns (cT K ("law", none)).2).off.P pw w K mg base "run_windows" (ga K "BadArgument") 0 4 6 (g_run_windows) := ⟨_, fd_run_windows, _, O_run_windows, m_run_windows, F_run_windows.kp, b_run_windows⟩
    have K_run_windows : MK (perL K sa ns (cT K ("law", none)).2).off.P pw w K mg base "run_windows" ["width", "modulus", "late", "rounds"] (ga K "BadArgument") 0 4 6 (g_run_windows) := ⟨_, fd_run_windows, _, O_run_windows, m_run_windows, F_run_windows.kp, Fun.kbn F_run_windows fun _ _ _ _ _ _ ws hl => match ws, hl with | [_, _, _, _], _ => rfl⟩
    have O_are_in_order := ok_are_in_order (w := w) (base := base) (cm := 0) (per := (perL K sa ns (cT K ("law", none)).2).off) pe T F_are_in_order M_run_windows
    have M_are_in_order : MX (perL K sa ns (cT K ("law", none)).2).off.P pw w K mg base "are_in_order" (ga K "BadArgument") 0 4 7 (g_are_in_order) := ⟨_, fd_are_in_order, _, O_are_in_order, m_are_in_order, F_are_in_order.kp, b_are_in_order⟩
    have K_are_in_order : MK (perL K sa ns (cT K ("law", none)).2).off.P pw w K mg base "are_in_order" ["width", "modulus", "late", "rounds"] (ga K "BadArgument") 0 4 7 (g_are_in_order) := ⟨_, fd_are_in_order, _, O_are_in_order, m_are_in_order, F_are_in_order.kp, Fun.kbn F_are_in_order fun _ _ _ _ _ _ ws hl => match ws, hl with | [_, _, _, _], _ => rfl⟩
    have O__law_taken := ok__law_taken (w := w) (base := base) (cm := 0) (per := (perL K sa ns (cT K ("law", none)).2).off) pe T F__law_taken hP
    have M__law_taken : MR (perL K sa ns (cT K ("law", none)).2).off.P pw w K mg base "_law_taken" (ga K "BadArgument") 0 1 2 (g__law_taken sa ns) := ⟨_, fd__law_taken, _, O__law_taken, m__law_taken, F__law_taken.kp, b__law_taken⟩
    have O__law_pick := ok__law_pick (w := w) (base := base) (cm := 0) (per := (perL K sa ns (cT K ("law", none)).2).off) pe T F__law_pick M__law_taken
    have M__law_pick : MR (perL K sa ns (cT K ("law", none)).2).off.P pw w K mg base "_law_pick" (ga K "BadArgument") 0 1 3 (g__law_pick sa ns) := ⟨_, fd__law_pick, _, O__law_pick, m__law_pick, F__law_pick.kp, b__law_pick⟩
    have O__law_alike := ok__law_alike (w := w) (base := base) (cm := 0) pe T F__law_alike  m__law_alike F__law_alike.kp b__law_alike 8
    have M__law_alike : MF (perL K sa ns (cT K ("law", none)).2).off.P pw w K mg base "_law_alike" (ga K "BadArgument") 0 2 10 (g__law_alike 8) := ⟨_, fd__law_alike, _, O__law_alike, m__law_alike, F__law_alike.kp, b__law_alike⟩
    have O__law_rounds := ok__law_rounds (w := w) (base := base) (cm := 0) (per := (perL K sa ns (cT K ("law", none)).2).off) pe T F__law_rounds M__law_taken
    have M__law_rounds : MR (perL K sa ns (cT K ("law", none)).2).off.P pw w K mg base "_law_rounds" (ga K "BadArgument") 0 3 3 (g__law_rounds sa ns) := ⟨_, fd__law_rounds, _, O__law_rounds, m__law_rounds, F__law_rounds.kp, b__law_rounds⟩
    have O__law_run := ok__law_run (w := w) (base := base) (cm := 0) (per := (perL K sa ns (cT K ("law", none)).2).off) pe T F__law_run 
    have M__law_run : MF (perL K sa ns (cT K ("law", none)).2).off.P pw w K mg base "_law_run" (ga K "BadArgument") 0 2 2 (g__law_run) := ⟨_, fd__law_run, _, O__law_run, m__law_run, F__law_run.kp, b__law_run⟩
    have RF : RefF K mg "_law_refused" "call" "BadArgument" (ga K "BadArgument") := by
      obtain ⟨oc, od, kV, doc, pm, an, cdv, ct, osl, e1, lk, hcd⟩ := F__law_refused.ex
      subst e1
      exact ⟨bT.gC, bx, bn, bm, _, oc, od, _, _, _, _, _, _, _, _, _, _, _, _, _, _, _, kV, doc, pm, an, cdv, ct, osl, m__law_refused, F__law_refused.kp, lk, hcd, b__law_refused, ⟨rfl, rfl, rfl, by decide +kernel, rfl, by decide +kernel, by decide +kernel⟩, by decide +kernel, by decide +kernel, Or.inl (by decide +kernel)⟩
    have hSv : ∀ f g, Sv (ga K "are_in_order") (ga K "run_windows") f = some g → MA (perL K sa ns (cT K ("law", none)).2).P pw w K mg base f (ga K "BadArgument") 0 4 10 g := fun f g hfg => by
      unfold Sv at hfg
      split at hfg
      · rename_i hx
        cases hfg
        rw [hx]
        exact ⟨fd_are_in_order, _, FnOk.mono O_are_in_order (by decide), F_are_in_order.kp, b_are_in_order⟩
      split at hfg
      · rename_i hx
        cases hfg
        rw [hx]
        exact ⟨fd_run_windows, _, FnOk.mono O_run_windows (by decide), F_run_windows.kp, b_run_windows⟩
      cases hfg
    exact w_law (per := perL K sa ns (cT K ("law", none)).2) (Tb := [((cT K ("law", none)).2, qlam)]) (Pt := (cT K ("law", none)).2) rfl T M__law_taken M__law_rounds M__law_pick M__law_run M__law_alike M_run_windows K_run_windows M_are_in_order K_are_in_order m_are_in_order m_run_windows (fun H h => h) (fun H H1 h e t => t) RF TB List.mem_cons_self (fun q hq _ => by obtain rfl := List.mem_singleton.mp hq; rfl) hSv A outer s H E _ hr
end G41
section
open PySem PySem.W PyProof.Rows
theorem G41.holds (LT : G41.Plain) : PySem.Challenge.rw_channelshared_k41_whole_windows_round_by.Holds := by
  w_on; o_law
  refine HandSHeadRun.head_any (r := OpenLaw.row PySem.Challenge.rw_channelshared_k41_whole_windows_round_by) (q := view (OpenLaw.row PySem.Challenge.rw_channelshared_k41_whole_windows_round_by).prog [26]) (H := G41.hk) (ob := G41.ob) (M := G41.M) (loose := G41.names) (d := HandSHeadRun.topDef (OpenLaw.row PySem.Challenge.rw_channelshared_k41_whole_windows_round_by).prog 26) (kwd := []) G41.ob_eq
    (by kernel_rfl) (fun s => by kernel_rfl) G41.run (by kernel_rfl) (by kernel_rfl) (by kernel_rfl) (by rfl) (by first | assumption | decide +kernel) (by decide +kernel) ⟨rfl, rfl, rfl, rfl, rfl, by decide +kernel⟩ ?hw ?hc
  case hw => w_witness2
  case hc =>
    refine LamX.walk_ofTsE (l := PySem.Challenge.rw_channelshared_k41_whole_windows_round_by) (n := 63) (k := 13) (x := "script") (CX := fun _ => L2.CX0) rfl (by decide) (by kernel_rfl) ⟨rfl, by decide, by decide⟩ ?F (fun _ _ _ _ _ z => z)
    intro w mg fa h Y G hmg0
    obtain ⟨K, KX, c⟩ := Y
    have hmg : mg ("law" : PySem.Str) = some (.ref fa) := by
      have e : (HandSHeadRun.topDef (OpenLaw.row PySem.Challenge.rw_channelshared_k41_whole_windows_round_by).prog 26).name = ("law" : PySem.Str) := by kernel_rfl
      rw [← e]
      exact hmg0
    exact ⟨K, KX, G41.at_law LT w mg fa h K KX c G hmg⟩
end
set_option Elab.async false
set_option linter.all false
set_option maxRecDepth 100000
set_option maxHeartbeats 4000000
/-! k41, the plain law, 1: the rounds that the law draws. -/
namespace G41
open PySem PySem.Spec PyProof.Rows L2 PL
theorem tk {sa : Addr} {ns : List Int} {l : List D} {m : Int} (hl : RowOk sa l) (h1 : 1 ≤ m) (h2 : m < 1073741824) : ∃ v l', g__law_taken sa ns l [.int m] = some (.int v, l') ∧ 0 ≤ v ∧ v < m ∧ RowOk sa l' := taken_ok hl h1 h2
theorem pk {sa : Addr} {ns : List Int} {l : List D} {ds : List D} (hl : RowOk sa l) (h1 : ds ≠ []) (h2 : ds.length < 1073741824) : ∃ d l', g__law_pick sa ns l [.lst ds] = some (d, l') ∧ d ∈ ds ∧ RowOk sa l' := pick_ok hl h1 h2
structure Rd where
  copies : List (Int × Int)
  places : List Int
  ans : Bool
def cpD (c : Int × Int) : D := .tup [.int c.1, .int c.2]
def Rd.d (r : Rd) : D := .tup [.tup (r.copies.map cpD), .tup (r.places.map D.int), .bl r.ans]
/-- strictly rising, within -/
def Up (n : Int) (ps : List Int) : Prop := ps.Pairwise (· < ·) ∧ (∀ p ∈ ps, 0 ≤ p ∧ p < n) ∧ (ps.length : Int) ≤ n
theorem Up.snoc {i : Nat} {ps : List Int} (h : Up i ps) : Up (i + 1 : Nat) (ps ++ [(i : Int)]) := by
  refine ⟨List.pairwise_append.mpr ⟨h.1, List.pairwise_singleton _ _, fun a ha b hb => ?_⟩, fun p hp => ?_, ?_⟩
  · rw [List.mem_singleton.mp hb]
    exact (h.2.1 a ha).2
  · rcases List.mem_append.mp hp with hp | hp
    · have := h.2.1 p hp
      omega
    · rw [List.mem_singleton.mp hp]
      omega
  · have := h.2.2
    rw [List.length_append, List.length_singleton]
    omega
theorem Up.skip {i : Nat} {ps : List Int} (h : Up i ps) : Up (i + 1 : Nat) ps := ⟨h.1, fun p hp => by have := h.2.1 p hp; omega, by have := h.2.2; omega⟩
theorem Up.nil : Up (0 : Nat) [] := ⟨List.Pairwise.nil, fun p hp => (by cases hp), (by simp)⟩
def lexLt (a b : Int × Int) : Prop := a.1 < b.1 ∨ (a.1 = b.1 ∧ a.2 < b.2)
/-- copies: rising, ages 1 .. n, places 0 .. w - 1 -/
def CUp (n : Nat) (w : Nat) (cs : List (Int × Int)) : Prop := cs.Pairwise lexLt ∧ (∀ c ∈ cs, 1 ≤ c.1 ∧ c.1 ≤ n ∧ 0 ≤ c.2 ∧ c.2 < w) ∧ cs.length ≤ n * w
theorem CUp.nil {w : Nat} : CUp 0 w [] := ⟨List.Pairwise.nil, fun p hp => (by cases hp), Nat.zero_le _⟩
theorem CUp.more {n w : Nat} {cs : List (Int × Int)} {ps : List Int} (h : CUp n w cs) (hp : Up w ps) : CUp (n + 1) w (cs ++ ps.map fun p => (((n : Nat) : Int) + 1, p)) := by
  refine ⟨List.pairwise_append.mpr ⟨h.1, List.pairwise_map.mpr (hp.1.imp fun {a b} hab => .inr ⟨rfl, hab⟩), fun a ha b hb => ?_⟩, fun c hc => ?_, ?_⟩
  · obtain ⟨p, _, rfl⟩ := List.mem_map.mp hb
    have := h.2.1 a ha
    exact .inl (show a.1 < (n : Int) + 1 by omega)
  · rcases List.mem_append.mp hc with hc | hc
    · have := h.2.1 c hc
      omega
    · obtain ⟨p, hpp, rfl⟩ := List.mem_map.mp hc
      have := hp.2.1 p hpp
      exact ⟨by show 1 ≤ (n : Int) + 1; omega, by show (n : Int) + 1 ≤ ((n + 1 : Nat) : Int); omega, this.1, this.2⟩
  · have := hp.2.2
    have := h.2.2
    rw [List.length_append, List.length_map, Nat.succ_mul]
    omega
section
variable {sa : Addr} {ns : List Int} {w : Nat} {l : List D} {x1 x2 x3 x4 x5 x6 x8 : Sl} {age : Int}
theorem rng_at {lo : Int} {n j : Nat} {d : D} (h : (rangeL lo n)[j]? = some d) : j < n ∧ d = .int (lo + (j : Nat)) := rangeL_at h
theorem comp1 (hl : RowOk sa l) : ∃ ps l', lcLoop [9] (gNm 9) (bF (op2F eqD (callRF 1 (g__law_taken sa ns) (consF (nameF 0) (consF (conF (.int 4)) nilF))) (conF (.int 0)))) (dispF .tup (consF (nameF 7) (consF (nameF 9) nilF))) (rangeL 0 w) [] [Sl.pr l, x1, x2, x3, x4, x5, x6, Sl.va (.int age), x8, Sl.no] = .ok (ps.map fun p => cpD (age, p)) [Sl.pr l', x1, x2, x3, x4, x5, x6, Sl.va (.int age), x8, Sl.no] ∧ Up w ps ∧ RowOk sa l' := by
  obtain ⟨acc, e', h1, h2⟩ := lcLoop_inv (vs := [9]) (g := gNm 9) (ft := bF (op2F eqD (callRF 1 (g__law_taken sa ns) (consF (nameF 0) (consF (conF (.int 4)) nilF))) (conF (.int 0)))) (fe := dispF .tup (consF (nameF 7) (consF (nameF 9) nilF)))
    (fun i acc e => ∃ ps l', acc = ps.map (fun p => cpD (age, p)) ∧ e = [Sl.pr l', x1, x2, x3, x4, x5, x6, Sl.va (.int age), x8, Sl.no] ∧ Up (i : Nat) ps ∧ RowOk sa l') (rangeL 0 w) 0 [] [Sl.pr l, x1, x2, x3, x4, x5, x6, Sl.va (.int age), x8, Sl.no]
    ⟨[], l, rfl, rfl, Up.nil, hl⟩ (fun j d acc e hj hp => by
      obtain ⟨ps, l', rfl, rfl, hu, hl'⟩ := hp
      obtain ⟨hj, rfl⟩ := rng_at hj
      rw [Int.zero_add]
      obtain ⟨v, l2, hv, v0, v4, hl2⟩ := tk (ns := ns) (m := 4) hl' (by omega) (by omega)
      rw [Nat.zero_add] at hu ⊢
      by_cases hz : v = 0
      · subst hz
        refine ⟨[Sl.pr l', x1, x2, x3, x4, x5, x6, Sl.va (.int age), x8, Sl.va (.int (j : Nat))], some (cpD (age, (j : Nat))), [Sl.pr l2, x1, x2, x3, x4, x5, x6, Sl.va (.int age), x8, Sl.va (.int (j : Nat))], rfl, ?_, ps ++ [(j : Int)], l2, ?_, rfl, hu.snoc, hl2⟩
        · unfold lcTurn
          simp only [runR, runF, noErr, rowOf, List.map_cons, List.map_nil, List.cons_append, List.nil_append, List.length_cons, List.length_nil, List.replicate, Nat.reduceAdd, Nat.reduceSub, Nat.zero_add, Nat.sub_self, seqF, ifS, setF, setIF, retF, dropF, skipF, augF, setNF, parF, setMs, mdF, mnF, mnilF, Mx.sl, appF, extF, guardO, isOw, setRow, rowAt, rowRes, goR, goF, callDF, callRF, frR, raiseF, excOf, nameF, conF, op2F, un1F, bF, chainF, truF, truR, andF, orF, notF, tandF, torF, tnotF, ifF, nilF, consF, dispF, ndispF, nE, callF, ncallF, liftA, liftN, optR, optN, lift1, lift2, R.bind, R.toS, hd, hdS, fz, fzS, fzs, hds, truD, gNm, gTp, gsCons, gsNil, itF, itA, optI, itemsD, forS, yesF, List.getElem?_cons_zero, List.getElem?_cons_succ, List.set_cons_zero, List.set_cons_succ, List.length_set, Option.bind, Option.map, if_true, if_false, ite_true, ite_false, reduceIte, Nat.reduceLT, Nat.reduceLeDiff, Bool.not_true, Bool.not_false, Nat.lt_add_left_iff_pos, Nat.zero_lt_succ, Bool.false_eq_true, Bool.true_eq_false, reduceCtorEq, hv, eqD_int, beq_self_eq_true, cpD]
        · simp
      · refine ⟨[Sl.pr l', x1, x2, x3, x4, x5, x6, Sl.va (.int age), x8, Sl.va (.int (j : Nat))], none, [Sl.pr l2, x1, x2, x3, x4, x5, x6, Sl.va (.int age), x8, Sl.va (.int (j : Nat))], rfl, ?_, ps, l2, ?_, rfl, hu.skip, hl2⟩
        · have hb : (v == 0) = false := by simpa using hz
          unfold lcTurn
          simp only [runR, runF, noErr, rowOf, List.map_cons, List.map_nil, List.cons_append, List.nil_append, List.length_cons, List.length_nil, List.replicate, Nat.reduceAdd, Nat.reduceSub, Nat.zero_add, Nat.sub_self, seqF, ifS, setF, setIF, retF, dropF, skipF, augF, setNF, parF, setMs, mdF, mnF, mnilF, Mx.sl, appF, extF, guardO, isOw, setRow, rowAt, rowRes, goR, goF, callDF, callRF, frR, raiseF, excOf, nameF, conF, op2F, un1F, bF, chainF, truF, truR, andF, orF, notF, tandF, torF, tnotF, ifF, nilF, consF, dispF, ndispF, nE, callF, ncallF, liftA, liftN, optR, optN, lift1, lift2, R.bind, R.toS, hd, hdS, fz, fzS, fzs, hds, truD, gNm, gTp, gsCons, gsNil, itF, itA, optI, itemsD, forS, yesF, List.getElem?_cons_zero, List.getElem?_cons_succ, List.set_cons_zero, List.set_cons_succ, List.length_set, Option.bind, Option.map, if_true, if_false, ite_true, ite_false, reduceIte, Nat.reduceLT, Nat.reduceLeDiff, Bool.not_true, Bool.not_false, Nat.lt_add_left_iff_pos, Nat.zero_lt_succ, Bool.false_eq_true, Bool.true_eq_false, reduceCtorEq, hv, eqD_int, hb]
        · simp)
  obtain ⟨ps, l', rfl, rfl, hu, hl'⟩ := h2
  rw [rangeL_len, Nat.zero_add] at hu
  exact ⟨ps, l', h1, hu, hl'⟩
theorem comp2 {x7 : Sl} (hl : RowOk sa l) : ∃ ps l', lcLoop [9] (gNm 9) (bF (op2F gtD (callRF 1 (g__law_taken sa ns) (consF (nameF 0) (consF (conF (.int 4)) nilF))) (conF (.int 0)))) (nameF 9) (rangeL 0 w) [] [Sl.pr l, x1, x2, x3, x4, x5, x6, x7, x8, Sl.no] = .ok (ps.map D.int) [Sl.pr l', x1, x2, x3, x4, x5, x6, x7, x8, Sl.no] ∧ Up w ps ∧ RowOk sa l' := by
  obtain ⟨acc, e', h1, h2⟩ := lcLoop_inv (vs := [9]) (g := gNm 9) (ft := bF (op2F gtD (callRF 1 (g__law_taken sa ns) (consF (nameF 0) (consF (conF (.int 4)) nilF))) (conF (.int 0)))) (fe := nameF 9)
    (fun i acc e => ∃ ps l', acc = ps.map D.int ∧ e = [Sl.pr l', x1, x2, x3, x4, x5, x6, x7, x8, Sl.no] ∧ Up (i : Nat) ps ∧ RowOk sa l') (rangeL 0 w) 0 [] [Sl.pr l, x1, x2, x3, x4, x5, x6, x7, x8, Sl.no]
    ⟨[], l, rfl, rfl, Up.nil, hl⟩ (fun j d acc e hj hp => by
      obtain ⟨ps, l', rfl, rfl, hu, hl'⟩ := hp
      obtain ⟨hj, rfl⟩ := rng_at hj
      rw [Int.zero_add]
      obtain ⟨v, l2, hv, v0, v4, hl2⟩ := tk (ns := ns) (m := 4) hl' (by omega) (by omega)
      rw [Nat.zero_add] at hu ⊢
      by_cases hz : 0 < v
      · refine ⟨[Sl.pr l', x1, x2, x3, x4, x5, x6, x7, x8, Sl.va (.int (j : Nat))], some (.int (j : Nat)), [Sl.pr l2, x1, x2, x3, x4, x5, x6, x7, x8, Sl.va (.int (j : Nat))], rfl, ?_, ps ++ [(j : Int)], l2, ?_, rfl, hu.snoc, hl2⟩
        · unfold lcTurn
          simp only [runR, runF, noErr, rowOf, List.map_cons, List.map_nil, List.cons_append, List.nil_append, List.length_cons, List.length_nil, List.replicate, Nat.reduceAdd, Nat.reduceSub, Nat.zero_add, Nat.sub_self, seqF, ifS, setF, setIF, retF, dropF, skipF, augF, setNF, parF, setMs, mdF, mnF, mnilF, Mx.sl, appF, extF, guardO, isOw, setRow, rowAt, rowRes, goR, goF, callDF, callRF, frR, raiseF, excOf, nameF, conF, op2F, un1F, bF, chainF, truF, truR, andF, orF, notF, tandF, torF, tnotF, ifF, nilF, consF, dispF, ndispF, nE, callF, ncallF, liftA, liftN, optR, optN, lift1, lift2, R.bind, R.toS, hd, hdS, fz, fzS, fzs, hds, truD, gNm, gTp, gsCons, gsNil, itF, itA, optI, itemsD, forS, yesF, List.getElem?_cons_zero, List.getElem?_cons_succ, List.set_cons_zero, List.set_cons_succ, List.length_set, Option.bind, Option.map, if_true, if_false, ite_true, ite_false, reduceIte, Nat.reduceLT, Nat.reduceLeDiff, Bool.not_true, Bool.not_false, Nat.lt_add_left_iff_pos, Nat.zero_lt_succ, Bool.false_eq_true, Bool.true_eq_false, reduceCtorEq, hv, gtD, int0D, hz, decide_true]
        · simp
      · refine ⟨[Sl.pr l', x1, x2, x3, x4, x5, x6, x7, x8, Sl.va (.int (j : Nat))], none, [Sl.pr l2, x1, x2, x3, x4, x5, x6, x7, x8, Sl.va (.int (j : Nat))], rfl, ?_, ps, l2, ?_, rfl, hu.skip, hl2⟩
        · unfold lcTurn
          simp only [runR, runF, noErr, rowOf, List.map_cons, List.map_nil, List.cons_append, List.nil_append, List.length_cons, List.length_nil, List.replicate, Nat.reduceAdd, Nat.reduceSub, Nat.zero_add, Nat.sub_self, seqF, ifS, setF, setIF, retF, dropF, skipF, augF, setNF, parF, setMs, mdF, mnF, mnilF, Mx.sl, appF, extF, guardO, isOw, setRow, rowAt, rowRes, goR, goF, callDF, callRF, frR, raiseF, excOf, nameF, conF, op2F, un1F, bF, chainF, truF, truR, andF, orF, notF, tandF, torF, tnotF, ifF, nilF, consF, dispF, ndispF, nE, callF, ncallF, liftA, liftN, optR, optN, lift1, lift2, R.bind, R.toS, hd, hdS, fz, fzS, fzs, hds, truD, gNm, gTp, gsCons, gsNil, itF, itA, optI, itemsD, forS, yesF, List.getElem?_cons_zero, List.getElem?_cons_succ, List.set_cons_zero, List.set_cons_succ, List.length_set, Option.bind, Option.map, if_true, if_false, ite_true, ite_false, reduceIte, Nat.reduceLT, Nat.reduceLeDiff, Bool.not_true, Bool.not_false, Nat.lt_add_left_iff_pos, Nat.zero_lt_succ, Bool.false_eq_true, Bool.true_eq_false, reduceCtorEq, hv, gtD, int0D, hz, decide_false]
        · simp)
  obtain ⟨ps, l', rfl, rfl, hu, hl'⟩ := h2
  rw [rangeL_len, Nat.zero_add] at hu
  exact ⟨ps, l', h1, hu, hl'⟩
abbrev cond1 (sa : Addr) (ns : List Int) : PL.Env → PL.R Bool := bF (op2F eqD (callRF 1 (g__law_taken sa ns) (consF (nameF 0) (consF (conF (.int 4)) nilF))) (conF (.int 0)))
abbrev body1 (sa : Addr) (ns : List Int) : PL.Env → SR := setF (gNm 6) (op2F addD (nameF 6) (nE (lcF [9] (itA rng1 (consF (nameF 1) nilF)) (gNm 9) (cond1 sa ns) (dispF .tup (consF (nameF 7) (consF (nameF 9) nilF))))))
theorem rng1_nat {n : Nat} (h : n ≤ 100000) : rng1 [.int (n : Nat)] = some (rangeL 0 n) := by
  show (if -100000 ≤ (n : Int) ∧ (n : Int) ≤ 100000 then some (rangeL 0 (n : Int).toNat) else none) = _
  rw [if_pos (by omega)]
  simp
theorem addD_lst {a b : List D} (h : a.length + b.length ≤ 100000) : addD (.lst a) (.lst b) = some (.lst (a ++ b)) := by
  show (if a.length + b.length ≤ 100000 then some (D.lst (a ++ b)) else none) = _
  rw [if_pos h]
theorem inner {n : Nat} {x7 x9 : Sl} (hl : RowOk sa l) (hw : w ≤ 4) (hn : n ≤ 4) : ∃ cs l' y7 y9, forF (gNm 7) (body1 sa ns) (rangeL 1 n) [Sl.pr l, Sl.va (.int (w : Nat)), x2, x3, x4, x5, Sl.va (.lst []), x7, x8, x9] = .nx [Sl.pr l', Sl.va (.int (w : Nat)), x2, x3, x4, x5, Sl.va (.lst (cs.map cpD)), y7, x8, y9] ∧ CUp n w cs ∧ RowOk sa l' := by
  obtain ⟨e', h1, h2⟩ := forF_inv (g := gNm 7) (b := body1 sa ns) (fun i e => ∃ cs l' y7 y9, e = [Sl.pr l', Sl.va (.int (w : Nat)), x2, x3, x4, x5, Sl.va (.lst (cs.map cpD)), y7, x8, y9] ∧ CUp i w cs ∧ RowOk sa l') (rangeL 1 n) 0 [Sl.pr l, Sl.va (.int (w : Nat)), x2, x3, x4, x5, Sl.va (.lst []), x7, x8, x9]
    ⟨[], l, x7, x9, rfl, CUp.nil, hl⟩ (fun j d e hj hp => by
      obtain ⟨cs, l1, y7, y9, rfl, hc, hl1⟩ := hp
      obtain ⟨hj, rfl⟩ := rng_at hj
      rw [Nat.zero_add] at hc ⊢
      obtain ⟨ps, l2, hlc, hu, hl2⟩ := comp1 (ns := ns) (w := w) (x1 := Sl.va (.int (w : Nat))) (x2 := x2) (x3 := x3) (x4 := x4) (x5 := x5) (x6 := Sl.va (.lst (cs.map cpD))) (x8 := x8) (age := 1 + (j : Nat)) hl1
      have hlen : (cs.map cpD).length + (ps.map fun p => cpD (1 + ((j : Nat) : Int), p)).length ≤ 100000 := by
        have h1 := hc.2.2
        have h2 := hu.2.2
        have h3 : j * w ≤ 4 * 4 := Nat.mul_le_mul (by omega) hw
        rw [List.length_map, List.length_map]
        omega
      refine ⟨[Sl.pr l1, Sl.va (.int (w : Nat)), x2, x3, x4, x5, Sl.va (.lst (cs.map cpD)), Sl.va (.int (1 + (j : Nat))), x8, y9], [Sl.pr l2, Sl.va (.int (w : Nat)), x2, x3, x4, x5, Sl.va (.lst ((cs ++ ps.map fun p => (((j : Nat) : Int) + 1, p)).map cpD)), Sl.va (.int (1 + (j : Nat))), x8, keepVa (some y9)], rfl, .inl ?_, _, l2, _, _, rfl, hc.more hu, hl2⟩
      have eq1 : (cs ++ ps.map fun p => (((j : Nat) : Int) + 1, p)).map cpD = cs.map cpD ++ ps.map fun p => cpD (1 + ((j : Nat) : Int), p) := by
        rw [List.map_append, List.map_map, Int.add_comm]
        rfl
      rw [eq1]
      simp only [body1, runR, runF, noErr, rowOf, List.map_cons, List.map_nil, List.cons_append, List.nil_append, List.length_cons, List.length_nil, List.replicate, Nat.reduceAdd, Nat.reduceSub, Nat.zero_add, Nat.sub_self, seqF, ifS, setF, setIF, retF, dropF, skipF, augF, setNF, parF, setMs, mdF, mnF, mnilF, Mx.sl, appF, extF, guardO, isOw, setRow, rowAt, rowRes, goR, goF, callDF, callRF, frR, raiseF, excOf, nameF, conF, op2F, un1F, bF, chainF, truF, truR, andF, orF, notF, tandF, torF, tnotF, ifF, nilF, consF, dispF, ndispF, nE, callF, ncallF, liftA, liftN, optR, optN, lift1, lift2, R.bind, R.toS, hd, hdS, fz, fzS, fzs, hds, truD, gNm, gTp, gsCons, gsNil, itF, itA, optI, itemsD, forS, yesF, List.getElem?_cons_zero, List.getElem?_cons_succ, List.set_cons_zero, List.set_cons_succ, List.length_set, Option.bind, Option.map, if_true, if_false, ite_true, ite_false, reduceIte, Nat.reduceLT, Nat.reduceLeDiff, Bool.not_true, Bool.not_false, Nat.lt_add_left_iff_pos, Nat.zero_lt_succ, Bool.false_eq_true, Bool.true_eq_false, reduceCtorEq, lcF, rng1_nat (show w ≤ 100000 by omega), rangeL_len, show w ≤ 100000 from by omega, wipeE, hlc, restE, addD_lst hlen])
  obtain ⟨cs, l', y7, y9, rfl, hc, hl'⟩ := h2
  rw [rangeL_len, Nat.zero_add] at hc
  exact ⟨cs, l', y7, y9, h1, hc, hl'⟩
def OkRd (w late i : Nat) (r : Rd) : Prop := CUp (min late i) w r.copies ∧ Up w r.places
def OkRs (w late : Nat) (rs : List Rd) : Prop := ∀ i r, rs[i]? = some r → OkRd w late i r
theorem OkRs.snoc {w late : Nat} {rs : List Rd} {r : Rd} (h : OkRs w late rs) (hr : OkRd w late rs.length r) : OkRs w late (rs ++ [r]) := fun i q hq => by
  rcases Nat.lt_or_ge i rs.length with hi | hi
  · rw [List.getElem?_append_left hi] at hq
    exact h i q hq
  · rw [List.getElem?_append_right hi] at hq
    cases e : i - rs.length with
    | zero =>
      rw [e] at hq
      cases hq
      have : i = rs.length := by omega
      rw [this]
      exact hr
    | succ k =>
      rw [e] at hq
      cases hq
theorem min2_nat {a b : Nat} : min2D [.int (a : Nat), .int (b : Nat)] = some (.int ((min a b : Nat) : Int)) := by
  show some (D.int (if (b : Int) < (a : Int) then (b : Int) else (a : Int))) = _
  by_cases h : b < a
  · rw [if_pos (by omega), Nat.min_eq_right (by omega)]
  · rw [if_neg (by omega), Nat.min_eq_left (by omega)]
theorem rng2_nat {n : Nat} (h : n ≤ 10000) : rng2 [.int 1, .int ((n : Int) + 1)] = some (rangeL 1 n) := by
  show (if -100000 ≤ (1 : Int) ∧ (1 : Int) ≤ 100000 ∧ -100000 ≤ (n : Int) + 1 ∧ (n : Int) + 1 ≤ 100000 then some (rangeL 1 ((n : Int) + 1 - 1).toNat) else none) = _
  rw [if_pos (by omega)]
  congr 2
  omega
abbrev body2 (sa : Addr) (ns : List Int) : PL.Env → SR := (seqF (setF (gNm 6) (nE (ndispF nilF)))
  (seqF (forS (itA rng2 (consF (conF (.int 1)) (consF (op2F addD (callF min2D (consF (nameF 2) (consF (nameF 5) nilF))) (conF (.int 1))) nilF))) (gNm 7) (body1 sa ns))
  (seqF (setF (gNm 8) (callF tupC (consF (nE (lcF [9] (itA rng1 (consF (nameF 1) nilF)) (gNm 9) (bF (op2F gtD (callRF 1 (g__law_taken sa ns) (consF (nameF 0) (consF (conF (.int 4)) nilF))) (conF (.int 0)))) (nameF 9))) nilF)))
  (dropF (guardO 4 (appF 4 (dispF .tup (consF (callF tupC (consF (nameF 6) nilF)) (consF (nameF 8) (consF (op2F eqD (callRF 1 (g__law_taken sa ns) (consF (nameF 0) (consF (conF (.int 2)) nilF))) (conF (.int 0))) nilF))))))))))
theorem rounds_ok {late many : Nat} (hl : RowOk sa l) (hw : w ≤ 4) (hlt : late ≤ 4) (hm : many ≤ 40) : ∃ rs l', g__law_rounds sa ns l [.int (w : Nat), .int (late : Nat), .int (many : Nat)] = some (.tup (rs.map Rd.d), l') ∧ rs.length = many ∧ OkRs w late rs ∧ RowOk sa l' := by
  obtain ⟨e', h1, h2⟩ := forF_inv (g := gNm 5) (b := body2 sa ns) (fun i e => ∃ rs l' y5 y6 y7 y8 y9, e = [Sl.pr l', Sl.va (.int (w : Nat)), Sl.va (.int (late : Nat)), Sl.va (.int (many : Nat)), Sl.ow (rs.map Rd.d), y5, y6, y7, y8, y9] ∧ rs.length = i ∧ i ≤ many ∧ OkRs w late rs ∧ RowOk sa l') (rangeL 0 many) 0
    [Sl.pr l, Sl.va (.int (w : Nat)), Sl.va (.int (late : Nat)), Sl.va (.int (many : Nat)), Sl.ow [], Sl.no, Sl.no, Sl.no, Sl.no, Sl.no] ⟨[], l, _, _, _, _, _, rfl, rfl, Nat.zero_le _, fun i r q => (by cases q), hl⟩ (fun j d e hj hp => by
      obtain ⟨rs, l1, y5, y6, y7, y8, y9, rfl, hrl, hjm, ho, hl1⟩ := hp
      obtain ⟨hj, rfl⟩ := rng_at hj
      rw [Nat.zero_add] at hrl hjm ⊢
      rw [Int.zero_add]
      obtain ⟨cs, l2, z7, z9, e2, hc, hl2⟩ := inner (sa := sa) (ns := ns) (w := w) (n := min late j) (x2 := Sl.va (.int (late : Nat))) (x3 := Sl.va (.int (many : Nat))) (x4 := Sl.ow (rs.map Rd.d)) (x5 := Sl.va (.int (j : Nat))) (x7 := y7) (x8 := y8) (x9 := y9) hl1 hw (Nat.le_trans (Nat.min_le_left _ _) hlt)
      obtain ⟨ps, l3, e3, hu, hl3⟩ := comp2 (sa := sa) (ns := ns) (w := w) (x1 := Sl.va (.int (w : Nat))) (x2 := Sl.va (.int (late : Nat))) (x3 := Sl.va (.int (many : Nat))) (x4 := Sl.ow (rs.map Rd.d)) (x5 := Sl.va (.int (j : Nat))) (x6 := Sl.va (.lst (cs.map cpD))) (x7 := z7) (x8 := y8) hl2
      obtain ⟨v, l4, hv, v0, v2, hl4⟩ := tk (ns := ns) (m := 2) hl3 (by omega) (by omega)
      refine ⟨_, [Sl.pr l4, Sl.va (.int (w : Nat)), Sl.va (.int (late : Nat)), Sl.va (.int (many : Nat)), Sl.ow ((rs ++ [(⟨cs, ps, v == 0⟩ : Rd)]).map Rd.d), Sl.va (.int (j : Nat)), Sl.va (.lst (cs.map cpD)), z7, Sl.va (.tup (ps.map D.int)), keepVa (some z9)], rfl, .inl ?_, _, l4, _, _, _, _, _, rfl, by rw [List.length_append, hrl]; rfl, by omega, ho.snoc ⟨by rw [hrl]; exact hc, hu⟩, hl4⟩
      have eq1 : (rs ++ [(⟨cs, ps, v == 0⟩ : Rd)]).map Rd.d = rs.map Rd.d ++ [.tup [.tup (cs.map cpD), .tup (ps.map D.int), .bl (v == 0)]] := by
        rw [List.map_append]
        rfl
      have hle : (rs.map Rd.d).length < 100000 := by rw [List.length_map]; omega
      rw [eq1]
      simp only [body2, runR, runF, noErr, rowOf, List.map_cons, List.map_nil, List.cons_append, List.nil_append, List.length_cons, List.length_nil, List.replicate, Nat.reduceAdd, Nat.reduceSub, Nat.zero_add, Nat.sub_self, seqF, ifS, setF, setIF, retF, dropF, skipF, augF, setNF, parF, setMs, mdF, mnF, mnilF, Mx.sl, appF, extF, guardO, isOw, setRow, rowAt, rowRes, goR, goF, callDF, callRF, frR, raiseF, excOf, nameF, conF, op2F, un1F, bF, chainF, truF, truR, andF, orF, notF, tandF, torF, tnotF, ifF, nilF, consF, dispF, ndispF, nE, callF, ncallF, liftA, liftN, optR, optN, lift1, lift2, R.bind, R.toS, hd, hdS, fz, fzS, fzs, hds, truD, gNm, gTp, gsCons, gsNil, itF, itA, optI, itemsD, forS, yesF, List.getElem?_cons_zero, List.getElem?_cons_succ, List.set_cons_zero, List.set_cons_succ, List.length_set, Option.bind, Option.map, if_true, if_false, ite_true, ite_false, reduceIte, Nat.reduceLT, Nat.reduceLeDiff, Bool.not_true, Bool.not_false, Nat.lt_add_left_iff_pos, Nat.zero_lt_succ, Bool.false_eq_true, Bool.true_eq_false, reduceCtorEq, min2_nat, addD, rng2_nat (show min late j ≤ 10000 by omega), e2, lcF, rng1_nat (show w ≤ 100000 by omega), rangeL_len, show w ≤ 100000 from by omega, wipeE, e3, restE, tupC, hv, eqD_int, hle])
  obtain ⟨rs, l', y5, y6, y7, y8, y9, rfl, hrl, hjm, ho, hl'⟩ := h2
  rw [rangeL_len, Nat.zero_add] at hrl
  refine ⟨rs, l', ?_, hrl, ho, hl'⟩
  unfold g__law_rounds phi__law_rounds
  have e5 : forF (gNm 5) (body2 sa ns) (rangeL 0 many) [Sl.pr l, Sl.va (.int (w : Nat)), Sl.va (.int (late : Nat)), Sl.va (.int (many : Nat)), Sl.ow [], Sl.no, Sl.no, Sl.no, Sl.no, Sl.no] = _ := h1
  unfold body2 body1 cond1 at e5
  simp only [runR, rowOf, List.map_cons, List.map_nil, List.cons_append, List.nil_append, List.length_cons, List.length_nil, List.replicate, Nat.reduceAdd, Nat.reduceSub, Nat.zero_add, seqF, setNF, ndispF, nilF, fzs, R.bind, R.toS, Nat.zero_le, if_true, forS, itA, consF, nameF, List.getElem?_cons_zero, List.getElem?_cons_succ, fz, rng1_nat (show many ≤ 100000 by omega), optI, Nat.reduceLT, List.set_cons_zero, List.set_cons_succ, Nat.reduceLeDiff, e5, retF, callF, hds, hd, hdS, tupC, liftA, optR, reduceIte]
end
end G41
set_option Elab.async false
set_option linter.all false
set_option maxRecDepth 100000
set_option maxHeartbeats 4000000
/-! k41, the plain law, 2: what is run. -/
namespace G41
open PySem PySem.Spec PyProof.Rows L2 PL
def stepM (m : Int) (st : List Int × Int) (x : Int) : List Int × Int := if x % m = st.2 % m then (st.1 ++ [x], st.2 + 1) else st
def foldM (m : Int) (ms : List Int) (st : List Int × Int) : List Int × Int := ms.foldl (stepM m) st
theorem foldM_len (m : Int) : ∀ (ms : List Int) (st : List Int × Int), (foldM m ms st).1.length ≤ st.1.length + ms.length
  | [], st => Nat.le_refl _
  | x :: ms, st => by
    have h := foldM_len m ms (stepM m st x)
    have h2 : (stepM m st x).1.length ≤ st.1.length + 1 := by
      unfold stepM
      split
      · simp
      · omega
    show (foldM m ms (stepM m st x)).1.length ≤ _
    rw [List.length_cons]
    omega
section
variable {m : Int} {x1 x2 x3 x4 x5 x6 x7 x8 x9 x11 x12 x13 : Sl}
abbrev bL : PL.Env → SR := (ifS (bF (op2F eqD (op2F modD (callF intC (consF (nameF 11) nilF)) (nameF 0)) (op2F modD (callF intC (consF (nameF 4) nilF)) (nameF 0)))) (seqF (dropF (guardO 10 (appF 10 (nameF 11))))
  (setF (gNm 4) (op2F addD (nameF 4) (conF (.int 1))))) skipF)
theorem loopL (hm : 0 < m) : ∀ (ms : List Int) (st : List Int × Int) (x11 : Sl), st.1.length + ms.length < 100000 → ∃ y11, forF (gNm 11) bL (ms.map D.int) [Sl.va (.int m), x1, x2, x3, Sl.va (.int st.2), x5, x6, x7, x8, x9, Sl.ow (st.1.map D.int), x11, x12, x13] = .nx [Sl.va (.int m), x1, x2, x3, Sl.va (.int (foldM m ms st).2), x5, x6, x7, x8, x9, Sl.ow ((foldM m ms st).1.map D.int), y11, x12, x13]
  | [], st, x11, _ => ⟨x11, rfl⟩
  | x :: ms, st, x11, hl => by
    rw [List.length_cons] at hl
    have hl2 : (stepM m st x).1.length + ms.length < 100000 := by
      unfold stepM
      split
      · rw [List.length_append, List.length_singleton]; omega
      · omega
    obtain ⟨y, h⟩ := loopL hm ms (stepM m st x) (Sl.va (.int x)) hl2
    refine ⟨y, ?_⟩
    rw [List.map_cons]
    show forF (gNm 11) bL (D.int x :: ms.map D.int) _ = .nx [_, _, _, _, Sl.va (.int (foldM m ms (stepM m st x)).2), _, _, _, _, _, Sl.ow ((foldM m ms (stepM m st x)).1.map D.int), _, _, _]
    unfold forF
    have hlt : (st.1.map D.int).length < 100000 := by rw [List.length_map]; omega
    by_cases c : x % m = st.2 % m
    · have e1 : stepM m st x = (st.1 ++ [x], st.2 + 1) := if_pos c
      have e2 : (st.1 ++ [x]).map D.int = st.1.map D.int ++ [.int x] := by simp
      rw [e1] at h ⊢
      rw [← h, e2]
      simp only [bL, runR, runF, noErr, rowOf, List.map_cons, List.map_nil, List.cons_append, List.nil_append, List.length_cons, List.length_nil, List.replicate, Nat.reduceAdd, Nat.reduceSub, Nat.zero_add, Nat.sub_self, seqF, ifS, setF, setIF, retF, dropF, skipF, augF, setNF, parF, setMs, mdF, mnF, mnilF, Mx.sl, appF, extF, guardO, isOw, setRow, rowAt, rowRes, goR, goF, callDF, callRF, frR, raiseF, excOf, nameF, conF, op2F, un1F, bF, chainF, truF, truR, andF, orF, notF, tandF, torF, tnotF, ifF, nilF, consF, dispF, ndispF, nE, callF, ncallF, liftA, liftN, optR, optN, lift1, lift2, R.bind, R.toS, hd, hdS, fz, fzS, fzs, hds, truD, gNm, gTp, gsCons, gsNil, itF, itA, optI, itemsD, forS, yesF, List.getElem?_cons_zero, List.getElem?_cons_succ, List.set_cons_zero, List.set_cons_succ, List.length_set, Option.bind, Option.map, if_true, if_false, ite_true, ite_false, reduceIte, Nat.reduceLT, Nat.reduceLeDiff, Bool.not_true, Bool.not_false, Nat.lt_add_left_iff_pos, Nat.zero_lt_succ, Bool.false_eq_true, Bool.true_eq_false, reduceCtorEq, intC, modD, PL.intD, hm, decide_true, eqD_int, c, beq_self_eq_true, hlt, addD]
    · have e1 : stepM m st x = st := if_neg c
      have hb : (x % m == st.2 % m) = false := by simpa using c
      rw [e1] at h ⊢
      rw [← h]
      simp only [bL, runR, runF, noErr, rowOf, List.map_cons, List.map_nil, List.cons_append, List.nil_append, List.length_cons, List.length_nil, List.replicate, Nat.reduceAdd, Nat.reduceSub, Nat.zero_add, Nat.sub_self, seqF, ifS, setF, setIF, retF, dropF, skipF, augF, setNF, parF, setMs, mdF, mnF, mnilF, Mx.sl, appF, extF, guardO, isOw, setRow, rowAt, rowRes, goR, goF, callDF, callRF, frR, raiseF, excOf, nameF, conF, op2F, un1F, bF, chainF, truF, truR, andF, orF, notF, tandF, torF, tnotF, ifF, nilF, consF, dispF, ndispF, nE, callF, ncallF, liftA, liftN, optR, optN, lift1, lift2, R.bind, R.toS, hd, hdS, fz, fzS, fzs, hds, truD, gNm, gTp, gsCons, gsNil, itF, itA, optI, itemsD, forS, yesF, List.getElem?_cons_zero, List.getElem?_cons_succ, List.set_cons_zero, List.set_cons_succ, List.length_set, Option.bind, Option.map, if_true, if_false, ite_true, ite_false, reduceIte, Nat.reduceLT, Nat.reduceLeDiff, Bool.not_true, Bool.not_false, Nat.lt_add_left_iff_pos, Nat.zero_lt_succ, Bool.false_eq_true, Bool.true_eq_false, reduceCtorEq, intC, modD, PL.intD, hm, decide_true, eqD_int, hb]
abbrev bP : PL.Env → SR := (ifS (bF (op2F eqD (op2F modD (nameF 10) (nameF 0)) (op2F modD (nameF 5) (nameF 0)))) (seqF (dropF (guardO 9 (appF 9 (nameF 10))))
  (augF 5 (fun i j => i + j) (conF (.int 1)))) skipF)
theorem loopP (hm : 0 < m) : ∀ (ms : List Int) (st : List Int × Int) (x10 : Sl), st.1.length + ms.length < 100000 → ∃ y10, forF (gNm 10) bP (ms.map D.int) [Sl.va (.int m), x1, x2, x3, x4, Sl.va (.int st.2), x6, x7, x8, Sl.ow (st.1.map D.int), x10, x11, x12] = .nx [Sl.va (.int m), x1, x2, x3, x4, Sl.va (.int (foldM m ms st).2), x6, x7, x8, Sl.ow ((foldM m ms st).1.map D.int), y10, x11, x12]
  | [], st, x10, _ => ⟨x10, rfl⟩
  | x :: ms, st, x10, hl => by
    rw [List.length_cons] at hl
    have hl2 : (stepM m st x).1.length + ms.length < 100000 := by
      unfold stepM
      split
      · rw [List.length_append, List.length_singleton]; omega
      · omega
    obtain ⟨y, h⟩ := loopP hm ms (stepM m st x) (Sl.va (.int x)) hl2
    refine ⟨y, ?_⟩
    rw [List.map_cons]
    show forF (gNm 10) bP (D.int x :: ms.map D.int) _ = .nx [_, _, _, _, _, Sl.va (.int (foldM m ms (stepM m st x)).2), _, _, _, Sl.ow ((foldM m ms (stepM m st x)).1.map D.int), _, _, _]
    unfold forF
    have hlt : (st.1.map D.int).length < 100000 := by rw [List.length_map]; omega
    by_cases c : x % m = st.2 % m
    · have e1 : stepM m st x = (st.1 ++ [x], st.2 + 1) := if_pos c
      have e2 : (st.1 ++ [x]).map D.int = st.1.map D.int ++ [.int x] := by simp
      rw [e1] at h ⊢
      rw [← h, e2]
      simp only [bP, runR, runF, noErr, rowOf, List.map_cons, List.map_nil, List.cons_append, List.nil_append, List.length_cons, List.length_nil, List.replicate, Nat.reduceAdd, Nat.reduceSub, Nat.zero_add, Nat.sub_self, seqF, ifS, setF, setIF, retF, dropF, skipF, augF, setNF, parF, setMs, mdF, mnF, mnilF, Mx.sl, appF, extF, guardO, isOw, setRow, rowAt, rowRes, goR, goF, callDF, callRF, frR, raiseF, excOf, nameF, conF, op2F, un1F, bF, chainF, truF, truR, andF, orF, notF, tandF, torF, tnotF, ifF, nilF, consF, dispF, ndispF, nE, callF, ncallF, liftA, liftN, optR, optN, lift1, lift2, R.bind, R.toS, hd, hdS, fz, fzS, fzs, hds, truD, gNm, gTp, gsCons, gsNil, itF, itA, optI, itemsD, forS, yesF, List.getElem?_cons_zero, List.getElem?_cons_succ, List.set_cons_zero, List.set_cons_succ, List.length_set, Option.bind, Option.map, if_true, if_false, ite_true, ite_false, reduceIte, Nat.reduceLT, Nat.reduceLeDiff, Bool.not_true, Bool.not_false, Nat.lt_add_left_iff_pos, Nat.zero_lt_succ, Bool.false_eq_true, Bool.true_eq_false, reduceCtorEq, intC, modD, PL.intD, hm, decide_true, eqD_int, c, beq_self_eq_true, hlt, addD]
    · have e1 : stepM m st x = st := if_neg c
      have hb : (x % m == st.2 % m) = false := by simpa using c
      rw [e1] at h ⊢
      rw [← h]
      simp only [bP, runR, runF, noErr, rowOf, List.map_cons, List.map_nil, List.cons_append, List.nil_append, List.length_cons, List.length_nil, List.replicate, Nat.reduceAdd, Nat.reduceSub, Nat.zero_add, Nat.sub_self, seqF, ifS, setF, setIF, retF, dropF, skipF, augF, setNF, parF, setMs, mdF, mnF, mnilF, Mx.sl, appF, extF, guardO, isOw, setRow, rowAt, rowRes, goR, goF, callDF, callRF, frR, raiseF, excOf, nameF, conF, op2F, un1F, bF, chainF, truF, truR, andF, orF, notF, tandF, torF, tnotF, ifF, nilF, consF, dispF, ndispF, nE, callF, ncallF, liftA, liftN, optR, optN, lift1, lift2, R.bind, R.toS, hd, hdS, fz, fzS, fzs, hds, truD, gNm, gTp, gsCons, gsNil, itF, itA, optI, itemsD, forS, yesF, List.getElem?_cons_zero, List.getElem?_cons_succ, List.set_cons_zero, List.set_cons_succ, List.length_set, Option.bind, Option.map, if_true, if_false, ite_true, ite_false, reduceIte, Nat.reduceLT, Nat.reduceLeDiff, Bool.not_true, Bool.not_false, Nat.lt_add_left_iff_pos, Nat.zero_lt_succ, Bool.false_eq_true, Bool.true_eq_false, reduceCtorEq, intC, modD, PL.intD, hm, decide_true, eqD_int, hb]
end
/-! one round: fs the firsts so far (the last is the current one) -/
def nth (fs : List Int) (i : Int) : Int := fs.getD i.toNat 0
def msgs (fs : List Int) (r : Rd) : List Int := (r.copies.map fun c => nth fs ((fs.length : Int) - 1 - c.1) + c.2) ++ r.places.map fun p => nth fs ((fs.length : Int) - 1) + p
def roundR (m : Int) (fs : List Int) (wd : Int) (r : Rd) : List Int × Int := foldM m (msgs fs r) ([], wd)
def nextF (m : Int) (fs : List Int) (wd : Int) (r : Rd) : Int := if r.ans then (roundR m fs wd r).2 else nth fs ((fs.length : Int) - 1)
def itD (p : List Int × Int) : D := .tup [.tup (p.1.map D.int), .int p.2]
theorem atI_int {fs : List Int} {i : Int} (h0 : 0 ≤ i) (h1 : i < fs.length) : atI (fs.map D.int) i = some (.int (nth fs i)) := by
  have hix : ixN (fs.map D.int).length i = some i.toNat := by
    unfold ixN
    rw [List.length_map, if_pos h0, if_pos h1]
  unfold atI
  rw [hix]
  show (fs.map D.int)[i.toNat]? = _
  have : i.toNat < fs.length := by omega
  rw [List.getElem?_map, List.getElem?_eq_getElem this]
  unfold nth
  rw [List.getD_eq_getElem?_getD, List.getElem?_eq_getElem this]
  rfl
theorem atI_neg {fs : List Int} {i : Int} (h0 : i < 0) (h1 : 0 ≤ fs.length + i) : atI (fs.map D.int) i = some (.int (nth fs (fs.length + i))) := by
  have hix : ixN (fs.map D.int).length i = some (i + fs.length).toNat := by
    unfold ixN
    rw [List.length_map, if_neg (by omega), if_pos (by omega)]
  unfold atI
  rw [hix]
  show (fs.map D.int)[(i + fs.length).toNat]? = _
  have : (i + fs.length).toNat < fs.length := by omega
  have e0 : (fs.length : Int) + i = i + fs.length := Int.add_comm _ _
  rw [e0, List.getElem?_map, List.getElem?_eq_getElem this]
  unfold nth
  rw [List.getD_eq_getElem?_getD, List.getElem?_eq_getElem this]
  rfl
/-! ### the messages' comprehensions -/
def tmap (f : D → D) : D → Option D := fun d => some (f d)
theorem fm_map {α : Type} (l : List α) (g : α → D) (h : D → D) (k : α → D) (e : ∀ a ∈ l, h (g a) = k a) : (l.map g).filterMap (fun d => some (h d)) = l.map k := by
  induction l with
  | nil => rfl
  | cons a r ih =>
    rw [List.map_cons, List.filterMap_cons, List.map_cons, e a List.mem_cons_self, ih fun b hb => e b (List.mem_cons_of_mem _ hb)]
def unC : D → Int × Int
  | .tup [.int a, .int b] => (a, b)
  | _ => (0, 0)
def unI : D → Int
  | .int a => a
  | _ => 0
section
variable {m : Int} {fs : List Int} {wd : Int} {r : Rd} {x0 x1 x3 x4 x5 x6 x7 x8 x9 x10 x11 : Sl}
/-- [windows[at - age] + place for age, place in copies] -/
theorem cL1 {cs : List (Int × Int)} (hc : ∀ c ∈ cs, 1 ≤ c.1 ∧ c.1 ≤ (fs.length : Int) - 1) : lcLoop [12, 13] (gTp 2 (gsCons (gNm 12) (gsCons (gNm 13) gsNil))) yesF (op2F addD (op2F idxD (nameF 2) (op2F subD (nameF 5) (nameF 12))) (nameF 13)) (cs.map cpD) [] [x0, x1, Sl.ow (fs.map D.int), x3, x4, Sl.va (.int ((fs.length : Int) - 1)), x6, x7, x8, x9, x10, x11, Sl.no, Sl.no] =
    .ok (cs.map fun c => D.int (nth fs ((fs.length : Int) - 1 - c.1) + c.2)) [x0, x1, Sl.ow (fs.map D.int), x3, x4, Sl.va (.int ((fs.length : Int) - 1)), x6, x7, x8, x9, x10, x11, Sl.no, Sl.no] := by
  rw [lcLoop_pure (fun d => some (D.int (nth fs ((fs.length : Int) - 1 - (unC d).1) + (unC d).2))) fun d hdm => ?_]
  · rw [fm_map cs cpD _ _ fun c _ => rfl]
    rfl
  · obtain ⟨c, hcm, rfl⟩ := List.mem_map.mp hdm
    have h := hc c hcm
    have ha := atI_int (fs := fs) (i := (fs.length : Int) - 1 - c.1) (by omega) (by omega)
    refine ⟨[x0, x1, Sl.ow (fs.map D.int), x3, x4, Sl.va (.int ((fs.length : Int) - 1)), x6, x7, x8, x9, x10, x11, Sl.va (.int c.1), Sl.va (.int c.2)], [x0, x1, Sl.ow (fs.map D.int), x3, x4, Sl.va (.int ((fs.length : Int) - 1)), x6, x7, x8, x9, x10, x11, Sl.va (.int c.1), Sl.va (.int c.2)], rfl, ?_, rfl⟩
    unfold lcTurn
    simp only [runR, runF, noErr, rowOf, List.map_cons, List.map_nil, List.cons_append, List.nil_append, List.length_cons, List.length_nil, List.replicate, Nat.reduceAdd, Nat.reduceSub, Nat.zero_add, Nat.sub_self, seqF, ifS, setF, setIF, retF, dropF, skipF, augF, setNF, parF, setMs, mdF, mnF, mnilF, Mx.sl, appF, extF, guardO, isOw, setRow, rowAt, rowRes, goR, goF, callDF, callRF, frR, raiseF, excOf, nameF, conF, op2F, un1F, bF, chainF, truF, truR, andF, orF, notF, tandF, torF, tnotF, ifF, nilF, consF, dispF, ndispF, nE, callF, ncallF, liftA, liftN, optR, optN, lift1, lift2, R.bind, R.toS, hd, hdS, fz, fzS, fzs, hds, truD, gNm, gTp, gsCons, gsNil, itF, itA, optI, itemsD, forS, yesF, List.getElem?_cons_zero, List.getElem?_cons_succ, List.set_cons_zero, List.set_cons_succ, List.length_set, Option.bind, Option.map, if_true, if_false, ite_true, ite_false, reduceIte, Nat.reduceLT, Nat.reduceLeDiff, Bool.not_true, Bool.not_false, Nat.lt_add_left_iff_pos, Nat.zero_lt_succ, Bool.false_eq_true, Bool.true_eq_false, reduceCtorEq, subD, int0D, idxD, ha, addD, cpD, unC]
theorem cL2 {x12 : Sl} {ps : List Int} (hf : 0 < fs.length) : lcLoop [13] (gNm 13) yesF (op2F addD (op2F idxD (nameF 2) (nameF 5)) (nameF 13)) (ps.map D.int) [] [x0, x1, Sl.ow (fs.map D.int), x3, x4, Sl.va (.int ((fs.length : Int) - 1)), x6, x7, x8, x9, x10, x11, x12, Sl.no] =
    .ok (ps.map fun p => D.int (nth fs ((fs.length : Int) - 1) + p)) [x0, x1, Sl.ow (fs.map D.int), x3, x4, Sl.va (.int ((fs.length : Int) - 1)), x6, x7, x8, x9, x10, x11, x12, Sl.no] := by
  rw [lcLoop_pure (fun d => some (D.int (nth fs ((fs.length : Int) - 1) + unI d))) fun d hdm => ?_]
  · rw [fm_map ps D.int _ _ fun c _ => rfl]
    rfl
  · obtain ⟨c, hcm, rfl⟩ := List.mem_map.mp hdm
    have ha := atI_int (fs := fs) (i := (fs.length : Int) - 1) (by omega) (by omega)
    refine ⟨[x0, x1, Sl.ow (fs.map D.int), x3, x4, Sl.va (.int ((fs.length : Int) - 1)), x6, x7, x8, x9, x10, x11, x12, Sl.va (.int c)], [x0, x1, Sl.ow (fs.map D.int), x3, x4, Sl.va (.int ((fs.length : Int) - 1)), x6, x7, x8, x9, x10, x11, x12, Sl.va (.int c)], rfl, ?_, rfl⟩
    unfold lcTurn
    simp only [runR, runF, noErr, rowOf, List.map_cons, List.map_nil, List.cons_append, List.nil_append, List.length_cons, List.length_nil, List.replicate, Nat.reduceAdd, Nat.reduceSub, Nat.zero_add, Nat.sub_self, seqF, ifS, setF, setIF, retF, dropF, skipF, augF, setNF, parF, setMs, mdF, mnF, mnilF, Mx.sl, appF, extF, guardO, isOw, setRow, rowAt, rowRes, goR, goF, callDF, callRF, frR, raiseF, excOf, nameF, conF, op2F, un1F, bF, chainF, truF, truR, andF, orF, notF, tandF, torF, tnotF, ifF, nilF, consF, dispF, ndispF, nE, callF, ncallF, liftA, liftN, optR, optN, lift1, lift2, R.bind, R.toS, hd, hdS, fz, fzS, fzs, hds, truD, gNm, gTp, gsCons, gsNil, itF, itA, optI, itemsD, forS, yesF, List.getElem?_cons_zero, List.getElem?_cons_succ, List.set_cons_zero, List.set_cons_succ, List.length_set, Option.bind, Option.map, if_true, if_false, ite_true, ite_false, reduceIte, Nat.reduceLT, Nat.reduceLeDiff, Bool.not_true, Bool.not_false, Nat.lt_add_left_iff_pos, Nat.zero_lt_succ, Bool.false_eq_true, Bool.true_eq_false, reduceCtorEq, idxD, ha, addD, unI]
/-- [firsts[-1 - age] + place for age, place in copies] -/
theorem cP1 {cs : List (Int × Int)} {x2 : Sl} (hc : ∀ c ∈ cs, 1 ≤ c.1 ∧ c.1 ≤ (fs.length : Int) - 1) : lcLoop [11, 12] (gTp 2 (gsCons (gNm 11) (gsCons (gNm 12) gsNil))) yesF (op2F addD (op2F idxD (nameF 2) (op2F subD (un1F negD (conF (.int 1))) (nameF 11))) (nameF 12)) (cs.map cpD) [] [x0, x1, Sl.ow (fs.map D.int), x3, x4, x5, x6, x7, x8, x9, x10, Sl.no, Sl.no] =
    .ok (cs.map fun c => D.int (nth fs ((fs.length : Int) - 1 - c.1) + c.2)) [x0, x1, Sl.ow (fs.map D.int), x3, x4, x5, x6, x7, x8, x9, x10, Sl.no, Sl.no] := by
  rw [lcLoop_pure (fun d => some (D.int (nth fs ((fs.length : Int) - 1 - (unC d).1) + (unC d).2))) fun d hdm => ?_]
  · rw [fm_map cs cpD _ _ fun c _ => rfl]
    rfl
  · obtain ⟨c, hcm, rfl⟩ := List.mem_map.mp hdm
    have h := hc c hcm
    have ha := atI_neg (fs := fs) (i := -1 - c.1) (by omega) (by omega)
    have e0 : (fs.length : Int) + (-1 - c.1) = (fs.length : Int) - 1 - c.1 := by omega
    rw [e0] at ha
    refine ⟨[x0, x1, Sl.ow (fs.map D.int), x3, x4, x5, x6, x7, x8, x9, x10, Sl.va (.int c.1), Sl.va (.int c.2)], [x0, x1, Sl.ow (fs.map D.int), x3, x4, x5, x6, x7, x8, x9, x10, Sl.va (.int c.1), Sl.va (.int c.2)], rfl, ?_, rfl⟩
    unfold lcTurn
    simp only [runR, runF, noErr, rowOf, List.map_cons, List.map_nil, List.cons_append, List.nil_append, List.length_cons, List.length_nil, List.replicate, Nat.reduceAdd, Nat.reduceSub, Nat.zero_add, Nat.sub_self, seqF, ifS, setF, setIF, retF, dropF, skipF, augF, setNF, parF, setMs, mdF, mnF, mnilF, Mx.sl, appF, extF, guardO, isOw, setRow, rowAt, rowRes, goR, goF, callDF, callRF, frR, raiseF, excOf, nameF, conF, op2F, un1F, bF, chainF, truF, truR, andF, orF, notF, tandF, torF, tnotF, ifF, nilF, consF, dispF, ndispF, nE, callF, ncallF, liftA, liftN, optR, optN, lift1, lift2, R.bind, R.toS, hd, hdS, fz, fzS, fzs, hds, truD, gNm, gTp, gsCons, gsNil, itF, itA, optI, itemsD, forS, yesF, List.getElem?_cons_zero, List.getElem?_cons_succ, List.set_cons_zero, List.set_cons_succ, List.length_set, Option.bind, Option.map, if_true, if_false, ite_true, ite_false, reduceIte, Nat.reduceLT, Nat.reduceLeDiff, Bool.not_true, Bool.not_false, Nat.lt_add_left_iff_pos, Nat.zero_lt_succ, Bool.false_eq_true, Bool.true_eq_false, reduceCtorEq, subD, int0D, negD, idxD, ha, addD, cpD, unC]
theorem cP2 {ps : List Int} {f : Int} {x2 : Sl} : lcLoop [12] (gNm 12) yesF (op2F addD (nameF 4) (nameF 12)) (ps.map D.int) [] [x0, x1, x2, x3, Sl.va (.int f), x5, x6, x7, x8, x9, x10, x11, Sl.no] =
    .ok (ps.map fun p => D.int (f + p)) [x0, x1, x2, x3, Sl.va (.int f), x5, x6, x7, x8, x9, x10, x11, Sl.no] := by
  rw [lcLoop_pure (fun d => some (D.int (f + unI d))) fun d hdm => ?_]
  · rw [fm_map ps D.int _ _ fun c _ => rfl]
    rfl
  · obtain ⟨c, hcm, rfl⟩ := List.mem_map.mp hdm
    refine ⟨[x0, x1, x2, x3, Sl.va (.int f), x5, x6, x7, x8, x9, x10, x11, Sl.va (.int c)], [x0, x1, x2, x3, Sl.va (.int f), x5, x6, x7, x8, x9, x10, x11, Sl.va (.int c)], rfl, ?_, rfl⟩
    unfold lcTurn
    simp only [runR, runF, noErr, rowOf, List.map_cons, List.map_nil, List.cons_append, List.nil_append, List.length_cons, List.length_nil, List.replicate, Nat.reduceAdd, Nat.reduceSub, Nat.zero_add, Nat.sub_self, seqF, ifS, setF, setIF, retF, dropF, skipF, augF, setNF, parF, setMs, mdF, mnF, mnilF, Mx.sl, appF, extF, guardO, isOw, setRow, rowAt, rowRes, goR, goF, callDF, callRF, frR, raiseF, excOf, nameF, conF, op2F, un1F, bF, chainF, truF, truR, andF, orF, notF, tandF, torF, tnotF, ifF, nilF, consF, dispF, ndispF, nE, callF, ncallF, liftA, liftN, optR, optN, lift1, lift2, R.bind, R.toS, hd, hdS, fz, fzS, fzs, hds, truD, gNm, gTp, gsCons, gsNil, itF, itA, optI, itemsD, forS, yesF, List.getElem?_cons_zero, List.getElem?_cons_succ, List.set_cons_zero, List.set_cons_succ, List.length_set, Option.bind, Option.map, if_true, if_false, ite_true, ite_false, reduceIte, Nat.reduceLT, Nat.reduceLeDiff, Bool.not_true, Bool.not_false, Nat.lt_add_left_iff_pos, Nat.zero_lt_succ, Bool.false_eq_true, Bool.true_eq_false, reduceCtorEq, addD, unI]
abbrev roundL : PL.Env → SR := (seqF (setF (gTp 3 (gsCons (gNm 6) (gsCons (gNm 7) (gsCons (gNm 8) gsNil)))) (op2F idxD (nameF 1) (nameF 5)))
  (seqF (setF (gNm 9) (op2F addD (nE (lcF [12, 13] (itF (nameF 6)) (gTp 2 (gsCons (gNm 12) (gsCons (gNm 13) gsNil))) yesF (op2F addD (op2F idxD (nameF 2) (op2F subD (nameF 5) (nameF 12))) (nameF 13)))) (nE (lcF [13] (itF (nameF 7)) (gNm 13) yesF (op2F addD (op2F idxD (nameF 2) (nameF 5)) (nameF 13))))))
  (seqF (setNF 10 (ndispF nilF))
  (seqF (forS (itF (nameF 9)) (gNm 11) bL)
  (seqF (dropF (guardO 2 (appF 2 (ifF (truF (nameF 8)) (nameF 4) (op2F idxD (nameF 2) (nameF 5))))))
  (dropF (guardO 3 (appF 3 (dispF .tup (consF (callF tupC (consF (nameF 10) nilF)) (consF (op2F idxD (nameF 2) (un1F negD (conF (.int 1)))) nilF)))))))))))
theorem msgs_map : (r.copies.map fun c => D.int (nth fs ((fs.length : Int) - 1 - c.1) + c.2)) ++ (r.places.map fun p => D.int (nth fs ((fs.length : Int) - 1) + p)) = (msgs fs r).map D.int := by
  unfold msgs
  rw [List.map_append, List.map_map, List.map_map]
  rfl
theorem nth_last {x : Int} : nth (fs ++ [x]) (((fs ++ [x]).length : Int) - 1) = x := by
  unfold nth
  have : ((((fs ++ [x]).length : Nat) : Int) - 1).toNat = fs.length := by
    rw [List.length_append, List.length_singleton]
    omega
  rw [this, List.getD_eq_getElem?_getD, List.getElem?_append_right (Nat.le_refl _)]
  simp
theorem roundL_ok {rds : List D} {items : List D} {x12 x13 : Sl} (hm : 0 < m) (hr : atI rds ((fs.length : Int) - 1) = some r.d) (hf : 0 < fs.length) (hc : ∀ c ∈ r.copies, 1 ≤ c.1 ∧ c.1 ≤ (fs.length : Int) - 1) (hb : r.copies.length + r.places.length ≤ 1000) (hfl : fs.length ≤ 1000) (hil : items.length ≤ 1000) :
    ∃ y6 y7 y8 y9 y10 y11 y12 y13, roundL [Sl.va (.int m), Sl.va (.tup rds), Sl.ow (fs.map D.int), Sl.ow items, Sl.va (.int wd), Sl.va (.int ((fs.length : Int) - 1)), x6, x7, x8, x9, x10, x11, x12, x13] =
      .nx [Sl.va (.int m), Sl.va (.tup rds), Sl.ow ((fs ++ [nextF m fs wd r]).map D.int), Sl.ow (items ++ [itD ((roundR m fs wd r).1, nextF m fs wd r)]), Sl.va (.int (roundR m fs wd r).2), Sl.va (.int ((fs.length : Int) - 1)), y6, y7, y8, y9, y10, y11, y12, y13] := by
  have hml : (msgs fs r).length ≤ 1000 := by
    unfold msgs
    rw [List.length_append, List.length_map, List.length_map]
    exact hb
  have l1 : ((r.copies.map cpD).length ≤ 100000) := by rw [List.length_map]; omega
  have l2 : ((r.places.map D.int).length ≤ 100000) := by rw [List.length_map]; omega
  have l3 : ((r.copies.map fun c => D.int (nth fs ((fs.length : Int) - 1 - c.1) + c.2)).length + (r.places.map fun p => D.int (nth fs ((fs.length : Int) - 1) + p)).length ≤ 100000) := by
    rw [List.length_map, List.length_map]
    omega
  obtain ⟨y11, hL⟩ := loopL (m := m) (x1 := Sl.va (.tup rds)) (x2 := Sl.ow (fs.map D.int)) (x3 := Sl.ow items) (x5 := Sl.va (.int ((fs.length : Int) - 1))) (x6 := Sl.va (.tup (r.copies.map cpD))) (x7 := Sl.va (.tup (r.places.map D.int))) (x8 := Sl.va (.bl r.ans)) (x9 := Sl.va (.lst ((msgs fs r).map D.int))) (x12 := keepVa (some x12)) (x13 := keepVa (some (keepVa (some x13)))) hm (msgs fs r) ([], wd) x11 (by simp; omega)
  have e0 : (([], wd) : List Int × Int).1.map D.int = [] := rfl
  rw [e0] at hL
  have hfl2 : (fs.map D.int).length < 100000 := by rw [List.length_map]; omega
  have hil2 : items.length < 100000 := by omega
  have c1 := cL1 (x0 := Sl.va (.int m)) (x1 := Sl.va (.tup rds)) (fs := fs) (x3 := Sl.ow items) (x4 := Sl.va (.int wd)) (x6 := Sl.va (.tup (r.copies.map cpD))) (x7 := Sl.va (.tup (r.places.map D.int))) (x8 := Sl.va (.bl r.ans)) (x9 := x9) (x10 := x10) (x11 := x11) hc
  have c2 := cL2 (x0 := Sl.va (.int m)) (x1 := Sl.va (.tup rds)) (fs := fs) (x3 := Sl.ow items) (x4 := Sl.va (.int wd)) (x6 := Sl.va (.tup (r.copies.map cpD))) (x7 := Sl.va (.tup (r.places.map D.int))) (x8 := Sl.va (.bl r.ans)) (x9 := x9) (x10 := x10) (x11 := x11) (x12 := keepVa (some x12)) (ps := r.places) hf
  have rl : roundR m fs wd r = foldM m (msgs fs r) ([], wd) := rfl
  refine ⟨Sl.va (.tup (r.copies.map cpD)), Sl.va (.tup (r.places.map D.int)), Sl.va (.bl r.ans), Sl.va (.lst ((msgs fs r).map D.int)), Sl.ow ((foldM m (msgs fs r) ([], wd)).1.map D.int), y11, keepVa (some x12), keepVa (some (keepVa (some x13))), ?_⟩
  have hlast : ∀ x, idxD (.lst (fs.map D.int ++ [D.int x])) (.int (-1)) = some (.int x) := fun x => by
    have e1 : fs.map D.int ++ [D.int x] = (fs ++ [x]).map D.int := by simp
    have h := atI_neg (fs := fs ++ [x]) (i := -1) (by omega) (by rw [List.length_append, List.length_singleton]; omega)
    have e2 : (((fs ++ [x]).length : Nat) : Int) + -1 = ((fs ++ [x]).length : Int) - 1 := by omega
    rw [e2, nth_last] at h
    rw [e1]
    exact h
  cases ha : r.ans with
  | true =>
    have en : nextF m fs wd r = (roundR m fs wd r).2 := by unfold nextF; rw [ha]; rfl
    have em : (fs ++ [nextF m fs wd r]).map D.int = fs.map D.int ++ [.int (foldM m (msgs fs r) ([], wd)).2] := by rw [en]; simp [roundR]
    rw [em, en, rl]
    rw [ha] at c1 c2 hL
    have hr' : atI rds ((fs.length : Int) - 1) = some (.tup [.tup (r.copies.map cpD), .tup (r.places.map D.int), .bl true]) := by rw [hr]; unfold Rd.d; rw [ha]
    have hx : idxD (.tup rds) (.int ((fs.length : Int) - 1)) = some (.tup [.tup (r.copies.map cpD), .tup (r.places.map D.int), .bl true]) := hr'
    simp only [roundL, runR, runF, noErr, rowOf, List.map_cons, List.map_nil, List.cons_append, List.nil_append, List.length_cons, List.length_nil, List.replicate, Nat.reduceAdd, Nat.reduceSub, Nat.zero_add, Nat.sub_self, seqF, ifS, setF, setIF, retF, dropF, skipF, augF, setNF, parF, setMs, mdF, mnF, mnilF, Mx.sl, appF, extF, guardO, isOw, setRow, rowAt, rowRes, goR, goF, callDF, callRF, frR, raiseF, excOf, nameF, conF, op2F, un1F, bF, chainF, truF, truR, andF, orF, notF, tandF, torF, tnotF, ifF, nilF, consF, dispF, ndispF, nE, callF, ncallF, liftA, liftN, optR, optN, lift1, lift2, R.bind, R.toS, hd, hdS, fz, fzS, fzs, hds, truD, gNm, gTp, gsCons, gsNil, itF, itA, optI, itemsD, forS, yesF, List.getElem?_cons_zero, List.getElem?_cons_succ, List.set_cons_zero, List.set_cons_succ, List.length_set, Option.bind, Option.map, if_true, if_false, ite_true, ite_false, reduceIte, Nat.reduceLT, Nat.reduceLeDiff, Bool.not_true, Bool.not_false, Nat.lt_add_left_iff_pos, Nat.zero_lt_succ, Bool.false_eq_true, Bool.true_eq_false, reduceCtorEq, hx, lcF, l1, l2, wipeE, c1, c2, restE, addD_lst l3, msgs_map, hL, hfl2, tupC, hil2, hlast, negD, itD]
  | false =>
    have en : nextF m fs wd r = nth fs ((fs.length : Int) - 1) := by unfold nextF; rw [ha]; rfl
    have em : (fs ++ [nextF m fs wd r]).map D.int = fs.map D.int ++ [.int (nth fs ((fs.length : Int) - 1))] := by rw [en]; simp
    rw [em, en, rl]
    rw [ha] at c1 c2 hL
    have hr' : atI rds ((fs.length : Int) - 1) = some (.tup [.tup (r.copies.map cpD), .tup (r.places.map D.int), .bl false]) := by rw [hr]; unfold Rd.d; rw [ha]
    have hx : idxD (.tup rds) (.int ((fs.length : Int) - 1)) = some (.tup [.tup (r.copies.map cpD), .tup (r.places.map D.int), .bl false]) := hr'
    have hy : idxD (.lst (fs.map D.int)) (.int ((fs.length : Int) - 1)) = some (.int (nth fs ((fs.length : Int) - 1))) := atI_int (fs := fs) (i := (fs.length : Int) - 1) (by omega) (by omega)
    simp only [roundL, runR, runF, noErr, rowOf, List.map_cons, List.map_nil, List.cons_append, List.nil_append, List.length_cons, List.length_nil, List.replicate, Nat.reduceAdd, Nat.reduceSub, Nat.zero_add, Nat.sub_self, seqF, ifS, setF, setIF, retF, dropF, skipF, augF, setNF, parF, setMs, mdF, mnF, mnilF, Mx.sl, appF, extF, guardO, isOw, setRow, rowAt, rowRes, goR, goF, callDF, callRF, frR, raiseF, excOf, nameF, conF, op2F, un1F, bF, chainF, truF, truR, andF, orF, notF, tandF, torF, tnotF, ifF, nilF, consF, dispF, ndispF, nE, callF, ncallF, liftA, liftN, optR, optN, lift1, lift2, R.bind, R.toS, hd, hdS, fz, fzS, fzs, hds, truD, gNm, gTp, gsCons, gsNil, itF, itA, optI, itemsD, forS, yesF, List.getElem?_cons_zero, List.getElem?_cons_succ, List.set_cons_zero, List.set_cons_succ, List.length_set, Option.bind, Option.map, if_true, if_false, ite_true, ite_false, reduceIte, Nat.reduceLT, Nat.reduceLeDiff, Bool.not_true, Bool.not_false, Nat.lt_add_left_iff_pos, Nat.zero_lt_succ, Bool.false_eq_true, Bool.true_eq_false, reduceCtorEq, hx, hy, lcF, l1, l2, wipeE, c1, c2, restE, addD_lst l3, msgs_map, hL, hfl2, tupC, hil2, hlast, negD, itD]
structure Sta where
  fs : List Int
  wd : Int
  its : List (List Int × Int)
def stR (m : Int) (s : Sta) (r : Rd) : Sta := ⟨s.fs ++ [nextF m s.fs s.wd r], (roundR m s.fs s.wd r).2, s.its ++ [((roundR m s.fs s.wd r).1, nextF m s.fs s.wd r)]⟩
def sta (m : Int) (rs : List Rd) : Sta := rs.foldl (stR m) ⟨[0], 0, []⟩
theorem sta_snoc (m : Int) (rs : List Rd) (r : Rd) : sta m (rs ++ [r]) = stR m (sta m rs) r := by
  unfold sta
  rw [List.foldl_append]
  rfl
theorem take_more {rs : List Rd} {i : Nat} {r : Rd} (h : rs[i]? = some r) : rs.take (i + 1) = rs.take i ++ [r] := by
  rw [List.take_succ, h]
  rfl
theorem sta_len (m : Int) : ∀ (rs : List Rd), (sta m rs).fs.length = rs.length + 1 ∧ (sta m rs).its.length = rs.length := fun rs => by
  have : ∀ (l : List Rd) (s : Sta), (l.foldl (stR m) s).fs.length = s.fs.length + l.length ∧ (l.foldl (stR m) s).its.length = s.its.length + l.length := fun l => by
    induction l with
    | nil => intro s; exact ⟨rfl, rfl⟩
    | cons r l ih =>
      intro s
      obtain ⟨a, b⟩ := ih (stR m s r)
      rw [List.foldl_cons, a, b]
      unfold stR
      simp only [List.length_append, List.length_cons, List.length_nil]
      omega
  obtain ⟨a, b⟩ := this rs ⟨[0], 0, []⟩
  unfold sta
  rw [a, b]
  simp
  omega
theorem OkRs.copies {w late i : Nat} {rs : List Rd} (h : OkRs w late rs) (hr : rs[i]? = some r) : (∀ c ∈ r.copies, 1 ≤ c.1 ∧ c.1 ≤ (i : Int)) ∧ r.copies.length ≤ late * w ∧ r.places.length ≤ w := by
  obtain ⟨h1, h2⟩ := h i r hr
  refine ⟨fun c hc => ?_, ?_, ?_⟩
  · have := h1.2.1 c hc
    have : ((min late i : Nat) : Int) ≤ i := by omega
    omega
  · exact Nat.le_trans h1.2.2 (Nat.mul_le_mul_right _ (Nat.min_le_left _ _))
  · have := h2.2.2
    omega
theorem lawrun_ok {w late : Nat} {rs : List Rd} (hm : 0 < m) (hl : rs.length ≤ 40) (ho : OkRs w late rs) (hw : w ≤ 4) (hlt : late ≤ 4) : g__law_run [.int m, .tup (rs.map Rd.d)] = .ok (.tup ((sta m rs).its.map itD)) := by
  obtain ⟨e', h1, h2⟩ := forF_inv (g := gNm 5) (b := roundL) (fun i e => ∃ y5 y6 y7 y8 y9 y10 y11 y12 y13, e = [Sl.va (.int m), Sl.va (.tup (rs.map Rd.d)), Sl.ow ((sta m (rs.take i)).fs.map D.int), Sl.ow ((sta m (rs.take i)).its.map itD), Sl.va (.int (sta m (rs.take i)).wd), y5, y6, y7, y8, y9, y10, y11, y12, y13]) (rangeL 0 rs.length) 0
    [Sl.va (.int m), Sl.va (.tup (rs.map Rd.d)), Sl.ow [.int 0], Sl.ow [], Sl.va (.int 0), Sl.no, Sl.no, Sl.no, Sl.no, Sl.no, Sl.no, Sl.no, Sl.no, Sl.no] ⟨_, _, _, _, _, _, _, _, _, rfl⟩ (fun j d e hj hp => by
      obtain ⟨y5, y6, y7, y8, y9, y10, y11, y12, y13, rfl⟩ := hp
      obtain ⟨hjj, rfl⟩ := rng_at hj
      rw [Int.zero_add, Nat.zero_add]
      have hr : rs[j]? = some rs[j] := List.getElem?_eq_getElem hjj
      have hfl : (sta m (rs.take j)).fs.length = j + 1 := by rw [(sta_len m _).1, List.length_take]; omega
      have hil : ((sta m (rs.take j)).its.map itD).length = j := by rw [List.length_map, (sta_len m _).2, List.length_take]; omega
      have hj1 : (((sta m (rs.take j)).fs.length : Nat) : Int) - 1 = (j : Nat) := by rw [hfl]; omega
      obtain ⟨c1, c2, c3⟩ := ho.copies hr
      have c4 : late * w ≤ 4 * 4 := Nat.mul_le_mul hlt hw
      obtain ⟨z6, z7, z8, z9, z10, z11, z12, z13, hk⟩ := roundL_ok (m := m) (fs := (sta m (rs.take j)).fs) (wd := (sta m (rs.take j)).wd) (r := rs[j]) (x6 := y6) (x7 := y7) (x8 := y8) (x9 := y9) (x10 := y10) (x11 := y11) (rds := rs.map Rd.d) (items := (sta m (rs.take j)).its.map itD) (x12 := y12) (x13 := y13) hm
        (by rw [hj1, atI_nat (l := rs.map Rd.d) (i := j) (by rw [List.length_map]; exact hjj), List.getElem_map]) (by omega) (by rw [hj1]; exact c1) (by omega) (by omega) (by omega)
      rw [hj1] at hk
      refine ⟨_, _, rfl, .inl hk, Sl.va (.int (j : Nat)), z6, z7, z8, z9, z10, z11, z12, z13, ?_⟩
      rw [take_more hr, sta_snoc]
      unfold stR
      simp only [List.map_append, List.map_cons, List.map_nil])
  obtain ⟨y5, y6, y7, y8, y9, y10, y11, y12, y13, rfl⟩ := h2
  rw [rangeL_len, Nat.zero_add, List.take_length] at h1
  unfold g__law_run phi__law_run
  have hn : rng1 [.int ((rs.map Rd.d).length : Nat)] = some (rangeL 0 rs.length) := by rw [List.length_map]; exact rng1_nat (by omega)
  unfold roundL bL at h1
  simp only [noErr, runF, List.map_cons, List.map_nil, List.cons_append, List.nil_append, List.length_cons, List.length_nil, List.replicate, Nat.reduceAdd, Nat.reduceSub, Nat.zero_add, seqF, parF, setMs, mdF, mnF, mnilF, Mx.sl, ndispF, nilF, fzs, R.bind, R.toS, Nat.zero_le, if_true, forS, itA, consF, conF, nameF, List.getElem?_cons_zero, List.getElem?_cons_succ, fz, optI, Nat.reduceLT, List.set_cons_zero, List.set_cons_succ, Nat.reduceLeDiff, callF, hds, hd, hdS, lenD, liftA, optR, reduceIte, hn, h1, retF, tupC]
end
end G41
set_option Elab.async false
set_option linter.all false
set_option maxRecDepth 100000
set_option maxHeartbeats 4000000
/-! k41, the plain law, 3: the program's run. -/
namespace G41
open PySem PySem.Spec PyProof.Rows L2 PL
section
variable {m : Int} {fs : List Int} {wd : Int} {r : Rd} {x0 x1 x3 x4 x5 x6 x7 x8 x9 x10 x11 x12 : Sl}
abbrev roundP : PL.Env → SR := (seqF (dropF (guardO 2 (appF 2 (nameF 4))))
  (seqF (setNF 9 (ndispF nilF))
  (seqF (forS (itF (op2F addD (nE (lcF [11, 12] (itF (nameF 6)) (gTp 2 (gsCons (gNm 11) (gsCons (gNm 12) gsNil))) yesF (op2F addD (op2F idxD (nameF 2) (op2F subD (un1F negD (conF (.int 1))) (nameF 11))) (nameF 12)))) (nE (lcF [12] (itF (nameF 7)) (gNm 12) yesF (op2F addD (nameF 4) (nameF 12)))))) (gNm 10) bP)
  (seqF (ifS (truF (nameF 8)) (setF (gNm 4) (nameF 5)) skipF)
  (dropF (guardO 3 (appF 3 (dispF .tup (consF (callF tupC (consF (nameF 9) nilF)) (consF (nameF 4) nilF))))))))))
theorem roundP_ok {f0 : List Int} {f : Int} {items : List D} (hfs : fs = f0 ++ [f]) (hm : 0 < m) (hc : ∀ c ∈ r.copies, 1 ≤ c.1 ∧ c.1 ≤ (fs.length : Int) - 1) (hb : r.copies.length + r.places.length ≤ 1000) (hfl : fs.length ≤ 1000) (hil : items.length ≤ 1000) :
    ∃ y9 y10 y11 y12, roundP [Sl.va (.int m), x1, Sl.ow (f0.map D.int), Sl.ow items, Sl.va (.int f), Sl.va (.int wd), Sl.va (.tup (r.copies.map cpD)), Sl.va (.tup (r.places.map D.int)), Sl.va (.bl r.ans), x9, x10, x11, x12] =
      .nx [Sl.va (.int m), x1, Sl.ow (fs.map D.int), Sl.ow (items ++ [itD ((roundR m fs wd r).1, nextF m fs wd r)]), Sl.va (.int (nextF m fs wd r)), Sl.va (.int (roundR m fs wd r).2), Sl.va (.tup (r.copies.map cpD)), Sl.va (.tup (r.places.map D.int)), Sl.va (.bl r.ans), y9, y10, y11, y12] := by
  have hml : (msgs fs r).length ≤ 1000 := by
    unfold msgs
    rw [List.length_append, List.length_map, List.length_map]
    exact hb
  have hlast : nth fs ((fs.length : Int) - 1) = f := by rw [hfs]; exact nth_last
  have e1 : f0.map D.int ++ [.int f] = fs.map D.int := by rw [hfs]; simp
  have l0 : (f0.map D.int).length < 100000 := by
    have : fs.length = f0.length + 1 := by rw [hfs]; simp
    rw [List.length_map]; omega
  have l1 : ((r.copies.map cpD).length ≤ 100000) := by rw [List.length_map]; omega
  have l2 : ((r.places.map D.int).length ≤ 100000) := by rw [List.length_map]; omega
  have l3 : ((r.copies.map fun c => D.int (nth fs ((fs.length : Int) - 1 - c.1) + c.2)).length + (r.places.map fun p => D.int (f + p)).length ≤ 100000) := by
    rw [List.length_map, List.length_map]
    omega
  have mm : (r.copies.map fun c => D.int (nth fs ((fs.length : Int) - 1 - c.1) + c.2)) ++ (r.places.map fun p => D.int (f + p)) = (msgs fs r).map D.int := by
    rw [← msgs_map, hlast]
  have hil2 : items.length < 100000 := by omega
  have c1 := cP1 (x0 := Sl.va (.int m)) (x1 := x1) (fs := fs) (x2 := Sl.no) (x3 := Sl.ow items) (x4 := Sl.va (.int f)) (x5 := Sl.va (.int wd)) (x6 := Sl.va (.tup (r.copies.map cpD))) (x7 := Sl.va (.tup (r.places.map D.int))) (x8 := Sl.va (.bl r.ans)) (x9 := Sl.ow []) (x10 := x10) hc
  have c2 := cP2 (x0 := Sl.va (.int m)) (x1 := x1) (x2 := Sl.ow (fs.map D.int)) (x3 := Sl.ow items) (x5 := Sl.va (.int wd)) (x6 := Sl.va (.tup (r.copies.map cpD))) (x7 := Sl.va (.tup (r.places.map D.int))) (x8 := Sl.va (.bl r.ans)) (x9 := Sl.ow []) (x10 := x10) (x11 := keepVa (some x11)) (ps := r.places) (f := f)
  obtain ⟨y10, hL⟩ := loopP (m := m) (x1 := x1) (x2 := Sl.ow (fs.map D.int)) (x3 := Sl.ow items) (x4 := Sl.va (.int f)) (x6 := Sl.va (.tup (r.copies.map cpD))) (x7 := Sl.va (.tup (r.places.map D.int))) (x8 := Sl.va (.bl r.ans)) (x11 := keepVa (some x11)) (x12 := keepVa (some (keepVa (some x12)))) hm (msgs fs r) ([], wd) x10 (by simp; omega)
  have e0 : (([], wd) : List Int × Int).1.map D.int = [] := rfl
  rw [e0] at hL
  have rl : roundR m fs wd r = foldM m (msgs fs r) ([], wd) := rfl
  refine ⟨Sl.ow ((foldM m (msgs fs r) ([], wd)).1.map D.int), y10, keepVa (some x11), keepVa (some (keepVa (some x12))), ?_⟩
  cases ha : r.ans with
  | true =>
    have en : nextF m fs wd r = (roundR m fs wd r).2 := by unfold nextF; rw [ha]; rfl
    rw [en, rl]
    rw [ha] at c1 c2 hL
    simp only [roundP, runR, runF, noErr, rowOf, List.map_cons, List.map_nil, List.cons_append, List.nil_append, List.length_cons, List.length_nil, List.replicate, Nat.reduceAdd, Nat.reduceSub, Nat.zero_add, Nat.sub_self, seqF, ifS, setF, setIF, retF, dropF, skipF, augF, setNF, parF, setMs, mdF, mnF, mnilF, Mx.sl, appF, extF, guardO, isOw, setRow, rowAt, rowRes, goR, goF, callDF, callRF, frR, raiseF, excOf, nameF, conF, op2F, un1F, bF, chainF, truF, truR, andF, orF, notF, tandF, torF, tnotF, ifF, nilF, consF, dispF, ndispF, nE, callF, ncallF, liftA, liftN, optR, optN, lift1, lift2, R.bind, R.toS, hd, hdS, fz, fzS, fzs, hds, truD, gNm, gTp, gsCons, gsNil, itF, itA, optI, itemsD, forS, yesF, List.getElem?_cons_zero, List.getElem?_cons_succ, List.set_cons_zero, List.set_cons_succ, List.length_set, Option.bind, Option.map, if_true, if_false, ite_true, ite_false, reduceIte, Nat.reduceLT, Nat.reduceLeDiff, Bool.not_true, Bool.not_false, Nat.lt_add_left_iff_pos, Nat.zero_lt_succ, Bool.false_eq_true, Bool.true_eq_false, reduceCtorEq, l0, e1, lcF, l1, l2, wipeE, c1, c2, restE, addD_lst l3, mm, hL, tupC, hil2, itD]
  | false =>
    have en : nextF m fs wd r = f := by unfold nextF; rw [ha, hlast]; rfl
    rw [en, rl]
    rw [ha] at c1 c2 hL
    simp only [roundP, runR, runF, noErr, rowOf, List.map_cons, List.map_nil, List.cons_append, List.nil_append, List.length_cons, List.length_nil, List.replicate, Nat.reduceAdd, Nat.reduceSub, Nat.zero_add, Nat.sub_self, seqF, ifS, setF, setIF, retF, dropF, skipF, augF, setNF, parF, setMs, mdF, mnF, mnilF, Mx.sl, appF, extF, guardO, isOw, setRow, rowAt, rowRes, goR, goF, callDF, callRF, frR, raiseF, excOf, nameF, conF, op2F, un1F, bF, chainF, truF, truR, andF, orF, notF, tandF, torF, tnotF, ifF, nilF, consF, dispF, ndispF, nE, callF, ncallF, liftA, liftN, optR, optN, lift1, lift2, R.bind, R.toS, hd, hdS, fz, fzS, fzs, hds, truD, gNm, gTp, gsCons, gsNil, itF, itA, optI, itemsD, forS, yesF, List.getElem?_cons_zero, List.getElem?_cons_succ, List.set_cons_zero, List.set_cons_succ, List.length_set, Option.bind, Option.map, if_true, if_false, ite_true, ite_false, reduceIte, Nat.reduceLT, Nat.reduceLeDiff, Bool.not_true, Bool.not_false, Nat.lt_add_left_iff_pos, Nat.zero_lt_succ, Bool.false_eq_true, Bool.true_eq_false, reduceCtorEq, l0, e1, lcF, l1, l2, wipeE, c1, c2, restE, addD_lst l3, mm, hL, tupC, hil2, itD]
theorem Rd_at {rs : List Rd} {j : Nat} {d : D} (h : (rs.map Rd.d)[j]? = some d) : ∃ (hj : j < rs.length), d = rs[j].d := by
  rw [List.getElem?_map] at h
  cases q : rs[j]? with
  | none => rw [q] at h; cases h
  | some r =>
    rw [q] at h
    cases h
    obtain ⟨h1, h2⟩ := List.getElem?_eq_some_iff.mp q
    exact ⟨h1, by rw [h2]⟩
theorem sta_last (m : Int) (rs : List Rd) : ∃ f0 f, (sta m rs).fs = f0 ++ [f] := by
  have h := (sta_len m rs).1
  have : (sta m rs).fs ≠ [] := fun z => by rw [z] at h; simp at h
  exact ⟨_, _, (List.dropLast_concat_getLast this).symm⟩
theorem snoc_inj {α : Type} {a b : List α} {x y : α} (h : a ++ [x] = b ++ [y]) : a = b ∧ x = y := by
  have := List.append_inj' h rfl
  exact ⟨this.1, by simpa using this.2⟩
theorem played_ok {w late : Nat} {rs : List Rd} (hm : 0 < m) (hl : rs.length ≤ 40) (ho : OkRs w late rs) (hw : w ≤ 4) (hlt : late ≤ 4) : g_played [.int m, .tup (rs.map Rd.d)] = .ok (.tup ((sta m rs).its.map itD)) := by
  obtain ⟨e', h1, h2⟩ := forF_inv (g := gTp 3 (gsCons (gNm 6) (gsCons (gNm 7) (gsCons (gNm 8) gsNil)))) (b := roundP) (fun i e => ∃ f0 f y6 y7 y8 y9 y10 y11 y12, (sta m (rs.take i)).fs = f0 ++ [f] ∧ e = [Sl.va (.int m), Sl.va (.tup (rs.map Rd.d)), Sl.ow (f0.map D.int), Sl.ow ((sta m (rs.take i)).its.map itD), Sl.va (.int f), Sl.va (.int (sta m (rs.take i)).wd), y6, y7, y8, y9, y10, y11, y12]) (rs.map Rd.d) 0
    [Sl.va (.int m), Sl.va (.tup (rs.map Rd.d)), Sl.ow [], Sl.ow [], Sl.va (.int 0), Sl.va (.int 0), Sl.no, Sl.no, Sl.no, Sl.no, Sl.no, Sl.no, Sl.no] ⟨[], 0, _, _, _, _, _, _, _, rfl, rfl⟩ (fun j d e hj hp => by
      obtain ⟨f0, f, y6, y7, y8, y9, y10, y11, y12, hf, rfl⟩ := hp
      obtain ⟨hjj, rfl⟩ := Rd_at hj
      rw [Nat.zero_add] at hf ⊢
      have hr : rs[j]? = some rs[j] := List.getElem?_eq_getElem hjj
      have hfl : (sta m (rs.take j)).fs.length = j + 1 := by rw [(sta_len m _).1, List.length_take]; omega
      have hil : ((sta m (rs.take j)).its.map itD).length = j := by rw [List.length_map, (sta_len m _).2, List.length_take]; omega
      have hj1 : (((sta m (rs.take j)).fs.length : Nat) : Int) - 1 = (j : Nat) := by rw [hfl]; omega
      obtain ⟨c1, c2, c3⟩ := ho.copies hr
      have c4 : late * w ≤ 4 * 4 := Nat.mul_le_mul hlt hw
      obtain ⟨z9, z10, z11, z12, hk⟩ := roundP_ok (m := m) (fs := (sta m (rs.take j)).fs) (wd := (sta m (rs.take j)).wd) (r := rs[j]) (x1 := Sl.va (.tup (rs.map Rd.d))) (x9 := y9) (x10 := y10) (x11 := y11) (x12 := y12) (items := (sta m (rs.take j)).its.map itD) hf hm (by rw [hj1]; exact c1) (by omega) (by omega) (by omega)
      refine ⟨_, _, rfl, .inl hk, (sta m (rs.take j)).fs, nextF m (sta m (rs.take j)).fs (sta m (rs.take j)).wd rs[j], Sl.va (.tup (rs[j].copies.map cpD)), Sl.va (.tup (rs[j].places.map D.int)), Sl.va (.bl rs[j].ans), z9, z10, z11, z12, ?_, ?_⟩
      · rw [take_more hr, sta_snoc]
        rfl
      · rw [take_more hr, sta_snoc]
        unfold stR
        simp only [List.map_append, List.map_cons, List.map_nil])
  obtain ⟨f0, f, y6, y7, y8, y9, y10, y11, y12, hf, rfl⟩ := h2
  rw [List.length_map, Nat.zero_add, List.take_length] at h1
  unfold g_played phi_played
  unfold roundP bP at h1
  simp only [noErr, runF, List.map_cons, List.map_nil, List.cons_append, List.nil_append, List.length_cons, List.length_nil, List.replicate, Nat.reduceAdd, Nat.reduceSub, Nat.zero_add, seqF, parF, setMs, mdF, mnF, mnilF, Mx.sl, ndispF, nilF, fzs, R.bind, R.toS, Nat.zero_le, if_true, forS, itF, itemsD, consF, conF, nameF, List.getElem?_cons_zero, List.getElem?_cons_succ, fz, optI, Nat.reduceLT, List.set_cons_zero, List.set_cons_succ, Nat.reduceLeDiff, callF, hds, hd, hdS, liftA, optR, reduceIte, h1, retF, tupC]
end
end G41
set_option Elab.async false
set_option linter.all false
set_option maxRecDepth 100000
set_option maxHeartbeats 4000000
/-! k41, the plain law, 4: the checks. -/
namespace G41
open PySem PySem.Spec PyProof.Rows L2 PL
theorem need_t {x : Str} : g_need [.bl true, .str x] = .ok .non := rfl
theorem need_f {x : Str} : g_need [.bl false, .str x] = .err (.bad x) := by
  unfold g_need phi_need
  simp only [runR, runF, noErr, rowOf, List.map_cons, List.map_nil, List.cons_append, List.nil_append, List.length_cons, List.length_nil, List.replicate, Nat.reduceAdd, Nat.reduceSub, Nat.zero_add, Nat.sub_self, seqF, ifS, setF, setIF, retF, dropF, skipF, augF, setNF, parF, setMs, mdF, mnF, mnilF, Mx.sl, appF, extF, guardO, isOw, setRow, rowAt, rowRes, goR, goF, callDF, callRF, frR, raiseF, excOf, nameF, conF, op2F, un1F, bF, chainF, truF, truR, andF, orF, notF, tandF, torF, tnotF, ifF, nilF, consF, dispF, ndispF, nE, callF, ncallF, liftA, liftN, optR, optN, lift1, lift2, R.bind, R.toS, hd, hdS, fz, fzS, fzs, hds, truD, gNm, gTp, gsCons, gsNil, itF, itA, optI, itemsD, forS, yesF, List.getElem?_cons_zero, List.getElem?_cons_succ, List.set_cons_zero, List.set_cons_succ, List.length_set, Option.bind, Option.map, if_true, if_false, ite_true, ite_false, reduceIte, Nat.reduceLT, Nat.reduceLeDiff, Bool.not_true, Bool.not_false, Nat.lt_add_left_iff_pos, Nat.zero_lt_succ, Bool.false_eq_true, Bool.true_eq_false, reduceCtorEq]
theorem num {v a b : Int} : g_is_number [.int v, .int a, .int b] = .ok (.bl (decide (a ≤ v) && decide (v ≤ b))) := by
  unfold g_is_number phi_is_number
  by_cases h1 : a ≤ v
  · simp only [runR, runF, noErr, rowOf, List.map_cons, List.map_nil, List.cons_append, List.nil_append, List.length_cons, List.length_nil, List.replicate, Nat.reduceAdd, Nat.reduceSub, Nat.zero_add, Nat.sub_self, seqF, ifS, setF, setIF, retF, dropF, skipF, augF, setNF, parF, setMs, mdF, mnF, mnilF, Mx.sl, appF, extF, guardO, isOw, setRow, rowAt, rowRes, goR, goF, callDF, callRF, frR, raiseF, excOf, nameF, conF, op2F, un1F, bF, chainF, truF, truR, andF, orF, notF, tandF, torF, tnotF, ifF, nilF, consF, dispF, ndispF, nE, callF, ncallF, liftA, liftN, optR, optN, lift1, lift2, R.bind, R.toS, hd, hdS, fz, fzS, fzs, hds, truD, gNm, gTp, gsCons, gsNil, itF, itA, optI, itemsD, forS, yesF, List.getElem?_cons_zero, List.getElem?_cons_succ, List.set_cons_zero, List.set_cons_succ, List.length_set, Option.bind, Option.map, if_true, if_false, ite_true, ite_false, reduceIte, Nat.reduceLT, Nat.reduceLeDiff, Bool.not_true, Bool.not_false, Nat.lt_add_left_iff_pos, Nat.zero_lt_succ, Bool.false_eq_true, Bool.true_eq_false, reduceCtorEq, i_non_int, i_non_bool, i_non_str, i_non_tuple, i_non_list, i_bl_int, i_bl_bool, i_bl_str, i_bl_tuple, i_bl_list, i_int_int, i_int_bool, i_int_str, i_int_tuple, i_int_list, i_str_int, i_str_bool, i_str_str, i_str_tuple, i_str_list, i_tup_int, i_tup_bool, i_tup_str, i_tup_tuple, i_tup_list, i_lst_int, i_lst_bool, i_lst_str, i_lst_tuple, i_lst_list, leD, int0D, h1, decide_true, Bool.true_and]
  · simp only [runR, runF, noErr, rowOf, List.map_cons, List.map_nil, List.cons_append, List.nil_append, List.length_cons, List.length_nil, List.replicate, Nat.reduceAdd, Nat.reduceSub, Nat.zero_add, Nat.sub_self, seqF, ifS, setF, setIF, retF, dropF, skipF, augF, setNF, parF, setMs, mdF, mnF, mnilF, Mx.sl, appF, extF, guardO, isOw, setRow, rowAt, rowRes, goR, goF, callDF, callRF, frR, raiseF, excOf, nameF, conF, op2F, un1F, bF, chainF, truF, truR, andF, orF, notF, tandF, torF, tnotF, ifF, nilF, consF, dispF, ndispF, nE, callF, ncallF, liftA, liftN, optR, optN, lift1, lift2, R.bind, R.toS, hd, hdS, fz, fzS, fzs, hds, truD, gNm, gTp, gsCons, gsNil, itF, itA, optI, itemsD, forS, yesF, List.getElem?_cons_zero, List.getElem?_cons_succ, List.set_cons_zero, List.set_cons_succ, List.length_set, Option.bind, Option.map, if_true, if_false, ite_true, ite_false, reduceIte, Nat.reduceLT, Nat.reduceLeDiff, Bool.not_true, Bool.not_false, Nat.lt_add_left_iff_pos, Nat.zero_lt_succ, Bool.false_eq_true, Bool.true_eq_false, reduceCtorEq, i_non_int, i_non_bool, i_non_str, i_non_tuple, i_non_list, i_bl_int, i_bl_bool, i_bl_str, i_bl_tuple, i_bl_list, i_int_int, i_int_bool, i_int_str, i_int_tuple, i_int_list, i_str_int, i_str_bool, i_str_str, i_str_tuple, i_str_list, i_tup_int, i_tup_bool, i_tup_str, i_tup_tuple, i_tup_list, i_lst_int, i_lst_bool, i_lst_str, i_lst_tuple, i_lst_list, leD, int0D, h1, decide_false, Bool.false_and]
theorem num_t {v a b : Int} (h1 : a ≤ v) (h2 : v ≤ b) : g_is_number [.int v, .int a, .int b] = .ok (.bl true) := by
  rw [num, decide_eq_true h1, decide_eq_true h2]
  rfl
theorem num_lo {v a b : Int} (h1 : ¬ a ≤ v) : g_is_number [.int v, .int a, .int b] = .ok (.bl false) := by
  rw [num, decide_eq_false h1]
  rfl
theorem num_hi {v a b : Int} (h1 : ¬ v ≤ b) : g_is_number [.int v, .int a, .int b] = .ok (.bl false) := by
  rw [num, decide_eq_false h1, Bool.and_false]
theorem num_non {a b : Int} : g_is_number [.non, .int a, .int b] = .ok (.bl false) := by
  unfold g_is_number phi_is_number
  simp only [runR, runF, noErr, rowOf, List.map_cons, List.map_nil, List.cons_append, List.nil_append, List.length_cons, List.length_nil, List.replicate, Nat.reduceAdd, Nat.reduceSub, Nat.zero_add, Nat.sub_self, seqF, ifS, setF, setIF, retF, dropF, skipF, augF, setNF, parF, setMs, mdF, mnF, mnilF, Mx.sl, appF, extF, guardO, isOw, setRow, rowAt, rowRes, goR, goF, callDF, callRF, frR, raiseF, excOf, nameF, conF, op2F, un1F, bF, chainF, truF, truR, andF, orF, notF, tandF, torF, tnotF, ifF, nilF, consF, dispF, ndispF, nE, callF, ncallF, liftA, liftN, optR, optN, lift1, lift2, R.bind, R.toS, hd, hdS, fz, fzS, fzs, hds, truD, gNm, gTp, gsCons, gsNil, itF, itA, optI, itemsD, forS, yesF, List.getElem?_cons_zero, List.getElem?_cons_succ, List.set_cons_zero, List.set_cons_succ, List.length_set, Option.bind, Option.map, if_true, if_false, ite_true, ite_false, reduceIte, Nat.reduceLT, Nat.reduceLeDiff, Bool.not_true, Bool.not_false, Nat.lt_add_left_iff_pos, Nat.zero_lt_succ, Bool.false_eq_true, Bool.true_eq_false, reduceCtorEq, i_non_int, i_non_bool, i_non_str, i_non_tuple, i_non_list, i_bl_int, i_bl_bool, i_bl_str, i_bl_tuple, i_bl_list, i_int_int, i_int_bool, i_int_str, i_int_tuple, i_int_list, i_str_int, i_str_bool, i_str_str, i_str_tuple, i_str_list, i_tup_int, i_tup_bool, i_tup_str, i_tup_tuple, i_tup_list, i_lst_int, i_lst_bool, i_lst_str, i_lst_tuple, i_lst_list]
theorem num_bl {x : Bool} {a b : Int} : g_is_number [.bl x, .int a, .int b] = .ok (.bl false) := by
  unfold g_is_number phi_is_number
  simp only [runR, runF, noErr, rowOf, List.map_cons, List.map_nil, List.cons_append, List.nil_append, List.length_cons, List.length_nil, List.replicate, Nat.reduceAdd, Nat.reduceSub, Nat.zero_add, Nat.sub_self, seqF, ifS, setF, setIF, retF, dropF, skipF, augF, setNF, parF, setMs, mdF, mnF, mnilF, Mx.sl, appF, extF, guardO, isOw, setRow, rowAt, rowRes, goR, goF, callDF, callRF, frR, raiseF, excOf, nameF, conF, op2F, un1F, bF, chainF, truF, truR, andF, orF, notF, tandF, torF, tnotF, ifF, nilF, consF, dispF, ndispF, nE, callF, ncallF, liftA, liftN, optR, optN, lift1, lift2, R.bind, R.toS, hd, hdS, fz, fzS, fzs, hds, truD, gNm, gTp, gsCons, gsNil, itF, itA, optI, itemsD, forS, yesF, List.getElem?_cons_zero, List.getElem?_cons_succ, List.set_cons_zero, List.set_cons_succ, List.length_set, Option.bind, Option.map, if_true, if_false, ite_true, ite_false, reduceIte, Nat.reduceLT, Nat.reduceLeDiff, Bool.not_true, Bool.not_false, Nat.lt_add_left_iff_pos, Nat.zero_lt_succ, Bool.false_eq_true, Bool.true_eq_false, reduceCtorEq, i_non_int, i_non_bool, i_non_str, i_non_tuple, i_non_list, i_bl_int, i_bl_bool, i_bl_str, i_bl_tuple, i_bl_list, i_int_int, i_int_bool, i_int_str, i_int_tuple, i_int_list, i_str_int, i_str_bool, i_str_str, i_str_tuple, i_str_list, i_tup_int, i_tup_bool, i_tup_str, i_tup_tuple, i_tup_list, i_lst_int, i_lst_bool, i_lst_str, i_lst_tuple, i_lst_list]
theorem num_str {x : Str} {a b : Int} : g_is_number [.str x, .int a, .int b] = .ok (.bl false) := by
  unfold g_is_number phi_is_number
  simp only [runR, runF, noErr, rowOf, List.map_cons, List.map_nil, List.cons_append, List.nil_append, List.length_cons, List.length_nil, List.replicate, Nat.reduceAdd, Nat.reduceSub, Nat.zero_add, Nat.sub_self, seqF, ifS, setF, setIF, retF, dropF, skipF, augF, setNF, parF, setMs, mdF, mnF, mnilF, Mx.sl, appF, extF, guardO, isOw, setRow, rowAt, rowRes, goR, goF, callDF, callRF, frR, raiseF, excOf, nameF, conF, op2F, un1F, bF, chainF, truF, truR, andF, orF, notF, tandF, torF, tnotF, ifF, nilF, consF, dispF, ndispF, nE, callF, ncallF, liftA, liftN, optR, optN, lift1, lift2, R.bind, R.toS, hd, hdS, fz, fzS, fzs, hds, truD, gNm, gTp, gsCons, gsNil, itF, itA, optI, itemsD, forS, yesF, List.getElem?_cons_zero, List.getElem?_cons_succ, List.set_cons_zero, List.set_cons_succ, List.length_set, Option.bind, Option.map, if_true, if_false, ite_true, ite_false, reduceIte, Nat.reduceLT, Nat.reduceLeDiff, Bool.not_true, Bool.not_false, Nat.lt_add_left_iff_pos, Nat.zero_lt_succ, Bool.false_eq_true, Bool.true_eq_false, reduceCtorEq, i_non_int, i_non_bool, i_non_str, i_non_tuple, i_non_list, i_bl_int, i_bl_bool, i_bl_str, i_bl_tuple, i_bl_list, i_int_int, i_int_bool, i_int_str, i_int_tuple, i_int_list, i_str_int, i_str_bool, i_str_str, i_str_tuple, i_str_list, i_tup_int, i_tup_bool, i_tup_str, i_tup_tuple, i_tup_list, i_lst_int, i_lst_bool, i_lst_str, i_lst_tuple, i_lst_list]
/-! ### the windows' numbers -/
theorem cw_ok {w m l : Int} (h1 : 1 ≤ w ∧ w ≤ 4) (h2 : 1 ≤ m ∧ m ≤ 20) (h3 : 0 ≤ l ∧ l ≤ 4) : g_check_windows [.int w, .int m, .int l] = .ok .non := by
  unfold g_check_windows phi_check_windows
  simp only [runR, runF, noErr, rowOf, List.map_cons, List.map_nil, List.cons_append, List.nil_append, List.length_cons, List.length_nil, List.replicate, Nat.reduceAdd, Nat.reduceSub, Nat.zero_add, Nat.sub_self, seqF, ifS, setF, setIF, retF, dropF, skipF, augF, setNF, parF, setMs, mdF, mnF, mnilF, Mx.sl, appF, extF, guardO, isOw, setRow, rowAt, rowRes, goR, goF, callDF, callRF, frR, raiseF, excOf, nameF, conF, op2F, un1F, bF, chainF, truF, truR, andF, orF, notF, tandF, torF, tnotF, ifF, nilF, consF, dispF, ndispF, nE, callF, ncallF, liftA, liftN, optR, optN, lift1, lift2, R.bind, R.toS, hd, hdS, fz, fzS, fzs, hds, truD, gNm, gTp, gsCons, gsNil, itF, itA, optI, itemsD, forS, yesF, List.getElem?_cons_zero, List.getElem?_cons_succ, List.set_cons_zero, List.set_cons_succ, List.length_set, Option.bind, Option.map, if_true, if_false, ite_true, ite_false, reduceIte, Nat.reduceLT, Nat.reduceLeDiff, Bool.not_true, Bool.not_false, Nat.lt_add_left_iff_pos, Nat.zero_lt_succ, Bool.false_eq_true, Bool.true_eq_false, reduceCtorEq, num_t h1.1 h1.2, num_t h2.1 h2.2, num_t h3.1 h3.2, need_t]
theorem cw_late {w m : Int} {o : D} (h1 : 1 ≤ w ∧ w ≤ 4) (h2 : 1 ≤ m ∧ m ≤ 20) (h3 : g_is_number [o, .int 0, .int 4] = .ok (.bl false)) : g_check_windows [.int w, .int m, o] = .err (.bad "late") := by
  unfold g_check_windows phi_check_windows
  simp only [runR, runF, noErr, rowOf, List.map_cons, List.map_nil, List.cons_append, List.nil_append, List.length_cons, List.length_nil, List.replicate, Nat.reduceAdd, Nat.reduceSub, Nat.zero_add, Nat.sub_self, seqF, ifS, setF, setIF, retF, dropF, skipF, augF, setNF, parF, setMs, mdF, mnF, mnilF, Mx.sl, appF, extF, guardO, isOw, setRow, rowAt, rowRes, goR, goF, callDF, callRF, frR, raiseF, excOf, nameF, conF, op2F, un1F, bF, chainF, truF, truR, andF, orF, notF, tandF, torF, tnotF, ifF, nilF, consF, dispF, ndispF, nE, callF, ncallF, liftA, liftN, optR, optN, lift1, lift2, R.bind, R.toS, hd, hdS, fz, fzS, fzs, hds, truD, gNm, gTp, gsCons, gsNil, itF, itA, optI, itemsD, forS, yesF, List.getElem?_cons_zero, List.getElem?_cons_succ, List.set_cons_zero, List.set_cons_succ, List.length_set, Option.bind, Option.map, if_true, if_false, ite_true, ite_false, reduceIte, Nat.reduceLT, Nat.reduceLeDiff, Bool.not_true, Bool.not_false, Nat.lt_add_left_iff_pos, Nat.zero_lt_succ, Bool.false_eq_true, Bool.true_eq_false, reduceCtorEq, num_t h1.1 h1.2, num_t h2.1 h2.2, h3, need_t, need_f]
theorem cw_mod {w : Int} {o l : D} (h1 : 1 ≤ w ∧ w ≤ 4) (h3 : g_is_number [o, .int 1, .int 20] = .ok (.bl false)) : g_check_windows [.int w, o, l] = .err (.bad "modulus") := by
  unfold g_check_windows phi_check_windows
  simp only [runR, runF, noErr, rowOf, List.map_cons, List.map_nil, List.cons_append, List.nil_append, List.length_cons, List.length_nil, List.replicate, Nat.reduceAdd, Nat.reduceSub, Nat.zero_add, Nat.sub_self, seqF, ifS, setF, setIF, retF, dropF, skipF, augF, setNF, parF, setMs, mdF, mnF, mnilF, Mx.sl, appF, extF, guardO, isOw, setRow, rowAt, rowRes, goR, goF, callDF, callRF, frR, raiseF, excOf, nameF, conF, op2F, un1F, bF, chainF, truF, truR, andF, orF, notF, tandF, torF, tnotF, ifF, nilF, consF, dispF, ndispF, nE, callF, ncallF, liftA, liftN, optR, optN, lift1, lift2, R.bind, R.toS, hd, hdS, fz, fzS, fzs, hds, truD, gNm, gTp, gsCons, gsNil, itF, itA, optI, itemsD, forS, yesF, List.getElem?_cons_zero, List.getElem?_cons_succ, List.set_cons_zero, List.set_cons_succ, List.length_set, Option.bind, Option.map, if_true, if_false, ite_true, ite_false, reduceIte, Nat.reduceLT, Nat.reduceLeDiff, Bool.not_true, Bool.not_false, Nat.lt_add_left_iff_pos, Nat.zero_lt_succ, Bool.false_eq_true, Bool.true_eq_false, reduceCtorEq, num_t h1.1 h1.2, h3, need_t, need_f]
theorem cw_width {o m l : D} (h3 : g_is_number [o, .int 1, .int 4] = .ok (.bl false)) : g_check_windows [o, m, l] = .err (.bad "width") := by
  unfold g_check_windows phi_check_windows
  simp only [runR, runF, noErr, rowOf, List.map_cons, List.map_nil, List.cons_append, List.nil_append, List.length_cons, List.length_nil, List.replicate, Nat.reduceAdd, Nat.reduceSub, Nat.zero_add, Nat.sub_self, seqF, ifS, setF, setIF, retF, dropF, skipF, augF, setNF, parF, setMs, mdF, mnF, mnilF, Mx.sl, appF, extF, guardO, isOw, setRow, rowAt, rowRes, goR, goF, callDF, callRF, frR, raiseF, excOf, nameF, conF, op2F, un1F, bF, chainF, truF, truR, andF, orF, notF, tandF, torF, tnotF, ifF, nilF, consF, dispF, ndispF, nE, callF, ncallF, liftA, liftN, optR, optN, lift1, lift2, R.bind, R.toS, hd, hdS, fz, fzS, fzs, hds, truD, gNm, gTp, gsCons, gsNil, itF, itA, optI, itemsD, forS, yesF, List.getElem?_cons_zero, List.getElem?_cons_succ, List.set_cons_zero, List.set_cons_succ, List.length_set, Option.bind, Option.map, if_true, if_false, ite_true, ite_false, reduceIte, Nat.reduceLT, Nat.reduceLeDiff, Bool.not_true, Bool.not_false, Nat.lt_add_left_iff_pos, Nat.zero_lt_succ, Bool.false_eq_true, Bool.true_eq_false, reduceCtorEq, h3, need_t, need_f]
/-! ### rising -/
theorem all_true : ∀ l : List D, allC [.lst (l.filterMap fun _ => some (D.bl true))] = some (.bl true) := fun l => by
  have : ∀ l : List D, blsD (l.filterMap fun _ => some (D.bl true)) = some (l.map fun _ => true) := fun l => by
    induction l with
    | nil => rfl
    | cons a r ih =>
      rw [List.filterMap_cons]
      show (blsD (r.filterMap fun _ => some (D.bl true))).map (true :: ·) = _
      rw [ih]
      rfl
  show (blsD (l.filterMap fun _ => some (D.bl true))).map (fun bs => D.bl (bs.all id)) = _
  rw [this]
  show some (D.bl ((l.map fun _ => true).all id)) = _
  congr 2
  simp
theorem cut1 {l : List D} : cutL l (some 1) none = l.drop 1 := by
  unfold cutL
  show (l.drop (min 1 l.length)).take (l.length - min 1 l.length) = _
  have : l.drop (min 1 l.length) = l.drop 1 := by
    cases l with
    | nil => rfl
    | cons a r => simp
  rw [this, List.take_of_length_le]
  rw [List.length_drop]
  omega
theorem zipL_mem {l m : List D} {d : D} (h : d ∈ zipL l m) : ∃ (i : Nat) (a b : D), l[i]? = some a ∧ m[i]? = some b ∧ d = .tup [a, b] := by
  obtain ⟨i, hi, e⟩ := List.mem_iff_getElem.mp h
  unfold zipL at e hi
  rw [List.length_zipWith] at hi
  rw [List.getElem_zipWith] at e
  exact ⟨i, l[i], m[i], List.getElem?_eq_getElem (by omega), List.getElem?_eq_getElem (by omega), e.symm⟩
theorem rising_ok {l : List D} (h : ∀ i a b, l[i]? = some a → l[i + 1]? = some b → ltD a b = some (.bl true)) (hl : l.length ≤ 100000) : g_is_rising [.tup l] = .ok (.bl true) := by
  have hz : (zipL l (l.drop 1)).length ≤ 100000 := by
    unfold zipL
    rw [List.length_zipWith]
    omega
  have lp : lcLoop [1, 2] (gTp 2 (gsCons (gNm 1) (gsCons (gNm 2) gsNil))) yesF (op2F ltD (nameF 1) (nameF 2)) (zipL l (l.drop 1)) [] [Sl.va (.tup l), Sl.no, Sl.no] = .ok ((zipL l (l.drop 1)).filterMap fun _ => some (.bl true)) [Sl.va (.tup l), Sl.no, Sl.no] :=
    lcLoop_pure (fun _ => some (.bl true)) fun d hdm => by
      obtain ⟨i, a, b, ha, hb, rfl⟩ := zipL_mem hdm
      rw [List.getElem?_drop, Nat.add_comm] at hb
      have hlt := h i a b ha hb
      refine ⟨[Sl.va (.tup l), Sl.va a, Sl.va b], [Sl.va (.tup l), Sl.va a, Sl.va b], rfl, ?_, rfl⟩
      unfold lcTurn
      simp only [runR, runF, noErr, rowOf, List.map_cons, List.map_nil, List.cons_append, List.nil_append, List.length_cons, List.length_nil, List.replicate, Nat.reduceAdd, Nat.reduceSub, Nat.zero_add, Nat.sub_self, seqF, ifS, setF, setIF, retF, dropF, skipF, augF, setNF, parF, setMs, mdF, mnF, mnilF, Mx.sl, appF, extF, guardO, isOw, setRow, rowAt, rowRes, goR, goF, callDF, callRF, frR, raiseF, excOf, nameF, conF, op2F, un1F, bF, chainF, truF, truR, andF, orF, notF, tandF, torF, tnotF, ifF, nilF, consF, dispF, ndispF, nE, callF, ncallF, liftA, liftN, optR, optN, lift1, lift2, R.bind, R.toS, hd, hdS, fz, fzS, fzs, hds, truD, gNm, gTp, gsCons, gsNil, itF, itA, optI, itemsD, forS, yesF, List.getElem?_cons_zero, List.getElem?_cons_succ, List.set_cons_zero, List.set_cons_succ, List.length_set, Option.bind, Option.map, if_true, if_false, ite_true, ite_false, reduceIte, Nat.reduceLT, Nat.reduceLeDiff, Bool.not_true, Bool.not_false, Nat.lt_add_left_iff_pos, Nat.zero_lt_succ, Bool.false_eq_true, Bool.true_eq_false, reduceCtorEq, hlt]
  unfold g_is_rising phi_is_rising
  simp only [runR, runF, noErr, rowOf, List.map_cons, List.map_nil, List.cons_append, List.nil_append, List.length_cons, List.length_nil, List.replicate, Nat.reduceAdd, Nat.reduceSub, Nat.zero_add, Nat.sub_self, seqF, ifS, setF, setIF, retF, dropF, skipF, augF, setNF, parF, setMs, mdF, mnF, mnilF, Mx.sl, appF, extF, guardO, isOw, setRow, rowAt, rowRes, goR, goF, callDF, callRF, frR, raiseF, excOf, nameF, conF, op2F, un1F, bF, chainF, truF, truR, andF, orF, notF, tandF, torF, tnotF, ifF, nilF, consF, dispF, ndispF, nE, callF, ncallF, liftA, liftN, optR, optN, lift1, lift2, R.bind, R.toS, hd, hdS, fz, fzS, fzs, hds, truD, gNm, gTp, gsCons, gsNil, itF, itA, optI, itemsD, forS, yesF, List.getElem?_cons_zero, List.getElem?_cons_succ, List.set_cons_zero, List.set_cons_succ, List.length_set, Option.bind, Option.map, if_true, if_false, ite_true, ite_false, reduceIte, Nat.reduceLT, Nat.reduceLeDiff, Bool.not_true, Bool.not_false, Nat.lt_add_left_iff_pos, Nat.zero_lt_succ, Bool.false_eq_true, Bool.true_eq_false, reduceCtorEq, someF, noneF, sliceF, sliceD, cut1, zipI, lcF, hz, wipeE, lp, restE, keepVa, all_true]
theorem rising_ints {ps : List Int} (h : ps.Pairwise (· < ·)) (hl : ps.length ≤ 100000) : g_is_rising [.tup (ps.map D.int)] = .ok (.bl true) := rising_ok (fun i a b ha hb => by
  rw [List.getElem?_map] at ha hb
  obtain ⟨x, hx, rfl⟩ := Option.map_eq_some_iff.mp ha
  obtain ⟨y, hy, rfl⟩ := Option.map_eq_some_iff.mp hb
  obtain ⟨h1, e1⟩ := List.getElem?_eq_some_iff.mp hx
  obtain ⟨h2, e2⟩ := List.getElem?_eq_some_iff.mp hy
  have := List.pairwise_iff_getElem.mp h i (i + 1) h1 h2 (by omega)
  rw [e1, e2] at this
  show some (D.bl (decide (x < y))) = _
  rw [decide_eq_true this]) (by rw [List.length_map]; exact hl)
theorem rising_copies {cs : List (Int × Int)} (h : cs.Pairwise lexLt) (hl : cs.length ≤ 100000) : g_is_rising [.tup (cs.map cpD)] = .ok (.bl true) := rising_ok (fun i a b ha hb => by
  rw [List.getElem?_map] at ha hb
  obtain ⟨x, hx, rfl⟩ := Option.map_eq_some_iff.mp ha
  obtain ⟨y, hy, rfl⟩ := Option.map_eq_some_iff.mp hb
  obtain ⟨h1, e1⟩ := List.getElem?_eq_some_iff.mp hx
  obtain ⟨h2, e2⟩ := List.getElem?_eq_some_iff.mp hy
  have := List.pairwise_iff_getElem.mp h i (i + 1) h1 h2 (by omega)
  rw [e1, e2] at this
  show some (D.bl (if x.1 = y.1 then (if x.2 = y.2 then false else decide (x.2 < y.2)) else decide (x.1 < y.1))) = _
  rcases this with q | ⟨q1, q2⟩
  · rw [if_neg (by omega), decide_eq_true q]
  · rw [if_pos q1, if_neg (by omega), decide_eq_true q2]) (by rw [List.length_map]; exact hl)
/-! ### copies, rounds -/
theorem len2 {a b : D} : lenD [.tup [a, b]] = some (.int 2) := rfl
theorem len3 {a b c : D} : lenD [.tup [a, b, c]] = some (.int 3) := rfl
theorem ix20 {a b : D} : idxD (.tup [a, b]) (.int 0) = some a := rfl
theorem ix21 {a b : D} : idxD (.tup [a, b]) (.int 1) = some b := rfl
theorem ix30 {a b c : D} : idxD (.tup [a, b, c]) (.int 0) = some a := rfl
theorem ix31 {a b c : D} : idxD (.tup [a, b, c]) (.int 1) = some b := rfl
theorem ix32 {a b c : D} : idxD (.tup [a, b, c]) (.int 2) = some c := rfl
theorem is2 : ((2 : Int) == 2) = true := rfl
theorem is3 : ((3 : Int) == 3) = true := rfl
theorem copy_ok {c : Int × Int} {w n : Int} (h : 1 ≤ c.1 ∧ c.1 ≤ n ∧ 0 ≤ c.2 ∧ c.2 ≤ w - 1) : g_is_copy [cpD c, .int w, .int n] = .ok (.bl true) := by
  unfold g_is_copy phi_is_copy cpD
  simp only [runR, runF, noErr, rowOf, List.map_cons, List.map_nil, List.cons_append, List.nil_append, List.length_cons, List.length_nil, List.replicate, Nat.reduceAdd, Nat.reduceSub, Nat.zero_add, Nat.sub_self, seqF, ifS, setF, setIF, retF, dropF, skipF, augF, setNF, parF, setMs, mdF, mnF, mnilF, Mx.sl, appF, extF, guardO, isOw, setRow, rowAt, rowRes, goR, goF, callDF, callRF, frR, raiseF, excOf, nameF, conF, op2F, un1F, bF, chainF, truF, truR, andF, orF, notF, tandF, torF, tnotF, ifF, nilF, consF, dispF, ndispF, nE, callF, ncallF, liftA, liftN, optR, optN, lift1, lift2, R.bind, R.toS, hd, hdS, fz, fzS, fzs, hds, truD, gNm, gTp, gsCons, gsNil, itF, itA, optI, itemsD, forS, yesF, List.getElem?_cons_zero, List.getElem?_cons_succ, List.set_cons_zero, List.set_cons_succ, List.length_set, Option.bind, Option.map, if_true, if_false, ite_true, ite_false, reduceIte, Nat.reduceLT, Nat.reduceLeDiff, Bool.not_true, Bool.not_false, Nat.lt_add_left_iff_pos, Nat.zero_lt_succ, Bool.false_eq_true, Bool.true_eq_false, reduceCtorEq, i_non_int, i_non_bool, i_non_str, i_non_tuple, i_non_list, i_bl_int, i_bl_bool, i_bl_str, i_bl_tuple, i_bl_list, i_int_int, i_int_bool, i_int_str, i_int_tuple, i_int_list, i_str_int, i_str_bool, i_str_str, i_str_tuple, i_str_list, i_tup_int, i_tup_bool, i_tup_str, i_tup_tuple, i_tup_list, i_lst_int, i_lst_bool, i_lst_str, i_lst_tuple, i_lst_list, len2, eqD_int, is2, ix20, ix21, num_t h.1 h.2.1, num_t h.2.2.1 h.2.2.2, subD, int0D]
theorem round_ok {w late i : Nat} {r : Rd} (h : OkRd w late i r) (hw : w ≤ 4) (hlt : late ≤ 4) : g_is_round [r.d, .int (w : Nat), .int ((min late i : Nat) : Int)] = .ok (.bl true) := by
  obtain ⟨h1, h2⟩ := h
  have c4 : min late i * w ≤ 4 * 4 := Nat.mul_le_mul (Nat.le_trans (Nat.min_le_left _ _) hlt) hw
  have hcl : r.copies.length ≤ 1000 := by have := h1.2.2; omega
  have hpl : r.places.length ≤ 1000 := by have := h2.2.2; omega
  have l1 : (r.copies.map cpD).length ≤ 100000 := by rw [List.length_map]; omega
  have l2 : (r.places.map D.int).length ≤ 100000 := by rw [List.length_map]; omega
  have r1 := rising_copies h1.1 (by omega)
  have r2 := rising_ints h2.1 (by omega)
  have lp1 : ∀ x0 x1 x2 : Sl, x1 = Sl.va (.int (w : Nat)) → x2 = Sl.va (.int ((min late i : Nat) : Int)) → lcLoop [3] (gNm 3) yesF (callDF 3 g_is_copy (consF (nameF 3) (consF (nameF 1) (consF (nameF 2) nilF)))) (r.copies.map cpD) [] [x0, x1, x2, Sl.no] = .ok ((r.copies.map cpD).filterMap fun _ => some (.bl true)) [x0, x1, x2, Sl.no] := fun x0 x1 x2 e1 e2 => by
    subst e1 e2
    exact lcLoop_pure (fun _ => some (.bl true)) fun d hdm => by
      obtain ⟨c, hc, rfl⟩ := List.mem_map.mp hdm
      have hh := h1.2.1 c hc
      have hk := copy_ok (c := c) (w := (w : Nat)) (n := ((min late i : Nat) : Int)) ⟨hh.1, hh.2.1, hh.2.2.1, by omega⟩
      refine ⟨[x0, Sl.va (.int (w : Nat)), Sl.va (.int ((min late i : Nat) : Int)), Sl.va (cpD c)], [x0, Sl.va (.int (w : Nat)), Sl.va (.int ((min late i : Nat) : Int)), Sl.va (cpD c)], rfl, ?_, rfl⟩
      unfold lcTurn
      simp only [runR, runF, noErr, rowOf, List.map_cons, List.map_nil, List.cons_append, List.nil_append, List.length_cons, List.length_nil, List.replicate, Nat.reduceAdd, Nat.reduceSub, Nat.zero_add, Nat.sub_self, seqF, ifS, setF, setIF, retF, dropF, skipF, augF, setNF, parF, setMs, mdF, mnF, mnilF, Mx.sl, appF, extF, guardO, isOw, setRow, rowAt, rowRes, goR, goF, callDF, callRF, frR, raiseF, excOf, nameF, conF, op2F, un1F, bF, chainF, truF, truR, andF, orF, notF, tandF, torF, tnotF, ifF, nilF, consF, dispF, ndispF, nE, callF, ncallF, liftA, liftN, optR, optN, lift1, lift2, R.bind, R.toS, hd, hdS, fz, fzS, fzs, hds, truD, gNm, gTp, gsCons, gsNil, itF, itA, optI, itemsD, forS, yesF, List.getElem?_cons_zero, List.getElem?_cons_succ, List.set_cons_zero, List.set_cons_succ, List.length_set, Option.bind, Option.map, if_true, if_false, ite_true, ite_false, reduceIte, Nat.reduceLT, Nat.reduceLeDiff, Bool.not_true, Bool.not_false, Nat.lt_add_left_iff_pos, Nat.zero_lt_succ, Bool.false_eq_true, Bool.true_eq_false, reduceCtorEq, hk]
  have lp2 : ∀ x0 x1 x2 x3 : Sl, x1 = Sl.va (.int (w : Nat)) → lcLoop [3] (gNm 3) yesF (callDF 3 g_is_number (consF (nameF 3) (consF (conF (.int 0)) (consF (op2F subD (nameF 1) (conF (.int 1))) nilF)))) (r.places.map D.int) [] [x0, x1, x2, Sl.no] = .ok ((r.places.map D.int).filterMap fun _ => some (.bl true)) [x0, x1, x2, Sl.no] := fun x0 x1 x2 x3 e1 => by
    subst e1
    exact lcLoop_pure (fun _ => some (.bl true)) fun d hdm => by
      obtain ⟨p, hp, rfl⟩ := List.mem_map.mp hdm
      have hh := h2.2.1 p hp
      have hk := num_t (v := p) (a := 0) (b := (w : Int) - 1) hh.1 (by omega)
      refine ⟨[x0, Sl.va (.int (w : Nat)), x2, Sl.va (.int p)], [x0, Sl.va (.int (w : Nat)), x2, Sl.va (.int p)], rfl, ?_, rfl⟩
      unfold lcTurn
      simp only [runR, runF, noErr, rowOf, List.map_cons, List.map_nil, List.cons_append, List.nil_append, List.length_cons, List.length_nil, List.replicate, Nat.reduceAdd, Nat.reduceSub, Nat.zero_add, Nat.sub_self, seqF, ifS, setF, setIF, retF, dropF, skipF, augF, setNF, parF, setMs, mdF, mnF, mnilF, Mx.sl, appF, extF, guardO, isOw, setRow, rowAt, rowRes, goR, goF, callDF, callRF, frR, raiseF, excOf, nameF, conF, op2F, un1F, bF, chainF, truF, truR, andF, orF, notF, tandF, torF, tnotF, ifF, nilF, consF, dispF, ndispF, nE, callF, ncallF, liftA, liftN, optR, optN, lift1, lift2, R.bind, R.toS, hd, hdS, fz, fzS, fzs, hds, truD, gNm, gTp, gsCons, gsNil, itF, itA, optI, itemsD, forS, yesF, List.getElem?_cons_zero, List.getElem?_cons_succ, List.set_cons_zero, List.set_cons_succ, List.length_set, Option.bind, Option.map, if_true, if_false, ite_true, ite_false, reduceIte, Nat.reduceLT, Nat.reduceLeDiff, Bool.not_true, Bool.not_false, Nat.lt_add_left_iff_pos, Nat.zero_lt_succ, Bool.false_eq_true, Bool.true_eq_false, reduceCtorEq, subD, int0D, hk]
  unfold g_is_round phi_is_round Rd.d
  simp only [runR, runF, noErr, rowOf, List.map_cons, List.map_nil, List.cons_append, List.nil_append, List.length_cons, List.length_nil, List.replicate, Nat.reduceAdd, Nat.reduceSub, Nat.zero_add, Nat.sub_self, seqF, ifS, setF, setIF, retF, dropF, skipF, augF, setNF, parF, setMs, mdF, mnF, mnilF, Mx.sl, appF, extF, guardO, isOw, setRow, rowAt, rowRes, goR, goF, callDF, callRF, frR, raiseF, excOf, nameF, conF, op2F, un1F, bF, chainF, truF, truR, andF, orF, notF, tandF, torF, tnotF, ifF, nilF, consF, dispF, ndispF, nE, callF, ncallF, liftA, liftN, optR, optN, lift1, lift2, R.bind, R.toS, hd, hdS, fz, fzS, fzs, hds, truD, gNm, gTp, gsCons, gsNil, itF, itA, optI, itemsD, forS, yesF, List.getElem?_cons_zero, List.getElem?_cons_succ, List.set_cons_zero, List.set_cons_succ, List.length_set, Option.bind, Option.map, if_true, if_false, ite_true, ite_false, reduceIte, Nat.reduceLT, Nat.reduceLeDiff, Bool.not_true, Bool.not_false, Nat.lt_add_left_iff_pos, Nat.zero_lt_succ, Bool.false_eq_true, Bool.true_eq_false, reduceCtorEq, i_non_int, i_non_bool, i_non_str, i_non_tuple, i_non_list, i_bl_int, i_bl_bool, i_bl_str, i_bl_tuple, i_bl_list, i_int_int, i_int_bool, i_int_str, i_int_tuple, i_int_list, i_str_int, i_str_bool, i_str_str, i_str_tuple, i_str_list, i_tup_int, i_tup_bool, i_tup_str, i_tup_tuple, i_tup_list, i_lst_int, i_lst_bool, i_lst_str, i_lst_tuple, i_lst_list, len3, eqD_int, is3, ix30, ix31, ix32, lcF, l1, l2, wipeE, lp1 _ _ _ rfl rfl, lp2 _ _ _ Sl.no rfl, restE, keepVa, all_true, r1, r2]
theorem enum_at {l : List D} {i : Nat} {d : D} (h : (enumL l)[i]? = some d) : ∃ x, l[i]? = some x ∧ d = .tup [.int (i : Nat), x] := enumL_at h
theorem rounds_good {w late : Nat} {rs : List Rd} (ho : OkRs w late rs) (hl : rs.length ≤ 40) (hw : w ≤ 4) (hlt : late ≤ 4) : g_check_rounds [.tup (rs.map Rd.d), .int (w : Nat), .int (late : Nat)] = .ok .non := by
  have hle : (enumL (rs.map Rd.d)).length ≤ 100000 := by rw [enumL_len, List.length_map]; omega
  have lp : ∀ x3 : Sl, lcLoop [4, 5] (gTp 2 (gsCons (gNm 4) (gsCons (gNm 5) gsNil))) yesF (callDF 3 g_is_round (consF (nameF 5) (consF (nameF 1) (consF (callF min2D (consF (nameF 2) (consF (nameF 4) nilF))) nilF)))) (enumL (rs.map Rd.d)) [] [Sl.va (.tup (rs.map Rd.d)), Sl.va (.int (w : Nat)), Sl.va (.int (late : Nat)), x3, Sl.no, Sl.no] =
      .ok ((enumL (rs.map Rd.d)).filterMap fun _ => some (.bl true)) [Sl.va (.tup (rs.map Rd.d)), Sl.va (.int (w : Nat)), Sl.va (.int (late : Nat)), x3, Sl.no, Sl.no] := fun x3 =>
    lcLoop_pure (fun _ => some (.bl true)) fun d hdm => by
      obtain ⟨i, hi, e⟩ := List.mem_iff_getElem.mp hdm
      obtain ⟨x, hx, rfl⟩ := enum_at (i := i) (d := d) (by rw [List.getElem?_eq_getElem hi, e])
      obtain ⟨hj, rfl⟩ := Rd_at hx
      have hk := round_ok (ho i rs[i] (List.getElem?_eq_getElem hj)) hw hlt
      refine ⟨[Sl.va (.tup (rs.map Rd.d)), Sl.va (.int (w : Nat)), Sl.va (.int (late : Nat)), x3, Sl.va (.int (i : Nat)), Sl.va rs[i].d], [Sl.va (.tup (rs.map Rd.d)), Sl.va (.int (w : Nat)), Sl.va (.int (late : Nat)), x3, Sl.va (.int (i : Nat)), Sl.va rs[i].d], rfl, ?_, rfl⟩
      unfold lcTurn
      simp only [runR, runF, noErr, rowOf, List.map_cons, List.map_nil, List.cons_append, List.nil_append, List.length_cons, List.length_nil, List.replicate, Nat.reduceAdd, Nat.reduceSub, Nat.zero_add, Nat.sub_self, seqF, ifS, setF, setIF, retF, dropF, skipF, augF, setNF, parF, setMs, mdF, mnF, mnilF, Mx.sl, appF, extF, guardO, isOw, setRow, rowAt, rowRes, goR, goF, callDF, callRF, frR, raiseF, excOf, nameF, conF, op2F, un1F, bF, chainF, truF, truR, andF, orF, notF, tandF, torF, tnotF, ifF, nilF, consF, dispF, ndispF, nE, callF, ncallF, liftA, liftN, optR, optN, lift1, lift2, R.bind, R.toS, hd, hdS, fz, fzS, fzs, hds, truD, gNm, gTp, gsCons, gsNil, itF, itA, optI, itemsD, forS, yesF, List.getElem?_cons_zero, List.getElem?_cons_succ, List.set_cons_zero, List.set_cons_succ, List.length_set, Option.bind, Option.map, if_true, if_false, ite_true, ite_false, reduceIte, Nat.reduceLT, Nat.reduceLeDiff, Bool.not_true, Bool.not_false, Nat.lt_add_left_iff_pos, Nat.zero_lt_succ, Bool.false_eq_true, Bool.true_eq_false, reduceCtorEq, min2_nat, hk]
  have h40 : (((rs.map Rd.d).length : Nat) : Int) ≤ 40 := by rw [List.length_map]; omega
  unfold g_check_rounds phi_check_rounds
  simp only [runR, runF, noErr, rowOf, List.map_cons, List.map_nil, List.cons_append, List.nil_append, List.length_cons, List.length_nil, List.replicate, Nat.reduceAdd, Nat.reduceSub, Nat.zero_add, Nat.sub_self, seqF, ifS, setF, setIF, retF, dropF, skipF, augF, setNF, parF, setMs, mdF, mnF, mnilF, Mx.sl, appF, extF, guardO, isOw, setRow, rowAt, rowRes, goR, goF, callDF, callRF, frR, raiseF, excOf, nameF, conF, op2F, un1F, bF, chainF, truF, truR, andF, orF, notF, tandF, torF, tnotF, ifF, nilF, consF, dispF, ndispF, nE, callF, ncallF, liftA, liftN, optR, optN, lift1, lift2, R.bind, R.toS, hd, hdS, fz, fzS, fzs, hds, truD, gNm, gTp, gsCons, gsNil, itF, itA, optI, itemsD, forS, yesF, List.getElem?_cons_zero, List.getElem?_cons_succ, List.set_cons_zero, List.set_cons_succ, List.length_set, Option.bind, Option.map, if_true, if_false, ite_true, ite_false, reduceIte, Nat.reduceLT, Nat.reduceLeDiff, Bool.not_true, Bool.not_false, Nat.lt_add_left_iff_pos, Nat.zero_lt_succ, Bool.false_eq_true, Bool.true_eq_false, reduceCtorEq, i_non_int, i_non_bool, i_non_str, i_non_tuple, i_non_list, i_bl_int, i_bl_bool, i_bl_str, i_bl_tuple, i_bl_list, i_int_int, i_int_bool, i_int_str, i_int_tuple, i_int_list, i_str_int, i_str_bool, i_str_str, i_str_tuple, i_str_list, i_tup_int, i_tup_bool, i_tup_str, i_tup_tuple, i_tup_list, i_lst_int, i_lst_bool, i_lst_str, i_lst_tuple, i_lst_list, lenD, leD, int0D, h40, decide_true, enumI, lcF, hle, wipeE, lp, restE, keepVa, all_true, need_t]
theorem run_good {w late : Nat} {m : Int} {rs : List Rd} (ho : OkRs w late rs) (hl : rs.length ≤ 40) (h1 : 1 ≤ w) (hw : w ≤ 4) (hlt : late ≤ 4) (hm : 1 ≤ m ∧ m ≤ 20) : g_run_windows [.int (w : Nat), .int m, .int (late : Nat), .tup (rs.map Rd.d)] = .ok (.tup ((sta m rs).its.map itD)) := by
  unfold g_run_windows phi_run_windows
  simp only [runR, runF, noErr, rowOf, List.map_cons, List.map_nil, List.cons_append, List.nil_append, List.length_cons, List.length_nil, List.replicate, Nat.reduceAdd, Nat.reduceSub, Nat.zero_add, Nat.sub_self, seqF, ifS, setF, setIF, retF, dropF, skipF, augF, setNF, parF, setMs, mdF, mnF, mnilF, Mx.sl, appF, extF, guardO, isOw, setRow, rowAt, rowRes, goR, goF, callDF, callRF, frR, raiseF, excOf, nameF, conF, op2F, un1F, bF, chainF, truF, truR, andF, orF, notF, tandF, torF, tnotF, ifF, nilF, consF, dispF, ndispF, nE, callF, ncallF, liftA, liftN, optR, optN, lift1, lift2, R.bind, R.toS, hd, hdS, fz, fzS, fzs, hds, truD, gNm, gTp, gsCons, gsNil, itF, itA, optI, itemsD, forS, yesF, List.getElem?_cons_zero, List.getElem?_cons_succ, List.set_cons_zero, List.set_cons_succ, List.length_set, Option.bind, Option.map, if_true, if_false, ite_true, ite_false, reduceIte, Nat.reduceLT, Nat.reduceLeDiff, Bool.not_true, Bool.not_false, Nat.lt_add_left_iff_pos, Nat.zero_lt_succ, Bool.false_eq_true, Bool.true_eq_false, reduceCtorEq, cw_ok (w := (w : Nat)) (m := m) (l := (late : Nat)) (by omega) hm (by omega), rounds_good ho hl hw hlt, played_ok (show 0 < m by omega) hl ho hw hlt]
end G41
set_option Elab.async false
set_option linter.all false
set_option maxRecDepth 100000
set_option maxHeartbeats 4000000
/-! k41, the plain law, 5: what is refused; the order. -/
namespace G41
open PySem PySem.Spec PyProof.Rows L2 PL
def whole : D := .tup [.tup [], .tup [], .bl false]
def bads (w : Int) : List D := [.non, .lst [], .tup (List.replicate 41 [whole]).flatten, .tup [.tup [.tup [], .tup [.int w], .bl false]], .tup [.tup [.tup [], .tup [.int 0, .int 0], .bl false]], .tup [.tup [.tup [], .tup [], .int 0]],
  .tup [.tup [.tup [.tup [.int 1, .int 0]], .tup [], .bl false]], .tup [.tup [.tup [], .tup []]], .tup [.int 5]]
def bads2 (w : Int) : List D := [.tup [.tup [.tup [.int 2, .int 0]], .tup [], .bl true], .tup [.tup [.tup [.int 1, .int w]], .tup [], .bl true], .tup [.tup [.tup [.int 1, .int 0], .tup [.int 1, .int 0]], .tup [], .bl true],
  .tup [.tup [.tup [.int 0, .int 0]], .tup [], .bl true], .tup [.tup [.tup [.bl true, .int 0]], .tup [], .bl true], .tup [.lst [], .tup [], .bl true]]
def isR : FR → Bool
  | .err (.bad n) => n == "rounds"
  | _ => false
theorem isR_ok {r : FR} (h : isR r = true) : r = .err (.bad "rounds") := by
  unfold isR at h
  split at h
  · rw [eq_of_beq h]
  · cases h
def chk (w l : Nat) : Bool := (bads w).all (fun d => isR (g_check_rounds [d, .int (w : Nat), .int (l : Nat)])) && (l == 0 || (bads2 w).all (fun d => isR (g_check_rounds [.tup [whole, d], .int (w : Nat), .int (l : Nat)])))
theorem chk_all : ([1, 2, 3, 4].all fun w => [0, 1, 2, 3, 4].all fun l => chk w l) = true := by decide +kernel
theorem chk_of {w l : Nat} (h1 : 1 ≤ w) (h2 : w ≤ 4) (h3 : l ≤ 4) : chk w l = true := by
  have hw : w ∈ [1, 2, 3, 4] := by
    have : w = 1 ∨ w = 2 ∨ w = 3 ∨ w = 4 := by omega
    simp [this]
  have hl : l ∈ [0, 1, 2, 3, 4] := by
    have : l = 0 ∨ l = 1 ∨ l = 2 ∨ l = 3 ∨ l = 4 := by omega
    simp [this]
  exact List.all_eq_true.mp (List.all_eq_true.mp chk_all w hw) l hl
theorem bad1 {w l : Nat} {d : D} (h1 : 1 ≤ w) (h2 : w ≤ 4) (h3 : l ≤ 4) (h : d ∈ bads w) : g_check_rounds [d, .int (w : Nat), .int (l : Nat)] = .err (.bad "rounds") := by
  have c := chk_of h1 h2 h3
  unfold chk at c
  exact isR_ok (List.all_eq_true.mp (Bool.and_eq_true_iff.mp c).1 d h)
theorem bad2 {w l : Nat} {d : D} (h1 : 1 ≤ w) (h2 : w ≤ 4) (h0 : 0 < l) (h3 : l ≤ 4) (h : d ∈ bads2 w) : g_check_rounds [.tup [whole, d], .int (w : Nat), .int (l : Nat)] = .err (.bad "rounds") := by
  have c := chk_of h1 h2 h3
  unfold chk at c
  have hz : (l == 0) = false := by simpa using (by omega : l ≠ 0)
  rw [hz, Bool.false_or] at c
  exact isR_ok (List.all_eq_true.mp (Bool.and_eq_true_iff.mp c).2 d h)
/-- both calls refuse alike -/
def Refuse (g : List D → FR) : Prop := ∀ (w l : Nat) (m : Int) (o0 o1 o2 b : D), 1 ≤ w → w ≤ 4 → l ≤ 4 → 1 ≤ m → m ≤ 20 → g_is_number [o0, .int 1, .int 4] = .ok (.bl false) → g_is_number [o1, .int 1, .int 20] = .ok (.bl false) → g_is_number [o2, .int 0, .int 4] = .ok (.bl false) → g_check_rounds [b, .int (w : Nat), .int (l : Nat)] = .err (.bad "rounds") →
  g [.int (w : Nat), .int m, .int (l : Nat), b] = .err (.bad "rounds") ∧ g [.int (w : Nat), .int m, o2, b] = .err (.bad "late") ∧ g [.int (w : Nat), o1, o2, b] = .err (.bad "modulus") ∧ g [o0, o1, o2, b] = .err (.bad "width")
theorem run_ref : Refuse g_run_windows := fun w l m o0 o1 o2 b h1 h2 h3 h4 h5 k0 k1 k2 kb => by
  unfold g_run_windows phi_run_windows
  refine ⟨?_, ?_, ?_, ?_⟩
  · simp only [runR, runF, noErr, rowOf, List.map_cons, List.map_nil, List.cons_append, List.nil_append, List.length_cons, List.length_nil, List.replicate, Nat.reduceAdd, Nat.reduceSub, Nat.zero_add, Nat.sub_self, seqF, ifS, setF, setIF, retF, dropF, skipF, augF, setNF, parF, setMs, mdF, mnF, mnilF, Mx.sl, appF, extF, guardO, isOw, setRow, rowAt, rowRes, goR, goF, callDF, callRF, frR, raiseF, excOf, nameF, conF, op2F, un1F, bF, chainF, truF, truR, andF, orF, notF, tandF, torF, tnotF, ifF, nilF, consF, dispF, ndispF, nE, callF, ncallF, liftA, liftN, optR, optN, lift1, lift2, R.bind, R.toS, hd, hdS, fz, fzS, fzs, hds, truD, gNm, gTp, gsCons, gsNil, itF, itA, optI, itemsD, forS, yesF, List.getElem?_cons_zero, List.getElem?_cons_succ, List.set_cons_zero, List.set_cons_succ, List.length_set, Option.bind, Option.map, if_true, if_false, ite_true, ite_false, reduceIte, Nat.reduceLT, Nat.reduceLeDiff, Bool.not_true, Bool.not_false, Nat.lt_add_left_iff_pos, Nat.zero_lt_succ, Bool.false_eq_true, Bool.true_eq_false, reduceCtorEq, cw_ok (w := (w : Nat)) (m := m) (l := (l : Nat)) (by omega) ⟨h4, h5⟩ (by omega), kb]
  · simp only [runR, runF, noErr, rowOf, List.map_cons, List.map_nil, List.cons_append, List.nil_append, List.length_cons, List.length_nil, List.replicate, Nat.reduceAdd, Nat.reduceSub, Nat.zero_add, Nat.sub_self, seqF, ifS, setF, setIF, retF, dropF, skipF, augF, setNF, parF, setMs, mdF, mnF, mnilF, Mx.sl, appF, extF, guardO, isOw, setRow, rowAt, rowRes, goR, goF, callDF, callRF, frR, raiseF, excOf, nameF, conF, op2F, un1F, bF, chainF, truF, truR, andF, orF, notF, tandF, torF, tnotF, ifF, nilF, consF, dispF, ndispF, nE, callF, ncallF, liftA, liftN, optR, optN, lift1, lift2, R.bind, R.toS, hd, hdS, fz, fzS, fzs, hds, truD, gNm, gTp, gsCons, gsNil, itF, itA, optI, itemsD, forS, yesF, List.getElem?_cons_zero, List.getElem?_cons_succ, List.set_cons_zero, List.set_cons_succ, List.length_set, Option.bind, Option.map, if_true, if_false, ite_true, ite_false, reduceIte, Nat.reduceLT, Nat.reduceLeDiff, Bool.not_true, Bool.not_false, Nat.lt_add_left_iff_pos, Nat.zero_lt_succ, Bool.false_eq_true, Bool.true_eq_false, reduceCtorEq, cw_late (w := (w : Nat)) (m := m) (o := o2) (by omega) ⟨h4, h5⟩ k2]
  · simp only [runR, runF, noErr, rowOf, List.map_cons, List.map_nil, List.cons_append, List.nil_append, List.length_cons, List.length_nil, List.replicate, Nat.reduceAdd, Nat.reduceSub, Nat.zero_add, Nat.sub_self, seqF, ifS, setF, setIF, retF, dropF, skipF, augF, setNF, parF, setMs, mdF, mnF, mnilF, Mx.sl, appF, extF, guardO, isOw, setRow, rowAt, rowRes, goR, goF, callDF, callRF, frR, raiseF, excOf, nameF, conF, op2F, un1F, bF, chainF, truF, truR, andF, orF, notF, tandF, torF, tnotF, ifF, nilF, consF, dispF, ndispF, nE, callF, ncallF, liftA, liftN, optR, optN, lift1, lift2, R.bind, R.toS, hd, hdS, fz, fzS, fzs, hds, truD, gNm, gTp, gsCons, gsNil, itF, itA, optI, itemsD, forS, yesF, List.getElem?_cons_zero, List.getElem?_cons_succ, List.set_cons_zero, List.set_cons_succ, List.length_set, Option.bind, Option.map, if_true, if_false, ite_true, ite_false, reduceIte, Nat.reduceLT, Nat.reduceLeDiff, Bool.not_true, Bool.not_false, Nat.lt_add_left_iff_pos, Nat.zero_lt_succ, Bool.false_eq_true, Bool.true_eq_false, reduceCtorEq, cw_mod (w := (w : Nat)) (o := o1) (l := o2) (by omega) k1]
  · simp only [runR, runF, noErr, rowOf, List.map_cons, List.map_nil, List.cons_append, List.nil_append, List.length_cons, List.length_nil, List.replicate, Nat.reduceAdd, Nat.reduceSub, Nat.zero_add, Nat.sub_self, seqF, ifS, setF, setIF, retF, dropF, skipF, augF, setNF, parF, setMs, mdF, mnF, mnilF, Mx.sl, appF, extF, guardO, isOw, setRow, rowAt, rowRes, goR, goF, callDF, callRF, frR, raiseF, excOf, nameF, conF, op2F, un1F, bF, chainF, truF, truR, andF, orF, notF, tandF, torF, tnotF, ifF, nilF, consF, dispF, ndispF, nE, callF, ncallF, liftA, liftN, optR, optN, lift1, lift2, R.bind, R.toS, hd, hdS, fz, fzS, fzs, hds, truD, gNm, gTp, gsCons, gsNil, itF, itA, optI, itemsD, forS, yesF, List.getElem?_cons_zero, List.getElem?_cons_succ, List.set_cons_zero, List.set_cons_succ, List.length_set, Option.bind, Option.map, if_true, if_false, ite_true, ite_false, reduceIte, Nat.reduceLT, Nat.reduceLeDiff, Bool.not_true, Bool.not_false, Nat.lt_add_left_iff_pos, Nat.zero_lt_succ, Bool.false_eq_true, Bool.true_eq_false, reduceCtorEq, cw_width (o := o0) (m := o1) (l := o2) k0]
theorem are_ref : Refuse g_are_in_order := fun w l m o0 o1 o2 b h1 h2 h3 h4 h5 k0 k1 k2 kb => by
  obtain ⟨a, b', c, d⟩ := run_ref w l m o0 o1 o2 b h1 h2 h3 h4 h5 k0 k1 k2 kb
  unfold g_are_in_order phi_are_in_order
  refine ⟨?_, ?_, ?_, ?_⟩
  · simp only [runR, runF, noErr, rowOf, List.map_cons, List.map_nil, List.cons_append, List.nil_append, List.length_cons, List.length_nil, List.replicate, Nat.reduceAdd, Nat.reduceSub, Nat.zero_add, Nat.sub_self, seqF, ifS, setF, setIF, retF, dropF, skipF, augF, setNF, parF, setMs, mdF, mnF, mnilF, Mx.sl, appF, extF, guardO, isOw, setRow, rowAt, rowRes, goR, goF, callDF, callRF, frR, raiseF, excOf, nameF, conF, op2F, un1F, bF, chainF, truF, truR, andF, orF, notF, tandF, torF, tnotF, ifF, nilF, consF, dispF, ndispF, nE, callF, ncallF, liftA, liftN, optR, optN, lift1, lift2, R.bind, R.toS, hd, hdS, fz, fzS, fzs, hds, truD, gNm, gTp, gsCons, gsNil, itF, itA, optI, itemsD, forS, yesF, List.getElem?_cons_zero, List.getElem?_cons_succ, List.set_cons_zero, List.set_cons_succ, List.length_set, Option.bind, Option.map, if_true, if_false, ite_true, ite_false, reduceIte, Nat.reduceLT, Nat.reduceLeDiff, Bool.not_true, Bool.not_false, Nat.lt_add_left_iff_pos, Nat.zero_lt_succ, Bool.false_eq_true, Bool.true_eq_false, reduceCtorEq, Nat.zero_le, a]
  · simp only [runR, runF, noErr, rowOf, List.map_cons, List.map_nil, List.cons_append, List.nil_append, List.length_cons, List.length_nil, List.replicate, Nat.reduceAdd, Nat.reduceSub, Nat.zero_add, Nat.sub_self, seqF, ifS, setF, setIF, retF, dropF, skipF, augF, setNF, parF, setMs, mdF, mnF, mnilF, Mx.sl, appF, extF, guardO, isOw, setRow, rowAt, rowRes, goR, goF, callDF, callRF, frR, raiseF, excOf, nameF, conF, op2F, un1F, bF, chainF, truF, truR, andF, orF, notF, tandF, torF, tnotF, ifF, nilF, consF, dispF, ndispF, nE, callF, ncallF, liftA, liftN, optR, optN, lift1, lift2, R.bind, R.toS, hd, hdS, fz, fzS, fzs, hds, truD, gNm, gTp, gsCons, gsNil, itF, itA, optI, itemsD, forS, yesF, List.getElem?_cons_zero, List.getElem?_cons_succ, List.set_cons_zero, List.set_cons_succ, List.length_set, Option.bind, Option.map, if_true, if_false, ite_true, ite_false, reduceIte, Nat.reduceLT, Nat.reduceLeDiff, Bool.not_true, Bool.not_false, Nat.lt_add_left_iff_pos, Nat.zero_lt_succ, Bool.false_eq_true, Bool.true_eq_false, reduceCtorEq, Nat.zero_le, b']
  · simp only [runR, runF, noErr, rowOf, List.map_cons, List.map_nil, List.cons_append, List.nil_append, List.length_cons, List.length_nil, List.replicate, Nat.reduceAdd, Nat.reduceSub, Nat.zero_add, Nat.sub_self, seqF, ifS, setF, setIF, retF, dropF, skipF, augF, setNF, parF, setMs, mdF, mnF, mnilF, Mx.sl, appF, extF, guardO, isOw, setRow, rowAt, rowRes, goR, goF, callDF, callRF, frR, raiseF, excOf, nameF, conF, op2F, un1F, bF, chainF, truF, truR, andF, orF, notF, tandF, torF, tnotF, ifF, nilF, consF, dispF, ndispF, nE, callF, ncallF, liftA, liftN, optR, optN, lift1, lift2, R.bind, R.toS, hd, hdS, fz, fzS, fzs, hds, truD, gNm, gTp, gsCons, gsNil, itF, itA, optI, itemsD, forS, yesF, List.getElem?_cons_zero, List.getElem?_cons_succ, List.set_cons_zero, List.set_cons_succ, List.length_set, Option.bind, Option.map, if_true, if_false, ite_true, ite_false, reduceIte, Nat.reduceLT, Nat.reduceLeDiff, Bool.not_true, Bool.not_false, Nat.lt_add_left_iff_pos, Nat.zero_lt_succ, Bool.false_eq_true, Bool.true_eq_false, reduceCtorEq, Nat.zero_le, c]
  · simp only [runR, runF, noErr, rowOf, List.map_cons, List.map_nil, List.cons_append, List.nil_append, List.length_cons, List.length_nil, List.replicate, Nat.reduceAdd, Nat.reduceSub, Nat.zero_add, Nat.sub_self, seqF, ifS, setF, setIF, retF, dropF, skipF, augF, setNF, parF, setMs, mdF, mnF, mnilF, Mx.sl, appF, extF, guardO, isOw, setRow, rowAt, rowRes, goR, goF, callDF, callRF, frR, raiseF, excOf, nameF, conF, op2F, un1F, bF, chainF, truF, truR, andF, orF, notF, tandF, torF, tnotF, ifF, nilF, consF, dispF, ndispF, nE, callF, ncallF, liftA, liftN, optR, optN, lift1, lift2, R.bind, R.toS, hd, hdS, fz, fzS, fzs, hds, truD, gNm, gTp, gsCons, gsNil, itF, itA, optI, itemsD, forS, yesF, List.getElem?_cons_zero, List.getElem?_cons_succ, List.set_cons_zero, List.set_cons_succ, List.length_set, Option.bind, Option.map, if_true, if_false, ite_true, ite_false, reduceIte, Nat.reduceLT, Nat.reduceLeDiff, Bool.not_true, Bool.not_false, Nat.lt_add_left_iff_pos, Nat.zero_lt_succ, Bool.false_eq_true, Bool.true_eq_false, reduceCtorEq, Nat.zero_le, d]
/-! ### the order -/
def flat (its : List (List Int × Int)) : List Int := its.flatMap (·.1)
theorem its_small {m : Int} : ∀ (l : List Rd) (s : Sta), (∀ r ∈ l, r.copies.length + r.places.length ≤ 20) → (∀ p ∈ s.its, p.1.length ≤ 20) → ∀ p ∈ (l.foldl (stR m) s).its, p.1.length ≤ 20
  | [], s, _, h => h
  | r :: l, s, hr, h => by
    refine its_small l (stR m s r) (fun q hq => hr q (List.mem_cons_of_mem _ hq)) fun p hp => ?_
    unfold stR at hp
    rcases List.mem_append.mp hp with hp | hp
    · exact h p hp
    · rw [List.mem_singleton.mp hp]
      have h1 := foldM_len m (msgs s.fs r) ([], s.wd)
      have h2 := hr r List.mem_cons_self
      have h3 : (msgs s.fs r).length = r.copies.length + r.places.length := by unfold msgs; rw [List.length_append, List.length_map, List.length_map]
      have h4 : (roundR m s.fs s.wd r).1.length ≤ 0 + (msgs s.fs r).length := h1
      show (roundR m s.fs s.wd r).1.length ≤ 20
      omega
theorem flat_len : ∀ (its : List (List Int × Int)), (∀ p ∈ its, p.1.length ≤ 20) → (flat its).length ≤ 20 * its.length
  | [], _ => Nat.le_refl _
  | p :: r, h => by
    have h1 := h p List.mem_cons_self
    have h2 := flat_len r fun q hq => h q (List.mem_cons_of_mem _ hq)
    show (p.1 ++ flat r).length ≤ _
    rw [List.length_append, List.length_cons]
    omega
theorem flat_snoc {its : List (List Int × Int)} {p : List Int × Int} : flat (its ++ [p]) = flat its ++ p.1 := by
  unfold flat
  rw [List.flatMap_append]
  simp
def inOrd (ps : List Int) : Bool := eqB (.lst (ps.map D.int)) (.lst (rangeL 0 ps.length))
theorem okds_ints : ∀ ps : List Int, okds 59 (ps.map D.int) = true
  | [] => rfl
  | _ :: r => okds_ints r
theorem okds_range {n : Nat} : okds 59 (rangeL 0 n) = true := by
  have : rangeL 0 n = ((List.range n).map fun i => (0 : Int) + (i : Nat)).map D.int := by
    unfold rangeL
    rw [List.map_map]
    rfl
  rw [this]
  exact okds_ints _
theorem ord_eq {ps : List Int} : eqD (.lst (ps.map D.int)) (.lst (rangeL 0 ps.length)) = some (.bl (inOrd ps)) := by
  unfold eqD
  rw [if_pos ⟨show okds 59 (ps.map D.int) = true from okds_ints ps, show okds 59 (rangeL 0 ps.length) = true from okds_range⟩]
  rfl
theorem it_at {its : List (List Int × Int)} {j : Nat} {d : D} (h : (its.map itD)[j]? = some d) : ∃ (hj : j < its.length), d = itD its[j] := by
  rw [List.getElem?_map] at h
  cases q : its[j]? with
  | none => rw [q] at h; cases h
  | some r =>
    rw [q] at h
    cases h
    obtain ⟨h1, h2⟩ := List.getElem?_eq_some_iff.mp q
    exact ⟨h1, by rw [h2]⟩
theorem flat_take {its : List (List Int × Int)} {j : Nat} (hj : j < its.length) : flat (its.take (j + 1)) = flat (its.take j) ++ its[j].1 := by
  rw [List.take_succ, List.getElem?_eq_getElem hj]
  exact flat_snoc
theorem flat_take_len {its : List (List Int × Int)} (h : ∀ p ∈ its, p.1.length ≤ 20) (hl : its.length ≤ 40) (j : Nat) : (flat (its.take j)).length ≤ 800 := by
  have h1 := flat_len (its.take j) fun p hp => h p (List.mem_of_mem_take hp)
  have h2 : (its.take j).length ≤ 40 := by rw [List.length_take]; omega
  omega
theorem are_good {w late : Nat} {m : Int} {rs : List Rd} (ho : OkRs w late rs) (hl : rs.length ≤ 40) (h1 : 1 ≤ w) (hw : w ≤ 4) (hlt : late ≤ 4) (hm : 1 ≤ m ∧ m ≤ 20) : g_are_in_order [.int (w : Nat), .int m, .int (late : Nat), .tup (rs.map Rd.d)] = .ok (.bl (inOrd (flat (sta m rs).its))) := by
  have sm : ∀ p ∈ (sta m rs).its, p.1.length ≤ 20 := its_small rs ⟨[0], 0, []⟩ (fun r hr => by
    obtain ⟨i, hi, e⟩ := List.mem_iff_getElem.mp hr
    obtain ⟨_, c2, c3⟩ := ho.copies (i := i) (r := r) (by rw [List.getElem?_eq_getElem hi, e])
    have c4 : late * w ≤ 4 * 4 := Nat.mul_le_mul hlt hw
    omega) fun p hp => by cases hp
  have hil : (sta m rs).its.length ≤ 40 := by rw [(sta_len m rs).2]; exact hl
  obtain ⟨e', k1, k2⟩ := forF_inv (g := gTp 2 (gsCons (gNm 5) (gsCons (gNm 6) gsNil))) (b := dropF (guardO 4 (extF 4 (nE (ncallF lstC (consF (nameF 5) nilF)))))) (fun i e => ∃ y5 y6, e = [Sl.va (.int (w : Nat)), Sl.va (.int m), Sl.va (.int (late : Nat)), Sl.va (.tup (rs.map Rd.d)), Sl.ow ((flat ((sta m rs).its.take i)).map D.int), y5, y6]) ((sta m rs).its.map itD) 0
    [Sl.va (.int (w : Nat)), Sl.va (.int m), Sl.va (.int (late : Nat)), Sl.va (.tup (rs.map Rd.d)), Sl.ow [], Sl.no, Sl.no] ⟨_, _, rfl⟩ (fun j d e hj hp => by
      obtain ⟨y5, y6, rfl⟩ := hp
      obtain ⟨hjj, rfl⟩ := it_at hj
      rw [Nat.zero_add]
      have hb : ((flat ((sta m rs).its.take j)).map D.int).length + ((sta m rs).its[j].1.map D.int).length ≤ 100000 := by
        have a := flat_take_len sm hil j
        have b := sm _ (List.getElem_mem hjj)
        rw [List.length_map, List.length_map]
        omega
      refine ⟨[Sl.va (.int (w : Nat)), Sl.va (.int m), Sl.va (.int (late : Nat)), Sl.va (.tup (rs.map Rd.d)), Sl.ow ((flat ((sta m rs).its.take j)).map D.int), Sl.va (.tup ((sta m rs).its[j].1.map D.int)), Sl.va (.int (sta m rs).its[j].2)], [Sl.va (.int (w : Nat)), Sl.va (.int m), Sl.va (.int (late : Nat)), Sl.va (.tup (rs.map Rd.d)), Sl.ow ((flat ((sta m rs).its.take (j + 1))).map D.int), Sl.va (.tup ((sta m rs).its[j].1.map D.int)), Sl.va (.int (sta m rs).its[j].2)], rfl, .inl ?_, _, _, rfl⟩
      rw [flat_take hjj, List.map_append]
      simp only [runR, runF, noErr, rowOf, List.map_cons, List.map_nil, List.cons_append, List.nil_append, List.length_cons, List.length_nil, List.replicate, Nat.reduceAdd, Nat.reduceSub, Nat.zero_add, Nat.sub_self, seqF, ifS, setF, setIF, retF, dropF, skipF, augF, setNF, parF, setMs, mdF, mnF, mnilF, Mx.sl, appF, extF, guardO, isOw, setRow, rowAt, rowRes, goR, goF, callDF, callRF, frR, raiseF, excOf, nameF, conF, op2F, un1F, bF, chainF, truF, truR, andF, orF, notF, tandF, torF, tnotF, ifF, nilF, consF, dispF, ndispF, nE, callF, ncallF, liftA, liftN, optR, optN, lift1, lift2, R.bind, R.toS, hd, hdS, fz, fzS, fzs, hds, truD, gNm, gTp, gsCons, gsNil, itF, itA, optI, itemsD, forS, yesF, List.getElem?_cons_zero, List.getElem?_cons_succ, List.set_cons_zero, List.set_cons_succ, List.length_set, Option.bind, Option.map, if_true, if_false, ite_true, ite_false, reduceIte, Nat.reduceLT, Nat.reduceLeDiff, Bool.not_true, Bool.not_false, Nat.lt_add_left_iff_pos, Nat.zero_lt_succ, Bool.false_eq_true, Bool.true_eq_false, reduceCtorEq, lstC, hb])
  obtain ⟨y5, y6, rfl⟩ := k2
  rw [List.length_map, Nat.zero_add, List.take_length] at k1
  have hr : rng1 [.int (((flat (sta m rs).its).map D.int).length : Nat)] = some (rangeL 0 (flat (sta m rs).its).length) := by
    rw [List.length_map]
    have := flat_take_len sm hil (sta m rs).its.length
    rw [List.take_length] at this
    exact rng1_nat (by omega)
  unfold g_are_in_order phi_are_in_order
  simp only [runF, List.map_cons, List.map_nil, List.cons_append, List.nil_append, List.length_cons, List.length_nil, List.replicate, Nat.reduceAdd, Nat.reduceSub, Nat.zero_add, seqF, setNF, ndispF, nilF, fzs, R.bind, R.toS, Nat.zero_le, if_true, forS, itF, itemsD, consF, conF, nameF, List.getElem?_cons_zero, List.getElem?_cons_succ, fz, optI, Nat.reduceLT, List.set_cons_zero, List.set_cons_succ, Nat.reduceLeDiff, callDF, goF, frR, run_good ho hl h1 hw hlt hm, reduceIte, k1, retF, op2F, lift2, optR, nE, rgnF, callF, hds, hd, hdS, lenD, liftA, hr, optN, ord_eq]
end G41
set_option Elab.async false
set_option linter.all false
set_option maxRecDepth 100000
set_option maxHeartbeats 4000000
/-! k41, the plain law, 6: the ten turns. -/
namespace G41
open PySem PySem.Spec PyProof.Rows L2 PL
abbrev t1 (sa : Addr) (ns : List Int) : PL.Env → SR := (parF [3, 4, 5] (mdF (op2F addD (conF (.int 1)) (callRF 1 (g__law_taken sa ns) (consF (nameF 1) (consF (conF (.int 4)) nilF)))) (mdF (op2F addD (conF (.int 1)) (callRF 1 (g__law_taken sa ns) (consF (nameF 1) (consF (conF (.int 20)) nilF)))) (mdF (callRF 1 (g__law_taken sa ns) (consF (nameF 1) (consF (conF (.int 5)) nilF))) mnilF))))
abbrev t2 (sa : Addr) (ns : List Int) : PL.Env → SR := (setF (gNm 6) (callRF 3 (g__law_rounds sa ns) (consF (nameF 1) (consF (nameF 3) (consF (nameF 5) (consF (callRF 1 (g__law_pick sa ns) (consF (nameF 1) (consF (nE (ndispF (consF (conF (.int 0)) (consF (conF (.int 1)) (consF (conF (.int 3)) (consF (conF (.int 8)) (consF (conF (.int 20)) (consF (conF (.int 40)) nilF)))))))) nilF))) nilF))))))
abbrev t3 (sa : Addr) (ns : List Int) : PL.Env → SR := (setF (gNm 7) (callDF 2 g__law_run (consF (nameF 4) (consF (nameF 6) nilF))))
abbrev t4 (sa : Addr) (ns : List Int) : PL.Env → SR := (ifS (tnotF (truF (callDF 2 (g__law_alike 8) (consF (callDF 4 g_run_windows (consF (nameF 3) (consF (nameF 4) (consF (nameF 5) (consF (nameF 6) nilF))))) (consF (nameF 7) nilF))))) (retF (conF (.bl false))) skipF)
abbrev t5 (sa : Addr) (ns : List Int) : PL.Env → SR := (setF (gNm 8) (nE (ndispF nilF)))
abbrev t6 (sa : Addr) (ns : List Int) : PL.Env → SR := (forS (itF (nameF 7)) (gTp 2 (gsCons (gNm 9) (gsCons (gNm 10) gsNil)))
  (setF (gNm 8) (op2F addD (nameF 8) (nE (ncallF lstC (consF (nameF 9) nilF))))))
abbrev t7 (sa : Addr) (ns : List Int) : PL.Env → SR := (ifS (tnotF (truF (callDF 2 (g__law_alike 8) (consF (callDF 4 g_are_in_order (consF (nameF 3) (consF (nameF 4) (consF (nameF 5) (consF (nameF 6) nilF))))) (consF (op2F eqD (nameF 8) (nE (rgnF rng1 (consF (callF lenD (consF (nameF 8) nilF)) nilF)))) nilF))))) (retF (conF (.bl false))) skipF)
abbrev t8 (sa : Addr) (ns : List Int) : PL.Env → SR := (setF (gNm 11) (dispF .tup (consF (dispF .tup nilF) (consF (dispF .tup nilF) (consF (conF (.bl false)) nilF)))))
abbrev t9 (sa : Addr) (ns : List Int) : PL.Env → SR := (setF (gNm 12) (callRF 1 (g__law_pick sa ns) (consF (nameF 1) (consF (nE (ndispF (consF (conF .non) (consF (nE (ndispF nilF)) (consF (op2F mulA (dispF .tup (consF (nameF 11) nilF)) (conF (.int 41))) (consF (dispF .tup (consF (dispF .tup (consF (dispF .tup nilF) (consF (dispF .tup (consF (nameF 3) nilF)) (consF (conF (.bl false)) nilF)))) nilF)) (consF (dispF .tup (consF (dispF .tup (consF (dispF .tup nilF) (consF (dispF .tup (consF (conF (.int 0)) (consF (conF (.int 0)) nilF))) (consF (conF (.bl false)) nilF)))) nilF)) (consF (dispF .tup (consF (dispF .tup (consF (dispF .tup nilF) (consF (dispF .tup nilF) (consF (conF (.int 0)) nilF)))) nilF)) (consF (dispF .tup (consF (dispF .tup (consF (dispF .tup (consF (dispF .tup (consF (conF (.int 1)) (consF (conF (.int 0)) nilF))) nilF)) (consF (dispF .tup nilF) (consF (conF (.bl false)) nilF)))) nilF)) (consF (dispF .tup (consF (dispF .tup (consF (dispF .tup nilF) (consF (dispF .tup nilF) nilF))) nilF)) (consF (dispF .tup (consF (conF (.int 5)) nilF)) nilF))))))))))) nilF))))
abbrev t10 (sa : Addr) (ns : List Int) : PL.Env → SR := (ifS (tandF (bF (op2F gtD (nameF 5) (conF (.int 0)))) (bF (op2F eqD (callRF 1 (g__law_taken sa ns) (consF (nameF 1) (consF (conF (.int 2)) nilF))) (conF (.int 0))))) (setF (gNm 12) (dispF .tup (consF (nameF 11) (consF (callRF 1 (g__law_pick sa ns) (consF (nameF 1) (consF (nE (ndispF (consF (dispF .tup (consF (dispF .tup (consF (dispF .tup (consF (conF (.int 2)) (consF (conF (.int 0)) nilF))) nilF)) (consF (dispF .tup nilF) (consF (conF (.bl true)) nilF)))) (consF (dispF .tup (consF (dispF .tup (consF (dispF .tup (consF (conF (.int 1)) (consF (nameF 3) nilF))) nilF)) (consF (dispF .tup nilF) (consF (conF (.bl true)) nilF)))) (consF (dispF .tup (consF (dispF .tup (consF (dispF .tup (consF (conF (.int 1)) (consF (conF (.int 0)) nilF))) (consF (dispF .tup (consF (conF (.int 1)) (consF (conF (.int 0)) nilF))) nilF))) (consF (dispF .tup nilF) (consF (conF (.bl true)) nilF)))) (consF (dispF .tup (consF (dispF .tup (consF (dispF .tup (consF (conF (.int 0)) (consF (conF (.int 0)) nilF))) nilF)) (consF (dispF .tup nilF) (consF (conF (.bl true)) nilF)))) (consF (dispF .tup (consF (dispF .tup (consF (dispF .tup (consF (conF (.bl true)) (consF (conF (.int 0)) nilF))) nilF)) (consF (dispF .tup nilF) (consF (conF (.bl true)) nilF)))) (consF (dispF .tup (consF (nE (ndispF nilF)) (consF (dispF .tup nilF) (consF (conF (.bl true)) nilF)))) nilF)))))))) nilF))) nilF)))) skipF)
abbrev t11 (sa : Addr) (ns : List Int) : PL.Env → SR := (setF (gNm 13) (nE (ndispF (consF (callRF 1 (g__law_pick sa ns) (consF (nameF 1) (consF (nE (ndispF (consF (conF (.int 0)) (consF (conF (.int 5)) (consF (conF .non) (consF (conF (.bl true)) nilF)))))) nilF))) (consF (callRF 1 (g__law_pick sa ns) (consF (nameF 1) (consF (nE (ndispF (consF (conF (.int 0)) (consF (conF (.int 21)) (consF (conF (.str "1")) (consF (conF (.bl true)) nilF)))))) nilF))) (consF (callRF 1 (g__law_pick sa ns) (consF (nameF 1) (consF (nE (ndispF (consF (un1F negD (conF (.int 1))) (consF (conF (.int 5)) (consF (conF .non) (consF (conF (.bl false)) nilF)))))) nilF))) nilF))))))
abbrev tin (Sv : Addr → Option (List D → FR)) : PL.Env → SR := (seqF (setF (gNm 15) (nE (ndispF (consF (lamF (callVF Sv 4 14 (consF (nameF 3) (consF (nameF 4) (consF (nameF 5) (consF (nameF 12) nilF)))))) (consF (lamF (callVF Sv 4 14 (consF (nameF 3) (consF (nameF 4) (consF (op2F idxD (nameF 13) (conF (.int 2))) (consF (nameF 12) nilF)))))) nilF)))))
  (seqF (setF (gNm 15) (op2F addD (nameF 15) (nE (ndispF (consF (lamF (callVF Sv 4 14 (consF (nameF 3) (consF (op2F idxD (nameF 13) (conF (.int 1))) (consF (op2F idxD (nameF 13) (conF (.int 2))) (consF (nameF 12) nilF)))))) (consF (lamF (callVF Sv 4 14 (consF (op2F idxD (nameF 13) (conF (.int 0))) (consF (op2F idxD (nameF 13) (conF (.int 1))) (consF (op2F idxD (nameF 13) (conF (.int 2))) (consF (nameF 12) nilF)))))) nilF))))))
  (ifS (bF (op2F neD (nameF 15) (nE (ndispF (consF (conF (.str "rounds")) (consF (conF (.str "late")) (consF (conF (.str "modulus")) (consF (conF (.str "width")) nilF)))))))) (retF (conF (.bl false))) skipF)))
abbrev t12 (f_are_in_order f_run_windows : Addr) (Sv : Addr → Option (List D → FR)) : PL.Env → SR := (forS (itF (nE (ndispF (consF (conF (.opq (.ref f_run_windows))) (consF (conF (.opq (.ref f_are_in_order))) nilF))))) (gNm 14)
  (seqF (setF (gNm 15) (nE (ndispF (consF (lamF (callVF Sv 4 14 (consF (nameF 3) (consF (nameF 4) (consF (nameF 5) (consF (nameF 12) nilF)))))) (consF (lamF (callVF Sv 4 14 (consF (nameF 3) (consF (nameF 4) (consF (op2F idxD (nameF 13) (conF (.int 2))) (consF (nameF 12) nilF)))))) nilF)))))
  (seqF (setF (gNm 15) (op2F addD (nameF 15) (nE (ndispF (consF (lamF (callVF Sv 4 14 (consF (nameF 3) (consF (op2F idxD (nameF 13) (conF (.int 1))) (consF (op2F idxD (nameF 13) (conF (.int 2))) (consF (nameF 12) nilF)))))) (consF (lamF (callVF Sv 4 14 (consF (op2F idxD (nameF 13) (conF (.int 0))) (consF (op2F idxD (nameF 13) (conF (.int 1))) (consF (op2F idxD (nameF 13) (conF (.int 2))) (consF (nameF 12) nilF)))))) nilF))))))
  (ifS (bF (op2F neD (nameF 15) (nE (ndispF (consF (conF (.str "rounds")) (consF (conF (.str "late")) (consF (conF (.str "modulus")) (consF (conF (.str "width")) nilF)))))))) (retF (conF (.bl false))) skipF))))
abbrev turnF (sa : Addr) (ns : List Int) (f_are_in_order f_run_windows : Addr) (Sv : Addr → Option (List D → FR)) : PL.Env → SR := (seqF (t1 sa ns) (seqF (t2 sa ns) (seqF (t3 sa ns) (seqF (t4 sa ns) (seqF (t5 sa ns) (seqF (t6 sa ns) (seqF (t7 sa ns) (seqF (t8 sa ns) (seqF (t9 sa ns) (seqF (t10 sa ns) (seqF (t11 sa ns) (t12 f_are_in_order f_run_windows Sv))))))))))))
abbrev lastF : PL.Env → SR := (retF (op2F eqD (callDF 4 g_run_windows (consF (conF (.int 2)) (consF (conF (.int 3)) (consF (conF (.int 0)) (consF (dispF .tup (consF (dispF .tup (consF (dispF .tup nilF) (consF (dispF .tup (consF (conF (.int 1)) nilF)) (consF (conF (.bl true)) nilF)))) (consF (dispF .tup (consF (dispF .tup nilF) (consF (dispF .tup (consF (conF (.int 0)) (consF (conF (.int 1)) nilF))) (consF (conF (.bl true)) nilF)))) nilF))) nilF))))) (dispF .tup (consF (dispF .tup (consF (dispF .tup nilF) (consF (conF (.int 0)) nilF))) (consF (dispF .tup (consF (dispF .tup (consF (conF (.int 0)) (consF (conF (.int 1)) nilF))) (consF (conF (.int 2)) nilF))) nilF)))))
abbrev firstF : PL.Env → SR := (setNF 1 (ndispF (consF (nameF 0) (consF (conF (.int 0)) (consF (conF (.int 126359)) (consF (conF (.int 0)) nilF))))))
theorem phi_law_eq (sa : Addr) (ns : List Int) (f_are_in_order f_run_windows : Addr) (Sv : Addr → Option (List D → FR)) : phi_law sa ns f_are_in_order f_run_windows Sv = seqF firstF (seqF (forS (itA rng1 (consF (conF (.int 10)) nilF)) (gNm 2) (turnF sa ns f_are_in_order f_run_windows Sv)) lastF) := rfl
theorem seq_nx {f g : PL.Env → SR} {e e' : PL.Env} (h : f e = .nx e') : seqF f g e = g e' := by
  unfold seqF
  rw [h]
section
variable {sa fa fr : Addr} {ns : List Int} {l : List D} {x0 x1 x2 x3 x4 x5 x6 x7 x8 x9 x10 x11 x12 x13 x14 x15 : Sl}
theorem t1_ok (hl : RowOk sa l) : ∃ (w late : Nat) (m : Int) (l' : List D), t1 sa ns [x0, Sl.ow l, x2, x3, x4, x5, x6, x7, x8, x9, x10, x11, x12, x13, x14, x15] = .nx [x0, Sl.ow l', x2, Sl.va (.int (w : Nat)), Sl.va (.int m), Sl.va (.int (late : Nat)), x6, x7, x8, x9, x10, x11, x12, x13, x14, x15] ∧ (1 ≤ w ∧ w ≤ 4) ∧ late ≤ 4 ∧ (1 ≤ m ∧ m ≤ 20) ∧ RowOk sa l' := by
  obtain ⟨v1, l1, h1, a1, b1, k1⟩ := tk (ns := ns) (m := 4) hl (by omega) (by omega)
  obtain ⟨v2, l2, h2, a2, b2, k2⟩ := tk (ns := ns) (m := 20) k1 (by omega) (by omega)
  obtain ⟨v3, l3, h3, a3, b3, k3⟩ := tk (ns := ns) (m := 5) k2 (by omega) (by omega)
  obtain ⟨w, hw⟩ : ∃ w : Nat, (w : Int) = 1 + v1 := ⟨(1 + v1).toNat, by omega⟩
  obtain ⟨late, hlt⟩ : ∃ w : Nat, (w : Int) = v3 := ⟨v3.toNat, by omega⟩
  refine ⟨w, late, 1 + v2, l3, ?_, by omega, by omega, by omega, k3⟩
  rw [hw, hlt]
  simp only [t1, runR, runF, noErr, rowOf, List.map_cons, List.map_nil, List.cons_append, List.nil_append, List.length_cons, List.length_nil, Nat.reduceAdd, Nat.reduceSub, Nat.zero_add, Nat.sub_self, seqF, ifS, setF, setIF, retF, dropF, skipF, augF, setNF, parF, setMs, mdF, mnF, mnilF, Mx.sl, appF, extF, guardO, isOw, setRow, rowAt, rowRes, goR, goF, callDF, callRF, frR, raiseF, excOf, nameF, conF, op2F, un1F, bF, chainF, truF, truR, andF, orF, notF, tandF, torF, tnotF, ifF, nilF, consF, dispF, ndispF, nE, callF, ncallF, liftA, liftN, optR, optN, lift1, lift2, R.bind, R.toS, hd, hdS, fz, fzS, fzs, hds, truD, gNm, gTp, gsCons, gsNil, itF, itA, optI, itemsD, forS, yesF, List.getElem?_cons_zero, List.getElem?_cons_succ, List.set_cons_zero, List.set_cons_succ, List.length_set, Option.bind, Option.map, if_true, if_false, ite_true, ite_false, reduceIte, Nat.reduceLT, Nat.reduceLeDiff, Bool.not_true, Bool.not_false, Nat.lt_add_left_iff_pos, Nat.zero_lt_succ, Bool.false_eq_true, Bool.true_eq_false, reduceCtorEq, h1, h2, h3, addD]
theorem t2_ok {w late : Nat} {m : Int} (hl : RowOk sa l) (hw : w ≤ 4) (hlt : late ≤ 4) : ∃ rs l', t2 sa ns [x0, Sl.ow l, x2, Sl.va (.int (w : Nat)), x4, Sl.va (.int (late : Nat)), x6, x7, x8, x9, x10, x11, x12, x13, x14, x15] = .nx [x0, Sl.ow l', x2, Sl.va (.int (w : Nat)), x4, Sl.va (.int (late : Nat)), Sl.va (.tup (rs.map Rd.d)), x7, x8, x9, x10, x11, x12, x13, x14, x15] ∧ rs.length ≤ 40 ∧ OkRs w late rs ∧ RowOk sa l' := by
  obtain ⟨d, l1, h1, hd1, k1⟩ := pk (ns := ns) (ds := [.int 0, .int 1, .int 3, .int 8, .int 20, .int 40]) hl (by simp) (by decide)
  obtain ⟨many, hm, e⟩ : ∃ many : Nat, many ≤ 40 ∧ d = .int (many : Nat) := by
    simp only [List.mem_cons, List.mem_nil_iff, or_false] at hd1
    rcases hd1 with rfl | rfl | rfl | rfl | rfl | rfl
    · exact ⟨0, by omega, rfl⟩
    · exact ⟨1, by omega, rfl⟩
    · exact ⟨3, by omega, rfl⟩
    · exact ⟨8, by omega, rfl⟩
    · exact ⟨20, by omega, rfl⟩
    · exact ⟨40, by omega, rfl⟩
  subst e
  obtain ⟨rs, l2, h2, hrl, ho, k2⟩ := rounds_ok (ns := ns) (w := w) (late := late) (many := many) k1 hw hlt hm
  refine ⟨rs, l2, ?_, by omega, ho, k2⟩
  simp only [t2, runR, runF, noErr, rowOf, List.map_cons, List.map_nil, List.cons_append, List.nil_append, List.length_cons, List.length_nil, Nat.reduceAdd, Nat.reduceSub, Nat.zero_add, Nat.sub_self, seqF, ifS, setF, setIF, retF, dropF, skipF, augF, setNF, parF, setMs, mdF, mnF, mnilF, Mx.sl, appF, extF, guardO, isOw, setRow, rowAt, rowRes, goR, goF, callDF, callRF, frR, raiseF, excOf, nameF, conF, op2F, un1F, bF, chainF, truF, truR, andF, orF, notF, tandF, torF, tnotF, ifF, nilF, consF, dispF, ndispF, nE, callF, ncallF, liftA, liftN, optR, optN, lift1, lift2, R.bind, R.toS, hd, hdS, fz, fzS, fzs, hds, truD, gNm, gTp, gsCons, gsNil, itF, itA, optI, itemsD, forS, yesF, List.getElem?_cons_zero, List.getElem?_cons_succ, List.set_cons_zero, List.set_cons_succ, List.length_set, Option.bind, Option.map, if_true, if_false, ite_true, ite_false, reduceIte, Nat.reduceLT, Nat.reduceLeDiff, Bool.not_true, Bool.not_false, Nat.lt_add_left_iff_pos, Nat.zero_lt_succ, Bool.false_eq_true, Bool.true_eq_false, reduceCtorEq, Nat.reduceLeDiff, h1, h2]
theorem alike_it {m : Int} {rs : List Rd} {w late : Nat} (hl : rs.length ≤ 40) (ho : OkRs w late rs) (hw : w ≤ 4) (hlt : late ≤ 4) : g__law_alike 8 [.tup ((sta m rs).its.map itD), .tup ((sta m rs).its.map itD)] = .ok (.bl true) := by
  have sm : ∀ p ∈ (sta m rs).its, p.1.length ≤ 20 := its_small rs ⟨[0], 0, []⟩ (fun r hr => by
    obtain ⟨i, hi, e⟩ := List.mem_iff_getElem.mp hr
    obtain ⟨_, c2, c3⟩ := ho.copies (i := i) (r := r) (by rw [List.getElem?_eq_getElem hi, e])
    have c4 : late * w ≤ 4 * 4 := Nat.mul_le_mul hlt hw
    omega) fun p hp => by cases hp
  have hil : (sta m rs).its.length ≤ 40 := by rw [(sta_len m rs).2]; exact hl
  refine alike_ok 7 _ (.inr ⟨_, rfl, by rw [List.length_map]; omega, fun x hx => ?_⟩)
  obtain ⟨p, hp, rfl⟩ := List.mem_map.mp hx
  refine .inr ⟨_, rfl, by simp, fun y hy => ?_⟩
  simp only [List.mem_cons, List.mem_nil_iff, or_false] at hy
  rcases hy with rfl | rfl
  · refine .inr ⟨_, rfl, by rw [List.length_map]; have := sm p hp; omega, fun z hz => ?_⟩
    obtain ⟨q, _, rfl⟩ := List.mem_map.mp hz
    exact .inl rfl
  · exact .inl rfl
theorem alike_bl {b : Bool} : g__law_alike 8 [.bl b, .bl b] = .ok (.bl true) := alike_ok 7 _ (.inl rfl)
theorem t6_ok {w late : Nat} {m : Int} {rs : List Rd} (hl : rs.length ≤ 40) (ho : OkRs w late rs) (hw : w ≤ 4) (hlt : late ≤ 4) : ∃ y9 y10, t6 sa ns [x0, x1, x2, x3, x4, x5, x6, Sl.va (.tup ((sta m rs).its.map itD)), Sl.va (.lst []), x9, x10, x11, x12, x13, x14, x15] = .nx [x0, x1, x2, x3, x4, x5, x6, Sl.va (.tup ((sta m rs).its.map itD)), Sl.va (.lst ((flat (sta m rs).its).map D.int)), y9, y10, x11, x12, x13, x14, x15] := by
  have sm : ∀ p ∈ (sta m rs).its, p.1.length ≤ 20 := its_small rs ⟨[0], 0, []⟩ (fun r hr => by
    obtain ⟨i, hi, e⟩ := List.mem_iff_getElem.mp hr
    obtain ⟨_, c2, c3⟩ := ho.copies (i := i) (r := r) (by rw [List.getElem?_eq_getElem hi, e])
    have c4 : late * w ≤ 4 * 4 := Nat.mul_le_mul hlt hw
    omega) fun p hp => by cases hp
  have hil : (sta m rs).its.length ≤ 40 := by rw [(sta_len m rs).2]; exact hl
  obtain ⟨e', k1, k2⟩ := forF_inv (g := gTp 2 (gsCons (gNm 9) (gsCons (gNm 10) gsNil))) (b := setF (gNm 8) (op2F addD (nameF 8) (nE (ncallF lstC (consF (nameF 9) nilF))))) (fun i e => ∃ y9 y10, e = [x0, x1, x2, x3, x4, x5, x6, Sl.va (.tup ((sta m rs).its.map itD)), Sl.va (.lst ((flat ((sta m rs).its.take i)).map D.int)), y9, y10, x11, x12, x13, x14, x15]) ((sta m rs).its.map itD) 0
    [x0, x1, x2, x3, x4, x5, x6, Sl.va (.tup ((sta m rs).its.map itD)), Sl.va (.lst []), x9, x10, x11, x12, x13, x14, x15] ⟨_, _, rfl⟩ (fun j d e hj hp => by
      obtain ⟨y9, y10, rfl⟩ := hp
      obtain ⟨hjj, rfl⟩ := it_at hj
      rw [Nat.zero_add]
      have hb : ((flat ((sta m rs).its.take j)).map D.int).length + ((sta m rs).its[j].1.map D.int).length ≤ 100000 := by
        have a := flat_take_len sm hil j
        have b := sm _ (List.getElem_mem hjj)
        rw [List.length_map, List.length_map]
        omega
      refine ⟨[x0, x1, x2, x3, x4, x5, x6, Sl.va (.tup ((sta m rs).its.map itD)), Sl.va (.lst ((flat ((sta m rs).its.take j)).map D.int)), Sl.va (.tup ((sta m rs).its[j].1.map D.int)), Sl.va (.int (sta m rs).its[j].2), x11, x12, x13, x14, x15], [x0, x1, x2, x3, x4, x5, x6, Sl.va (.tup ((sta m rs).its.map itD)), Sl.va (.lst ((flat ((sta m rs).its.take (j + 1))).map D.int)), Sl.va (.tup ((sta m rs).its[j].1.map D.int)), Sl.va (.int (sta m rs).its[j].2), x11, x12, x13, x14, x15], rfl, .inl ?_, _, _, rfl⟩
      rw [flat_take hjj, List.map_append]
      simp only [runR, runF, noErr, rowOf, List.map_cons, List.map_nil, List.cons_append, List.nil_append, List.length_cons, List.length_nil, Nat.reduceAdd, Nat.reduceSub, Nat.zero_add, Nat.sub_self, seqF, ifS, setF, setIF, retF, dropF, skipF, augF, setNF, parF, setMs, mdF, mnF, mnilF, Mx.sl, appF, extF, guardO, isOw, setRow, rowAt, rowRes, goR, goF, callDF, callRF, frR, raiseF, excOf, nameF, conF, op2F, un1F, bF, chainF, truF, truR, andF, orF, notF, tandF, torF, tnotF, ifF, nilF, consF, dispF, ndispF, nE, callF, ncallF, liftA, liftN, optR, optN, lift1, lift2, R.bind, R.toS, hd, hdS, fz, fzS, fzs, hds, truD, gNm, gTp, gsCons, gsNil, itF, itA, optI, itemsD, forS, yesF, List.getElem?_cons_zero, List.getElem?_cons_succ, List.set_cons_zero, List.set_cons_succ, List.length_set, Option.bind, Option.map, if_true, if_false, ite_true, ite_false, reduceIte, Nat.reduceLT, Nat.reduceLeDiff, Bool.not_true, Bool.not_false, Nat.lt_add_left_iff_pos, Nat.zero_lt_succ, Bool.false_eq_true, Bool.true_eq_false, reduceCtorEq, lstC, addD_lst hb])
  obtain ⟨y9, y10, rfl⟩ := k2
  rw [List.length_map, Nat.zero_add, List.take_length] at k1
  refine ⟨y9, y10, ?_⟩
  simp only [t6, forS, itF, nameF, List.getElem?_cons_succ, List.getElem?_cons_zero, R.bind, fz, fzS, optI, itemsD, R.toS, k1]
theorem t7_ok {w late : Nat} {m : Int} {rs : List Rd} (hl : rs.length ≤ 40) (ho : OkRs w late rs) (h1 : 1 ≤ w) (hw : w ≤ 4) (hlt : late ≤ 4) (hm : 1 ≤ m ∧ m ≤ 20) : t7 sa ns [x0, x1, x2, Sl.va (.int (w : Nat)), Sl.va (.int m), Sl.va (.int (late : Nat)), Sl.va (.tup (rs.map Rd.d)), x7, Sl.va (.lst ((flat (sta m rs).its).map D.int)), x9, x10, x11, x12, x13, x14, x15] =
    .nx [x0, x1, x2, Sl.va (.int (w : Nat)), Sl.va (.int m), Sl.va (.int (late : Nat)), Sl.va (.tup (rs.map Rd.d)), x7, Sl.va (.lst ((flat (sta m rs).its).map D.int)), x9, x10, x11, x12, x13, x14, x15] := by
  have sm : ∀ p ∈ (sta m rs).its, p.1.length ≤ 20 := its_small rs ⟨[0], 0, []⟩ (fun r hr => by
    obtain ⟨i, hi, e⟩ := List.mem_iff_getElem.mp hr
    obtain ⟨_, c2, c3⟩ := ho.copies (i := i) (r := r) (by rw [List.getElem?_eq_getElem hi, e])
    have c4 : late * w ≤ 4 * 4 := Nat.mul_le_mul hlt hw
    omega) fun p hp => by cases hp
  have hil : (sta m rs).its.length ≤ 40 := by rw [(sta_len m rs).2]; exact hl
  have hr : rng1 [.int (((flat (sta m rs).its).map D.int).length : Nat)] = some (rangeL 0 (flat (sta m rs).its).length) := by
    rw [List.length_map]
    have := flat_take_len sm hil (sta m rs).its.length
    rw [List.take_length] at this
    exact rng1_nat (by omega)
  simp only [t7, runR, runF, noErr, rowOf, List.map_cons, List.map_nil, List.cons_append, List.nil_append, List.length_cons, List.length_nil, Nat.reduceAdd, Nat.reduceSub, Nat.zero_add, Nat.sub_self, seqF, ifS, setF, setIF, retF, dropF, skipF, augF, setNF, parF, setMs, mdF, mnF, mnilF, Mx.sl, appF, extF, guardO, isOw, setRow, rowAt, rowRes, goR, goF, callDF, callRF, frR, raiseF, excOf, nameF, conF, op2F, un1F, bF, chainF, truF, truR, andF, orF, notF, tandF, torF, tnotF, ifF, nilF, consF, dispF, ndispF, nE, callF, ncallF, liftA, liftN, optR, optN, lift1, lift2, R.bind, R.toS, hd, hdS, fz, fzS, fzs, hds, truD, gNm, gTp, gsCons, gsNil, itF, itA, optI, itemsD, forS, yesF, List.getElem?_cons_zero, List.getElem?_cons_succ, List.set_cons_zero, List.set_cons_succ, List.length_set, Option.bind, Option.map, if_true, if_false, ite_true, ite_false, reduceIte, Nat.reduceLT, Nat.reduceLeDiff, Bool.not_true, Bool.not_false, Nat.lt_add_left_iff_pos, Nat.zero_lt_succ, Bool.false_eq_true, Bool.true_eq_false, reduceCtorEq, are_good ho hl h1 hw hlt hm, lenD, rgnF, hr, ord_eq, alike_bl]
def b41 : D := .tup (List.replicate 41 [whole]).flatten
theorem mul41 : mulA (.tup [.tup [.tup [], .tup [], .bl false]]) (.int 41) = some b41 := rfl
theorem t9_ok {w : Nat} (hl : RowOk sa l) : ∃ b l', t9 sa ns [x0, Sl.ow l, x2, Sl.va (.int (w : Nat)), x4, x5, x6, x7, x8, x9, x10, Sl.va whole, x12, x13, x14, x15] = .nx [x0, Sl.ow l', x2, Sl.va (.int (w : Nat)), x4, x5, x6, x7, x8, x9, x10, Sl.va whole, Sl.va b, x13, x14, x15] ∧ b ∈ bads w ∧ RowOk sa l' := by
  obtain ⟨b, l1, h1, hb, k1⟩ := pk (ns := ns) (ds := bads w) hl (by unfold bads; simp) (by unfold bads; simp)
  refine ⟨b, l1, ?_, hb, k1⟩
  have e : bads w = [.non, .lst [], b41, .tup [.tup [.tup [], .tup [.int w], .bl false]], .tup [.tup [.tup [], .tup [.int 0, .int 0], .bl false]], .tup [.tup [.tup [], .tup [], .int 0]], .tup [.tup [.tup [.tup [.int 1, .int 0]], .tup [], .bl false]], .tup [.tup [.tup [], .tup []]], .tup [.int 5]] := rfl
  rw [e] at h1
  simp only [t9, whole, runR, runF, noErr, rowOf, List.map_cons, List.map_nil, List.cons_append, List.nil_append, List.length_cons, List.length_nil, Nat.reduceAdd, Nat.reduceSub, Nat.zero_add, Nat.sub_self, seqF, ifS, setF, setIF, retF, dropF, skipF, augF, setNF, parF, setMs, mdF, mnF, mnilF, Mx.sl, appF, extF, guardO, isOw, setRow, rowAt, rowRes, goR, goF, callDF, callRF, frR, raiseF, excOf, nameF, conF, op2F, un1F, bF, chainF, truF, truR, andF, orF, notF, tandF, torF, tnotF, ifF, nilF, consF, dispF, ndispF, nE, callF, ncallF, liftA, liftN, optR, optN, lift1, lift2, R.bind, R.toS, hd, hdS, fz, fzS, fzs, hds, truD, gNm, gTp, gsCons, gsNil, itF, itA, optI, itemsD, forS, yesF, List.getElem?_cons_zero, List.getElem?_cons_succ, List.set_cons_zero, List.set_cons_succ, List.length_set, Option.bind, Option.map, if_true, if_false, ite_true, ite_false, reduceIte, Nat.reduceLT, Nat.reduceLeDiff, Bool.not_true, Bool.not_false, Nat.lt_add_left_iff_pos, Nat.zero_lt_succ, Bool.false_eq_true, Bool.true_eq_false, reduceCtorEq, mul41, h1]
theorem t10_ok {w late : Nat} {b : D} (hl : RowOk sa l) (h1 : 1 ≤ w) (hw : w ≤ 4) (hlt : late ≤ 4) (hb : b ∈ bads w) : ∃ b' l', t10 sa ns [x0, Sl.ow l, x2, Sl.va (.int (w : Nat)), x4, Sl.va (.int (late : Nat)), x6, x7, x8, x9, x10, Sl.va whole, Sl.va b, x13, x14, x15] = .nx [x0, Sl.ow l', x2, Sl.va (.int (w : Nat)), x4, Sl.va (.int (late : Nat)), x6, x7, x8, x9, x10, Sl.va whole, Sl.va b', x13, x14, x15] ∧ g_check_rounds [b', .int (w : Nat), .int (late : Nat)] = .err (.bad "rounds") ∧ RowOk sa l' := by
  by_cases h0 : (0 : Int) < (late : Nat)
  · obtain ⟨v, l1, e1, a1, b1, k1⟩ := tk (ns := ns) (m := 2) hl (by omega) (by omega)
    by_cases hv : v = 0
    · obtain ⟨d, l2, e2, hd2, k2⟩ := pk (ns := ns) (ds := bads2 w) k1 (by unfold bads2; simp) (by unfold bads2; simp)
      refine ⟨.tup [whole, d], l2, ?_, bad2 h1 hw (by omega) hlt hd2, k2⟩
      have hz : (v == 0) = true := by simpa using hv
      unfold bads2 at e2
      simp only [t10, whole, runR, runF, noErr, rowOf, List.map_cons, List.map_nil, List.cons_append, List.nil_append, List.length_cons, List.length_nil, Nat.reduceAdd, Nat.reduceSub, Nat.zero_add, Nat.sub_self, seqF, ifS, setF, setIF, retF, dropF, skipF, augF, setNF, parF, setMs, mdF, mnF, mnilF, Mx.sl, appF, extF, guardO, isOw, setRow, rowAt, rowRes, goR, goF, callDF, callRF, frR, raiseF, excOf, nameF, conF, op2F, un1F, bF, chainF, truF, truR, andF, orF, notF, tandF, torF, tnotF, ifF, nilF, consF, dispF, ndispF, nE, callF, ncallF, liftA, liftN, optR, optN, lift1, lift2, R.bind, R.toS, hd, hdS, fz, fzS, fzs, hds, truD, gNm, gTp, gsCons, gsNil, itF, itA, optI, itemsD, forS, yesF, List.getElem?_cons_zero, List.getElem?_cons_succ, List.set_cons_zero, List.set_cons_succ, List.length_set, Option.bind, Option.map, if_true, if_false, ite_true, ite_false, reduceIte, Nat.reduceLT, Nat.reduceLeDiff, Bool.not_true, Bool.not_false, Nat.lt_add_left_iff_pos, Nat.zero_lt_succ, Bool.false_eq_true, Bool.true_eq_false, reduceCtorEq, gtD, int0D, h0, decide_true, e1, eqD_int, hz, e2]
    · refine ⟨b, l1, ?_, bad1 h1 hw hlt hb, k1⟩
      have hz : (v == 0) = false := by simpa using hv
      simp only [t10, whole, runR, runF, noErr, rowOf, List.map_cons, List.map_nil, List.cons_append, List.nil_append, List.length_cons, List.length_nil, Nat.reduceAdd, Nat.reduceSub, Nat.zero_add, Nat.sub_self, seqF, ifS, setF, setIF, retF, dropF, skipF, augF, setNF, parF, setMs, mdF, mnF, mnilF, Mx.sl, appF, extF, guardO, isOw, setRow, rowAt, rowRes, goR, goF, callDF, callRF, frR, raiseF, excOf, nameF, conF, op2F, un1F, bF, chainF, truF, truR, andF, orF, notF, tandF, torF, tnotF, ifF, nilF, consF, dispF, ndispF, nE, callF, ncallF, liftA, liftN, optR, optN, lift1, lift2, R.bind, R.toS, hd, hdS, fz, fzS, fzs, hds, truD, gNm, gTp, gsCons, gsNil, itF, itA, optI, itemsD, forS, yesF, List.getElem?_cons_zero, List.getElem?_cons_succ, List.set_cons_zero, List.set_cons_succ, List.length_set, Option.bind, Option.map, if_true, if_false, ite_true, ite_false, reduceIte, Nat.reduceLT, Nat.reduceLeDiff, Bool.not_true, Bool.not_false, Nat.lt_add_left_iff_pos, Nat.zero_lt_succ, Bool.false_eq_true, Bool.true_eq_false, reduceCtorEq, gtD, int0D, h0, decide_true, e1, eqD_int, hz]
  · refine ⟨b, l, ?_, bad1 h1 hw hlt hb, hl⟩
    simp only [t10, whole, runR, runF, noErr, rowOf, List.map_cons, List.map_nil, List.cons_append, List.nil_append, List.length_cons, List.length_nil, Nat.reduceAdd, Nat.reduceSub, Nat.zero_add, Nat.sub_self, seqF, ifS, setF, setIF, retF, dropF, skipF, augF, setNF, parF, setMs, mdF, mnF, mnilF, Mx.sl, appF, extF, guardO, isOw, setRow, rowAt, rowRes, goR, goF, callDF, callRF, frR, raiseF, excOf, nameF, conF, op2F, un1F, bF, chainF, truF, truR, andF, orF, notF, tandF, torF, tnotF, ifF, nilF, consF, dispF, ndispF, nE, callF, ncallF, liftA, liftN, optR, optN, lift1, lift2, R.bind, R.toS, hd, hdS, fz, fzS, fzs, hds, truD, gNm, gTp, gsCons, gsNil, itF, itA, optI, itemsD, forS, yesF, List.getElem?_cons_zero, List.getElem?_cons_succ, List.set_cons_zero, List.set_cons_succ, List.length_set, Option.bind, Option.map, if_true, if_false, ite_true, ite_false, reduceIte, Nat.reduceLT, Nat.reduceLeDiff, Bool.not_true, Bool.not_false, Nat.lt_add_left_iff_pos, Nat.zero_lt_succ, Bool.false_eq_true, Bool.true_eq_false, reduceCtorEq, gtD, int0D, h0, decide_false]
theorem t11_ok (hl : RowOk sa l) : ∃ o0 o1 o2 l', t11 sa ns [x0, Sl.ow l, x2, x3, x4, x5, x6, x7, x8, x9, x10, x11, x12, x13, x14, x15] = .nx [x0, Sl.ow l', x2, x3, x4, x5, x6, x7, x8, x9, x10, x11, x12, Sl.va (.lst [o0, o1, o2]), x14, x15] ∧ g_is_number [o0, .int 1, .int 4] = .ok (.bl false) ∧ g_is_number [o1, .int 1, .int 20] = .ok (.bl false) ∧ g_is_number [o2, .int 0, .int 4] = .ok (.bl false) ∧ RowOk sa l' := by
  obtain ⟨o0, l1, e1, m1, k1⟩ := pk (ns := ns) (ds := [.int 0, .int 5, .non, .bl true]) hl (by simp) (by decide)
  obtain ⟨o1, l2, e2, m2, k2⟩ := pk (ns := ns) (ds := [.int 0, .int 21, .str "1", .bl true]) k1 (by simp) (by decide)
  obtain ⟨o2, l3, e3, m3, k3⟩ := pk (ns := ns) (ds := [.int (-1), .int 5, .non, .bl false]) k2 (by simp) (by decide)
  refine ⟨o0, o1, o2, l3, ?_, ?_, ?_, ?_, k3⟩
  · simp only [t11, runR, runF, noErr, rowOf, List.map_cons, List.map_nil, List.cons_append, List.nil_append, List.length_cons, List.length_nil, Nat.reduceAdd, Nat.reduceSub, Nat.zero_add, Nat.sub_self, seqF, ifS, setF, setIF, retF, dropF, skipF, augF, setNF, parF, setMs, mdF, mnF, mnilF, Mx.sl, appF, extF, guardO, isOw, setRow, rowAt, rowRes, goR, goF, callDF, callRF, frR, raiseF, excOf, nameF, conF, op2F, un1F, bF, chainF, truF, truR, andF, orF, notF, tandF, torF, tnotF, ifF, nilF, consF, dispF, ndispF, nE, callF, ncallF, liftA, liftN, optR, optN, lift1, lift2, R.bind, R.toS, hd, hdS, fz, fzS, fzs, hds, truD, gNm, gTp, gsCons, gsNil, itF, itA, optI, itemsD, forS, yesF, List.getElem?_cons_zero, List.getElem?_cons_succ, List.set_cons_zero, List.set_cons_succ, List.length_set, Option.bind, Option.map, if_true, if_false, ite_true, ite_false, reduceIte, Nat.reduceLT, Nat.reduceLeDiff, Bool.not_true, Bool.not_false, Nat.lt_add_left_iff_pos, Nat.zero_lt_succ, Bool.false_eq_true, Bool.true_eq_false, reduceCtorEq, negD, e1, e2, e3]
  · simp only [List.mem_cons, List.mem_nil_iff, or_false] at m1
    rcases m1 with rfl | rfl | rfl | rfl
    · exact num_lo (by decide)
    · exact num_hi (by decide)
    · exact num_non
    · exact num_bl
  · simp only [List.mem_cons, List.mem_nil_iff, or_false] at m2
    rcases m2 with rfl | rfl | rfl | rfl
    · exact num_lo (by decide)
    · exact num_hi (by decide)
    · exact num_str
    · exact num_bl
  · simp only [List.mem_cons, List.mem_nil_iff, or_false] at m3
    rcases m3 with rfl | rfl | rfl | rfl
    · exact num_lo (by decide)
    · exact num_hi (by decide)
    · exact num_non
    · exact num_bl
theorem told_okd : okd 60 (.lst [.str "rounds", .str "late", .str "modulus", .str "width"]) = true := by decide +kernel
theorem told_eq : eqB (.lst [.str "rounds", .str "late", .str "modulus", .str "width"]) (.lst [.str "rounds", .str "late", .str "modulus", .str "width"]) = true := by decide +kernel
theorem told_ne : neD (.lst [.str "rounds", .str "late", .str "modulus", .str "width"]) (.lst [.str "rounds", .str "late", .str "modulus", .str "width"]) = some (.bl false) := by
  unfold neD
  rw [if_pos ⟨told_okd, told_okd⟩, told_eq]
  rfl
theorem o_0 {a b c : D} : idxD (.lst [a, b, c]) (.int 0) = some a := rfl
theorem o_1 {a b c : D} : idxD (.lst [a, b, c]) (.int 1) = some b := rfl
theorem o_2 {a b c : D} : idxD (.lst [a, b, c]) (.int 2) = some c := rfl
theorem add22 {a b c d : D} : addD (.lst [a, b]) (.lst [c, d]) = some (.lst [a, b, c, d]) := rfl
theorem tin_ok {w late : Nat} {m : Int} {o0 o1 o2 b : D} {g : List D → FR} {f : Addr} {S : Addr → Option (List D → FR)} (hS : S f = some g) (hg : Refuse g) (h1 : 1 ≤ w) (hw : w ≤ 4) (hlt : late ≤ 4) (hm : 1 ≤ m ∧ m ≤ 20) (k0 : g_is_number [o0, .int 1, .int 4] = .ok (.bl false)) (k1 : g_is_number [o1, .int 1, .int 20] = .ok (.bl false)) (k2 : g_is_number [o2, .int 0, .int 4] = .ok (.bl false)) (kb : g_check_rounds [b, .int (w : Nat), .int (late : Nat)] = .err (.bad "rounds")) :
    tin S [x0, x1, x2, Sl.va (.int (w : Nat)), Sl.va (.int m), Sl.va (.int (late : Nat)), x6, x7, x8, x9, x10, x11, Sl.va b, Sl.va (.lst [o0, o1, o2]), Sl.va (.opq (.ref f)), x15] = .nx [x0, x1, x2, Sl.va (.int (w : Nat)), Sl.va (.int m), Sl.va (.int (late : Nat)), x6, x7, x8, x9, x10, x11, Sl.va b, Sl.va (.lst [o0, o1, o2]), Sl.va (.opq (.ref f)), Sl.va (.lst [.str "rounds", .str "late", .str "modulus", .str "width"])] := by
  obtain ⟨r1, r2, r3, r4⟩ := hg w late m o0 o1 o2 b h1 hw hlt hm.1 hm.2 k0 k1 k2 kb
  simp only [tin, runR, runF, noErr, rowOf, List.map_cons, List.map_nil, List.cons_append, List.nil_append, List.length_cons, List.length_nil, Nat.reduceAdd, Nat.reduceSub, Nat.zero_add, Nat.sub_self, seqF, ifS, setF, setIF, retF, dropF, skipF, augF, setNF, parF, setMs, mdF, mnF, mnilF, Mx.sl, appF, extF, guardO, isOw, setRow, rowAt, rowRes, goR, goF, callDF, callRF, frR, raiseF, excOf, nameF, conF, op2F, un1F, bF, chainF, truF, truR, andF, orF, notF, tandF, torF, tnotF, ifF, nilF, consF, dispF, ndispF, nE, callF, ncallF, liftA, liftN, optR, optN, lift1, lift2, R.bind, R.toS, hd, hdS, fz, fzS, fzs, hds, truD, gNm, gTp, gsCons, gsNil, itF, itA, optI, itemsD, forS, yesF, List.getElem?_cons_zero, List.getElem?_cons_succ, List.set_cons_zero, List.set_cons_succ, List.length_set, Option.bind, Option.map, if_true, if_false, ite_true, ite_false, reduceIte, Nat.reduceLT, Nat.reduceLeDiff, Bool.not_true, Bool.not_false, Nat.lt_add_left_iff_pos, Nat.zero_lt_succ, Bool.false_eq_true, Bool.true_eq_false, reduceCtorEq, lamF, hide, hideS, callVF, hS, r1, r2, r3, r4, o_0, o_1, o_2, add22, told_ne]
theorem t12_ok {w late : Nat} {m : Int} {o0 o1 o2 b : D} (hne : fa ≠ fr) (h1 : 1 ≤ w) (hw : w ≤ 4) (hlt : late ≤ 4) (hm : 1 ≤ m ∧ m ≤ 20) (k0 : g_is_number [o0, .int 1, .int 4] = .ok (.bl false)) (k1 : g_is_number [o1, .int 1, .int 20] = .ok (.bl false)) (k2 : g_is_number [o2, .int 0, .int 4] = .ok (.bl false)) (kb : g_check_rounds [b, .int (w : Nat), .int (late : Nat)] = .err (.bad "rounds")) :
    ∃ y14 y15, t12 fa fr (Sv fa fr) [x0, x1, x2, Sl.va (.int (w : Nat)), Sl.va (.int m), Sl.va (.int (late : Nat)), x6, x7, x8, x9, x10, x11, Sl.va b, Sl.va (.lst [o0, o1, o2]), x14, x15] = .nx [x0, x1, x2, Sl.va (.int (w : Nat)), Sl.va (.int m), Sl.va (.int (late : Nat)), x6, x7, x8, x9, x10, x11, Sl.va b, Sl.va (.lst [o0, o1, o2]), y14, y15] := by
  have s1 : Sv fa fr fa = some g_are_in_order := if_pos rfl
  have s2 : Sv fa fr fr = some g_run_windows := by
    unfold Sv
    rw [if_neg (Ne.symm hne), if_pos rfl]
  have e1 := tin_ok (x0 := x0) (x1 := x1) (x2 := x2) (x6 := x6) (x7 := x7) (x8 := x8) (x9 := x9) (x10 := x10) (x11 := x11) (x15 := x15) s2 run_ref h1 hw hlt hm k0 k1 k2 kb
  have e2 := tin_ok (x0 := x0) (x1 := x1) (x2 := x2) (x6 := x6) (x7 := x7) (x8 := x8) (x9 := x9) (x10 := x10) (x11 := x11) (x15 := Sl.va (.lst [.str "rounds", .str "late", .str "modulus", .str "width"])) s1 are_ref h1 hw hlt hm k0 k1 k2 kb
  refine ⟨Sl.va (.opq (.ref fa)), Sl.va (.lst [.str "rounds", .str "late", .str "modulus", .str "width"]), ?_⟩
  show forF (gNm 14) (tin (Sv fa fr)) [.opq (.ref fr), .opq (.ref fa)] [x0, x1, x2, Sl.va (.int (w : Nat)), Sl.va (.int m), Sl.va (.int (late : Nat)), x6, x7, x8, x9, x10, x11, Sl.va b, Sl.va (.lst [o0, o1, o2]), x14, x15] = _
  unfold forF
  show (match tin (Sv fa fr) [x0, x1, x2, Sl.va (.int (w : Nat)), Sl.va (.int m), Sl.va (.int (late : Nat)), x6, x7, x8, x9, x10, x11, Sl.va b, Sl.va (.lst [o0, o1, o2]), Sl.va (.opq (.ref fr)), x15] with
      | .nx e2 => forF (gNm 14) (tin (Sv fa fr)) [.opq (.ref fa)] e2
      | .ct e2 => forF (gNm 14) (tin (Sv fa fr)) [.opq (.ref fa)] e2
      | .bk e2 => .nx e2
      | r => r) = _
  rw [e1]
  show forF (gNm 14) (tin (Sv fa fr)) [.opq (.ref fa)] _ = _
  unfold forF
  show (match tin (Sv fa fr) [x0, x1, x2, Sl.va (.int (w : Nat)), Sl.va (.int m), Sl.va (.int (late : Nat)), x6, x7, x8, x9, x10, x11, Sl.va b, Sl.va (.lst [o0, o1, o2]), Sl.va (.opq (.ref fa)), Sl.va (.lst [.str "rounds", .str "late", .str "modulus", .str "width"])] with
      | .nx e2 => forF (gNm 14) (tin (Sv fa fr)) [] e2
      | .ct e2 => forF (gNm 14) (tin (Sv fa fr)) [] e2
      | .bk e2 => .nx e2
      | r => r) = _
  rw [e2]
  rfl
theorem turn_ok (hne : fa ≠ fr) (hl : RowOk sa l) : ∃ l' y3 y4 y5 y6 y7 y8 y9 y10 y11 y12 y13 y14 y15, turnF sa ns fa fr (Sv fa fr) [x0, Sl.ow l, x2, x3, x4, x5, x6, x7, x8, x9, x10, x11, x12, x13, x14, x15] = .nx [x0, Sl.ow l', x2, y3, y4, y5, y6, y7, y8, y9, y10, y11, y12, y13, y14, y15] ∧ RowOk sa l' := by
  obtain ⟨w, late, m, l1, e1, hw, hlt, hm, k1⟩ := t1_ok (ns := ns) (x0 := x0) (x2 := x2) (x3 := x3) (x4 := x4) (x5 := x5) (x6 := x6) (x7 := x7) (x8 := x8) (x9 := x9) (x10 := x10) (x11 := x11) (x12 := x12) (x13 := x13) (x14 := x14) (x15 := x15) hl
  obtain ⟨rs, l2, e2, hrl, ho, k2⟩ := t2_ok (m := m) (ns := ns) (x0 := x0) (x2 := x2) (x4 := Sl.va (.int m)) (x6 := x6) (x7 := x7) (x8 := x8) (x9 := x9) (x10 := x10) (x11 := x11) (x12 := x12) (x13 := x13) (x14 := x14) (x15 := x15) k1 hw.2 hlt
  have r1 := lawrun_ok (m := m) (show 0 < m by omega) hrl ho hw.2 hlt
  have e3 : t3 sa ns [x0, Sl.ow l2, x2, Sl.va (.int (w : Nat)), Sl.va (.int m), Sl.va (.int (late : Nat)), Sl.va (.tup (rs.map Rd.d)), x7, x8, x9, x10, x11, x12, x13, x14, x15] = .nx [x0, Sl.ow l2, x2, Sl.va (.int (w : Nat)), Sl.va (.int m), Sl.va (.int (late : Nat)), Sl.va (.tup (rs.map Rd.d)), Sl.va (.tup ((sta m rs).its.map itD)), x8, x9, x10, x11, x12, x13, x14, x15] := by
    simp only [t3, runR, runF, noErr, rowOf, List.map_cons, List.map_nil, List.cons_append, List.nil_append, List.length_cons, List.length_nil, Nat.reduceAdd, Nat.reduceSub, Nat.zero_add, Nat.sub_self, seqF, ifS, setF, setIF, retF, dropF, skipF, augF, setNF, parF, setMs, mdF, mnF, mnilF, Mx.sl, appF, extF, guardO, isOw, setRow, rowAt, rowRes, goR, goF, callDF, callRF, frR, raiseF, excOf, nameF, conF, op2F, un1F, bF, chainF, truF, truR, andF, orF, notF, tandF, torF, tnotF, ifF, nilF, consF, dispF, ndispF, nE, callF, ncallF, liftA, liftN, optR, optN, lift1, lift2, R.bind, R.toS, hd, hdS, fz, fzS, fzs, hds, truD, gNm, gTp, gsCons, gsNil, itF, itA, optI, itemsD, forS, yesF, List.getElem?_cons_zero, List.getElem?_cons_succ, List.set_cons_zero, List.set_cons_succ, List.length_set, Option.bind, Option.map, if_true, if_false, ite_true, ite_false, reduceIte, Nat.reduceLT, Nat.reduceLeDiff, Bool.not_true, Bool.not_false, Nat.lt_add_left_iff_pos, Nat.zero_lt_succ, Bool.false_eq_true, Bool.true_eq_false, reduceCtorEq, r1]
  have a1 := alike_it (m := m) hrl ho hw.2 hlt
  have r2 := run_good ho hrl hw.1 hw.2 hlt hm
  have e4 : t4 sa ns [x0, Sl.ow l2, x2, Sl.va (.int (w : Nat)), Sl.va (.int m), Sl.va (.int (late : Nat)), Sl.va (.tup (rs.map Rd.d)), Sl.va (.tup ((sta m rs).its.map itD)), x8, x9, x10, x11, x12, x13, x14, x15] = .nx [x0, Sl.ow l2, x2, Sl.va (.int (w : Nat)), Sl.va (.int m), Sl.va (.int (late : Nat)), Sl.va (.tup (rs.map Rd.d)), Sl.va (.tup ((sta m rs).its.map itD)), x8, x9, x10, x11, x12, x13, x14, x15] := by
    simp only [t4, runR, runF, noErr, rowOf, List.map_cons, List.map_nil, List.cons_append, List.nil_append, List.length_cons, List.length_nil, Nat.reduceAdd, Nat.reduceSub, Nat.zero_add, Nat.sub_self, seqF, ifS, setF, setIF, retF, dropF, skipF, augF, setNF, parF, setMs, mdF, mnF, mnilF, Mx.sl, appF, extF, guardO, isOw, setRow, rowAt, rowRes, goR, goF, callDF, callRF, frR, raiseF, excOf, nameF, conF, op2F, un1F, bF, chainF, truF, truR, andF, orF, notF, tandF, torF, tnotF, ifF, nilF, consF, dispF, ndispF, nE, callF, ncallF, liftA, liftN, optR, optN, lift1, lift2, R.bind, R.toS, hd, hdS, fz, fzS, fzs, hds, truD, gNm, gTp, gsCons, gsNil, itF, itA, optI, itemsD, forS, yesF, List.getElem?_cons_zero, List.getElem?_cons_succ, List.set_cons_zero, List.set_cons_succ, List.length_set, Option.bind, Option.map, if_true, if_false, ite_true, ite_false, reduceIte, Nat.reduceLT, Nat.reduceLeDiff, Bool.not_true, Bool.not_false, Nat.lt_add_left_iff_pos, Nat.zero_lt_succ, Bool.false_eq_true, Bool.true_eq_false, reduceCtorEq, r2, a1]
  have e5 : t5 sa ns [x0, Sl.ow l2, x2, Sl.va (.int (w : Nat)), Sl.va (.int m), Sl.va (.int (late : Nat)), Sl.va (.tup (rs.map Rd.d)), Sl.va (.tup ((sta m rs).its.map itD)), x8, x9, x10, x11, x12, x13, x14, x15] = .nx [x0, Sl.ow l2, x2, Sl.va (.int (w : Nat)), Sl.va (.int m), Sl.va (.int (late : Nat)), Sl.va (.tup (rs.map Rd.d)), Sl.va (.tup ((sta m rs).its.map itD)), Sl.va (.lst []), x9, x10, x11, x12, x13, x14, x15] := by
    simp only [t5, runR, runF, noErr, rowOf, List.map_cons, List.map_nil, List.cons_append, List.nil_append, List.length_cons, List.length_nil, Nat.reduceAdd, Nat.reduceSub, Nat.zero_add, Nat.sub_self, seqF, ifS, setF, setIF, retF, dropF, skipF, augF, setNF, parF, setMs, mdF, mnF, mnilF, Mx.sl, appF, extF, guardO, isOw, setRow, rowAt, rowRes, goR, goF, callDF, callRF, frR, raiseF, excOf, nameF, conF, op2F, un1F, bF, chainF, truF, truR, andF, orF, notF, tandF, torF, tnotF, ifF, nilF, consF, dispF, ndispF, nE, callF, ncallF, liftA, liftN, optR, optN, lift1, lift2, R.bind, R.toS, hd, hdS, fz, fzS, fzs, hds, truD, gNm, gTp, gsCons, gsNil, itF, itA, optI, itemsD, forS, yesF, List.getElem?_cons_zero, List.getElem?_cons_succ, List.set_cons_zero, List.set_cons_succ, List.length_set, Option.bind, Option.map, if_true, if_false, ite_true, ite_false, reduceIte, Nat.reduceLT, Nat.reduceLeDiff, Bool.not_true, Bool.not_false, Nat.lt_add_left_iff_pos, Nat.zero_lt_succ, Bool.false_eq_true, Bool.true_eq_false, reduceCtorEq, Nat.zero_le]
  obtain ⟨y9, y10, e6⟩ := t6_ok (sa := sa) (ns := ns) (m := m) (x0 := x0) (x1 := Sl.ow l2) (x2 := x2) (x3 := Sl.va (.int (w : Nat))) (x4 := Sl.va (.int m)) (x5 := Sl.va (.int (late : Nat))) (x6 := Sl.va (.tup (rs.map Rd.d))) (x9 := x9) (x10 := x10) (x11 := x11) (x12 := x12) (x13 := x13) (x14 := x14) (x15 := x15) hrl ho hw.2 hlt
  have e7 := t7_ok (sa := sa) (ns := ns) (x0 := x0) (x1 := Sl.ow l2) (x2 := x2) (x7 := Sl.va (.tup ((sta m rs).its.map itD))) (x9 := y9) (x10 := y10) (x11 := x11) (x12 := x12) (x13 := x13) (x14 := x14) (x15 := x15) hrl ho hw.1 hw.2 hlt hm
  have e8 : t8 sa ns [x0, Sl.ow l2, x2, Sl.va (.int (w : Nat)), Sl.va (.int m), Sl.va (.int (late : Nat)), Sl.va (.tup (rs.map Rd.d)), Sl.va (.tup ((sta m rs).its.map itD)), Sl.va (.lst ((flat (sta m rs).its).map D.int)), y9, y10, x11, x12, x13, x14, x15] = .nx [x0, Sl.ow l2, x2, Sl.va (.int (w : Nat)), Sl.va (.int m), Sl.va (.int (late : Nat)), Sl.va (.tup (rs.map Rd.d)), Sl.va (.tup ((sta m rs).its.map itD)), Sl.va (.lst ((flat (sta m rs).its).map D.int)), y9, y10, Sl.va whole, x12, x13, x14, x15] := rfl
  obtain ⟨b, l3, e9, hb, k3⟩ := t9_ok (ns := ns) (w := w) (x0 := x0) (x2 := x2) (x4 := Sl.va (.int m)) (x5 := Sl.va (.int (late : Nat))) (x6 := Sl.va (.tup (rs.map Rd.d))) (x7 := Sl.va (.tup ((sta m rs).its.map itD))) (x8 := Sl.va (.lst ((flat (sta m rs).its).map D.int))) (x9 := y9) (x10 := y10) (x12 := x12) (x13 := x13) (x14 := x14) (x15 := x15) k2
  obtain ⟨b', l4, e10, hb', k4⟩ := t10_ok (ns := ns) (w := w) (late := late) (x0 := x0) (x2 := x2) (x4 := Sl.va (.int m)) (x6 := Sl.va (.tup (rs.map Rd.d))) (x7 := Sl.va (.tup ((sta m rs).its.map itD))) (x8 := Sl.va (.lst ((flat (sta m rs).its).map D.int))) (x9 := y9) (x10 := y10) (x13 := x13) (x14 := x14) (x15 := x15) k3 hw.1 hw.2 hlt hb
  obtain ⟨o0, o1, o2, l5, e11, q0, q1, q2, k5⟩ := t11_ok (ns := ns) (x0 := x0) (x2 := x2) (x3 := Sl.va (.int (w : Nat))) (x4 := Sl.va (.int m)) (x5 := Sl.va (.int (late : Nat))) (x6 := Sl.va (.tup (rs.map Rd.d))) (x7 := Sl.va (.tup ((sta m rs).its.map itD))) (x8 := Sl.va (.lst ((flat (sta m rs).its).map D.int))) (x9 := y9) (x10 := y10) (x11 := Sl.va whole) (x12 := Sl.va b') (x13 := x13) (x14 := x14) (x15 := x15) k4
  obtain ⟨y14, y15, e12⟩ := t12_ok (x0 := x0) (x1 := Sl.ow l5) (x2 := x2) (x6 := Sl.va (.tup (rs.map Rd.d))) (x7 := Sl.va (.tup ((sta m rs).its.map itD))) (x8 := Sl.va (.lst ((flat (sta m rs).its).map D.int))) (x9 := y9) (x10 := y10) (x11 := Sl.va whole) (x14 := x14) (x15 := x15) hne hw.1 hw.2 hlt hm q0 q1 q2 hb'
  refine ⟨l5, Sl.va (.int (w : Nat)), Sl.va (.int m), Sl.va (.int (late : Nat)), Sl.va (.tup (rs.map Rd.d)), Sl.va (.tup ((sta m rs).its.map itD)), Sl.va (.lst ((flat (sta m rs).its).map D.int)), y9, y10, Sl.va whole, Sl.va b', Sl.va (.lst [o0, o1, o2]), y14, y15, ?_, k5⟩
  show turnF sa ns fa fr (Sv fa fr) _ = _
  unfold turnF
  rw [seq_nx e1, seq_nx e2, seq_nx e3, seq_nx e4, seq_nx e5, seq_nx e6, seq_nx e7, seq_nx e8, seq_nx e9, seq_nx e10, seq_nx e11, e12]
end
def lastB (r : SR) : Bool := match r with
  | .rt (.bl b) _ => b
  | _ => false
theorem lastB_ok {r : SR} (h : lastB r = true) : ∃ e, r = .rt (.bl true) e := by
  unfold lastB at h
  split at h
  · rw [h]; exact ⟨_, rfl⟩
  · cases h
theorem last_ok (e : PL.Env) : ∃ e', lastF e = .rt (.bl true) e' := by
  have h : g_run_windows [.int 2, .int 3, .int 0, .tup [.tup [.tup [], .tup [.int 1], .bl true], .tup [.tup [], .tup [.int 0, .int 1], .bl true]]] = .ok (.tup [.tup [.tup [], .int 0], .tup [.tup [.int 0, .int 1], .int 2]]) := by
    have ho : OkRs 2 0 [⟨[], [1], true⟩, ⟨[], [0, 1], true⟩] := fun i r hr => by
      match i, hr with
      | 0, hr => cases hr; exact ⟨⟨List.Pairwise.nil, fun c hc => (by cases hc), Nat.zero_le _⟩, by simp, by simp, by simp⟩
      | 1, hr => cases hr; exact ⟨⟨List.Pairwise.nil, fun c hc => (by cases hc), Nat.zero_le _⟩, by simp, by simp, by simp⟩
      | k + 2, hr => simp at hr
    exact run_good (m := 3) ho (by decide) (by decide) (by decide) (by decide) (by decide)
  refine ⟨e, ?_⟩
  have he : eqD (.tup [.tup [.tup [], .int 0], .tup [.tup [.int 0, .int 1], .int 2]]) (.tup [.tup [.tup [], .int 0], .tup [.tup [.int 0, .int 1], .int 2]]) = some (.bl true) := rfl
  simp only [lastF, runR, runF, noErr, rowOf, List.map_cons, List.map_nil, List.cons_append, List.nil_append, List.length_cons, List.length_nil, Nat.reduceAdd, Nat.reduceSub, Nat.zero_add, Nat.sub_self, seqF, ifS, setF, setIF, retF, dropF, skipF, augF, setNF, parF, setMs, mdF, mnF, mnilF, Mx.sl, appF, extF, guardO, isOw, setRow, rowAt, rowRes, goR, goF, callDF, callRF, frR, raiseF, excOf, nameF, conF, op2F, un1F, bF, chainF, truF, truR, andF, orF, notF, tandF, torF, tnotF, ifF, nilF, consF, dispF, ndispF, nE, callF, ncallF, liftA, liftN, optR, optN, lift1, lift2, R.bind, R.toS, hd, hdS, fz, fzS, fzs, hds, truD, gNm, gTp, gsCons, gsNil, itF, itA, optI, itemsD, forS, yesF, List.getElem?_cons_zero, List.getElem?_cons_succ, List.set_cons_zero, List.set_cons_succ, List.length_set, Option.bind, Option.map, if_true, if_false, ite_true, ite_false, reduceIte, Nat.reduceLT, Nat.reduceLeDiff, Bool.not_true, Bool.not_false, Nat.lt_add_left_iff_pos, Nat.zero_lt_succ, Bool.false_eq_true, Bool.true_eq_false, reduceCtorEq, Nat.reduceLeDiff, h, he]
theorem plain (fa fr sa : Addr) (ns : List Int) (hne : fa ≠ fr) : ∃ e', phi_law sa ns fa fr (Sv fa fr) (Sl.va (.opq (.ref sa)) :: List.replicate 15 Sl.no) = .rt (.bl true) e' := by
  rw [phi_law_eq]
  have e0 : firstF (Sl.va (.opq (.ref sa)) :: List.replicate 15 Sl.no) = .nx [Sl.va (.opq (.ref sa)), Sl.ow [.opq (.ref sa), .int 0, .int 126359, .int 0], Sl.no, Sl.no, Sl.no, Sl.no, Sl.no, Sl.no, Sl.no, Sl.no, Sl.no, Sl.no, Sl.no, Sl.no, Sl.no, Sl.no] := rfl
  obtain ⟨e', k1, k2⟩ := forF_inv (g := gNm 2) (b := turnF sa ns fa fr (Sv fa fr)) (fun i e => ∃ l y2 y3 y4 y5 y6 y7 y8 y9 y10 y11 y12 y13 y14 y15, e = [Sl.va (.opq (.ref sa)), Sl.ow l, y2, y3, y4, y5, y6, y7, y8, y9, y10, y11, y12, y13, y14, y15] ∧ RowOk sa l) (rangeL 0 10) 0 [Sl.va (.opq (.ref sa)), Sl.ow [.opq (.ref sa), .int 0, .int 126359, .int 0], Sl.no, Sl.no, Sl.no, Sl.no, Sl.no, Sl.no, Sl.no, Sl.no, Sl.no, Sl.no, Sl.no, Sl.no, Sl.no, Sl.no]
    ⟨_, _, _, _, _, _, _, _, _, _, _, _, _, _, _, rfl, ⟨0, 126359, 0, rfl, by decide, by decide⟩⟩ (fun j d e hj hp => by
      obtain ⟨l, y2, y3, y4, y5, y6, y7, y8, y9, y10, y11, y12, y13, y14, y15, rfl, hl⟩ := hp
      obtain ⟨l', z3, z4, z5, z6, z7, z8, z9, z10, z11, z12, z13, z14, z15, hk, hl'⟩ := turn_ok (ns := ns) (x0 := Sl.va (.opq (.ref sa))) (x2 := Sl.va d) (x3 := y3) (x4 := y4) (x5 := y5) (x6 := y6) (x7 := y7) (x8 := y8) (x9 := y9) (x10 := y10) (x11 := y11) (x12 := y12) (x13 := y13) (x14 := y14) (x15 := y15) hne hl
      exact ⟨_, _, rfl, .inl hk, l', _, z3, z4, z5, z6, z7, z8, z9, z10, z11, z12, z13, z14, z15, rfl, hl'⟩)
  rw [seq_nx e0]
  have e1 : forS (itA rng1 (consF (conF (.int 10)) nilF)) (gNm 2) (turnF sa ns fa fr (Sv fa fr)) [Sl.va (.opq (.ref sa)), Sl.ow [.opq (.ref sa), .int 0, .int 126359, .int 0], Sl.no, Sl.no, Sl.no, Sl.no, Sl.no, Sl.no, Sl.no, Sl.no, Sl.no, Sl.no, Sl.no, Sl.no, Sl.no, Sl.no] = .nx e' := by
    rw [← k1]
    rfl
  rw [seq_nx e1]
  exact last_ok e'
end G41
theorem PySem.Challenge.cw_channelshared_k41_whole_windows_round_by_holds : PySem.Challenge.rw_channelshared_k41_whole_windows_round_by.Holds :=
  G41.holds fun fa fr sa ns hne _ => G41.plain fa fr sa ns hne
#print axioms PySem.Challenge.cw_channelshared_k41_whole_windows_round_by_holds
