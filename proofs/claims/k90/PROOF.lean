import PyProof.Rows.All
import Wide.All
import OpenK.AllK
import Wide.FinOn
import PySem.Challenge.RW_straightall_k90_windows_of_letters
import HandS.ForExc
import HandS.ForMost
import HandS.HeadHook2
import HandS.CallSlots
import HandS.TryOnly
import HandS.TupAny
import HandS.Wide
import HandS.Flow
import HandS.ExcIs
import HandS.IsInst
import HandS.EndBits
import HandS.Style
import HandS.Zip
import HandS.HeadEnd
set_option Elab.async false
set_option linter.all false
set_option maxRecDepth 100000
/-! VS1: values as trees over the layer HandS: D (a value with all that it holds; a list is own (w = true: nobody else names it, it may be changed) or shared), its reading in the heap, what a step may change. -/
namespace VS
open PySem PySem.Spec L2
open PyProof.Rows hiding St

inductive D where
  | non | bl (b : Bool) | int (i : Int) | str (x : Str)
  | tup (l : List D) | lst (w : Bool) (l : List D)
  | dk (w : Bool) (ks : List Key) (l : List D)
  | dt (w : Bool) (ks : List (List Key)) (l : List D)
  | obj (a : Addr)
  | scr (ns : List Int)

abbrev Fp := Addr → Prop
abbrev f0 : Fp := fun _ => False

mutual
def own : D → Bool
  | .tup l => ownL l
  | .lst w l => w || ownL l
  | .dk w _ l => w || ownL l
  | .dt w _ l => w || ownL l
  | _ => false
def ownL : List D → Bool
  | [] => false
  | d :: l => own d || ownL l
end
mutual
def frz : D → D
  | .tup l => .tup (frzL l)
  | .lst _ l => .lst false (frzL l)
  | .dk _ ks l => .dk false ks (frzL l)
  | .dt _ ks l => .dt false ks (frzL l)
  | .non => .non
  | .bl b => .bl b
  | .int i => .int i
  | .str x => .str x
  | .obj a => .obj a
  | .scr ns => .scr ns
def frzL : List D → List D
  | [] => []
  | d :: l => frz d :: frzL l
end
/-- the outer list stays own, what it holds is shared -/
def frzIn : D → D
  | .lst w l => .lst w (frzL l)
  | d => frz d

mutual
def Rep (Z H : Hp) : D → V → Fp → Prop
  | .non, v, _ => v = .non
  | .bl b, v, _ => v = .bl b
  | .int i, v, _ => v = .int i
  | .str x, v, _ => v = .str x
  | .obj a, v, _ => v = .ref a
  | .scr ns, v, _ => ∃ p, v = .ref p ∧ Rd Z p (.lst (ns.map V.int))
  | .tup l, v, O => ∃ p vs, v = .ref p ∧ Z p = some (.tup vs) ∧ RepL Z H l vs O
  | .lst true l, v, O => ∃ p vs, v = .ref p ∧ O p ∧ H p = some (.lst vs) ∧ RepL Z H l vs (fun q => O q ∧ q ≠ p)
  | .lst false l, v, O => ∃ p vs, v = .ref p ∧ Z p = some (.lst vs) ∧ RepL Z H l vs f0
  | .dk true ks l, v, O => ∃ p vs, v = .ref p ∧ O p ∧ H p = some (.dK (ks.zip vs)) ∧ ks.length = vs.length ∧ RepL Z H l vs (fun q => O q ∧ q ≠ p)
  | .dk false ks l, v, O => ∃ p vs, v = .ref p ∧ Z p = some (.dK (ks.zip vs)) ∧ ks.length = vs.length ∧ RepL Z H l vs f0
  | .dt true ks l, v, O => ∃ p vs, v = .ref p ∧ O p ∧ H p = some (.dT (ks.zip vs)) ∧ ks.length = vs.length ∧ RepL Z H l vs (fun q => O q ∧ q ≠ p)
  | .dt false ks l, v, O => ∃ p vs, v = .ref p ∧ Z p = some (.dT (ks.zip vs)) ∧ ks.length = vs.length ∧ RepL Z H l vs f0
def RepL (Z H : Hp) : List D → List V → Fp → Prop
  | [], vs, _ => vs = []
  | d :: l, vs, O => ∃ v vr O1 O2, vs = v :: vr ∧ (∀ p, O1 p → O p) ∧ (∀ p, O2 p → O p) ∧ (∀ p, O1 p → O2 p → False) ∧ Rep Z H d v O1 ∧ RepL Z H l vr O2
end

theorem rd_mono {Z Z' : Hp} (hz : ∀ p o, Z p = some o → Z' p = some o) {p : Addr} {u : HO} (h : Rd Z p u) : Rd Z' p u := by
  rcases h with h | ⟨o, h⟩
  · exact .inl (hz _ _ h)
  · exact .inr ⟨o, hz _ _ h⟩

mutual
/-- it stays: the shared part grows, its own part is as it was; the bound may grow -/
theorem Rep.stay {Z H Z' H' : Hp} (hz : ∀ p o, Z p = some o → Z' p = some o) : ∀ {d : D} {v : V} {O O' : Fp}, Rep Z H d v O → (∀ p, O p → O' p) → (∀ p o, O p → H p = some o → H' p = some o) → Rep Z' H' d v O'
  | .non, _, _, _, r, _, _ => r
  | .bl _, _, _, _, r, _, _ => r
  | .int _, _, _, _, r, _, _ => r
  | .str _, _, _, _, r, _, _ => r
  | .obj _, _, _, _, r, _, _ => r
  | .scr _, _, _, _, ⟨p, e, r⟩, _, _ => ⟨p, e, rd_mono hz r⟩
  | .tup l, _, _, _, ⟨p, vs, e, z, r⟩, ho, hh => ⟨p, vs, e, hz _ _ z, RepL.stay hz r ho hh⟩
  | .lst true l, _, _, _, ⟨p, vs, e, o, z, r⟩, ho, hh => ⟨p, vs, e, ho _ o, hh _ _ o z, RepL.stay hz r (fun q h => ⟨ho _ h.1, h.2⟩) fun q u h => hh q u h.1⟩
  | .lst false l, _, _, _, ⟨p, vs, e, z, r⟩, ho, hh => ⟨p, vs, e, hz _ _ z, RepL.stay hz r (fun q h => h) fun q u h => h.elim⟩
  | .dk true ks l, _, _, _, ⟨p, vs, e, o, z, n, r⟩, ho, hh => ⟨p, vs, e, ho _ o, hh _ _ o z, n, RepL.stay hz r (fun q h => ⟨ho _ h.1, h.2⟩) fun q u h => hh q u h.1⟩
  | .dk false ks l, _, _, _, ⟨p, vs, e, z, n, r⟩, ho, hh => ⟨p, vs, e, hz _ _ z, n, RepL.stay hz r (fun q h => h) fun q u h => h.elim⟩
  | .dt true ks l, _, _, _, ⟨p, vs, e, o, z, n, r⟩, ho, hh => ⟨p, vs, e, ho _ o, hh _ _ o z, n, RepL.stay hz r (fun q h => ⟨ho _ h.1, h.2⟩) fun q u h => hh q u h.1⟩
  | .dt false ks l, _, _, _, ⟨p, vs, e, z, n, r⟩, ho, hh => ⟨p, vs, e, hz _ _ z, n, RepL.stay hz r (fun q h => h) fun q u h => h.elim⟩
theorem RepL.stay {Z H Z' H' : Hp} (hz : ∀ p o, Z p = some o → Z' p = some o) : ∀ {l : List D} {vs : List V} {O O' : Fp}, RepL Z H l vs O → (∀ p, O p → O' p) → (∀ p o, O p → H p = some o → H' p = some o) → RepL Z' H' l vs O'
  | [], _, _, _, r, _, _ => r
  | d :: l, _, _, _, ⟨v, vr, O1, O2, e, h1, h2, h3, r1, r2⟩, ho, hh =>
    ⟨v, vr, O1, O2, e, fun p h => ho _ (h1 _ h), fun p h => ho _ (h2 _ h), h3, Rep.stay hz r1 (fun _ h => h) fun p o h => hh p o (h1 _ h), RepL.stay hz r2 (fun _ h => h) fun p o h => hh p o (h2 _ h)⟩
end
mutual
/-- shared from now on -/
theorem Rep.frz {Z H Z' H' : Hp} (hz : ∀ p o, Z p = some o → Z' p = some o) : ∀ {d : D} {v : V} {O O' : Fp}, Rep Z H d v O → (∀ p o, O p → H p = some o → Z' p = some o) → Rep Z' H' (VS.frz d) v O'
  | .non, _, _, _, r, _ => r
  | .bl _, _, _, _, r, _ => r
  | .int _, _, _, _, r, _ => r
  | .str _, _, _, _, r, _ => r
  | .obj _, _, _, _, r, _ => r
  | .scr _, _, _, _, ⟨p, e, r⟩, _ => ⟨p, e, rd_mono hz r⟩
  | .tup l, _, _, _, ⟨p, vs, e, z, r⟩, hh => ⟨p, vs, e, hz _ _ z, RepL.frz hz r hh⟩
  | .lst true l, _, _, _, ⟨p, vs, e, o, z, r⟩, hh => ⟨p, vs, e, hh _ _ o z, RepL.frz hz r fun q u h => hh q u h.1⟩
  | .lst false l, _, _, _, ⟨p, vs, e, z, r⟩, hh => ⟨p, vs, e, hz _ _ z, RepL.frz hz r fun q u h => h.elim⟩
  | .dk true ks l, _, _, _, ⟨p, vs, e, o, z, n, r⟩, hh => ⟨p, vs, e, hh _ _ o z, n, RepL.frz hz r fun q u h => hh q u h.1⟩
  | .dk false ks l, _, _, _, ⟨p, vs, e, z, n, r⟩, hh => ⟨p, vs, e, hz _ _ z, n, RepL.frz hz r fun q u h => h.elim⟩
  | .dt true ks l, _, _, _, ⟨p, vs, e, o, z, n, r⟩, hh => ⟨p, vs, e, hh _ _ o z, n, RepL.frz hz r fun q u h => hh q u h.1⟩
  | .dt false ks l, _, _, _, ⟨p, vs, e, z, n, r⟩, hh => ⟨p, vs, e, hz _ _ z, n, RepL.frz hz r fun q u h => h.elim⟩
theorem RepL.frz {Z H Z' H' : Hp} (hz : ∀ p o, Z p = some o → Z' p = some o) : ∀ {l : List D} {vs : List V} {O O' : Fp}, RepL Z H l vs O → (∀ p o, O p → H p = some o → Z' p = some o) → RepL Z' H' (frzL l) vs O'
  | [], _, _, _, r, _ => r
  | d :: l, _, _, _, ⟨v, vr, O1, O2, e, h1, h2, h3, r1, r2⟩, hh =>
    ⟨v, vr, f0, f0, e, fun p h => h.elim, fun p h => h.elim, fun p h => h.elim, Rep.frz hz r1 fun p o h => hh p o (h1 _ h), RepL.frz hz r2 fun p o h => hh p o (h2 _ h)⟩
end
mutual
/-- a tree without own parts needs no bound -/
theorem Rep.imm {Z H : Hp} : ∀ {d : D} {v : V} {O O' : Fp}, Rep Z H d v O → own d = false → Rep Z H d v O'
  | .non, _, _, _, r, _ => r
  | .bl _, _, _, _, r, _ => r
  | .int _, _, _, _, r, _ => r
  | .str _, _, _, _, r, _ => r
  | .obj _, _, _, _, r, _ => r
  | .scr _, _, _, _, r, _ => r
  | .tup l, _, _, _, ⟨p, vs, e, z, r⟩, h => ⟨p, vs, e, z, RepL.imm r h⟩
  | .lst true l, _, _, _, r, h => by simp [own] at h
  | .lst false l, _, _, _, ⟨p, vs, e, z, r⟩, _ => ⟨p, vs, e, z, r⟩
  | .dk true ks l, _, _, _, r, h => by simp [own] at h
  | .dk false ks l, _, _, _, ⟨p, vs, e, z, n, r⟩, _ => ⟨p, vs, e, z, n, r⟩
  | .dt true ks l, _, _, _, r, h => by simp [own] at h
  | .dt false ks l, _, _, _, ⟨p, vs, e, z, n, r⟩, _ => ⟨p, vs, e, z, n, r⟩
theorem RepL.imm {Z H : Hp} : ∀ {l : List D} {vs : List V} {O O' : Fp}, RepL Z H l vs O → ownL l = false → RepL Z H l vs O'
  | [], _, _, _, r, _ => r
  | d :: l, _, _, _, ⟨v, vr, O1, O2, e, h1, h2, h3, r1, r2⟩, h => by
    have h' : own d = false ∧ ownL l = false := by simpa [ownL] using h
    exact ⟨v, vr, f0, f0, e, fun p h => h.elim, fun p h => h.elim, fun p h => h.elim, Rep.imm r1 h'.1, RepL.imm r2 h'.2⟩
end
mutual
theorem own_frz : ∀ d : D, own (frz d) = false
  | .non => rfl
  | .bl _ => rfl
  | .int _ => rfl
  | .str _ => rfl
  | .obj _ => rfl
  | .scr _ => rfl
  | .tup l => ownL_frz l
  | .lst _ l => by simp [frz, own, ownL_frz l]
  | .dk _ _ l => by simp [frz, own, ownL_frz l]
  | .dt _ _ l => by simp [frz, own, ownL_frz l]
theorem ownL_frz : ∀ l : List D, ownL (frzL l) = false
  | [] => rfl
  | d :: l => by simp [frzL, ownL, own_frz d, ownL_frz l]
end
mutual
theorem frz_imm : ∀ d : D, own d = false → frz d = d
  | .non, _ => rfl
  | .bl _, _ => rfl
  | .int _, _ => rfl
  | .str _, _ => rfl
  | .obj _, _ => rfl
  | .scr _, _ => rfl
  | .tup l, h => by simp [frz, frzL_imm l h]
  | .lst w l, h => by
    have h' : w = false ∧ ownL l = false := by simpa [own] using h
    simp [frz, frzL_imm l h'.2, h'.1]
  | .dk w _ l, h => by
    have h' : w = false ∧ ownL l = false := by simpa [own] using h
    simp [frz, frzL_imm l h'.2, h'.1]
  | .dt w _ l, h => by
    have h' : w = false ∧ ownL l = false := by simpa [own] using h
    simp [frz, frzL_imm l h'.2, h'.1]
theorem frzL_imm : ∀ l : List D, ownL l = false → frzL l = l
  | [], _ => rfl
  | d :: l, h => by
    have h' : own d = false ∧ ownL l = false := by simpa [ownL] using h
    simp [frzL, frz_imm d h'.1, frzL_imm l h'.2]
end
theorem RepL.len {Z H : Hp} : ∀ {l : List D} {vs : List V} {O : Fp}, RepL Z H l vs O → vs.length = l.length
  | [], _, _, r => by rw [show _ = [] from r]; rfl
  | d :: l, _, _, ⟨v, vr, O1, O2, e, h1, h2, h3, r1, r2⟩ => by
    subst e
    simp [RepL.len r2]
theorem RepL.get {Z H : Hp} : ∀ {l : List D} {vs : List V} {O : Fp} {i : Nat} {d : D}, RepL Z H l vs O → l[i]? = some d → ∃ v O', vs[i]? = some v ∧ Rep Z H d v O' ∧ ∀ p, O' p → O p
  | [], _, _, _, _, r, h => by simp at h
  | d :: l, _, _, 0, _, ⟨v, vr, O1, O2, e, h1, h2, h3, r1, r2⟩, h => by
    subst e
    rw [List.getElem?_cons_zero] at h
    cases h
    exact ⟨v, O1, rfl, r1, h1⟩
  | d :: l, _, _, i + 1, _, ⟨v, vr, O1, O2, e, h1, h2, h3, r1, r2⟩, h => by
    subst e
    obtain ⟨v', O', a, b, c⟩ := RepL.get (i := i) r2 (by simpa using h)
    exact ⟨v', O', by simpa using a, b, fun p z => h2 _ (c _ z)⟩
theorem RepL.append {Z H : Hp} : ∀ {l m : List D} {vs us : List V} {O1 O2 O : Fp}, RepL Z H l vs O1 → RepL Z H m us O2 → (∀ p, O1 p → O2 p → False) → (∀ p, O1 p → O p) → (∀ p, O2 p → O p) → RepL Z H (l ++ m) (vs ++ us) O
  | [], m, _, us, O1, O2, O, r, s, _, _, h2 => by
    rw [show _ = [] from r]
    exact RepL.stay (fun _ _ h => h) s h2 fun _ _ _ h => h
  | d :: l, m, _, us, P1, P2, O, ⟨v, vr, O1, O2, e, h1, h2, h3, r1, r2⟩, s, hd, g1, g2 => by
    subst e
    refine ⟨v, vr ++ us, O1, fun p => O2 p ∨ P2 p, rfl, fun p h => g1 _ (h1 _ h), fun p h => h.elim (fun h => g1 _ (h2 _ h)) (g2 p), fun p a b => b.elim (h3 p a) (hd p (h1 p a)), r1, ?_⟩
    exact RepL.append r2 s (fun p a b => hd p (h2 p a) b) (fun p h => .inl h) fun p h => .inr h
theorem RepL.one {Z H : Hp} {d : D} {v : V} {O : Fp} (r : Rep Z H d v O) : RepL Z H [d] [v] O :=
  ⟨v, [], O, f0, rfl, fun _ h => h, fun _ h => h.elim, fun _ _ h => h, r, rfl⟩
theorem RepL.one_of {Z H : Hp} {d : D} {vs : List V} {O : Fp} (r : RepL Z H [d] vs O) : ∃ v, vs = [v] ∧ Rep Z H d v O := by
  obtain ⟨v, vr, O1, O2, e, h1, h2, h3, r1, r2⟩ := r
  cases r2
  exact ⟨v, e, Rep.stay (fun _ _ h => h) r1 h1 fun _ _ _ h => h⟩

/-! ### what a step may change -/
/-- the shared part Z of the heap H, the own part O -/
structure Wd (Z H : Hp) (O : Fp) : Prop where
  sub : ∀ p o, Z p = some o → H p = some o
  off : ∀ p, O p → Z p = none
  al : ∀ p, O p → H p ≠ none
/-- from Z, H, O to Z', H', O' -/
structure Stp (Z H : Hp) (O : Fp) (Z' H' : Hp) (O' : Fp) : Prop where
  ext : ∀ p o, Z p = some o → Z' p = some o
  keep : ∀ p o, H p = some o → ¬ O p → H' p = some o
  own : ∀ p, O' p → O p ∨ H p = none
  new : ∀ p o, Z' p = some o → Z p = some o ∨ O p ∨ H p = none
  wd : Wd Z' H' O'
theorem Wd.sub' {Z H : Hp} {O O' : Fp} (w : Wd Z H O) (h : ∀ p, O' p → O p) : Wd Z H O' := ⟨w.sub, fun p z => w.off p (h p z), fun p z => w.al p (h p z)⟩
theorem Stp.refl {Z H : Hp} {O : Fp} (w : Wd Z H O) : Stp Z H O Z H O := ⟨fun _ _ h => h, fun _ _ h _ => h, fun _ h => .inl h, fun _ _ h => .inl h, w⟩
theorem Stp.trans {Z H Z1 H1 Z2 H2 : Hp} {A B C : Fp} (a : Stp Z H A Z1 H1 B) (b : Stp Z1 H1 B Z2 H2 C) : Stp Z H A Z2 H2 C where
  ext := fun p o h => b.ext p o (a.ext p o h)
  keep := fun p o h n => b.keep p o (a.keep p o h n) fun q => (a.own p q).elim n fun z => by rw [h] at z; cases z
  own := fun p h => by
    rcases b.own p h with q | q
    · exact a.own p q
    · by_cases hA : A p
      · exact .inl hA
      · cases e : H p with
        | none => exact .inr rfl
        | some o => rw [a.keep p o e hA] at q; cases q
  new := fun p o h => by
    rcases b.new p o h with q | q | q
    · exact a.new p o q
    · exact .inr (a.own p q)
    · by_cases hA : A p
      · exact .inr (.inl hA)
      · cases e : H p with
        | none => exact .inr (.inr rfl)
        | some o => rw [a.keep p o e hA] at q; cases q
  wd := b.wd
/-- less is own behind -/
theorem Stp.drop {Z H Z' H' : Hp} {A B C : Fp} (a : Stp Z H A Z' H' B) (h : ∀ p, C p → B p) : Stp Z H A Z' H' C := ⟨a.ext, a.keep, fun p q => a.own p (h p q), a.new, a.wd.sub' h⟩
/-- more is own around: R is not touched -/
theorem Stp.frame {Z H Z' H' : Hp} {A B R C D' : Fp} (a : Stp Z H A Z' H' B) (w : Wd Z H C) (hA : ∀ p, A p → C p) (hR : ∀ p, R p → C p) (hd : ∀ p, A p → R p → False) (hD : ∀ p, D' p → B p ∨ R p) : Stp Z H C Z' H' D' where
  ext := a.ext
  keep := fun p o h n => a.keep p o h fun q => n (hA p q)
  own := fun p h => by
    rcases hD p h with h | h
    · exact (a.own p h).imp (hA p) id
    · exact .inl (hR p h)
  new := fun p o h => by
    rcases a.new p o h with q | q | q
    · exact .inl q
    · exact .inr (.inl (hA p q))
    · exact .inr (.inr q)
  wd := by
    refine ⟨a.wd.sub, fun p h => ?_, fun p h => ?_⟩
    · rcases hD p h with h | h
      · exact a.wd.off p h
      · cases e : Z' p with
        | none => rfl
        | some o =>
          rcases a.new p o e with q | q | q
          · rw [w.off p (hR p h)] at q; cases q
          · exact (hd p q h).elim
          · exact absurd q (w.al p (hR p h))
    · rcases hD p h with h | h
      · exact a.wd.al p h
      · cases e : H p with
        | none => exact absurd e (w.al p (hR p h))
        | some o => rw [a.keep p o e fun q => hd p q h]; exact fun z => by cases z
theorem Stp.frame_disj {Z H Z' H' : Hp} {A B R C : Fp} (a : Stp Z H A Z' H' B) (w : Wd Z H C) (hR : ∀ p, R p → C p) (hd : ∀ p, A p → R p → False) : ∀ p, B p → R p → False := fun p b r => by
  rcases a.own p b with q | q
  · exact hd p q r
  · exact w.al p (hR p r) q
/-- a tree aside stays -/
theorem Stp.rep {Z H Z' H' : Hp} {A B R : Fp} {d : D} {v : V} (a : Stp Z H A Z' H' B) (r : Rep Z H d v R) (hd : ∀ p, A p → R p → False) : Rep Z' H' d v R :=
  r.stay a.ext (fun _ h => h) fun p o h e => a.keep p o e fun q => hd p q h
theorem Stp.repL {Z H Z' H' : Hp} {A B R : Fp} {l : List D} {vs : List V} (a : Stp Z H A Z' H' B) (r : RepL Z H l vs R) (hd : ∀ p, A p → R p → False) : RepL Z' H' l vs R :=
  RepL.stay a.ext r (fun _ h => h) fun p o h e => a.keep p o e fun q => hd p q h
/-- a new own object -/
theorem Stp.new_own {Z H : Hp} {O : Fp} {p : Addr} {u : HO} (w : Wd Z H O) (n : H p = none) : Stp Z H O Z (upd H p u) (fun q => O q ∨ q = p) where
  ext := fun _ _ h => h
  keep := fun q o h _ => by rw [upd_ne (fun e => by rw [e, n] at h; cases h)]; exact h
  own := fun q h => h.elim .inl fun e => .inr (by rw [e]; exact n)
  new := fun _ _ h => .inl h
  wd := by
    have zn : Z p = none := by
      cases e : Z p with
      | none => rfl
      | some o => rw [w.sub p o e] at n; cases n
    refine ⟨fun q o h => ?_, fun q h => ?_, fun q h => ?_⟩
    · rw [upd_ne (fun e => by rw [e, zn] at h; cases h)]; exact w.sub q o h
    · rcases h with h | h
      · exact w.off q h
      · rw [h]; exact zn
    · by_cases e : q = p
      · rw [e, upd_same]; exact fun z => by cases z
      · rw [upd_ne e]; exact w.al q (h.resolve_right e)
/-- a new shared object -/
theorem Stp.new_shared {Z H : Hp} {O : Fp} {p : Addr} {u : HO} (w : Wd Z H O) (n : H p = none) : Stp Z H O (upd Z p u) (upd H p u) O where
  ext := fun q o h => by rw [upd_ne (fun e => by rw [e] at h; have := w.sub _ _ h; rw [n] at this; cases this)]; exact h
  keep := fun q o h _ => by rw [upd_ne (fun e => by rw [e, n] at h; cases h)]; exact h
  own := fun q h => .inl h
  new := fun q o h => by
    by_cases e : q = p
    · exact .inr (.inr (by rw [e]; exact n))
    · rw [upd_ne e] at h; exact .inl h
  wd := by
    refine ⟨fun q o h => ?_, fun q h => ?_, fun q h => ?_⟩
    · by_cases e : q = p
      · rw [e, upd_same] at h ⊢; exact h
      · rw [upd_ne e] at h ⊢; exact w.sub q o h
    · rw [upd_ne (fun e => w.al q h (by rw [e]; exact n))]; exact w.off q h
    · rw [upd_ne (fun e => w.al q h (by rw [e]; exact n))]; exact w.al q h
/-- an own object is changed -/
theorem Stp.write {Z H : Hp} {O : Fp} {p : Addr} {u : HO} (w : Wd Z H O) (n : O p) : Stp Z H O Z (upd H p u) O where
  ext := fun _ _ h => h
  keep := fun q o h k => by rw [upd_ne (fun e => k (by rw [e]; exact n))]; exact h
  own := fun q h => .inl h
  new := fun _ _ h => .inl h
  wd := by
    refine ⟨fun q o h => ?_, w.off, fun q h => ?_⟩
    · rw [upd_ne (fun e => by rw [e, w.off p n] at h; cases h)]; exact w.sub q o h
    · by_cases e : q = p
      · rw [e, upd_same]; exact fun z => by cases z
      · rw [upd_ne e]; exact w.al q h
/-- R becomes shared -/
noncomputable def shr (Z H : Hp) (R : Fp) : Hp := fun p => open Classical in if R p then H p else Z p
theorem shr_in {Z H : Hp} {R : Fp} {p : Addr} (h : R p) : shr Z H R p = H p := by unfold shr; rw [if_pos h]
theorem shr_out {Z H : Hp} {R : Fp} {p : Addr} (h : ¬ R p) : shr Z H R p = Z p := by unfold shr; rw [if_neg h]
theorem shr_ext {Z H : Hp} {O R : Fp} (w : Wd Z H O) : ∀ p o, Z p = some o → shr Z H R p = some o := fun p o h => by
  by_cases e : R p
  · rw [shr_in e]; exact w.sub p o h
  · rw [shr_out e]; exact h
theorem Stp.share {Z H : Hp} {O R O' : Fp} (w : Wd Z H O) (hR : ∀ p, R p → O p) (hO : ∀ p, O' p → O p) (hd : ∀ p, O' p → R p → False) : Stp Z H O (shr Z H R) H O' where
  ext := shr_ext w
  keep := fun _ _ h _ => h
  own := fun p h => .inl (hO p h)
  new := fun p o h => by
    by_cases e : R p
    · exact .inr (.inl (hR p e))
    · rw [shr_out e] at h; exact .inl h
  wd := by
    refine ⟨fun q o h => ?_, fun q h => ?_, fun q h => w.al q (hO q h)⟩
    · by_cases e : R q
      · rw [shr_in e] at h; exact h
      · rw [shr_out e] at h; exact w.sub q o h
    · rw [shr_out fun r => hd q h r]; exact w.off q (hO q h)
end VS

/-! VS2: slots, results, readings of expressions. -/
namespace VS
open PySem PySem.Spec L2
open PyProof.Rows hiding St

/-- a slot: dead (not to be read), hole (lent out: its value stands as it was), or a value; fl: it is the argument still -/
inductive Cl where
  | dead | hole | val (d : D) (fl : Bool)
abbrev Ev := List Cl
def RelC (A : Nat → V) (Z H : Hp) (i : Nat) (s : Option (Option V)) : Cl → Fp → Prop
  | .dead, _ => True
  | .hole, _ => s = some (some (A i))
  | .val d fl, O => ∃ v, s = some (some v) ∧ Rep Z H d v O ∧ (fl = true → v = A i)
structure RelS (A : Nat → V) (Z H : Hp) (σ : St) (env : Ev) (O : Fp) : Prop where
  len : env.length = σ.length
  ex : ∃ F : Nat → Fp, (∀ i p, F i p → O p) ∧ (∀ i j p, F i p → F j p → i = j) ∧ ∀ i c, env[i]? = some c → RelC A Z H i σ[i]? c (F i)
theorem RelC.stay {A : Nat → V} {Z H Z' H' : Hp} (hz : ∀ p o, Z p = some o → Z' p = some o) {i : Nat} {s : Option (Option V)} {c : Cl} {O : Fp} (r : RelC A Z H i s c O) (hh : ∀ p o, O p → H p = some o → H' p = some o) : RelC A Z' H' i s c O := by
  cases c with
  | dead => trivial
  | hole => exact r
  | val d fl =>
    obtain ⟨v, e, r, h⟩ := r
    exact ⟨v, e, r.stay hz (fun _ h => h) hh, h⟩
theorem RelS.stay {A : Nat → V} {Z H Z' H' : Hp} {σ : St} {env : Ev} {O O' : Fp} (r : RelS A Z H σ env O) (hz : ∀ p o, Z p = some o → Z' p = some o) (ho : ∀ p, O p → O' p) (hh : ∀ p o, O p → H p = some o → H' p = some o) : RelS A Z' H' σ env O' := by
  obtain ⟨l, F, h1, h2, h3⟩ := r
  exact ⟨l, F, fun i p h => ho p (h1 i p h), h2, fun i c e => (h3 i c e).stay hz fun p o h => hh p o (h1 i p h)⟩
/-- a step aside leaves the slots -/
theorem Stp.rel {A : Nat → V} {Z H Z' H' : Hp} {P B R : Fp} {σ : St} {env : Ev} (a : Stp Z H P Z' H' B) (r : RelS A Z H σ env R) (hd : ∀ p, P p → R p → False) : RelS A Z' H' σ env R :=
  r.stay a.ext (fun _ h => h) fun p o h e => a.keep p o e fun q => hd p q h
/-- one slot taken out: its tree and the rest, apart -/
theorem RelS.take {A : Nat → V} {Z H : Hp} {σ : St} {env : Ev} {O : Fp} {i : Nat} {d : D} {fl : Bool} (r : RelS A Z H σ env O) (h : env[i]? = some (.val d fl)) :
    ∃ v O1 O2, σ[i]? = some (some v) ∧ Rep Z H d v O1 ∧ (fl = true → v = A i) ∧ (∀ p, O1 p → O p) ∧ (∀ p, O2 p → O p) ∧ (∀ p, O1 p → O2 p → False) ∧ RelS A Z H σ (env.set i .dead) O2 := by
  obtain ⟨l, F, h1, h2, h3⟩ := r
  obtain ⟨v, e, rv, hv⟩ := h3 i _ h
  refine ⟨v, F i, fun p => O p ∧ ¬ F i p, e, rv, hv, h1 i, fun p h => h.1, fun p a b => b.2 a, by simpa using l, fun j p => F j p ∧ j ≠ i, fun j p h => ⟨h1 j p h.1, fun z => h.2 (h2 j i p h.1 z)⟩, fun j k p a b => h2 j k p a.1 b.1, fun j c e => ?_⟩
  by_cases hj : j = i
  · subst hj
    by_cases hl : j < env.length
    · rw [List.getElem?_set_self hl] at e; cases e; trivial
    · rw [List.getElem?_eq_none (by simpa using hl)] at e; cases e
  · rw [List.getElem?_set_ne (Ne.symm hj)] at e
    have := h3 j c e
    cases c with
    | dead => trivial
    | hole => exact this
    | val d' fl' =>
      obtain ⟨v', e', r', h'⟩ := this
      exact ⟨v', e', r'.stay (fun _ _ h => h) (fun p h => ⟨h, hj⟩) fun _ _ _ h => h, h'⟩
/-- a slot is put in (σ as it is there) -/
theorem RelS.put {A : Nat → V} {Z H : Hp} {σ : St} {env : Ev} {O2 O : Fp} {i : Nat} {c : Cl} {O1 : Fp} (r : RelS A Z H σ (env.set i .dead) O2) (rc : RelC A Z H i σ[i]? c O1) (h1 : ∀ p, O1 p → O p) (h2 : ∀ p, O2 p → O p) (hd : ∀ p, O1 p → O2 p → False) :
    RelS A Z H σ (env.set i c) O := by
  obtain ⟨l, F, g1, g2, g3⟩ := r
  refine ⟨by simpa using l, fun j p => (j = i ∧ O1 p) ∨ (j ≠ i ∧ F j p), fun j p h => h.elim (fun h => h1 p h.2) fun h => h2 p (g1 j p h.2), fun j k p a b => ?_, fun j c' e => ?_⟩
  · rcases a with a | a <;> rcases b with b | b
    · rw [a.1, b.1]
    · exact (hd p a.2 (g1 k p b.2)).elim
    · exact (hd p b.2 (g1 j p a.2)).elim
    · exact g2 j k p a.2 b.2
  · by_cases hj : j = i
    · subst hj
      by_cases hl : j < env.length
      · rw [List.getElem?_set_self hl] at e; cases e
        cases c with
        | dead => trivial
        | hole => exact rc
        | val d fl =>
          obtain ⟨v, e, r, h⟩ := rc
          exact ⟨v, e, r.stay (fun _ _ h => h) (fun p h => .inl ⟨rfl, h⟩) fun _ _ _ h => h, h⟩
      · rw [List.getElem?_eq_none (by simpa using hl)] at e; cases e
    · rw [List.getElem?_set_ne (Ne.symm hj)] at e
      have := g3 j c' (by rw [List.getElem?_set_ne (Ne.symm hj)]; exact e)
      cases c' with
      | dead => trivial
      | hole => exact this
      | val d fl =>
        obtain ⟨v, e, r, h⟩ := this
        exact ⟨v, e, r.stay (fun _ _ h => h) (fun p h => .inr ⟨hj, h⟩) fun _ _ _ h => h, h⟩
/-- a slot is dropped -/
theorem RelS.kill {A : Nat → V} {Z H : Hp} {σ : St} {env : Ev} {O : Fp} (i : Nat) (r : RelS A Z H σ env O) : RelS A Z H σ (env.set i .dead) O := by
  obtain ⟨l, F, h1, h2, h3⟩ := r
  refine ⟨by simpa using l, F, h1, h2, fun j c e => ?_⟩
  by_cases hj : j = i
  · subst hj
    by_cases hl : j < env.length
    · rw [List.getElem?_set_self hl] at e; cases e; trivial
    · rw [List.getElem?_eq_none (by simpa using hl)] at e; cases e
  · rw [List.getElem?_set_ne (Ne.symm hj)] at e
    exact h3 j c e
/-- a name is stored -/
theorem RelS.store {A : Nat → V} {Z H : Hp} {σ : St} {env : Ev} {O1 O2 O : Fp} {i : Nat} {d : D} {v : V} (r : RelS A Z H σ env O2) (rv : Rep Z H d v O1) (h1 : ∀ p, O1 p → O p) (h2 : ∀ p, O2 p → O p) (hd : ∀ p, O1 p → O2 p → False) :
    RelS A Z H (σ.set i (some v)) (env.set i (.val d false)) O := by
  have r' : RelS A Z H (σ.set i (some v)) (env.set i .dead) O2 := by
    obtain ⟨l, F, g1, g2, g3⟩ := r.kill i
    refine ⟨by simpa using l, F, g1, g2, fun j c e => ?_⟩
    by_cases hj : j = i
    · subst hj
      by_cases hl : j < env.length
      · rw [List.getElem?_set_self hl] at e; cases e; trivial
      · rw [List.getElem?_eq_none (by simpa using hl)] at e; cases e
    · rw [List.getElem?_set_ne (Ne.symm hj)]
      exact g3 j c e
  by_cases hl : i < σ.length
  · exact r'.put ⟨v, by rw [List.getElem?_set_self hl], rv, fun z => by cases z⟩ h1 h2 hd
  · have he : ¬ i < env.length := by rw [r.len]; exact hl
    have e1 : env.set i (.val d false) = env.set i .dead := by rw [List.set_eq_of_length_le (by omega), List.set_eq_of_length_le (by omega)]
    rw [e1]
    exact r'.stay (fun _ _ h => h) h2 fun _ _ _ h => h

/-! ### results -/
inductive Res (α : Type) where
  | ok (a : α) (e : Ev) | err (c : Str) (e : Ev) | bad
def Res.bind {α β : Type} (r : Res α) (f : α → Ev → Res β) : Res β := match r with
  | .ok a e => f a e
  | .err c e => .err c e
  | .bad => .bad
@[simp] theorem Res.bind_ok {α β : Type} (a : α) (e : Ev) (f : α → Ev → Res β) : (Res.ok a e).bind f = f a e := rfl
@[simp] theorem Res.bind_err {α β : Type} (c : Str) (e : Ev) (f : α → Ev → Res β) : (Res.err c e : Res α).bind f = .err c e := rfl
@[simp] theorem Res.bind_bad {α β : Type} (f : α → Ev → Res β) : (Res.bad : Res α).bind f = .bad := rfl

/-- the class's address -/
def cadr (mg : Str → Option Value) (c : Str) : Addr := match mg c with
  | some (.ref a) => a
  | _ => 0
/-- behind: the values ds, the slots -/
def Aft (A : Nat → V) (Z0 H0 : Hp) (O0 : Fp) (σ : St) (ds : List D) (env : Ev) (vs : List V) (H : Hp) : Prop :=
  ∃ Z Ov Oe, Stp Z0 H0 O0 Z H (fun p => Ov p ∨ Oe p) ∧ (∀ p, Ov p → Oe p → False) ∧ RepL Z H ds vs Ov ∧ RelS A Z H σ env Oe
def Out (mg : Str → Option Value) (W : WX) (A : Nat → V) (Z H : Hp) (O : Fp) (σ : St) (Q : V → Hp → Prop) : Res D → Prop
  | .ok d env => ∀ v H', Aft A Z H O σ [d] env [v] H' → Q v H'
  | .err c env => ∀ H', Aft A Z H O σ [] env [] H' → W (.ref (cadr mg c)) none σ H'
  | .bad => False
def OutL (mg : Str → Option Value) (W : WX) (A : Nat → V) (Z H : Hp) (O : Fp) (σ : St) (Q : List V → Hp → Prop) : Res (List D) → Prop
  | .ok ds env => ∀ vs H', Aft A Z H O σ ds env vs H' → Q vs H'
  | .err c env => ∀ H', Aft A Z H O σ [] env [] H' → W (.ref (cadr mg c)) none σ H'
  | .bad => False
/-- the reading of an expression that does f to the slots -/
def tV (mg : Str → Option Value) (W : WX) (f : Ev → Res D) : TE := fun σ H Q => ∃ A Z O env, Wd Z H O ∧ RelS A Z H σ env O ∧ Out mg W A Z H O σ Q (f env)
def tA (mg : Str → Option Value) (W : WX) (f : Ev → Res (List D)) : TA := fun σ H Q => ∃ A Z O env, Wd Z H O ∧ RelS A Z H σ env O ∧ OutL mg W A Z H O σ Q (f env)
theorem Aft.nil {A : Nat → V} {Z H : Hp} {O : Fp} {σ : St} {env : Ev} (w : Wd Z H O) (r : RelS A Z H σ env O) : Aft A Z H O σ [] env [] H :=
  ⟨Z, f0, O, (Stp.refl w).drop fun p h => h.elim (fun h => h.elim) id, fun _ h => h.elim, rfl, r⟩
theorem Aft.start {A : Nat → V} {Z H : Hp} {O : Fp} {σ : St} {env : Ev} {ds : List D} {vs : List V} {H' : Hp} (a : Aft A Z H O σ ds env vs H') : ∃ Z1 O1, Wd Z1 H' O1 ∧ RelS A Z1 H' σ env O1 ∧
    (∀ ds2 env2 vs2 H2, Aft A Z1 H' O1 σ ds2 env2 vs2 H2 → Aft A Z H O σ (ds ++ ds2) env2 (vs ++ vs2) H2) := by
  obtain ⟨Z1, Ov, Oe, s1, hd, rv, re⟩ := a
  refine ⟨Z1, Oe, s1.wd.sub' fun p h => .inr h, re, fun ds2 env2 vs2 H2 b => ?_⟩
  obtain ⟨Z2, Pv, Pe, s2, hd2, rv2, re2⟩ := b
  have hdO : ∀ p, Oe p → Ov p → False := fun p a b => hd p b a
  have fd := s2.frame_disj s1.wd (fun p h => .inl h) hdO
  refine ⟨Z2, fun p => Ov p ∨ Pv p, Pe, s1.trans (s2.frame s1.wd (fun p h => .inr h) (fun p h => .inl h) hdO fun p h => ?_), fun p h k => ?_, ?_, re2⟩
  · rcases h with (h | h) | h
    · exact .inr h
    · exact .inl (.inl h)
    · exact .inl (.inr h)
  · rcases h with h | h
    · exact fd p (.inr k) h
    · exact hd2 p h k
  · exact RepL.append (s2.repL rv hdO) rv2 (fun p a b => fd p (.inl b) a) (fun p h => .inl h) fun p h => .inr h
theorem Aft.forget {A : Nat → V} {Z H : Hp} {O : Fp} {σ : St} {env : Ev} {ds : List D} {vs : List V} {H' : Hp} (a : Aft A Z H O σ ds env vs H') : Aft A Z H O σ [] env [] H' := by
  obtain ⟨Z1, Ov, Oe, s1, hd, rv, re⟩ := a
  exact ⟨Z1, f0, Oe, s1.drop fun p h => h.elim (fun h => h.elim) .inr, fun _ h => h.elim, rfl, re⟩
theorem PE.imp {X : Cx} {e : Expr} {t t' : TE} (h : PE X e t) (i : ∀ σ H Q, t' σ H Q → t σ H Q) : PE X e t' := ⟨fun pins s σ H Q I q => h.run pins s σ H Q I (i σ H Q q)⟩
theorem PA.imp {X : Cx} {e : List Expr} {t t' : TA} (h : PA X e t) (i : ∀ σ H Q, t' σ H Q → t σ H Q) : PA X e t' := ⟨fun pos pins s σ H Q I q => h.run pos pins s σ H Q I (i σ H Q q)⟩
theorem PS.imp {X : Cx} {e : Stmt} {t t' : TS} (h : PS X e t) (i : ∀ D σ H, t' D σ H → t D σ H) : PS X e t' := ⟨fun pins s σ H D I q => h.run pins s σ H D I (i D σ H q)⟩
theorem PSs.imp {X : Cx} {e : List Stmt} {t t' : TS} (h : PSs X e t) (i : ∀ D σ H, t' D σ H → t D σ H) : PSs X e t' := ⟨fun pins s σ H D I q => h.run pins s σ H D I (i D σ H q)⟩
theorem PT.imp {X : Cx} {e : Expr} {t t' : TT} (h : PT X e t) (i : ∀ σ H Q, t' σ H Q → t σ H Q) : PT X e t' := ⟨fun pins s σ H Q I q => h.run pins s σ H Q I (i σ H Q q)⟩
theorem PG.imp {X : Cx} {e : Expr} {t t' : TG} (h : PG X e t) (i : ∀ v σ H Q, t' v σ H Q → t v σ H Q) : PG X e t' := ⟨fun pins s σ H v u Q I r q => h.run pins s σ H v u Q I r (i v σ H Q q)⟩

/-! ### names, constants -/
def Ev.at (env : Ev) (i : Nat) : Cl := env.getD i .dead
theorem Ev.at_val {env : Ev} {i : Nat} {d : D} {fl : Bool} (h : env.at i = .val d fl) : env[i]? = some (.val d fl) := by
  unfold Ev.at at h
  rw [List.getD_eq_getElem?_getD] at h
  cases e : env[i]? with
  | none => rw [e] at h; cases h
  | some c => rw [e] at h; rw [show c = _ from h]
/-- the name's value, shared from now on -/
def eVar (i : Nat) (env : Ev) : Res D := match env.at i with
  | .val d fl => .ok (frz d) (env.set i (.val (frz d) fl))
  | _ => .bad
/-- the name's value, taken -/
def eMov (i : Nat) (env : Ev) : Res D := match env.at i with
  | .val d _ => .ok d (env.set i .dead)
  | _ => .bad
def eC (d : D) (env : Ev) : Res D := .ok d env
section
variable {X : Cx} {W : WX} {mg : Str → Option Value}
theorem tVar_of {i : Nat} {σ : St} {H : Hp} {Q : VK} (h : tV mg W (eVar i) σ H Q) : tVar i σ H Q := by
  obtain ⟨A, Z, O, env, w, r, h⟩ := h
  unfold eVar at h
  cases e : env.at i with
  | dead => rw [e] at h; exact h.elim
  | hole => rw [e] at h; exact h.elim
  | val d fl =>
    rw [e] at h
    obtain ⟨v, O1, O2, e1, rv, hv, h1, h2, hd, r2⟩ := r.take (Ev.at_val e)
    refine ⟨v, e1, h v H ?_⟩
    have z : ∀ p o, Z p = some o → shr Z H O1 p = some o := shr_ext w
    have fr : ∀ O', Rep (shr Z H O1) H (frz d) v O' := fun O' => Rep.frz z rv fun p o hp ho => by rw [shr_in hp]; exact ho
    refine ⟨shr Z H O1, f0, O2, Stp.share w h1 (fun p h => h.elim (fun h => h.elim) (h2 p)) fun p h k => h.elim (fun h => h.elim) fun h => hd p k h, fun _ h => h.elim, RepL.one (fr _), ?_⟩
    have r3 := r2.stay z (fun _ h => h) fun _ _ _ h => h
    exact r3.put ⟨v, e1, fr f0, hv⟩ (fun p h => h.elim) (fun p h => h) fun p h => h.elim
theorem tMov_of {i : Nat} {σ : St} {H : Hp} {Q : VK} (h : tV mg W (eMov i) σ H Q) : tVar i σ H Q := by
  obtain ⟨A, Z, O, env, w, r, h⟩ := h
  unfold eMov at h
  cases e : env.at i with
  | dead => rw [e] at h; exact h.elim
  | hole => rw [e] at h; exact h.elim
  | val d fl =>
    rw [e] at h
    obtain ⟨v, O1, O2, e1, rv, hv, h1, h2, hd, r2⟩ := r.take (Ev.at_val e)
    exact ⟨v, e1, h v H ⟨Z, O1, O2, (Stp.refl w).drop fun p h => h.elim (h1 p) (h2 p), hd, RepL.one rv, r2⟩⟩
theorem tC_of {d : D} {v : V} (hd : ∀ Z H, Rep Z H d v f0) {σ : St} {H : Hp} {Q : VK} (h : tV mg W (eC d) σ H Q) : tC v σ H Q := by
  obtain ⟨A, Z, O, env, w, r, h⟩ := h
  exact h v H ⟨Z, f0, O, (Stp.refl w).drop fun p h => h.elim (fun h => h.elim) id, fun _ h => h.elim, RepL.one (hd Z H), r⟩
theorem ev_var (i : Nat) {x : Str} {pos : Pos} (hN : X.N[i]? = some x := by rfl) (hv : Vis X.env.scope x := by first | exact Or.inl rfl | exact Or.inr (Or.inl rfl) | exact Or.inr (Or.inr rfl)) (hd : (x == ("__debug__" : Str)) = false := by decide)
    (hcd : (x == ("__classdict__" : Str)) = false := by decide) : PE X (.Name x pos) (tV X.mg W (eVar i)) := PE.imp (pe_var hN hv hd hcd) fun _ _ _ => tVar_of
theorem ev_mov (i : Nat) {x : Str} {pos : Pos} (hN : X.N[i]? = some x := by rfl) (hv : Vis X.env.scope x := by first | exact Or.inl rfl | exact Or.inr (Or.inl rfl) | exact Or.inr (Or.inr rfl)) (hd : (x == ("__debug__" : Str)) = false := by decide)
    (hcd : (x == ("__classdict__" : Str)) = false := by decide) : PE X (.Name x pos) (tV X.mg W (eMov i)) := PE.imp (pe_var hN hv hd hcd) fun _ _ _ => tMov_of
theorem ev_int {i j pos} : PE X (.Constant (.int i) j pos) (tV X.mg W (eC (.int i))) := PE.imp pe_int fun _ _ _ => tC_of (d := .int i) (v := .int i) fun _ _ => rfl
theorem ev_bl {i j pos} : PE X (.Constant (.bool i) j pos) (tV X.mg W (eC (.bl i))) := PE.imp pe_bl fun _ _ _ => tC_of (d := .bl i) (v := .bl i) fun _ _ => rfl
theorem ev_non {j pos} : PE X (.Constant .none j pos) (tV X.mg W (eC .non)) := PE.imp pe_non fun _ _ _ => tC_of (d := .non) (v := .non) fun _ _ => rfl
theorem ev_str {i j pos} : PE X (.Constant (.str i) j pos) (tV X.mg W (eC (.str i))) := PE.imp pe_str fun _ _ _ => tC_of (d := .str i) (v := .str i) fun _ _ => rfl
/-- a constant of the module -/
theorem ev_gint {i : Int} {x : Str} {pos : Pos} (hg : Gl X x) (hm : ∃ t, X.mg x = some (.int i t)) (hd : (x == ("__debug__" : Str)) = false := by decide) : PE X (.Name x pos) (tV X.mg W (eC (.int i))) := by
  obtain ⟨t, hm⟩ := hm
  exact PE.imp (pe_glob (v := .int i) hg hm ⟨t, rfl⟩ hd) fun _ _ _ => tC_of (d := .int i) (v := .int i) fun _ _ => rfl
theorem ev_gstr {i : Str} {x : Str} {pos : Pos} (hg : Gl X x) (hm : ∃ t, X.mg x = some (.str i t)) (hd : (x == ("__debug__" : Str)) = false := by decide) : PE X (.Name x pos) (tV X.mg W (eC (.str i))) := by
  obtain ⟨t, hm⟩ := hm
  exact PE.imp (pe_glob (v := .str i) hg hm ⟨t, rfl⟩ hd) fun _ _ _ => tC_of (d := .str i) (v := .str i) fun _ _ => rfl
end

/-! ### rows of values -/
def aNil (env : Ev) : Res (List D) := .ok [] env
def aCons (f : Ev → Res D) (g : Ev → Res (List D)) (env : Ev) : Res (List D) := (f env).bind fun d e1 => (g e1).bind fun ds e2 => .ok (d :: ds) e2
section
variable {X : Cx} {W : WX} {mg : Str → Option Value}
theorem tNil_of {σ : St} {H : Hp} {Q : List V → Hp → Prop} (h : tA mg W aNil σ H Q) : tNil σ H Q := by
  obtain ⟨A, Z, O, env, w, r, h⟩ := h
  exact h [] H (.nil w r)
theorem tCons_of {f : Ev → Res D} {g : Ev → Res (List D)} {σ : St} {H : Hp} {Q : List V → Hp → Prop} (h : tA mg W (aCons f g) σ H Q) : tCons (tV mg W f) (tA mg W g) σ H Q := by
  obtain ⟨A, Z, O, env, w, r, h⟩ := h
  refine ⟨A, Z, O, env, w, r, ?_⟩
  unfold aCons at h
  cases e : f env with
  | bad => rw [e] at h; exact h.elim
  | err c e1 => rw [e] at h; exact h
  | ok d e1 =>
    rw [e] at h
    intro v H1 a
    obtain ⟨Z1, O1, w1, r1, k⟩ := a.start
    refine ⟨A, Z1, O1, e1, w1, r1, ?_⟩
    cases e2 : g e1 with
    | bad => rw [Res.bind_ok, e2] at h; exact h.elim
    | err c e3 => rw [Res.bind_ok, e2] at h; exact fun H' b => h H' (k _ _ _ _ b).forget
    | ok ds e3 => rw [Res.bind_ok, e2] at h; exact fun vs H' b => h (v :: vs) H' (k _ _ _ _ b)
theorem av_nil : PA X [] (tA X.mg W aNil) := PA.imp pa_nil fun _ _ _ => tNil_of
theorem av_cons {e : Expr} {es : List Expr} {f : Ev → Res D} {g : Ev → Res (List D)} (h : PE X e (tV X.mg W f)) (hr : PA X es (tA X.mg W g)) (hs : starEach (e :: es) X.env = (false, eval e X.env) :: starEach es X.env := by rfl) :
    PA X (e :: es) (tA X.mg W (aCons f g)) := PA.imp (pa_cons h hr hs) fun _ _ _ => tCons_of
end

/-! ### operands: a value reckoned, or a name that is only looked at -/
inductive Opn where
  | e (f : Ev → Res D) | n (i : Nat)
def Opn.t (mg : Str → Option Value) (W : WX) : Opn → TE
  | .e f => tV mg W f
  | .n i => tVar i
def opTs (mg : Str → Option Value) (W : WX) : List Opn → TA
  | [] => tNil
  | o :: os => tCons (o.t mg W) (opTs mg W os)
def isVal : Cl → Bool
  | .val _ _ => true
  | _ => false
def evO : List Opn → Ev → Res (List D)
  | [], env => .ok [] env
  | .e f :: os, env => (f env).bind fun d e1 => (evO os e1).bind fun ds e2 => .ok (d :: ds) e2
  | .n i :: os, env => if isVal (env.at i) then evO os env else .bad
/-- the operands' trees, when all are reckoned -/
def pick : List Opn → List D → Ev → Option (List D)
  | [], _, _ => some []
  | .e _ :: os, d :: ds, env => (pick os ds env).map (d :: ·)
  | .e _ :: _, [], _ => none
  | .n i :: os, ds, env => match env.at i with
    | .val d _ => (pick os ds env).map (d :: ·)
    | _ => none
inductive RepAny (Z H : Hp) : List D → List V → Prop where
  | nil : RepAny Z H [] []
  | cons {d : D} {v : V} {O : Fp} {ds : List D} {vs : List V} : Rep Z H d v O → RepAny Z H ds vs → RepAny Z H (d :: ds) (v :: vs)
/-- the operands' values: the reckoned ones' trees, the names' slots -/
def OpL (Z H : Hp) (σ : St) : List Opn → List D → List V → Fp → Prop
  | [], ds, vs, _ => ds = [] ∧ vs = []
  | .e _ :: os, ds, vs, O => ∃ d dr v vr O1 O2, ds = d :: dr ∧ vs = v :: vr ∧ (∀ p, O1 p → O p) ∧ (∀ p, O2 p → O p) ∧ (∀ p, O1 p → O2 p → False) ∧ Rep Z H d v O1 ∧ OpL Z H σ os dr vr O2
  | .n i :: os, ds, vs, O => ∃ v vr, vs = v :: vr ∧ σ[i]? = some (some v) ∧ OpL Z H σ os ds vr O
theorem OpL.stay {Z H Z' H' : Hp} {σ : St} (hz : ∀ p o, Z p = some o → Z' p = some o) : ∀ {os : List Opn} {ds : List D} {vs : List V} {O O' : Fp}, OpL Z H σ os ds vs O → (∀ p, O p → O' p) → (∀ p o, O p → H p = some o → H' p = some o) → OpL Z' H' σ os ds vs O'
  | [], _, _, _, _, h, _, _ => h
  | .e _ :: os, _, _, _, _, ⟨d, dr, v, vr, O1, O2, e1, e2, h1, h2, h3, r1, r2⟩, ho, hh => ⟨d, dr, v, vr, O1, O2, e1, e2, fun p h => ho p (h1 p h), fun p h => ho p (h2 p h), h3, r1.stay hz (fun _ h => h) fun p o h => hh p o (h1 p h), OpL.stay hz r2 (fun _ h => h) fun p o h => hh p o (h2 p h)⟩
  | .n i :: os, _, _, _, _, ⟨v, vr, e, h, r⟩, ho, hh => ⟨v, vr, e, h, OpL.stay hz r ho hh⟩
theorem OpL.view {Z H : Hp} {σ : St} {A : Nat → V} {env : Ev} {Oe : Fp} (re : RelS A Z H σ env Oe) : ∀ {os : List Opn} {ds : List D} {vs : List V} {O : Fp} {xs : List D}, OpL Z H σ os ds vs O → pick os ds env = some xs → RepAny Z H xs vs
  | [], _, _, _, _, ⟨h1, h2⟩, e => by
    subst h1 h2
    cases e
    exact .nil
  | .e f :: os, _, _, _, _, ⟨d, dr, v, vr, O1, O2, e1, e2, h1, h2, h3, r1, r2⟩, e => by
    subst e1 e2
    have e' : (pick os dr env).map (d :: ·) = some _ := e
    obtain ⟨ys, e3, e4⟩ := Option.map_eq_some_iff.mp e'
    subst e4
    exact .cons r1 (OpL.view re r2 e3)
  | .n i :: os, _, _, _, _, ⟨v, vr, e1, h, r⟩, e => by
    subst e1
    unfold pick at e
    cases c : env.at i with
    | dead => rw [c] at e; cases e
    | hole => rw [c] at e; cases e
    | val d fl =>
      rw [c] at e
      obtain ⟨ys, e3, e4⟩ := Option.map_eq_some_iff.mp e
      subst e4
      obtain ⟨v', O1, O2, e5, rv, _⟩ := re.take (Ev.at_val c)
      rw [h] at e5
      cases e5
      exact .cons rv (OpL.view re r e3)
def AftO (A : Nat → V) (Z0 H0 : Hp) (O0 : Fp) (σ : St) (os : List Opn) (ds : List D) (env : Ev) (vs : List V) (H : Hp) : Prop :=
  ∃ Z Ov Oe, Stp Z0 H0 O0 Z H (fun p => Ov p ∨ Oe p) ∧ (∀ p, Ov p → Oe p → False) ∧ OpL Z H σ os ds vs Ov ∧ RelS A Z H σ env Oe
def OutO (mg : Str → Option Value) (W : WX) (A : Nat → V) (Z H : Hp) (O : Fp) (σ : St) (os : List Opn) (Q : List V → Hp → Prop) : Res (List D) → Prop
  | .ok ds env => ∀ vs H', AftO A Z H O σ os ds env vs H' → Q vs H'
  | .err c env => ∀ H', Aft A Z H O σ [] env [] H' → W (.ref (cadr mg c)) none σ H'
  | .bad => False
section
variable {X : Cx} {W : WX} {mg : Str → Option Value}
theorem opTs_of : ∀ (os : List Opn) {A : Nat → V} {Z H : Hp} {O : Fp} {σ : St} {env : Ev} {Q : List V → Hp → Prop}, Wd Z H O → RelS A Z H σ env O → OutO mg W A Z H O σ os Q (evO os env) → opTs mg W os σ H Q
  | [], A, Z, H, O, σ, env, Q, w, r, h => h [] H ⟨Z, f0, O, (Stp.refl w).drop fun p h => h.elim (fun h => h.elim) id, fun _ h => h.elim, ⟨rfl, rfl⟩, r⟩
  | .n i :: os, A, Z, H, O, σ, env, Q, w, r, h => by
    unfold evO at h
    cases c : env.at i with
    | dead => rw [c] at h; exact h.elim
    | hole => rw [c] at h; exact h.elim
    | val d fl =>
      rw [c] at h
      obtain ⟨v, O1, O2, e5, rv, _⟩ := r.take (Ev.at_val c)
      refine ⟨v, e5, opTs_of os w r ?_⟩
      rw [show isVal (.val d fl) = true from rfl, if_pos rfl] at h
      cases e2 : evO os env with
      | bad => rw [e2] at h; exact h.elim
      | err c e3 => rw [e2] at h; exact h
      | ok ds e3 =>
        rw [e2] at h
        intro vs H' ⟨Z', Ov, Oe, s, hd, ol, re⟩
        exact h _ H' ⟨Z', Ov, Oe, s, hd, ⟨v, vs, rfl, e5, ol⟩, re⟩
  | .e f :: os, A, Z, H, O, σ, env, Q, w, r, h => by
    refine ⟨A, Z, O, env, w, r, ?_⟩
    unfold evO at h
    cases e : f env with
    | bad => rw [e] at h; exact h.elim
    | err c e1 => rw [e] at h; exact h
    | ok d e1 =>
      rw [e, Res.bind_ok] at h
      intro v H1 a
      have a0 := a
      obtain ⟨Z1, Ov, Oe, s1, hd, rv, re⟩ := a
      obtain ⟨v', ev, rv⟩ := RepL.one_of rv
      cases ev
      have w1 : Wd Z1 H1 Oe := s1.wd.sub' fun p h => .inr h
      refine opTs_of os w1 re ?_
      cases e2 : evO os e1 with
      | bad => rw [e2] at h; exact h.elim
      | err c e3 =>
        rw [e2] at h
        intro H' b
        refine h H' ?_
        obtain ⟨Z2, Pv, Pe, s2, hd2, rv2, re2⟩ := b
        have hdO : ∀ p, Oe p → Ov p → False := fun p a b => hd p b a
        exact ⟨Z2, f0, Pe, s1.trans (s2.frame s1.wd (fun p h => .inr h) (fun p h => .inl h) hdO fun p h => h.elim (fun h => h.elim) fun h => .inl (.inr h)), fun _ h => h.elim, rfl, re2⟩
      | ok ds e3 =>
        rw [e2] at h
        intro vs H' ⟨Z2, Pv, Pe, s2, hd2, ol, re2⟩
        have hdO : ∀ p, Oe p → Ov p → False := fun p a b => hd p b a
        have fd := s2.frame_disj s1.wd (fun p h => .inl h) hdO
        refine h _ H' ⟨Z2, fun p => Ov p ∨ Pv p, Pe, s1.trans (s2.frame s1.wd (fun p h => .inr h) (fun p h => .inl h) hdO fun p h => ?_), fun p h k => ?_, ?_, re2⟩
        · rcases h with (h | h) | h
          · exact .inr h
          · exact .inl (.inl h)
          · exact .inl (.inr h)
        · rcases h with h | h
          · exact fd p (.inr k) h
          · exact hd2 p h k
        · exact ⟨d, ds, v, vs, Ov, Pv, rfl, rfl, fun p h => .inl h, fun p h => .inr h, fun p a b => fd p (.inl b) a, s2.rep rv hdO, ol⟩

/-- an operation that only looks at its operands: r asks of the values, g is its answer -/
def RO (r : List V → Hp → VK → Prop) (g : List D → Option D) : Prop := ∀ (Z H : Hp) (xs : List D) (vs : List V) (Q : VK) (d : D), (∀ p o, Z p = some o → H p = some o) → RepAny Z H xs vs → g xs = some d →
  (∀ v Z' H' O', Stp Z H f0 Z' H' O' → Rep Z' H' d v O' → Q v H') → r vs H Q
def eRO (os : List Opn) (g : List D → Option D) (env : Ev) : Res D := (evO os env).bind fun ds e1 => match (pick os ds e1).bind g with
  | some d => .ok d e1
  | none => .bad
theorem ro_of {os : List Opn} {g : List D → Option D} {r : List V → Hp → VK → Prop} (hr : RO r g) {σ : St} {H : Hp} {Q : VK} (h : tV mg W (eRO os g) σ H Q) : opTs mg W os σ H fun vs H' => r vs H' Q := by
  obtain ⟨A, Z, O, env, w, re, h⟩ := h
  refine opTs_of os w re ?_
  unfold eRO at h
  cases e : evO os env with
  | bad => rw [e] at h; exact h.elim
  | err c e1 => rw [e] at h; exact h
  | ok ds e1 =>
    rw [e, Res.bind_ok] at h
    intro vs H1 ⟨Z1, Ov, Oe, s1, hd, ol, re1⟩
    cases q : (pick os ds e1).bind g with
    | none => rw [q] at h; exact h.elim
    | some d =>
      rw [q] at h
      obtain ⟨xs, e2, e3⟩ := Option.bind_eq_some_iff.mp q
      refine hr Z1 H1 xs vs Q d s1.wd.sub (OpL.view re1 ol e2) e3 fun v Z2 H2 O2 s2 rv => h v H2 ?_
      have w1 : Wd Z1 H1 Oe := s1.wd.sub' fun p h => .inr h
      have n0 : ∀ p, f0 p → Oe p → False := fun _ h => h.elim
      exact ⟨Z2, O2, Oe, s1.trans (s2.frame s1.wd (fun p h => h.elim) (fun p h => .inr h) n0 fun p h => h), s2.frame_disj w1 (fun p h => h) n0, RepL.one rv, s2.rel re1 n0⟩
end
end VS

/-! VS3: expressions: operators, comparisons, tests, displays, calls of built-ins. -/
namespace VS
open PySem PySem.Spec L2
open PyProof.Rows hiding St
section
variable {X : Cx} {W : WX} {mg : Str → Option Value}
/-- an operand of the text -/
abbrev OE (X : Cx) (W : WX) (e : Expr) (o : Opn) : Prop := PE X e (o.t X.mg W)
theorem oe {e : Expr} {f : Ev → Res D} (h : PE X e (tV X.mg W f)) : OE X W e (.e f) := h
theorem on (i : Nat) {x : Str} {pos : Pos} (hN : X.N[i]? = some x := by rfl) (hv : Vis X.env.scope x := by first | exact Or.inl rfl | exact Or.inr (Or.inl rfl) | exact Or.inr (Or.inr rfl)) (hd : (x == ("__debug__" : Str)) = false := by decide)
    (hcd : (x == ("__classdict__" : Str)) = false := by decide) : OE X W (.Name x pos) (.n i) := pe_var hN hv hd hcd
abbrev OA (X : Cx) (W : WX) (es : List Expr) (os : List Opn) : Prop := PA X es (opTs X.mg W os)
theorem oa_nil : OA X W [] [] := pa_nil
theorem oa_cons {e : Expr} {es : List Expr} {o : Opn} {os : List Opn} (h : OE X W e o) (hr : OA X W es os) (hs : starEach (e :: es) X.env = (false, eval e X.env) :: starEach es X.env := by rfl) : OA X W (e :: es) (o :: os) := pa_cons h hr hs

/-! ### operators that look -/
def r2L (r : R2) : List V → Hp → VK → Prop
  | [x, y], H, Q => r x y H Q
  | _, _, _ => False
def r1L (r : V → Hp → VK → Prop) : List V → Hp → VK → Prop
  | [x], H, Q => r x H Q
  | _, _, _ => False
theorem ev_op {op : Operator} {r : R2} {g : List D → Option D} {a b : Expr} {oa ob : Opn} {pos : Pos} (ho : OpR X (binaryOp op) r) (hr : RO (r2L r) g) (ha : OE X W a oa) (hb : OE X W b ob) : PE X (.BinOp a op b pos) (tV X.mg W (eRO [oa, ob] g)) :=
  PE.imp (pe_op ho ha hb) fun _ _ _ h => ro_of hr h
theorem ev_un {op : UnaryOp} {r : V → Hp → VK → Prop} {g : List D → Option D} {a : Expr} {oa : Opn} {pos : Pos} (ho : UnR X (unaryOp op) r) (hr : RO (r1L r) g) (ha : OE X W a oa) : PE X (.UnaryOp op a pos) (tV X.mg W (eRO [oa] g)) :=
  PE.imp (pe_un ho ha) fun _ _ _ h => ro_of hr h
theorem ev_cmp {op : CmpOp} {r : R2} {g : List D → Option D} {a b : Expr} {oa ob : Opn} {pos : Pos} (ho : OpR X (compareOp op) r) (hr : RO (r2L r) g) (ha : OE X W a oa) (hb : OE X W b ob) (hm : behindInMarks op b = false) : PE X (.Compare a [op] [b] pos) (tV X.mg W (eRO [oa, ob] g)) :=
  PE.imp (pe_cmpR ho ha hb hm) fun _ _ _ h => ro_of hr h
theorem ev_ix {r : R2} {g : List D → Option D} {a b : Expr} {oa ob : Opn} {pos : Pos} (ho : IxR X r) (hr : RO (r2L r) g) (ha : OE X W a oa) (hb : OE X W b ob) (hs : PlainIx b) : PE X (.Subscript a b pos) (tV X.mg W (eRO [oa, ob] g)) :=
  PE.imp (pe_ix ho ha hb hs) fun _ _ _ h => ro_of hr h
theorem ev_callB {x : Str} {id : String} {r : List V → Hp → VK → Prop} {g : List D → Option D} {e : Expr} {es : List Expr} {os : List Opn} {p pos : Pos} (hc : CallR X (.builtin id) r) (hr : RO r g) (hg : Gl X x) (hm : X.mg x = none) (hv : bootBuiltins x = some (.builtin id)) (ha : OA X W (e :: es) os) (hn : x ≠ "__name__" := by decide) (hdb : (x == ("__debug__" : Str)) = false := by decide)
    (he : starEach (e :: es) X.env = (false, eval e X.env) :: starEach es X.env := by rfl) (hpl : (backTo pos (starEach es X.env)).any (·.1) = false := by rfl) : PE X (.Call (.Name x p) (e :: es) [] pos) (tV X.mg W (eRO os g)) :=
  PE.imp (pe_callB hc hg hm hv ha hn hdb he hpl) fun _ _ _ h => ro_of hr h
theorem ev_callTy {x : Str} {T : String} {r : List V → Hp → VK → Prop} {g : List D → Option D} {e : Expr} {es : List Expr} {os : List Opn} {p pos : Pos} (hc : CallR X (.type T) r) (hr : RO r g) (hg : Gl X x) (hm : X.mg x = none) (hv : bootBuiltins x = some (.type T)) (ha : OA X W (e :: es) os) (hn : x ≠ "__name__" := by decide) (hdb : (x == ("__debug__" : Str)) = false := by decide)
    (he : starEach (e :: es) X.env = (false, eval e X.env) :: starEach es X.env := by rfl) (hpl : (backTo pos (starEach es X.env)).any (·.1) = false := by rfl) : PE X (.Call (.Name x p) (e :: es) [] pos) (tV X.mg W (eRO os g)) :=
  PE.imp (pe_callTy hc hg hm hv ha hn hdb he hpl) fun _ _ _ h => ro_of hr h

/-! ### slices -/
def rSl2 (r : V → Option Int → Option Int → Hp → VK → Prop) : List V → Hp → VK → Prop
  | [x, l, u], H, Q => ∃ i j, l = .int i ∧ u = .int j ∧ r x (some i) (some j) H Q
  | _, _, _ => False
def rSlLo (r : V → Option Int → Option Int → Hp → VK → Prop) : List V → Hp → VK → Prop
  | [x, l], H, Q => ∃ i, l = .int i ∧ r x (some i) none H Q
  | _, _, _ => False
def rSlHi (r : V → Option Int → Option Int → Hp → VK → Prop) : List V → Hp → VK → Prop
  | [x, l], H, Q => ∃ i, l = .int i ∧ r x none (some i) H Q
  | _, _, _ => False
theorem tV_mono {f : Ev → Res D} {σ : St} {H : Hp} {Q Q' : VK} (h : tV mg W f σ H Q) (i : ∀ v H, Q v H → Q' v H) : tV mg W f σ H Q' := by
  obtain ⟨A, Z, O, env, w, r, h⟩ := h
  refine ⟨A, Z, O, env, w, r, ?_⟩
  cases e : f env with
  | bad => rw [e] at h; exact h
  | err c e1 => rw [e] at h; exact h
  | ok d e1 => rw [e] at h; exact fun v H' a => i _ _ (h v H' a)
theorem opn_mono {o : Opn} {σ : St} {H : Hp} {Q Q' : VK} (h : o.t mg W σ H Q) (i : ∀ v H, Q v H → Q' v H) : o.t mg W σ H Q' := by
  cases o with
  | e f => exact tV_mono h i
  | n j => obtain ⟨v, e, h⟩ := h; exact ⟨v, e, i _ _ h⟩
/-- an int is wanted -/
def eInt (f : Ev → Res D) (env : Ev) : Res D := (f env).bind fun d e1 => match d with
  | .int i => .ok (.int i) e1
  | _ => .bad
theorem tInt_of {f : Ev → Res D} {σ : St} {H : Hp} {Q : VK} (h : tV mg W (eInt f) σ H Q) : tV mg W f σ H (fun x H1 => ∃ i, x = .int i ∧ Q (.int i) H1) := by
  obtain ⟨A, Z, O, env, w, r, h⟩ := h
  refine ⟨A, Z, O, env, w, r, ?_⟩
  unfold eInt at h
  cases e : f env with
  | bad => rw [e] at h; exact h
  | err c e1 => rw [e] at h; exact h
  | ok d e1 =>
    rw [e, Res.bind_ok] at h
    cases d with
    | int i =>
      intro v H' a
      obtain ⟨Z1, Ov, Oe, s1, hd, rv, re⟩ := id a
      obtain ⟨v', ev, rv⟩ := RepL.one_of rv
      cases ev
      have e2 : v = .int i := rv
      subst e2
      exact ⟨i, rfl, h _ H' a⟩
    | _ => exact h.elim
theorem ev_sl2 {r : V → Option Int → Option Int → Hp → VK → Prop} {g : List D → Option D} {a lo hi : Expr} {oa : Opn} {fl fh : Ev → Res D} {pos p2 : Pos} (ho : SlR X r) (hr : RO (rSl2 r) g) (ha : OE X W a oa) (hl : PE X lo (tV X.mg W fl)) (hh : PE X hi (tV X.mg W fh)) :
    PE X (.Subscript a (.Slice (some lo) (some hi) none p2) pos) (tV X.mg W (eRO [oa, .e (eInt fl), .e (eInt fh)] g)) :=
  PE.imp (pe_slice ho ha (po_some hl) (po_some hh)) fun σ H Q h => opn_mono (ro_of hr h) fun x H1 h1 => tV_mono (tInt_of h1) fun y H2 h2 => by
    obtain ⟨i, e, h2⟩ := h2
    refine ⟨i, e, tV_mono (tInt_of h2) fun z H3 h3 => ?_⟩
    obtain ⟨j, e', h3⟩ := h3
    obtain ⟨i', j', e1, e2, h3⟩ := h3
    cases e1; cases e2
    exact ⟨_, e', h3⟩
theorem ev_slLo {r : V → Option Int → Option Int → Hp → VK → Prop} {g : List D → Option D} {a lo : Expr} {oa : Opn} {fl : Ev → Res D} {pos p2 : Pos} (ho : SlR X r) (hr : RO (rSlLo r) g) (ha : OE X W a oa) (hl : PE X lo (tV X.mg W fl)) :
    PE X (.Subscript a (.Slice (some lo) none none p2) pos) (tV X.mg W (eRO [oa, .e (eInt fl)] g)) :=
  PE.imp (pe_slice ho ha (po_some hl) po_none) fun σ H Q h => opn_mono (ro_of hr h) fun x H1 h1 => tV_mono (tInt_of h1) fun y H2 h2 => by
    obtain ⟨i, e, i', e1, h2⟩ := h2
    cases e1
    exact ⟨_, e, h2⟩
theorem ev_slHi {r : V → Option Int → Option Int → Hp → VK → Prop} {g : List D → Option D} {a hi : Expr} {oa : Opn} {fh : Ev → Res D} {pos p2 : Pos} (ho : SlR X r) (hr : RO (rSlHi r) g) (ha : OE X W a oa) (hh : PE X hi (tV X.mg W fh)) :
    PE X (.Subscript a (.Slice none (some hi) none p2) pos) (tV X.mg W (eRO [oa, .e (eInt fh)] g)) :=
  PE.imp (pe_slice ho ha po_none (po_some hh)) fun σ H Q h => opn_mono (ro_of hr h) fun x H1 h1 => tV_mono (tInt_of h1) fun y H2 h2 => by
    obtain ⟨i, e, i', e1, h2⟩ := h2
    cases e1
    exact ⟨_, e, h2⟩

/-! ### tests -/
def OutB (mg : Str → Option Value) (W : WX) (A : Nat → V) (Z H : Hp) (O : Fp) (σ : St) (Q : Bool → Hp → Prop) : Res Bool → Prop
  | .ok b env => ∀ H', Aft A Z H O σ [] env [] H' → Q b H'
  | .err c env => ∀ H', Aft A Z H O σ [] env [] H' → W (.ref (cadr mg c)) none σ H'
  | .bad => False
def tT (mg : Str → Option Value) (W : WX) (f : Ev → Res Bool) : TT := fun σ H Q => ∃ A Z O env, Wd Z H O ∧ RelS A Z H σ env O ∧ OutB mg W A Z H O σ Q (f env)
/-- a truth is wanted -/
def asB (f : Ev → Res D) (env : Ev) : Res Bool := (f env).bind fun d e1 => match d with
  | .bl b => .ok b e1
  | _ => .bad
theorem tB_of {f : Ev → Res D} {σ : St} {H : Hp} {Q : Bool → Hp → Prop} (h : tT mg W (asB f) σ H Q) : tV mg W f σ H fun x H' => ∃ k, x = .bl k ∧ Q k H' := by
  obtain ⟨A, Z, O, env, w, r, h⟩ := h
  refine ⟨A, Z, O, env, w, r, ?_⟩
  unfold asB at h
  cases e : f env with
  | bad => rw [e] at h; exact h
  | err c e1 => rw [e] at h; exact h
  | ok d e1 =>
    rw [e, Res.bind_ok] at h
    cases d with
    | bl b =>
      intro v H' a
      obtain ⟨Z1, Ov, Oe, s1, hd, rv, re⟩ := id a
      obtain ⟨v', ev, rv⟩ := RepL.one_of rv
      cases ev
      have e2 : v = .bl b := rv
      subst e2
      exact ⟨b, rfl, h H' a.forget⟩
    | _ => exact h.elim
/-- an expression whose value is a truth, as a test (no comparison, no and, or, not) -/
theorem tv_val {e : Expr} {f : Ev → Res D} (h : PE X e (tV X.mg W f)) (he : ∀ whole, isTrue e X.env whole = (do let v ← whole; standAt e.pos; holding [v] (truthy v)) := by intro _; rfl) : PT X e (tT X.mg W (asB f)) :=
  PT.imp (pt_val h he) fun _ _ _ h => tB_of h
/-- a comparison, as a test -/
theorem tv_cmp {op : CmpOp} {r : R2} {g : List D → Option D} {a b : Expr} {oa ob : Opn} {pos : Pos} (ho : OpR X (compareOp op) r) (hr : RO (r2L r) g) (ha : OE X W a oa) (hb : OE X W b ob) (hm : behindInMarks op b = false) : PT X (.Compare a [op] [b] pos) (tT X.mg W (asB (eRO [oa, ob] g))) :=
  PT.imp (pt_cmpR ho ha hb hm) fun _ _ _ h => ro_of hr (tB_of h)
def bNot (f : Ev → Res Bool) (env : Ev) : Res Bool := (f env).bind fun b e1 => .ok (!b) e1
def bAnd (f g : Ev → Res Bool) (env : Ev) : Res Bool := (f env).bind fun b e1 => if b then g e1 else .ok false e1
def bOr (f g : Ev → Res Bool) (env : Ev) : Res Bool := (f env).bind fun b e1 => if b then .ok true e1 else g e1
/-- what follows a test -/
theorem OutB.then {A : Nat → V} {Z H : Hp} {O : Fp} {σ : St} {Q : Bool → Hp → Prop} {env : Ev} {H1 : Hp} (a : Aft A Z H O σ [] env [] H1) : ∃ Z1 O1, Wd Z1 H1 O1 ∧ RelS A Z1 H1 σ env O1 ∧
    (∀ r, OutB mg W A Z H O σ Q r → OutB mg W A Z1 H1 O1 σ Q r) ∧ (∀ (Q : VK) r, Out mg W A Z H O σ Q r → Out mg W A Z1 H1 O1 σ Q r) := by
  obtain ⟨Z1, O1, w1, r1, k⟩ := a.start
  refine ⟨Z1, O1, w1, r1, fun r h => ?_, fun Q r h => ?_⟩
  · cases r with
    | bad => exact h
    | err c e => exact fun H' b => h H' (k _ _ _ _ b)
    | ok b e => exact fun H' b => h H' (k _ _ _ _ b)
  · cases r with
    | bad => exact h
    | err c e => exact fun H' b => h H' (k _ _ _ _ b)
    | ok b e => exact fun v H' b => h v H' (k _ _ _ _ b)
theorem tT_bind {f : Ev → Res Bool} {k : Bool → Ev → Res Bool} {σ : St} {H : Hp} {Q : Bool → Hp → Prop} (h : tT mg W (fun env => (f env).bind k) σ H Q) : tT mg W f σ H fun b H1 => tT mg W (k b) σ H1 Q := by
  obtain ⟨A, Z, O, env, w, r, h⟩ := h
  refine ⟨A, Z, O, env, w, r, ?_⟩
  dsimp only at h
  cases e : f env with
  | bad => rw [e] at h; exact h
  | err c e1 => rw [e] at h; exact h
  | ok b e1 =>
    rw [e, Res.bind_ok] at h
    intro H' a
    obtain ⟨Z1, O1, w1, r1, k1, _⟩ := OutB.then a
    exact ⟨A, Z1, O1, e1, w1, r1, k1 _ h⟩
theorem tV_test {f : Ev → Res Bool} {k : Bool → Ev → Res D} {σ : St} {H : Hp} {Q : VK} (h : tV mg W (fun env => (f env).bind k) σ H Q) : tT mg W f σ H fun b H1 => tV mg W (k b) σ H1 Q := by
  obtain ⟨A, Z, O, env, w, r, h⟩ := h
  refine ⟨A, Z, O, env, w, r, ?_⟩
  dsimp only at h
  cases e : f env with
  | bad => rw [e] at h; exact h
  | err c e1 => rw [e] at h; exact h
  | ok b e1 =>
    rw [e, Res.bind_ok] at h
    intro H' a
    obtain ⟨Z1, O1, w1, r1, _, k2⟩ := OutB.then (Q := fun _ _ => True) a
    exact ⟨A, Z1, O1, e1, w1, r1, k2 _ _ h⟩
theorem tT_ok {b : Bool} {σ : St} {H : Hp} {Q : Bool → Hp → Prop} (h : tT mg W (fun env => .ok b env) σ H Q) : Q b H := by
  obtain ⟨A, Z, O, env, w, r, h⟩ := h
  exact h H (.nil w r)
theorem tv_not {a : Expr} {f : Ev → Res Bool} {pos : Pos} (h : PT X a (tT X.mg W f)) : PT X (.UnaryOp .Not a pos) (tT X.mg W (bNot f)) := PT.imp (pt_not h) fun σ H Q h => by
  obtain ⟨A, Z, O, env, w, r, h⟩ := tT_bind (k := fun b e1 => .ok (!b) e1) h
  refine ⟨A, Z, O, env, w, r, ?_⟩
  cases e : f env with
  | bad => rw [e] at h; exact h
  | err c e1 => rw [e] at h; exact h
  | ok b e1 => rw [e] at h; exact fun H' a => tT_ok (h H' a)
theorem tT_mono {f : Ev → Res Bool} {σ : St} {H : Hp} {Q Q' : Bool → Hp → Prop} (h : tT mg W f σ H Q) (i : ∀ b H, Q b H → Q' b H) : tT mg W f σ H Q' := by
  obtain ⟨A, Z, O, env, w, r, h⟩ := h
  refine ⟨A, Z, O, env, w, r, ?_⟩
  cases e : f env with
  | bad => rw [e] at h; exact h
  | err c e1 => rw [e] at h; exact h
  | ok d e1 => rw [e] at h; exact fun H' a => i _ _ (h H' a)
theorem wv_and1 {a : Expr} {f : Ev → Res Bool} {pos : Pos} (h : PT X a (tT X.mg W f)) : PW X (.BoolOp .And [a] pos) (tT X.mg W f) := pw_and1 h
theorem wv_or1 {a : Expr} {f : Ev → Res Bool} {pos : Pos} (h : PT X a (tT X.mg W f)) : PW X (.BoolOp .Or [a] pos) (tT X.mg W f) := pw_or1 h
theorem PW.imp {e : Expr} {t t' : TT} (h : PW X e t) (i : ∀ σ H Q, t' σ H Q → t σ H Q) : PW X e t' := ⟨fun wh pins s σ H Q I q => h.run wh pins s σ H Q I (i σ H Q q)⟩
theorem wv_and {a b : Expr} {rest : List Expr} {f g : Ev → Res Bool} {pos : Pos} (h : PT X a (tT X.mg W f)) (hr : PW X (.BoolOp .And (b :: rest) pos) (tT X.mg W g)) : PW X (.BoolOp .And (a :: b :: rest) pos) (tT X.mg W (bAnd f g)) :=
  PW.imp (pw_and h hr) fun σ H Q h => tT_mono (tT_bind (k := fun b e1 => if b then g e1 else .ok false e1) h) fun b H1 h1 => by
    cases b with
    | true => exact h1
    | false => exact tT_ok h1
theorem wv_or {a b : Expr} {rest : List Expr} {f g : Ev → Res Bool} {pos : Pos} (h : PT X a (tT X.mg W f)) (hr : PW X (.BoolOp .Or (b :: rest) pos) (tT X.mg W g)) : PW X (.BoolOp .Or (a :: b :: rest) pos) (tT X.mg W (bOr f g)) :=
  PW.imp (pw_or h hr) fun σ H Q h => tT_mono (tT_bind (k := fun b e1 => if b then .ok true e1 else g e1) h) fun b H1 h1 => by
    cases b with
    | false => exact h1
    | true => exact tT_ok h1
/-- a if t else b -/
def eIf (c : Ev → Res Bool) (f g : Ev → Res D) (env : Ev) : Res D := (c env).bind fun b e1 => if b then f e1 else g e1
theorem ev_if {c a b : Expr} {fc : Ev → Res Bool} {f g : Ev → Res D} {pos : Pos} (hc : PT X c (tT X.mg W fc)) (ha : PE X a (tV X.mg W f)) (hb : PE X b (tV X.mg W g)) : PE X (.IfExp c a b pos) (tV X.mg W (eIf fc f g)) :=
  PE.imp (pe_ifExp hc ha hb) fun σ H Q h => tT_mono (tV_test (k := fun b e1 => if b then f e1 else g e1) h) fun b H1 h1 => by
    cases b with
    | true => exact h1
    | false => exact h1
/-- and, or, not as values -/
theorem tV_bind {f : Ev → Res D} {k : D → Ev → Res D} {σ : St} {H : Hp} {Q : VK} {b : Bool → Ev → Res D} (hk : ∀ d e, k d e = match d with | .bl c => b c e | _ => .bad) (h : tV mg W (fun env => (f env).bind k) σ H Q) :
    tV mg W f σ H fun x H1 => ∃ c, x = .bl c ∧ tV mg W (b c) σ H1 Q := by
  have h2 : tV mg W (fun env => (asB f env).bind b) σ H Q := by
    obtain ⟨A, Z, O, env, w, r, h⟩ := h
    refine ⟨A, Z, O, env, w, r, ?_⟩
    unfold asB
    dsimp only at h ⊢
    cases e : f env with
    | bad => rw [e] at h; exact h
    | err c e1 => rw [e] at h; exact h
    | ok d e1 =>
      rw [e, Res.bind_ok, hk] at h
      rw [Res.bind_ok]
      cases d <;> exact h
  exact tB_of (tV_test h2)
def eAnd (f g : Ev → Res D) (env : Ev) : Res D := (f env).bind fun d e1 => match d with
  | .bl c => if c then g e1 else .ok (.bl false) e1
  | _ => .bad
def eOr (f g : Ev → Res D) (env : Ev) : Res D := (f env).bind fun d e1 => match d with
  | .bl c => if c then .ok (.bl true) e1 else g e1
  | _ => .bad
def eNot (f : Ev → Res D) (env : Ev) : Res D := (f env).bind fun d e1 => match d with
  | .bl c => .ok (.bl (!c)) e1
  | _ => .bad
theorem tV_ok {d : D} {v : V} (hd : ∀ Z H, Rep Z H d v f0) {σ : St} {H : Hp} {Q : VK} (h : tV mg W (fun env => .ok d env) σ H Q) : Q v H := tC_of hd h
theorem ev_one {op : BoolOp} {a : Expr} {f : Ev → Res D} {pos : Pos} (h : PE X a (tV X.mg W f)) : PE X (.BoolOp op [a] pos) (tV X.mg W f) := pe_one h
theorem ev_and {a b : Expr} {rest : List Expr} {f g : Ev → Res D} {pos : Pos} (ha : PE X a (tV X.mg W f)) (hb : PE X (.BoolOp .And (b :: rest) pos) (tV X.mg W g)) : PE X (.BoolOp .And (a :: b :: rest) pos) (tV X.mg W (eAnd f g)) :=
  PE.imp (pe_and ha hb) fun σ H Q h => tV_mono (tV_bind (b := fun c e1 => if c then g e1 else .ok (.bl false) e1) (fun _ _ => rfl) h) fun x H1 ⟨c, e, h1⟩ => ⟨c, e, by
    cases c with
    | true => exact h1
    | false => exact tV_ok (d := .bl false) (v := .bl false) (fun _ _ => rfl) h1⟩
theorem ev_or {a b : Expr} {rest : List Expr} {f g : Ev → Res D} {pos : Pos} (ha : PE X a (tV X.mg W f)) (hb : PE X (.BoolOp .Or (b :: rest) pos) (tV X.mg W g)) : PE X (.BoolOp .Or (a :: b :: rest) pos) (tV X.mg W (eOr f g)) :=
  PE.imp (pe_or ha hb) fun σ H Q h => tV_mono (tV_bind (b := fun c e1 => if c then .ok (.bl true) e1 else g e1) (fun _ _ => rfl) h) fun x H1 ⟨c, e, h1⟩ => ⟨c, e, by
    cases c with
    | false => exact h1
    | true => exact tV_ok (d := .bl true) (v := .bl true) (fun _ _ => rfl) h1⟩
theorem ev_not {a : Expr} {f : Ev → Res D} {pos : Pos} (ha : PE X a (tV X.mg W f)) : PE X (.UnaryOp .Not a pos) (tV X.mg W (eNot f)) :=
  PE.imp (pe_not ha) fun σ H Q h => tV_mono (tV_bind (b := fun c e1 => .ok (.bl (!c)) e1) (fun _ _ => rfl) h) fun x H1 ⟨c, e, h1⟩ => ⟨c, e, tV_ok (d := .bl (!c)) (v := .bl (!c)) (fun _ _ => rfl) h1⟩

/-! ### a row of two comparisons, of ints -/
def eChain (p q : Int → Int → Bool) (f g k : Ev → Res D) (env : Ev) : Res D := (eInt f env).bind fun x e1 => (eInt g e1).bind fun y e2 => match x, y with
  | .int i, .int j => if p i j then (eInt k e2).bind fun z e3 => match z with
      | .int l => .ok (.bl (q j l)) e3
      | _ => .bad
    else .ok (.bl false) e2
  | _, _ => .bad
theorem tV_then {f : Ev → Res D} {k : D → Ev → Res D} {σ : St} {H : Hp} {Q : VK} (h : tV mg W (fun env => (eInt f env).bind k) σ H Q) : tV mg W f σ H fun x H1 => ∃ i, x = .int i ∧ tV mg W (k (.int i)) σ H1 Q := by
  obtain ⟨A, Z, O, env, w, r, h⟩ := h
  refine ⟨A, Z, O, env, w, r, ?_⟩
  dsimp only at h
  unfold eInt at h
  cases e : f env with
  | bad => rw [e] at h; exact h
  | err c e1 => rw [e] at h; exact h
  | ok d e1 =>
    rw [e, Res.bind_ok] at h
    cases d with
    | int i =>
      intro v H' a
      obtain ⟨Z1, Ov, Oe, s1, hd, rv, re⟩ := id a
      obtain ⟨v', ev, rv⟩ := RepL.one_of rv
      cases ev
      have e2 : v = .int i := rv
      subst e2
      obtain ⟨Z1, O1, w1, r1, _, k2⟩ := OutB.then (Q := fun _ _ => True) a.forget
      exact ⟨i, rfl, A, Z1, O1, e1, w1, r1, k2 _ _ h⟩
    | _ => exact h.elim
theorem chain_of {p q : Int → Int → Bool} {f g k : Ev → Res D} {σ : St} {H : Hp} {Q : VK} (h : tV mg W (eChain p q f g k) σ H Q) :
    tChain (rI0 fun i j => .bl (p i j)) (rI0 fun i j => .bl (q i j)) (tV mg W f) (tV mg W g) (tV mg W k) σ H Q :=
  tV_mono (tV_then h) fun x H1 ⟨i, ex, h1⟩ => tV_mono (tV_then h1) fun y H2 ⟨j, ey, h2⟩ => by
    subst ex ey
    refine ⟨i, j, rfl, rfl, p i j, rfl, ?_⟩
    by_cases c : p i j = true
    · rw [if_pos c]
      have h3 : tV mg W (fun e2 => (eInt k e2).bind fun z e3 => match z with
        | .int l => .ok (.bl (q j l)) e3
        | _ => .bad) σ H2 Q := by
        obtain ⟨A, Z, O, env, w, r, h⟩ := h2
        refine ⟨A, Z, O, env, w, r, ?_⟩
        dsimp only at h
        simp only [c, if_true] at h
        exact h
      refine tV_mono (tV_then h3) fun z H3 ⟨l, ez, h4⟩ => ?_
      subst ez
      exact ⟨j, l, rfl, rfl, tV_ok (d := .bl (q j l)) (v := .bl (q j l)) (fun _ _ => rfl) h4⟩
    · rw [if_neg c]
      have h3 : tV mg W (fun e2 => .ok (.bl false) e2) σ H2 Q := by
        obtain ⟨A, Z, O, env, w, r, h⟩ := h2
        refine ⟨A, Z, O, env, w, r, ?_⟩
        dsimp only at h
        simp only [c] at h
        exact h
      exact tV_ok (d := .bl false) (v := .bl false) (fun _ _ => rfl) h3
theorem ev_chain {op op' : CmpOp} {p q : Int → Int → Bool} {a b c : Expr} {f g k : Ev → Res D} {pos : Pos} (ho : OpR X (compareOp op) (rI0 fun i j => .bl (p i j))) (ho' : OpR X (compareOp op') (rI0 fun i j => .bl (q i j)))
    (ha : PE X a (tV X.mg W f)) (hb : PE X b (tV X.mg W g)) (hc : PE X c (tV X.mg W k)) (hm : lastMarks [op, op'] [b, c] = false := by rfl) : PE X (.Compare a [op, op'] [b, c] pos) (tV X.mg W (eChain p q f g k)) :=
  PE.imp (pe_chain ho ho' ha hb hc hm) fun _ _ _ h => chain_of h
theorem tv_chain {op op' : CmpOp} {p q : Int → Int → Bool} {a b c : Expr} {f g k : Ev → Res D} {pos : Pos} (ho : OpR X (compareOp op) (rI0 fun i j => .bl (p i j))) (ho' : OpR X (compareOp op') (rI0 fun i j => .bl (q i j)))
    (ha : PE X a (tV X.mg W f)) (hb : PE X b (tV X.mg W g)) (hc : PE X c (tV X.mg W k)) (hm : lastMarks [op, op'] [b, c] = false := by rfl) : PT X (.Compare a [op, op'] [b, c] pos) (tT X.mg W (asB (eChain p q f g k))) :=
  PT.imp (pt_chain ho ho' ha hb hc hm) fun _ _ _ h => chain_of (tB_of h)

/-! ### displays -/
def eLst (g : Ev → Res (List D)) (env : Ev) : Res D := (g env).bind fun ds e1 => if ds.length ≤ 10000000 then .ok (.lst true ds) e1 else .bad
def eTup (g : Ev → Res (List D)) (env : Ev) : Res D := (g env).bind fun ds e1 => if ds.length ≤ 10000000 then .ok (.tup ds) e1 else .bad
theorem line10 {n : Nat} (h : n ≤ 10000000) : n < sizeLine := by rw [sizeLine_eq]; omega
theorem lst_of {g : Ev → Res (List D)} {σ : St} {H : Hp} {Q : VK} (h : tV mg W (eLst g) σ H Q) : tLst (tA mg W g) σ H Q := by
  obtain ⟨A, Z, O, env, w, r, h⟩ := h
  refine ⟨A, Z, O, env, w, r, ?_⟩
  unfold eLst at h
  cases e : g env with
  | bad => rw [e] at h; exact h
  | err c e1 => rw [e] at h; exact h
  | ok ds e1 =>
    rw [e, Res.bind_ok] at h
    intro vs H1 ⟨Z1, Ov, Oe, s1, hd, rv, re⟩
    by_cases hl : ds.length ≤ 10000000
    · rw [if_pos hl] at h
      refine ⟨by rw [RepL.len rv]; exact Nat.le_of_lt (line10 hl), fun p np => h _ _ ?_⟩
      have s2 := Stp.new_own (u := .lst vs) s1.wd np
      have nO : ∀ q, Ov q → q ≠ p := fun q h e => s1.wd.al q (.inl h) (by rw [e]; exact np)
      have nE : ∀ q, Oe q → q ≠ p := fun q h e => s1.wd.al q (.inr h) (by rw [e]; exact np)
      refine ⟨Z1, fun q => Ov q ∨ q = p, Oe, s1.trans (s2.drop fun q h => ?_), fun q h k => ?_, RepL.one ⟨p, vs, rfl, .inr rfl, upd_same, ?_⟩, ?_⟩
      · rcases h with (h | h) | h
        · exact .inl (.inl h)
        · exact .inr h
        · exact .inl (.inr h)
      · rcases h with h | h
        · exact hd q h k
        · exact nE q k h
      · exact RepL.stay (fun _ _ h => h) rv (fun q h => ⟨.inl h, nO q h⟩) fun q o h e => by rw [upd_ne (nO q h)]; exact e
      · exact re.stay (fun _ _ h => h) (fun _ h => h) fun q o h e => by rw [upd_ne (nE q h)]; exact e
    · rw [if_neg hl] at h; exact h.elim
theorem tup_of {g : Ev → Res (List D)} {σ : St} {H : Hp} {Q : VK} (h : tV mg W (eTup g) σ H Q) : tTup (tA mg W g) σ H Q := by
  obtain ⟨A, Z, O, env, w, r, h⟩ := h
  refine ⟨A, Z, O, env, w, r, ?_⟩
  unfold eTup at h
  cases e : g env with
  | bad => rw [e] at h; exact h
  | err c e1 => rw [e] at h; exact h
  | ok ds e1 =>
    rw [e, Res.bind_ok] at h
    intro vs H1 ⟨Z1, Ov, Oe, s1, hd, rv, re⟩
    by_cases hl : ds.length ≤ 10000000
    · rw [if_pos hl] at h
      refine ⟨by rw [RepL.len rv]; exact Nat.le_of_lt (line10 hl), fun p np => h _ _ ?_⟩
      have s2 := Stp.new_shared (u := .tup vs) s1.wd np
      have nO : ∀ q, Ov q → q ≠ p := fun q h e => s1.wd.al q (.inl h) (by rw [e]; exact np)
      have nE : ∀ q, Oe q → q ≠ p := fun q h e => s1.wd.al q (.inr h) (by rw [e]; exact np)
      refine ⟨upd Z1 p (.tup vs), Ov, Oe, s1.trans s2, hd, RepL.one ⟨p, vs, rfl, upd_same, ?_⟩, ?_⟩
      · exact RepL.stay s2.ext rv (fun _ h => h) fun q o h e => by rw [upd_ne (nO q h)]; exact e
      · exact re.stay s2.ext (fun _ h => h) fun q o h e => by rw [upd_ne (nE q h)]; exact e
    · rw [if_neg hl] at h; exact h.elim
theorem ev_lst {es : List Expr} {g : Ev → Res (List D)} {pos : Pos} (h : PA X es (tA X.mg W g)) : PE X (.List es pos) (tV X.mg W (eLst g)) := PE.imp (pe_lst h) fun _ _ _ => lst_of
theorem ev_tup {es : List Expr} {g : Ev → Res (List D)} {k : Nat} {pos : Pos} (h : PA X es (tA X.mg W g)) : PE X (.Tuple es k pos) (tV X.mg W (eTup g)) := PE.imp (pe_tup h) fun _ _ _ => tup_of
/-- the value is shared from now on -/
def eFrz (f : Ev → Res D) (env : Ev) : Res D := (f env).bind fun d e1 => .ok (frz d) e1
theorem frz_of {f : Ev → Res D} {σ : St} {H : Hp} {Q : VK} (h : tV mg W (eFrz f) σ H Q) : tV mg W f σ H Q := by
  obtain ⟨A, Z, O, env, w, r, h⟩ := h
  refine ⟨A, Z, O, env, w, r, ?_⟩
  unfold eFrz at h
  cases e : f env with
  | bad => rw [e] at h; exact h
  | err c e1 => rw [e] at h; exact h
  | ok d e1 =>
    rw [e, Res.bind_ok] at h
    intro v H1 ⟨Z1, Ov, Oe, s1, hd, rv, re⟩
    obtain ⟨v', ev, rv⟩ := RepL.one_of rv
    cases ev
    have z := shr_ext (R := Ov) s1.wd
    refine h v H1 ⟨shr Z1 H1 Ov, f0, Oe, s1.trans (Stp.share s1.wd (fun p h => .inl h) (fun p h => h.elim (fun h => h.elim) .inr) fun p h k => h.elim (fun h => h.elim) fun h => hd p k h), fun _ h => h.elim, RepL.one ?_, re.stay z (fun _ h => h) fun _ _ _ h => h⟩
    exact Rep.frz z rv fun p o hp ho => by rw [shr_in hp]; exact ho
theorem ev_frz {e : Expr} {f : Ev → Res D} (h : PE X e (tV X.mg W f)) : PE X e (tV X.mg W (eFrz f)) := PE.imp h fun _ _ _ => frz_of
end
end VS

/-! VS4: statements. -/
namespace VS
open PySem PySem.Spec L2
open PyProof.Rows hiding St
inductive SRes where
  | next (e : Ev) | ret (d : D) (e : Ev) | brk (e : Ev) | cont (e : Ev) | err (c : Str) (e : Ev) | bad
def AftS (A : Nat → V) (Z0 H0 : Hp) (O0 : Fp) (env : Ev) (σ : St) (H : Hp) : Prop := ∃ Z Oe, Stp Z0 H0 O0 Z H Oe ∧ RelS A Z H σ env Oe
def AftR (A : Nat → V) (Z0 H0 : Hp) (O0 : Fp) (d : D) (env : Ev) (v : V) (σ : St) (H : Hp) : Prop :=
  ∃ Z Ov Oe, Stp Z0 H0 O0 Z H (fun p => Ov p ∨ Oe p) ∧ (∀ p, Ov p → Oe p → False) ∧ Rep Z H d v Ov ∧ RelS A Z H σ env Oe
def OutS (mg : Str → Option Value) (W : WX) (A : Nat → V) (Z H : Hp) (O : Fp) (E : Ends) : SRes → Prop
  | .next env => ∀ σ' H', AftS A Z H O env σ' H' → E.nx σ' H'
  | .ret d env => ∀ v σ' H', AftR A Z H O d env v σ' H' → E.rt v H'
  | .brk env => ∀ σ' H', AftS A Z H O env σ' H' → E.bk σ' H'
  | .cont env => ∀ σ' H', AftS A Z H O env σ' H' → E.ct σ' H'
  | .err c env => ∀ σ' H', AftS A Z H O env σ' H' → W (.ref (cadr mg c)) none σ' H'
  | .bad => False
/-- the reading of statements that do f to the slots -/
def tS (mg : Str → Option Value) (W : WX) (f : Ev → SRes) : TS := fun E σ H => ∃ A Z O env, Wd Z H O ∧ RelS A Z H σ env O ∧ OutS mg W A Z H O E (f env)
theorem AftS.pre {A : Nat → V} {Z H Z1 H1 : Hp} {O O1 : Fp} (s : Stp Z H O Z1 H1 O1) {env : Ev} {σ : St} {H' : Hp} (a : AftS A Z1 H1 O1 env σ H') : AftS A Z H O env σ H' := by
  obtain ⟨Z2, O2, s2, r⟩ := a
  exact ⟨Z2, O2, s.trans s2, r⟩
theorem AftR.pre {A : Nat → V} {Z H Z1 H1 : Hp} {O O1 : Fp} (s : Stp Z H O Z1 H1 O1) {d : D} {env : Ev} {v : V} {σ : St} {H' : Hp} (a : AftR A Z1 H1 O1 d env v σ H') : AftR A Z H O d env v σ H' := by
  obtain ⟨Z2, Ov, Oe, s2, r⟩ := a
  exact ⟨Z2, Ov, Oe, s.trans s2, r⟩
/-- from a later point on -/
theorem OutS.pre {mg : Str → Option Value} {W : WX} {A : Nat → V} {Z H Z1 H1 : Hp} {O O1 : Fp} (s : Stp Z H O Z1 H1 O1) {E : Ends} {r : SRes} (h : OutS mg W A Z H O E r) : OutS mg W A Z1 H1 O1 E r := by
  cases r with
  | next e => exact fun σ' H' a => h σ' H' (a.pre s)
  | ret d e => exact fun v σ' H' a => h v σ' H' (a.pre s)
  | brk e => exact fun σ' H' a => h σ' H' (a.pre s)
  | cont e => exact fun σ' H' a => h σ' H' (a.pre s)
  | err c e => exact fun σ' H' a => h σ' H' (a.pre s)
  | bad => exact h
/-- behind an expression: what is left is own by the slots alone -/
theorem Aft.left {A : Nat → V} {Z H : Hp} {O : Fp} {σ : St} {ds : List D} {env : Ev} {vs : List V} {H1 : Hp} (a : Aft A Z H O σ ds env vs H1) : ∃ Z1 O1, Stp Z H O Z1 H1 O1 ∧ RelS A Z1 H1 σ env O1 := by
  obtain ⟨Z1, Ov, Oe, s1, hd, rv, re⟩ := a
  exact ⟨Z1, Oe, s1.drop fun p h => .inr h, re⟩
section
variable {X : Cx} {W : WX} {mg : Str → Option Value}
def sSkip (env : Ev) : SRes := .next env
def SRes.seq (r : SRes) (g : Ev → SRes) : SRes := match r with
  | .next e => g e
  | .ret d e => .ret d e
  | .brk e => .brk e
  | .cont e => .cont e
  | .err c e => .err c e
  | .bad => .bad
def sSeq (f g : Ev → SRes) (env : Ev) : SRes := (f env).seq g
theorem tS_skip {E : Ends} {σ : St} {H : Hp} (h : tS mg W sSkip E σ H) : tNext E σ H := by
  obtain ⟨A, Z, O, env, w, r, h⟩ := h
  exact h σ H ⟨Z, O, .refl w, r⟩
theorem tS_seq {f g : Ev → SRes} {E : Ends} {σ : St} {H : Hp} (h : tS mg W (sSeq f g) E σ H) : tSeq (tS mg W f) (tS mg W g) E σ H := by
  obtain ⟨A, Z, O, env, w, r, h⟩ := h
  refine ⟨A, Z, O, env, w, r, ?_⟩
  unfold sSeq at h
  cases e : f env with
  | next e1 =>
    rw [e] at h
    intro σ' H' ⟨Z1, O1, s1, r1⟩
    exact ⟨A, Z1, O1, e1, s1.wd, r1, OutS.pre s1 h⟩
  | ret d e1 => rw [e] at h; exact h
  | brk e1 => rw [e] at h; exact h
  | cont e1 => rw [e] at h; exact h
  | err c e1 => rw [e] at h; exact h
  | bad => rw [e] at h; exact h
theorem sv_nil : PSs X [] (tS X.mg W sSkip) := PSs.imp pss_nil fun _ _ _ => tS_skip
theorem sv_cons {st : Stmt} {rest : List Stmt} {f g : Ev → SRes} (h1 : PS X st (tS X.mg W f)) (h2 : PSs X rest (tS X.mg W g)) : PSs X (st :: rest) (tS X.mg W (sSeq f g)) := PSs.imp (pss_cons h1 h2) fun _ _ _ => tS_seq
theorem sv_one {st : Stmt} {f : Ev → SRes} (h1 : PS X st (tS X.mg W f)) : PSs X [st] (tS X.mg W f) := pss_one h1
def sBrk (env : Ev) : SRes := .brk env
def sCont (env : Ev) : SRes := .cont env
theorem sv_pass {pos : Pos} : PS X (.Pass pos) (tS X.mg W sSkip) := PS.imp ps_pass fun _ _ _ => tS_skip
theorem sv_break {pos : Pos} : PS X (.Break pos) (tS X.mg W sBrk) := PS.imp ps_break fun E σ H h => by
  obtain ⟨A, Z, O, env, w, r, h⟩ := h
  exact h σ H ⟨Z, O, .refl w, r⟩
theorem sv_continue {pos : Pos} : PS X (.Continue pos) (tS X.mg W sCont) := PS.imp ps_continue fun E σ H h => by
  obtain ⟨A, Z, O, env, w, r, h⟩ := h
  exact h σ H ⟨Z, O, .refl w, r⟩
/-- an expression's result, then a statement's -/
def Res.to {α : Type} (r : Res α) (k : α → Ev → SRes) : SRes := match r with
  | .ok a e => k a e
  | .err c e => .err c e
  | .bad => .bad
def sDrop (f : Ev → Res D) (env : Ev) : SRes := (f env).to fun _ e1 => .next e1
def sRet (f : Ev → Res D) (env : Ev) : SRes := (f env).to fun d e1 => .ret d e1
def sRetN (env : Ev) : SRes := .ret .non env
theorem err_of {A : Nat → V} {Z H : Hp} {O : Fp} {σ : St} {c : Str} {e : Ev} {E : Ends} (h : OutS mg W A Z H O E (.err c e)) {Q : V → Hp → Prop} : Out mg W A Z H O σ Q (.err c e) := fun H' a => by
  obtain ⟨Z1, O1, s1, r1⟩ := a.left
  exact h σ H' ⟨Z1, O1, s1, r1⟩
theorem sv_expr {e : Expr} {f : Ev → Res D} {pos : Pos} (he : PE X e (tV X.mg W f)) (hs : swapsWith e none pos.line X.env = pure false := by rfl) : PS X (.Expr e pos) (tS X.mg W (sDrop f)) := PS.imp (ps_expr he hs) fun E σ H h => by
  obtain ⟨A, Z, O, env, w, r, h⟩ := h
  refine ⟨A, Z, O, env, w, r, ?_⟩
  unfold sDrop at h
  cases e : f env with
  | bad => rw [e] at h; exact h
  | err c e1 => rw [e] at h; exact err_of h
  | ok d e1 =>
    rw [e] at h
    intro v H' a
    obtain ⟨Z1, O1, s1, r1⟩ := a.left
    exact h σ H' ⟨Z1, O1, s1, r1⟩
theorem sv_ret {e : Expr} {f : Ev → Res D} {pos : Pos} (he : PE X e (tV X.mg W f)) : PS X (.Return (some e) pos) (tS X.mg W (sRet f)) := PS.imp (ps_ret he) fun E σ H h => by
  obtain ⟨A, Z, O, env, w, r, h⟩ := h
  refine ⟨A, Z, O, env, w, r, ?_⟩
  unfold sRet at h
  cases e : f env with
  | bad => rw [e] at h; exact h
  | err c e1 => rw [e] at h; exact err_of h
  | ok d e1 =>
    rw [e] at h
    intro v H' ⟨Z1, Ov, Oe, s1, hd, rv, re⟩
    obtain ⟨v', ev, rv⟩ := RepL.one_of rv
    cases ev
    exact h v σ H' ⟨Z1, Ov, Oe, s1, hd, rv, re⟩
theorem sv_retN {pos : Pos} : PS X (.Return none pos) (tS X.mg W sRetN) := PS.imp ps_retN fun E σ H h => by
  obtain ⟨A, Z, O, env, w, r, h⟩ := h
  exact h .non σ H ⟨Z, f0, O, (Stp.refl w).drop fun p h => h.elim (fun h => h.elim) id, fun _ h => h.elim, rfl, r⟩
def sIf (c : Ev → Res Bool) (f g : Ev → SRes) (env : Ev) : SRes := (c env).to fun b e1 => if b then f e1 else g e1
theorem sv_if {c : Expr} {a b : List Stmt} {fc : Ev → Res Bool} {f g : Ev → SRes} {pos : Pos} (hc : PT X c (tT X.mg W fc)) (ha : PSs X a (tS X.mg W f)) (hb : PSs X b (tS X.mg W g)) : PS X (.If c a b pos) (tS X.mg W (sIf fc f g)) := PS.imp (ps_if hc ha hb) fun E σ H h => by
  obtain ⟨A, Z, O, env, w, r, h⟩ := h
  refine ⟨A, Z, O, env, w, r, ?_⟩
  unfold sIf at h
  cases e : fc env with
  | bad => rw [e] at h; exact h
  | err c e1 => rw [e] at h; exact err_of (Q := fun _ _ => True) h
  | ok d e1 =>
    rw [e] at h
    intro H' a
    obtain ⟨Z1, O1, s1, r1⟩ := a.left
    have h' : OutS X.mg W A Z1 H' O1 E (if d = true then f e1 else g e1) := OutS.pre s1 h
    cases d with
    | true => exact ⟨A, Z1, O1, e1, s1.wd, r1, h'⟩
    | false => exact ⟨A, Z1, O1, e1, s1.wd, r1, h'⟩

/-! ### targets -/
/-- a target's reading: the value d is stored -/
def OutG (σ : St) (vs : List Nat) (A : Nat → V) (Z H : Hp) (O : Fp) (Q : St → Hp → Prop) : Option Ev → Prop
  | some env => ∀ σ' H', σ'.length = σ.length → (∀ j, j ∉ vs → σ'[j]? = σ[j]?) → AftS A Z H O env σ' H' → Q σ' H'
  | none => False
/-- vs: the slots that it stores -/
def tG (vs : List Nat) (b : D → Ev → Option Ev) : TG := fun v σ H Q => ∃ A Z Ov Oe d env, Wd Z H (fun p => Ov p ∨ Oe p) ∧ (∀ p, Ov p → Oe p → False) ∧ Rep Z H d v Ov ∧ RelS A Z H σ env Oe ∧ OutG σ vs A Z H (fun p => Ov p ∨ Oe p) Q (b d env)
def bName (i : Nat) (d : D) (env : Ev) : Option Ev := some (env.set i (.val d false))
theorem gv_name {i : Nat} {x : Str} {pos : Pos} (hN : X.N.Nodup) (hi : X.N[i]? = some x := by rfl) (hx : Loc X.env.scope x := by first | exact Or.inl rfl | exact Or.inr rfl) (hf : X.fn x = true ∨ X.env.scope.names.lookup x = some .local := by first | exact .inl rfl | exact .inr rfl | assumption) : PG X (.Name x pos) (tG [i] (bName i)) :=
  PG.imp (pg_name hN hi hx hf) fun v σ H Q h => by
    obtain ⟨A, Z, Ov, Oe, d, env, w, hd, rv, re, h⟩ := h
    exact h _ H (by simp) (fun j hj => List.getElem?_set_ne (by simpa using fun e => hj (by simp [e]))) ⟨Z, fun p => Ov p ∨ Oe p, .refl w, re.store rv (fun p h => .inl h) (fun p h => .inr h) hd⟩
/-- several targets -/
def bAll : List (D → Ev → Option Ev) → List D → Ev → Option Ev
  | [], [], env => some env
  | b :: bs, d :: ds, env => (b d env).bind (bAll bs ds)
  | _, _, _ => none
def tGs (ws : List Nat) (bs : List (D → Ev → Option Ev)) : TGs := fun vs σ H Q => ∃ A Z Ov Oe ds env, Wd Z H (fun p => Ov p ∨ Oe p) ∧ (∀ p, Ov p → Oe p → False) ∧ RepL Z H ds vs Ov ∧ RelS A Z H σ env Oe ∧ OutG σ ws A Z H (fun p => Ov p ∨ Oe p) Q (bAll bs ds env)
theorem gvs_nil : PGs X [] (tGs [] []) := by
  refine ⟨fun pins s σ H vs us Q I r h => pgs_nil.run pins s σ H vs us Q I r ?_⟩
  obtain ⟨A, Z, Ov, Oe, ds, env, w, hd, rv, re, h⟩ := h
  cases ds with
  | nil => exact ⟨rv, h σ H rfl (fun _ _ => rfl) ⟨Z, Oe, (Stp.refl w).drop fun p h => .inr h, re⟩⟩
  | cons d ds => exact h.elim
theorem gvs_cons {e : Expr} {es : List Expr} {b : D → Ev → Option Ev} {bs : List (D → Ev → Option Ev)} {ws ws' : List Nat} (h1 : PG X e (tG ws b)) (h2 : PGs X es (tGs ws' bs))
    (hs : (assignEach (e :: es) X.env).map (·.2) = assign e X.env :: (assignEach es X.env).map (·.2) := by rfl) : PGs X (e :: es) (tGs (ws ++ ws') (b :: bs)) := by
  refine ⟨fun pins s σ H vs us Q I r h => (pgs_cons h1 h2 hs).run pins s σ H vs us Q I r ?_⟩
  obtain ⟨A, Z, Ov, Oe, ds, env, w, hd, rv, re, h⟩ := h
  cases ds with
  | nil => exact h.elim
  | cons d ds =>
    obtain ⟨v, vr, O1, O2, ev, g1, g2, g3, r1, r2⟩ := rv
    have hE : ∀ p, O2 p → (O1 p ∨ Oe p) → False := fun p a b => b.elim (fun b => g3 p b a) fun b => hd p (g2 p a) b
    have w1 : Wd Z H (fun p => O1 p ∨ Oe p) := w.sub' fun p h => h.elim (fun h => .inl (g1 p h)) .inr
    refine ⟨v, vr, ev, A, Z, O1, Oe, d, env, w1, fun p a b => hd p (g1 p a) b, r1, re, ?_⟩
    unfold bAll at h
    cases c : b d env with
    | none => rw [c] at h; exact h.elim
    | some e1 =>
      rw [c] at h
      have h : OutG σ (ws ++ ws') A Z H (fun p => Ov p ∨ Oe p) Q (bAll bs ds e1) := h
      intro σ' H' hl hw ⟨Z1, P1, s1, r1'⟩
      have hdO : ∀ p, (O1 p ∨ Oe p) → O2 p → False := fun p a b => hE p b a
      have fd := s1.frame_disj w (fun p h => .inl (g2 p h)) hdO
      have s2 : Stp Z H (fun p => Ov p ∨ Oe p) Z1 H' (fun p => O2 p ∨ P1 p) := s1.frame w (fun p h => h.elim (fun h => .inl (g1 p h)) .inr) (fun p h => .inl (g2 p h)) hdO fun p h => h.elim .inr .inl
      refine ⟨A, Z1, O2, P1, ds, e1, s2.wd, fun p a b => fd p b a, s1.repL r2 hdO, r1', ?_⟩
      cases c2 : bAll bs ds e1 with
      | none => rw [c2] at h; exact h.elim
      | some e2 => rw [c2] at h; exact fun σ2 H2 hl2 hw2 a => h σ2 H2 (hl2.trans hl) (fun j hj => (hw2 j fun z => hj (List.mem_append_right _ z)).trans (hw j fun z => hj (List.mem_append_left _ z))) (a.pre s2)
/-- (a, b, ..) = a tuple -/
def bTup (bs : List (D → Ev → Option Ev)) (d : D) (env : Ev) : Option Ev := match d with
  | .tup ds => bAll bs ds env
  | _ => none
theorem bAll_len : ∀ {bs : List (D → Ev → Option Ev)} {ds : List D} {env e : Ev}, bAll bs ds env = some e → ds.length = bs.length
  | [], [], _, _, _ => rfl
  | [], _ :: _, _, _, h => by cases h
  | _ :: _, [], _, _, h => by cases h
  | b :: bs, d :: ds, env, e, h => by
    unfold bAll at h
    obtain ⟨e1, _, h2⟩ := Option.bind_eq_some_iff.mp h
    simp [bAll_len h2]
theorem gv_tup {es : List Expr} {k : Nat} {bs : List (D → Ev → Option Ev)} {ws : List Nat} {pos : Pos} (hc : X.calm = true) (h : PGs X es (tGs ws bs)) (hn : (assignEach es X.env).length = bs.length := by rfl) (hst : (assignEach es X.env).findIdx? (·.1) = none := by rfl) :
    PG X (.Tuple es k pos) (tG ws (bTup bs)) :=
  PG.imp (pg_tup hc h hn hst) fun v σ H Q q => by
    obtain ⟨A, Z, Ov, Oe, d, env, w, hd, rv, re, q⟩ := q
    cases d with
    | tup ds =>
      obtain ⟨p, vs, e, hz, rv⟩ := rv
      have q : OutG σ ws A Z H (fun p => Ov p ∨ Oe p) Q (bAll bs ds env) := q
      cases c : bAll bs ds env with
      | none => rw [c] at q; exact q.elim
      | some e1 =>
        refine ⟨p, vs, e, SqT.of (w.sub _ _ hz), ?_, A, Z, Ov, Oe, ds, env, w, hd, rv, re, q⟩
        rw [RepL.len rv]; exact bAll_len c
    | _ => exact q.elim
/-- target = value -/
def sAsg (f : Ev → Res D) (b : D → Ev → Option Ev) (env : Ev) : SRes := (f env).to fun d e1 => match b d e1 with
  | some e2 => .next e2
  | none => .bad
theorem asg_of (ws : List Nat) {f : Ev → Res D} {b : D → Ev → Option Ev} {E : Ends} {σ : St} {H : Hp} (h : tS mg W (sAsg f b) E σ H) : tAsg (tV mg W f) (tG ws b) E σ H := by
  obtain ⟨A, Z, O, env, w, r, h⟩ := h
  refine ⟨A, Z, O, env, w, r, ?_⟩
  unfold sAsg at h
  cases e : f env with
  | bad => rw [e] at h; exact h
  | err c e1 => rw [e] at h; exact err_of h
  | ok d e1 =>
    rw [e] at h
    intro v H' ⟨Z1, Ov, Oe, s1, hd, rv, re⟩
    obtain ⟨v', ev, rv⟩ := RepL.one_of rv
    cases ev
    refine ⟨A, Z1, Ov, Oe, d, e1, s1.wd, hd, rv, re, ?_⟩
    have h : OutS mg W A Z H O E (match b d e1 with
      | some e2 => .next e2
      | none => .bad) := h
    cases c : b d e1 with
    | none => rw [c] at h; exact h
    | some e2 => rw [c] at h; exact fun σ2 H2 _ _ a => h σ2 H2 (a.pre s1)
theorem sv_set {i : Nat} {x : Str} {e : Expr} {f : Ev → Res D} {pos pos' : Pos} (hN : X.N.Nodup) (he : PE X e (tV X.mg W f)) (hi : X.N[i]? = some x := by rfl) (hx : Loc X.env.scope x := by first | exact Or.inl rfl | exact Or.inr rfl) (hs : swapsWith e (some (.Name x pos')) pos.line X.env = pure false := by rfl) (hf : X.fn x = true ∨ X.env.scope.names.lookup x = some .local := by first | exact .inl rfl | exact .inr rfl | assumption) :
    PS X (.Assign [.Name x pos'] e pos) (tS X.mg W (sAsg f (bName i))) :=
  PS.imp (ps_set hN hi hx he hs hf) fun E σ H h => by
    have h2 := asg_of [i] h
    exact tV_mono h2 fun v H1 h1 => by
      obtain ⟨A, Z, Ov, Oe, d, env, w, hd, rv, re, h⟩ := h1
      exact h _ H1 (by simp) (fun j hj => List.getElem?_set_ne (by simpa using fun e => hj (by simp [e]))) ⟨Z, fun p => Ov p ∨ Oe p, .refl w, re.store rv (fun p h => .inl h) (fun p h => .inr h) hd⟩
theorem sv_asg {tg e : Expr} {f : Ev → Res D} {b : D → Ev → Option Ev} {ws : List Nat} {pos : Pos} (he : PE X e (tV X.mg W f)) (hg : PG X tg (tG ws b)) (hs : swapsWithSole [tg] e pos.line X.env = pure false := by rfl) (hw : swappedStores [tg] e X.env = pure none := by rfl)
    (h1 : (assignEach [tg] X.env).map (·.2) = [assign tg X.env] := by rfl) : PS X (.Assign [tg] e pos) (tS X.mg W (sAsg f b)) := PS.imp (ps_asg he hg hs hw h1) fun _ _ _ => asg_of ws
/-- a, b = x, y with plain local names -/
def sPar (i j : Nat) (g : Ev → Res (List D)) (env : Ev) : SRes := (g env).to fun ds e1 => match ds with
  | [d, d'] => .next ((e1.set i (.val d false)).set j (.val d' false))
  | _ => .bad
theorem sv_par {i j : Nat} {x y : Str} {a b : Expr} {g : Ev → Res (List D)} {px py pt pos : Pos} {kt k2 pt2} (hc : X.calm = true) (hN : X.N.Nodup) (ha : PA X [a, b] (tA X.mg W g)) (hij : i ≠ j := by decide) (hi : X.N[i]? = some x := by rfl) (hj : X.N[j]? = some y := by rfl)
    (hx : X.env.scope.names.lookup x = some .local := by rfl) (hy : X.env.scope.names.lookup y = some .local := by rfl)
    (hw : swappedStores [.Tuple [.Name x px, .Name y py] kt pt] (.Tuple [a, b] k2 pt2) X.env = pure (some [x, y]) := by rfl)
    (hs : swapsWithSole [.Tuple [.Name x px, .Name y py] kt pt] (.Tuple [a, b] k2 pt2) pos.line X.env = pure false := by rfl) :
    PS X (.Assign [.Tuple [.Name x px, .Name y py] kt pt] (.Tuple [a, b] k2 pt2) pos) (tS X.mg W (sPar i j g)) :=
  PS.imp (ps_par hc hN hi hj hij hx hy ha hw hs) fun E σ H h => by
    obtain ⟨A, Z, O, env, w, r, h⟩ := h
    refine ⟨A, Z, O, env, w, r, ?_⟩
    unfold sPar at h
    cases e : g env with
    | bad => rw [e] at h; exact h
    | err c e1 => rw [e] at h; exact err_of (Q := fun _ _ => True) h
    | ok ds e1 =>
      rw [e] at h
      intro vs H' ⟨Z1, Ov, Oe, s1, hd, rv, re⟩
      cases ds with
      | nil => exact h.elim
      | cons d ds =>
        cases ds with
        | nil => exact h.elim
        | cons d' ds =>
          cases ds with
          | cons _ _ => exact h.elim
          | nil =>
            obtain ⟨v, vr, O1, O2, ev, g1, g2, g3, r1, r2⟩ := rv
            obtain ⟨v', ev', r3⟩ := RepL.one_of r2
            subst ev ev'
            refine ⟨v, v', rfl, h _ H' ⟨Z1, fun p => Ov p ∨ Oe p, s1, ?_⟩⟩
            have a1 := re.store (i := i) r1 (O := fun p => O1 p ∨ Oe p) (fun p h => .inl h) (fun p h => .inr h) fun p a b => hd p (g1 p a) b
            exact a1.store r3 (fun p h => .inl (g2 p h)) (fun p h => h.elim (fun h => .inl (g1 p h)) .inr) fun p a b => b.elim (fun b => g3 p b a) fun b => hd p (g2 p a) b
end
end VS

/-! VS5: loops, list comprehensions. -/
namespace VS
open PySem PySem.Spec L2
open PyProof.Rows hiding St
/-- what J walks, while the source stands as it did at Z0, H0 (own part Oh): the items -/
def ItOk (J : It) (Z0 H0 : Hp) (Oh : Fp) (items : List D) : Prop :=
  ∀ Z H i O, (∀ p o, Z0 p = some o → Z p = some o) → Wd Z H O → (∀ p o, Oh p → H0 p = some o → H p = some o) →
    (∀ d, items[i]? = some d → J.go i H ∧ ∀ x H', J.yld i H x H' → ∃ Z', Stp Z H f0 Z' H' f0 ∧ Rep Z' H' d x f0) ∧ (i = items.length → J.stop i H)
/-- what is lent to a loop: a slot's value -/
abbrev Bk := Option (Nat × D × Bool)
def back : Bk → Ev → Ev
  | none, env => env
  | some (i, d, fl), env => match env.at i with
    | .hole => env.set i (.val d fl)
    | .val d' _ => env.set i (.val d' false)
    | .dead => env
def BackOk (A A' : Nat → V) (Z H : Hp) (Oh : Fp) : Bk → Prop
  | none => A' = A
  | some (i, d, fl) => (∀ j, j ≠ i → A' j = A j) ∧ (fl = true → A' i = A i) ∧ Rep Z H d (A' i) Oh
theorem BackOk.stay {A A' : Nat → V} {Z H Z' H' : Hp} {Oh : Fp} {bk : Bk} (b : BackOk A A' Z H Oh bk) (hz : ∀ p o, Z p = some o → Z' p = some o) (hh : ∀ p o, Oh p → H p = some o → H' p = some o) : BackOk A A' Z' H' Oh bk := by
  cases bk with
  | none => exact b
  | some q =>
    obtain ⟨i, d, fl⟩ := q
    obtain ⟨h1, h2, h3⟩ := b
    exact ⟨h1, h2, h3.stay hz (fun _ h => h) hh⟩
theorem RelS.argsAt {A A' : Nat → V} {Z H : Hp} {σ : St} {env : Ev} {O : Fp} {i : Nat} (r : RelS A' Z H σ env O) (h : ∀ j, j ≠ i → A' j = A j) (hi : env.at i = .dead ∨ ∃ d, env.at i = .val d false) : RelS A Z H σ env O := by
  obtain ⟨l, F, h1, h2, h3⟩ := r
  refine ⟨l, F, h1, h2, fun j c e => ?_⟩
  have := h3 j c e
  by_cases hj : j = i
  · subst hj
    have hc : env.at j = c := by unfold Ev.at; rw [List.getD_eq_getElem?_getD, e]; rfl
    rw [hc] at hi
    rcases hi with hi | ⟨d, hi⟩
    · subst hi; trivial
    · subst hi
      obtain ⟨v, e1, r1, _⟩ := this
      exact ⟨v, e1, r1, fun z => by cases z⟩
  · cases c with
    | dead => trivial
    | hole => have q : σ[j]? = some (some (A' j)) := this; rw [h j hj] at q; exact q
    | val d fl =>
      obtain ⟨v, e1, r1, hv⟩ := this
      exact ⟨v, e1, r1, fun z => by rw [← h j hj]; exact hv z⟩
theorem Ev.at_set {env : Ev} {i : Nat} {c : Cl} (h : i < env.length) : Ev.at (env.set i c) i = c := by
  unfold Ev.at
  rw [List.getD_eq_getElem?_getD, List.getElem?_set_self h]; rfl
theorem Ev.lt_of {env : Ev} {i : Nat} {c : Cl} (h : env.at i = c) (hc : c ≠ .dead) : i < env.length := by
  by_cases hl : i < env.length
  · exact hl
  · unfold Ev.at at h
    rw [List.getD_eq_getElem?_getD, List.getElem?_eq_none (by omega)] at h
    exact absurd h.symm hc
theorem back_rel {A A' : Nat → V} {Z H : Hp} {Oh O O' : Fp} {bk : Bk} {σ : St} {env : Ev} (b : BackOk A A' Z H Oh bk) (r : RelS A' Z H σ env O) (h1 : ∀ p, O p → O' p) (h2 : ∀ p, Oh p → O' p) (hd : ∀ p, Oh p → O p → False) : RelS A Z H σ (back bk env) O' := by
  cases bk with
  | none =>
    have e : A' = A := b
    subst e
    exact r.stay (fun _ _ h => h) h1 fun _ _ _ h => h
  | some q =>
    obtain ⟨i, d, fl⟩ := q
    obtain ⟨g1, g2, g3⟩ := b
    cases c : env.at i with
    | dead =>
      rw [show back (some (i, d, fl)) env = env by simp [back, c]]
      exact (r.argsAt g1 (.inl c)).stay (fun _ _ h => h) h1 fun _ _ _ h => h
    | hole =>
      have hl := Ev.lt_of c (by intro z; cases z)
      have e0 : env[i]? = some .hole := by
        unfold Ev.at at c
        rw [List.getD_eq_getElem?_getD, List.getElem?_eq_getElem hl] at c
        rw [List.getElem?_eq_getElem hl]
        exact congrArg some c
      obtain ⟨l, F, f1, f2, f3⟩ := id r
      have es : σ[i]? = some (some (A' i)) := f3 i _ e0
      rw [show back (some (i, d, fl)) env = env.set i (.val d fl) by simp [back, c]]
      have r2 : RelS A Z H σ (env.set i .dead) O := (r.kill i).argsAt g1 (.inl (Ev.at_set hl))
      exact r2.put (O1 := Oh) (c := .val d fl) ⟨A' i, es, g3, g2⟩ h2 h1 hd
    | val d' fl' =>
      have hl := Ev.lt_of c (by intro z; cases z)
      obtain ⟨v, O1, O2, e1, rv, hv, k1, k2, kd, r2⟩ := r.take (Ev.at_val c)
      rw [show back (some (i, d, fl)) env = env.set i (.val d' false) by simp [back, c]]
      have r3 : RelS A' Z H σ (env.set i (.val d' false)) O' := r2.put (c := .val d' false) ⟨v, e1, rv, fun z => by cases z⟩ (fun p h => h1 p (k1 p h)) (fun p h => h1 p (k2 p h)) kd
      exact r3.argsAt g1 (.inr ⟨d', Ev.at_set hl⟩)
/-- a source's reading: items, what is lent -/
def AftI (A : Nat → V) (Z0 H0 : Hp) (O0 : Fp) (σ : St) (items : List D) (bk : Bk) (env : Ev) (J : It) (H : Hp) : Prop :=
  ∃ A' Z Oh Oe, Stp Z0 H0 O0 Z H (fun p => Oh p ∨ Oe p) ∧ (∀ p, Oh p → Oe p → False) ∧ ItOk J Z H Oh items ∧ BackOk A A' Z H Oh bk ∧ RelS A' Z H σ env Oe
def OutI (mg : Str → Option Value) (W : WX) (A : Nat → V) (Z H : Hp) (O : Fp) (σ : St) (R : It → Hp → Prop) : Res (List D × Bk) → Prop
  | .ok a env => ∀ J H', AftI A Z H O σ a.1 a.2 env J H' → R J H'
  | .err c env => ∀ H', Aft A Z H O σ [] env [] H' → W (.ref (cadr mg c)) none σ H'
  | .bad => False
def tI (mg : Str → Option Value) (W : WX) (f : Ev → Res (List D × Bk)) : TI := fun σ H R => ∃ A Z O env, Wd Z H O ∧ RelS A Z H σ env O ∧ OutI mg W A Z H O σ R (f env)

/-- a state within a loop: R is aside (Oh of the source in it), Oe the slots' -/
structure Lp (A A' : Nat → V) (Z0 H0 : Hp) (O0 : Fp) (Z1 H1 : Hp) (Oh R : Fp) (σ : St) (H : Hp) (env : Ev) (Z : Hp) (Oe : Fp) : Prop where
  stp : Stp Z0 H0 O0 Z H (fun p => R p ∨ Oe p)
  dis : ∀ p, R p → Oe p → False
  sub : ∀ p, Oh p → R p
  ext : ∀ p o, Z1 p = some o → Z p = some o
  kept : ∀ p o, Oh p → H1 p = some o → H p = some o
  rel : RelS A' Z H σ env Oe
theorem Lp.step {A A' : Nat → V} {Z0 H0 Z1 H1 Z H Z' H' : Hp} {O0 Oh R Oe Oe' : Fp} {σ σ' : St} {env env' : Ev} (l : Lp A A' Z0 H0 O0 Z1 H1 Oh R σ H env Z Oe) (s : Stp Z H Oe Z' H' Oe') (r : RelS A' Z' H' σ' env' Oe') :
    Lp A A' Z0 H0 O0 Z1 H1 Oh R σ' H' env' Z' Oe' := by
  have hd : ∀ p, Oe p → R p → False := fun p a b => l.dis p b a
  refine ⟨l.stp.trans (s.frame l.stp.wd (fun p h => .inr h) (fun p h => .inl h) hd fun p h => h.elim .inr .inl), fun p a b => s.frame_disj l.stp.wd (fun p h => .inl h) hd p b a, l.sub, fun p o h => s.ext p o (l.ext p o h), fun p o h e => ?_, r⟩
  exact s.keep p o (l.kept p o h e) fun q => hd p q (l.sub p h)
theorem Lp.wd {A A' : Nat → V} {Z0 H0 Z1 H1 Z H : Hp} {O0 Oh R Oe : Fp} {σ : St} {env : Ev} (l : Lp A A' Z0 H0 O0 Z1 H1 Oh R σ H env Z Oe) : Wd Z H Oe := l.stp.wd.sub' fun p h => .inr h
/-- what is aside stays by a step of the slots -/
theorem Lp.aside {A A' : Nat → V} {Z0 H0 Z1 H1 Z H Z' H' : Hp} {O0 Oh R Oe Oe' : Fp} {σ : St} {env : Ev} (l : Lp A A' Z0 H0 O0 Z1 H1 Oh R σ H env Z Oe) (s : Stp Z H Oe Z' H' Oe') {p : Addr} {o : HO} (h : R p) (e : H p = some o) : H' p = some o := s.keep p o e fun q => l.dis p h q
def SRes.mapEv (k : Ev → Ev) : SRes → SRes
  | .next e => .next (k e)
  | .ret d e => .ret d (k e)
  | .brk e => .brk (k e)
  | .cont e => .cont (k e)
  | .err c e => .err c (k e)
  | .bad => .bad
section
variable {X : Cx} {W : WX} {mg : Str → Option Value}
theorem Lp.fin {A A' : Nat → V} {Z0 H0 Z1 H1 Z H : Hp} {O0 Oh Oe : Fp} {σ : St} {env : Ev} (l : Lp A A' Z0 H0 O0 Z1 H1 Oh Oh σ H env Z Oe) {bk : Bk} (b : BackOk A A' Z1 H1 Oh bk) {e : Ev} {σ' : St} {H' : Hp} (a : AftS A' Z H Oe e σ' H') : AftS A Z0 H0 O0 (back bk e) σ' H' := by
  obtain ⟨Z2, O2, s, r⟩ := a
  have l2 := l.step s r
  exact ⟨Z2, fun p => Oh p ∨ O2 p, l2.stp, back_rel (b.stay l2.ext l2.kept) l2.rel (fun p h => .inr h) (fun p h => .inl h) l2.dis⟩
theorem Lp.finR {A A' : Nat → V} {Z0 H0 Z1 H1 Z H : Hp} {O0 Oh Oe : Fp} {σ : St} {env : Ev} (l : Lp A A' Z0 H0 O0 Z1 H1 Oh Oh σ H env Z Oe) {bk : Bk} (b : BackOk A A' Z1 H1 Oh bk) {d : D} {e : Ev} {v : V} {σ' : St} {H' : Hp} (a : AftR A' Z H Oe d e v σ' H') : AftR A Z0 H0 O0 d (back bk e) v σ' H' := by
  obtain ⟨Z2, Ov, O2, s, hd, rv, r⟩ := a
  have l2 : Lp A A' Z0 H0 O0 Z1 H1 Oh Oh σ' H' e Z2 (fun p => Ov p ∨ O2 p) := l.step s (r.stay (fun _ _ h => h) (fun p h => .inr h) fun _ _ _ h => h)
  refine ⟨Z2, Ov, fun p => Oh p ∨ O2 p, l2.stp.drop fun p h => ?_, fun p a b => b.elim (fun b => l2.dis p b (.inl a)) (hd p a), rv, back_rel (b.stay l2.ext l2.kept) r (fun p h => .inr h) (fun p h => .inl h) fun p a b => l2.dis p a (.inr b)⟩
  rcases h with h | h | h
  · exact .inr (.inl h)
  · exact .inl h
  · exact .inr (.inr h)

def forRun (b : D → Ev → Option Ev) (body : Ev → SRes) : List D → Ev → SRes
  | [], env => .next env
  | d :: ds, env => match b d env with
    | none => .bad
    | some e1 => match body e1 with
      | .next e2 => forRun b body ds e2
      | .cont e2 => forRun b body ds e2
      | .brk e2 => .next e2
      | .ret d' e2 => .ret d' e2
      | .err c e2 => .err c e2
      | .bad => .bad
def sFor (src : Ev → Res (List D × Bk)) (b : D → Ev → Option Ev) (body : Ev → SRes) (env : Ev) : SRes := (src env).to fun a e1 => (forRun b body a.1 e1).mapEv (back a.2)
theorem for_of {src : Ev → Res (List D × Bk)} {ws : List Nat} {b : D → Ev → Option Ev} {body : Ev → SRes} {E : Ends} {σ : St} {H : Hp} (h : tS mg W (sFor src b body) E σ H) : tFor (tI mg W src) (tG ws b) (tS mg W body) E σ H := by
  obtain ⟨A, Z0, O0, env, w, r, h⟩ := h
  refine ⟨A, Z0, O0, env, w, r, ?_⟩
  unfold sFor at h
  cases e : src env with
  | bad => rw [e] at h; exact h
  | err c e1 => rw [e] at h; exact err_of (Q := fun _ _ => True) h
  | ok a e1 =>
    rw [e] at h
    obtain ⟨items, bk⟩ := a
    have h : OutS mg W A Z0 H O0 E ((forRun b body items e1).mapEv (back bk)) := h
    intro J H1 ⟨A', Z1, Oh, Oe1, s1, d1, it, bo, r1⟩
    refine ⟨fun i m σ H2 => m = items.length - i ∧ i ≤ items.length ∧ ∃ env Z Oe, Lp A A' Z0 H O0 Z1 H1 Oh Oh σ H2 env Z Oe ∧ OutS mg W A Z0 H O0 E ((forRun b body (items.drop i) env).mapEv (back bk)),
      ⟨items.length, by simp, Nat.zero_le _, e1, Z1, Oe1, ⟨s1, d1, fun _ h => h, fun _ _ h => h, fun _ _ _ h => h, r1⟩, h⟩, ?_⟩
    rintro i m σ H2 ⟨rfl, hi, env, Z, Oe, l, h⟩
    by_cases hlt : i < items.length
    · have ed : items[i]? = some items[i] := List.getElem?_eq_getElem hlt
      obtain ⟨go, yl⟩ := (it Z H2 i _ l.ext l.wd l.kept).1 _ ed
      rw [List.drop_eq_getElem_cons hlt] at h
      generalize hd : items[i] = d at h yl
      refine .inr ⟨go, fun σ' H' => ∃ env' Z' Oe', Lp A A' Z0 H O0 Z1 H1 Oh Oh σ' H' env' Z' Oe' ∧ OutS mg W A Z0 H O0 E ((forRun b body (items.drop (i + 1)) env').mapEv (back bk)), fun σ' H' hN => ⟨items.length - (i + 1), by omega, rfl, hlt, hN⟩, fun x H' hy => ?_⟩
      obtain ⟨Z', sy, ry⟩ := yl x H' hy
      have n0 : ∀ p, f0 p → Oe p → False := fun _ h => h.elim
      have l' : Lp A A' Z0 H O0 Z1 H1 Oh Oh σ H' env Z' Oe := l.step (sy.frame l.wd (fun p h => h.elim) (fun p h => h) n0 fun p h => .inr h) (sy.rel l.rel n0)
      unfold forRun at h
      refine ⟨A', Z', f0, Oe, d, env, l'.wd.sub' (fun p h => h.elim (fun h => h.elim) id), fun _ h => h.elim, ry, l'.rel, ?_⟩
      cases c : b d env with
      | none => rw [c] at h; exact h.elim
      | some e2 =>
        rw [c] at h
        intro σ2 H3 _ _ ⟨Z3, O3, s3, r3⟩
        have l3 : Lp A A' Z0 H O0 Z1 H1 Oh Oh σ2 H3 e2 Z3 O3 := l'.step (s3.frame (R := f0) l'.wd (fun p h => h.elim (fun h => h.elim) id) (fun p h => h.elim) (fun p _ h => h.elim) fun p h => .inl h) r3
        refine ⟨A', Z3, O3, e2, s3.wd, r3, ?_⟩
        have h : OutS mg W A Z0 H O0 E (SRes.mapEv (back bk) (match body e2 with
          | .next e2 => forRun b body (items.drop (i + 1)) e2
          | .cont e2 => forRun b body (items.drop (i + 1)) e2
          | .brk e2 => .next e2
          | .ret d' e2 => .ret d' e2
          | .err c e2 => .err c e2
          | .bad => .bad)) := h
        cases c2 : body e2 with
        | next e3 =>
          rw [c2] at h
          rintro σ' H' ⟨Z4, O4, s4, r4⟩
          exact ⟨e3, Z4, O4, l3.step s4 r4, h⟩
        | cont e3 =>
          rw [c2] at h
          rintro σ' H' ⟨Z4, O4, s4, r4⟩
          exact ⟨e3, Z4, O4, l3.step s4 r4, h⟩
        | brk e3 => rw [c2] at h; exact fun σ' H' a => h σ' H' (l3.fin bo a)
        | ret d' e3 => rw [c2] at h; exact fun v σ' H' a => h v σ' H' (l3.finR bo a)
        | err c e3 => rw [c2] at h; exact fun σ' H' a => h σ' H' (l3.fin bo a)
        | bad => rw [c2] at h; exact h
    · have hl : items.drop i = [] := List.drop_eq_nil_of_le (by omega)
      rw [hl] at h
      refine .inl ⟨(it Z H2 i _ l.ext l.wd l.kept).2 (show i = items.length by omega), ?_⟩
      exact h σ H2 (l.fin bo ⟨Z, Oe, .refl l.wd, l.rel⟩)
theorem sv_for {tg iter : Expr} {body : List Stmt} {src : Ev → Res (List D × Bk)} {ws : List Nat} {b : D → Ev → Option Ev} {fb : Ev → SRes} {pos : Pos} (hp : PassesOwn (model X.prog X.w) X.A X.env X.xe) (hc : X.calm = true) (hi : PI X tg iter (tI X.mg W src)) (hg : PG X tg (tG ws b)) (hb : PSs X body (tS X.mg W fb))
    (hs : ∀ x, foldedSetIterable iter X.env x = pure x := by intro _; rfl) : PS X (.For tg iter body [] pos) (tS X.mg W (sFor src b fb)) := PS.imp (ps_for hp hc hi hg hb hs) fun _ _ _ => for_of

/-! ### while -/
def whileRun (c : Ev → Res Bool) (body : Ev → SRes) : Nat → Ev → SRes
  | 0, _ => .bad
  | n + 1, env => (c env).to fun b e1 => if b then (match body e1 with
      | .next e2 => whileRun c body n e2
      | .cont e2 => whileRun c body n e2
      | .brk e2 => .next e2
      | .ret d' e2 => .ret d' e2
      | .err c e2 => .err c e2
      | .bad => .bad) else .next e1
theorem while_of {n : Nat} {c : Ev → Res Bool} {body : Ev → SRes} {E : Ends} {σ : St} {H : Hp} (h : tS mg W (whileRun c body n) E σ H) : tWhile (tT mg W c) (tS mg W body) E σ H := by
  refine ⟨fun m σ H => tS mg W (whileRun c body m) E σ H, ⟨n, h⟩, fun m σ H h => ?_⟩
  cases m with
  | zero => obtain ⟨A, Z, O, env, w, r, h⟩ := h; exact h.elim
  | succ m =>
    obtain ⟨A, Z, O, env, w, r, h⟩ := h
    refine ⟨A, Z, O, env, w, r, ?_⟩
    unfold whileRun at h
    cases e : c env with
    | bad => rw [e] at h; exact h
    | err c e1 => rw [e] at h; exact err_of (Q := fun _ _ => True) h
    | ok d e1 =>
      rw [e] at h
      intro H' a
      obtain ⟨Z1, O1, s1, r1⟩ := a.left
      cases d with
      | false => exact h σ H' ⟨Z1, O1, s1, r1⟩
      | true =>
        refine ⟨fun σ' H' => tS mg W (whileRun c body m) E σ' H', fun σ' H' q => ⟨m, Nat.lt_succ_self _, q⟩, A, Z1, O1, e1, s1.wd, r1, ?_⟩
        have h : OutS mg W A Z H O E (match body e1 with
          | .next e2 => whileRun c body m e2
          | .cont e2 => whileRun c body m e2
          | .brk e2 => .next e2
          | .ret d' e2 => .ret d' e2
          | .err c e2 => .err c e2
          | .bad => .bad) := h
        cases c2 : body e1 with
        | next e3 =>
          rw [c2] at h
          rintro σ' H' ⟨Z4, O4, s4, r4⟩
          exact ⟨A, Z4, O4, e3, s4.wd, r4, OutS.pre (s1.trans s4) h⟩
        | cont e3 =>
          rw [c2] at h
          rintro σ' H' ⟨Z4, O4, s4, r4⟩
          exact ⟨A, Z4, O4, e3, s4.wd, r4, OutS.pre (s1.trans s4) h⟩
        | brk e3 => rw [c2] at h; exact fun σ' H' a => h σ' H' (a.pre s1)
        | ret d' e3 => rw [c2] at h; exact fun v σ' H' a => h v σ' H' (a.pre s1)
        | err c e3 => rw [c2] at h; exact fun σ' H' a => h σ' H' (a.pre s1)
        | bad => rw [c2] at h; exact h
theorem sv_while {n : Nat} {c : Expr} {body : List Stmt} {fc : Ev → Res Bool} {fb : Ev → SRes} {pos : Pos} (hp : PassesOwn (model X.prog X.w) X.A X.env X.xe) (hc : PT X c (tT X.mg W fc)) (hb : PSs X body (tS X.mg W fb)) : PS X (.While c body [] pos) (tS X.mg W (whileRun fc fb n)) := PS.imp (ps_while hp hc hb) fun _ _ _ => while_of

/-! ### list comprehensions -/
def kill : List Nat → Ev → Ev
  | [], env => env
  | v :: vs, env => (kill vs env).set v .dead
theorem kill_length : ∀ (vs : List Nat) (env : Ev), (kill vs env).length = env.length
  | [], _ => rfl
  | v :: vs, env => by unfold kill; rw [List.length_set, kill_length vs env]
theorem kill_get {env : Ev} {j : Nat} {c : Cl} : ∀ {vs : List Nat}, (kill vs env)[j]? = some c → c = .dead ∨ (env[j]? = some c ∧ j ∉ vs)
  | [], h => .inr ⟨h, by simp⟩
  | v :: vs, h => by
    unfold kill at h
    by_cases hj : v = j
    · subst hj
      by_cases hl : v < (kill vs env).length
      · rw [List.getElem?_set_self hl] at h; cases h; exact .inl rfl
      · rw [List.getElem?_eq_none (by simpa using hl)] at h; cases h
    · rw [List.getElem?_set_ne hj] at h
      rcases kill_get h with h | ⟨h1, h2⟩
      · exact .inl h
      · exact .inr ⟨h1, by simp only [List.mem_cons, not_or]; exact ⟨fun e => hj e.symm, h2⟩⟩
theorem wipe_ne {σ : St} {j : Nat} : ∀ {vs : List Nat}, j ∉ vs → (wipe σ vs)[j]? = σ[j]?
  | [], _ => rfl
  | v :: vs, h => by
    simp only [List.mem_cons, not_or] at h
    unfold wipe
    rw [List.getElem?_set_ne (fun e => h.1 e.symm), wipe_ne h.2]
theorem wipe_in {σ : St} {j : Nat} (hj : j < σ.length) : ∀ {vs : List Nat}, j ∈ vs → (wipe σ vs)[j]? = some none
  | v :: vs, h => by
    unfold wipe
    by_cases e : v = j
    · subst e; rw [List.getElem?_set_self (by rw [wipe_length]; exact hj)]
    · rw [List.getElem?_set_ne e]
      exact wipe_in hj ((List.mem_cons.mp h).resolve_left fun z => e z.symm)
theorem wipe_eq {σ τ : St} {vs : List Nat} (hl : σ.length = τ.length) (h : ∀ j, j ∉ vs → σ[j]? = τ[j]?) : wipe σ vs = wipe τ vs := by
  refine List.ext_getElem? fun j => ?_
  by_cases hj : j ∈ vs
  · by_cases hs : j < σ.length
    · rw [wipe_in hs hj, wipe_in (by rw [← hl]; exact hs) hj]
    · rw [List.getElem?_eq_none (by rw [wipe_length]; omega), List.getElem?_eq_none (by rw [wipe_length]; omega)]
  · rw [wipe_ne hj, wipe_ne hj, h j hj]
theorem RelS.wiped {A : Nat → V} {Z H : Hp} {σ τ : St} {env : Ev} {O : Fp} {vs : List Nat} (r : RelS A Z H σ env O) (hl : σ.length = τ.length) (h : ∀ j, j ∉ vs → σ[j]? = τ[j]?) : RelS A Z H τ (VS.kill vs env) O := by
  obtain ⟨l, F, h1, h2, h3⟩ := r
  refine ⟨by rw [kill_length, l, hl], F, h1, h2, fun j c e => ?_⟩
  rcases kill_get e with z | ⟨e1, e2⟩
  · subst z; trivial
  · rw [← h j e2]; exact h3 j c e1
def lcRun (b : D → Ev → Option Ev) (cond : Ev → Res Bool) (elt : Ev → Res D) (vs : List Nat) : List D → List D → Ev → Res (List D)
  | [], acc, env => .ok acc (kill vs env)
  | d :: ds, acc, env => match b d (kill vs env) with
    | none => .bad
    | some e1 => match cond e1 with
      | .ok false e2 => lcRun b cond elt vs ds acc e2
      | .ok true e2 => (match elt e2 with
        | .ok y e3 => if acc.length < 10000000 then lcRun b cond elt vs ds (acc ++ [y]) e3 else .bad
        | _ => .bad)
      | _ => .bad
def eLc (src : Ev → Res (List D × Bk)) (b : D → Ev → Option Ev) (cond : Ev → Res Bool) (elt : Ev → Res D) (vs : List Nat) (env : Ev) : Res D :=
  (src env).bind fun a e1 => (lcRun b cond elt vs a.1 [] e1).bind fun ds e2 => .ok (.lst true ds) (back a.2 e2)
abbrev W0 : WX := fun _ _ _ _ => False
theorem kill_ne {env : Ev} {j : Nat} : ∀ {vs : List Nat}, j ∉ vs → (kill vs env)[j]? = env[j]?
  | [], _ => rfl
  | v :: vs, h => by
    simp only [List.mem_cons, not_or] at h
    unfold kill
    rw [List.getElem?_set_ne (fun e => h.1 e.symm), kill_ne h.2]
theorem kill_in {env : Ev} {j : Nat} (hj : j < env.length) : ∀ {vs : List Nat}, j ∈ vs → (kill vs env)[j]? = some .dead
  | v :: vs, h => by
    unfold kill
    by_cases e : v = j
    · subst e; rw [List.getElem?_set_self (by rw [kill_length]; exact hj)]
    · rw [List.getElem?_set_ne e]
      exact kill_in hj ((List.mem_cons.mp h).resolve_left fun z => e z.symm)
theorem kill_kill (vs : List Nat) (env : Ev) : kill vs (kill vs env) = kill vs env := by
  refine List.ext_getElem? fun j => ?_
  by_cases hj : j ∈ vs
  · by_cases hs : j < env.length
    · rw [kill_in (by rw [kill_length]; exact hs) hj, kill_in hs hj]
    · rw [List.getElem?_eq_none (by rw [kill_length, kill_length]; omega), List.getElem?_eq_none (by rw [kill_length]; omega)]
  · rw [kill_ne hj]
/-- a state within a comprehension: D the new list, Oa what its items own -/
structure Lk (A A' : Nat → V) (Z0 H0 : Hp) (O0 : Fp) (Z1 H1 : Hp) (Oh : Fp) (D : Addr) (τ : St) (H : Hp) (env : Ev) (acc : List VS.D) : Prop where
  ex : ∃ Z Oe Oa av, Lp A A' Z0 H0 O0 Z1 H1 Oh (fun p => Oh p ∨ Oa p ∨ p = D) τ H env Z Oe ∧ ¬ Oa D ∧ ¬ Oh D ∧ (∀ p, Oh p → Oa p → False) ∧ H D = some (.lst av) ∧ RepL Z H acc av Oa
theorem Lk.move {A A' : Nat → V} {Z0 H0 Z1 H1 Z H Z' H' : Hp} {O0 Oh Oe Oe' Oa : Fp} {D : Addr} {τ τ' : St} {env env' : Ev} {acc : List VS.D} {av : List V} (l : Lp A A' Z0 H0 O0 Z1 H1 Oh (fun p => Oh p ∨ Oa p ∨ p = D) τ H env Z Oe) (s : Stp Z H Oe Z' H' Oe') (r : RelS A' Z' H' τ' env' Oe')
    (h1 : ¬ Oa D) (h2 : ¬ Oh D) (h3 : ∀ p, Oh p → Oa p → False) (h4 : H D = some (.lst av)) (h5 : RepL Z H acc av Oa) : Lp A A' Z0 H0 O0 Z1 H1 Oh (fun p => Oh p ∨ Oa p ∨ p = D) τ' H' env' Z' Oe' ∧ H' D = some (.lst av) ∧ RepL Z' H' acc av Oa :=
  ⟨l.step s r, l.aside s (.inr (.inr rfl)) h4, RepL.stay s.ext h5 (fun _ h => h) fun p o h e => l.aside s (.inr (.inl h)) e⟩
theorem lc_of {src : Ev → Res (List D × Bk)} {vs : List Nat} {b : D → Ev → Option Ev} {cond : Ev → Res Bool} {elt : Ev → Res D} {σ : St} {H : Hp} {Q : VK} (h : tV mg W (eLc src b cond elt vs) σ H Q) :
    tLc (tI mg W src) (tG vs b) (tT mg W0 cond) (tV mg W0 elt) vs σ H Q := by
  obtain ⟨A, Z0, O0, env, w, r, h⟩ := h
  refine ⟨A, Z0, O0, env, w, r, ?_⟩
  unfold eLc at h
  cases e : src env with
  | bad => rw [e] at h; exact h
  | err c e1 => rw [e] at h; exact h
  | ok a e1 =>
    rw [e] at h
    obtain ⟨items, bk⟩ := a
    have h : Out mg W A Z0 H O0 σ Q ((lcRun b cond elt vs items [] e1).bind fun ds e2 => .ok (.lst true ds) (back bk e2)) := h
    intro J H1 ⟨A', Z1, Oh, Oe1, s1, d1, it, bo, r1⟩ D nD
    have sD := Stp.new_own (u := .lst []) s1.wd nD
    have nE : ∀ q, Oe1 q → q ≠ D := fun q h e => s1.wd.al q (.inr h) (by rw [e]; exact nD)
    have nH : ∀ q, Oh q → q ≠ D := fun q h e => s1.wd.al q (.inl h) (by rw [e]; exact nD)
    have start : ∀ {τ : St} {H : Hp} {Z : Hp} {env : Ev} {O : Fp}, τ.length = σ.length → (∀ j, j ∉ vs → τ[j]? = σ[j]?) → RelS A' Z H τ env O → RelS A' Z H (wipe σ vs) (kill vs env) O := fun hl hj r => r.wiped (by rw [wipe_length]; exact hl) fun j h => (hj j h).trans (wipe_ne h).symm
    refine ⟨fun i m H2 => m = items.length - i ∧ i ≤ items.length ∧ ∃ env acc, Lk A A' Z0 H O0 Z1 H1 Oh D (wipe σ vs) H2 (kill vs env) acc ∧ Out mg W A Z0 H O0 σ Q ((lcRun b cond elt vs (items.drop i) acc env).bind fun ds e2 => .ok (.lst true ds) (back bk e2)),
      ⟨items.length, by simp, Nat.zero_le _, e1, [], ⟨Z1, Oe1, f0, [], ⟨?_, ?_, fun p h => .inl h, fun _ _ h => h, fun p o a b => by rw [upd_ne (nH p a)]; exact b, ?_⟩, fun h => h, fun h => nH D h rfl, fun p _ h => h.elim, upd_same, rfl⟩, h⟩, ?_⟩
    · refine s1.trans (sD.drop fun p h => ?_)
      rcases h with (h | h | h) | h
      · exact .inl (.inl h)
      · exact h.elim
      · exact .inr h
      · exact .inl (.inr h)
    · rintro p (a | a | a) b
      · exact d1 p a b
      · exact a
      · exact nE p b a
    · exact (start rfl (fun _ _ => rfl) r1).stay (fun _ _ h => h) (fun _ h => h) fun q o hq ho => by rw [upd_ne (nE q hq)]; exact ho
    rintro i m H2 ⟨rfl, hi, env, acc, ⟨Z, Oe, Oa, av, l, nOa, nOh, dOh, hD, ra⟩, h⟩
    by_cases hlt : i < items.length
    · have ed : items[i]? = some items[i] := List.getElem?_eq_getElem hlt
      obtain ⟨go, yl⟩ := (it Z H2 i _ l.ext l.wd l.kept).1 _ ed
      rw [List.drop_eq_getElem_cons hlt] at h
      generalize hd : items[i] = d at h yl
      refine .inr ⟨go, fun H' => ∃ env acc, Lk A A' Z0 H O0 Z1 H1 Oh D (wipe σ vs) H' (kill vs env) acc ∧ Out mg W A Z0 H O0 σ Q ((lcRun b cond elt vs (items.drop (i + 1)) acc env).bind fun ds e2 => .ok (.lst true ds) (back bk e2)),
        fun H' hN => ⟨items.length - (i + 1), by omega, rfl, hlt, hN⟩, fun x H' hy => ?_⟩
      obtain ⟨Z', sy, ry⟩ := yl x H' hy
      have n0 : ∀ p, f0 p → Oe p → False := fun _ h => h.elim
      have syE : Stp Z H2 Oe Z' H' Oe := sy.frame l.wd (fun p h => h.elim) (fun p h => h) n0 fun p h => .inr h
      obtain ⟨l2, hD2, ra2⟩ := Lk.move l syE (sy.rel l.rel n0) nOa nOh dOh hD ra
      unfold lcRun at h
      refine ⟨A', Z', f0, Oe, d, kill vs env, l2.wd.sub' (fun p h => h.elim (fun h => h.elim) id), fun _ h => h.elim, ry, l2.rel, ?_⟩
      cases c : b d (kill vs env) with
      | none => rw [c] at h; exact h.elim
      | some e2 =>
        rw [c] at h
        intro σ2 H3 hl2 hσ ⟨Z3, O3, s3, r3⟩
        have s3 : Stp Z' H' Oe Z3 H3 O3 := s3.frame (R := f0) l2.wd (fun p h => h.elim (fun h => h.elim) id) (fun p h => h.elim) (fun p _ h => h.elim) fun p h => .inl h
        obtain ⟨l3, hD3, ra3⟩ := Lk.move l2 s3 r3 nOa nOh dOh hD2 ra2
        have hl3 : σ2.length = σ.length := hl2.trans (wipe_length _ _)
        have hj3 : ∀ j, j ∉ vs → σ2[j]? = σ[j]? := fun j hj => (hσ j hj).trans (wipe_ne hj)
        refine ⟨wipe_eq hl3 hj3, A', Z3, O3, e2, l3.wd, r3, ?_⟩
        have h : Out mg W A Z0 H O0 σ Q ((match cond e2 with
          | .ok false e2 => lcRun b cond elt vs (items.drop (i + 1)) acc e2
          | .ok true e2 => (match elt e2 with
            | .ok y e3 => if acc.length < 10000000 then lcRun b cond elt vs (items.drop (i + 1)) (acc ++ [y]) e3 else .bad
            | _ => .bad)
          | _ => .bad : Res (List VS.D)).bind fun ds e2 => .ok (.lst true ds) (back bk e2)) := h
        cases c2 : cond e2 with
        | bad => rw [c2] at h; exact h
        | err c e3 => rw [c2] at h; exact h.elim
        | ok t e3 =>
          rw [c2] at h
          intro H4 a
          obtain ⟨Z4, O4, s4, r4⟩ := a.left
          obtain ⟨l4, hD4, ra4⟩ := Lk.move l3 s4 r4 nOa nOh dOh hD3 ra3
          cases t with
          | false =>
            rw [if_neg Bool.false_ne_true]
            exact ⟨e3, acc, ⟨Z4, O4, Oa, av, ⟨l4.stp, l4.dis, l4.sub, l4.ext, l4.kept, start hl3 hj3 l4.rel⟩, nOa, nOh, dOh, hD4, ra4⟩, h⟩
          | true =>
            rw [if_pos rfl]
            refine ⟨A', Z4, O4, e3, l4.wd, r4, ?_⟩
            have h : Out mg W A Z0 H O0 σ Q ((match elt e3 with
                | .ok y e3 => if acc.length < 10000000 then lcRun b cond elt vs (items.drop (i + 1)) (acc ++ [y]) e3 else .bad
                | _ => .bad : Res (List VS.D)).bind fun ds e2 => .ok (.lst true ds) (back bk e2)) := h
            cases c3 : elt e3 with
            | bad => rw [c3] at h; exact h
            | err c e4 => rw [c3] at h; exact h.elim
            | ok y e4 =>
              rw [c3] at h
              intro v H5 ⟨Z5, Ov, O5, s5, d5, rv, r5⟩
              obtain ⟨v', ev, rv⟩ := RepL.one_of rv
              cases ev
              obtain ⟨l5, hD5, ra5⟩ := Lk.move l4 s5 (r5.stay (fun _ _ h => h) (fun p h => .inr h) fun _ _ _ h => h) nOa nOh dOh hD4 ra4
              by_cases hz : acc.length < 10000000
              · have h : Out mg W A Z0 H O0 σ Q ((lcRun b cond elt vs (items.drop (i + 1)) (acc ++ [y]) e4).bind fun ds e2 => .ok (.lst true ds) (back bk e2)) := by
                  have h' : Out mg W A Z0 H O0 σ Q ((if acc.length < 10000000 then lcRun b cond elt vs (items.drop (i + 1)) (acc ++ [y]) e4 else .bad : Res (List VS.D)).bind fun ds e2 => .ok (.lst true ds) (back bk e2)) := h
                  rw [if_pos hz] at h'
                  exact h'
                have dV : ∀ p, (Oh p ∨ Oa p ∨ p = D) → Ov p → False := fun p a b => l5.dis p a (.inl b)
                have d5' : ∀ p, (Oh p ∨ Oa p ∨ p = D) → O5 p → False := fun p a b => l5.dis p a (.inr b)
                have sw := Stp.write (u := .lst (av ++ [v])) l5.stp.wd (p := D) (.inl (.inr (.inr rfl)))
                have nd : ∀ {p}, Ov p → p ≠ D := fun {p} h e => dV p (.inr (.inr e)) h
                have nd5 : ∀ {p}, O5 p → p ≠ D := fun {p} h e => d5' p (.inr (.inr e)) h
                refine ⟨av, hD5, by rw [RepL.len ra5]; exact Nat.lt_trans hz (by rw [sizeLine_eq]; decide), e4, acc ++ [y], ⟨Z5, O5, fun p => Oa p ∨ Ov p, av ++ [v], ⟨l5.stp.trans (sw.drop fun p h => ?_), fun p a b => ?_, fun p h => .inl h, l5.ext, fun p o a b => ?_, ?_⟩, fun h => h.elim nOa fun h => nd h rfl, nOh, fun p a b => b.elim (dOh p a) fun b => dV p (.inl a) b, upd_same, ?_⟩, h⟩
                · rcases h with (h | (h | h) | h) | h
                  · exact .inl (.inl h)
                  · exact .inl (.inr (.inl h))
                  · exact .inr (.inl h)
                  · exact .inl (.inr (.inr h))
                  · exact .inr (.inr h)
                · rcases a with a | (a | a) | a
                  · exact d5' p (.inl a) b
                  · exact d5' p (.inr (.inl a)) b
                  · exact d5 p a b
                  · exact d5' p (.inr (.inr a)) b
                · rw [upd_ne (fun e => nOh (by rw [← e]; exact a))]; exact l5.kept p o a b
                · exact start hl3 hj3 (r5.stay (fun _ _ h => h) (fun _ h => h) fun q o hq ho => by rw [upd_ne (nd5 hq)]; exact ho)
                · refine RepL.append (O1 := Oa) (O2 := Ov) (RepL.stay (fun _ _ h => h) ra5 (fun _ h => h) fun q o hq ho => ?_) (RepL.one (rv.stay (fun _ _ h => h) (fun _ h => h) fun q o hq ho => ?_)) (fun p a b => dV p (.inr (.inl a)) b) (fun p h => .inl h) fun p h => .inr h
                  · rw [upd_ne (fun e => nOa (by rw [← e]; exact hq))]; exact ho
                  · rw [upd_ne (nd hq)]; exact ho
              · have h' : Out mg W A Z0 H O0 σ Q ((if acc.length < 10000000 then lcRun b cond elt vs (items.drop (i + 1)) (acc ++ [y]) e4 else .bad : Res (List VS.D)).bind fun ds e2 => .ok (.lst true ds) (back bk e2)) := h
                rw [if_neg hz] at h'
                exact h'.elim
    · have hl : items.drop i = [] := List.drop_eq_nil_of_le (by omega)
      rw [hl] at h
      refine .inl ⟨(it Z H2 i _ l.ext l.wd l.kept).2 (show i = items.length by omega), ?_⟩
      have h : ∀ v H', Aft A Z0 H O0 σ [.lst true acc] (back bk (kill vs env)) [v] H' → Q v H' := h
      refine h _ _ ⟨Z, fun p => Oa p ∨ p = D, fun p => Oh p ∨ Oe p, l.stp.drop fun p h => ?_, fun p a b => ?_, RepL.one ⟨D, av, rfl, .inr rfl, hD, RepL.stay (fun _ _ h => h) ra (fun q h => ⟨.inl h, fun z => nOa (by rw [← z]; exact h)⟩) fun _ _ _ h => h⟩, ?_⟩
      · rcases h with (h | h) | h | h
        · exact .inl (.inr (.inl h))
        · exact .inl (.inr (.inr h))
        · exact .inl (.inl h)
        · exact .inr h
      · rcases b with b | b
        · rcases a with a | a
          · exact dOh p b a
          · exact nOh (by rw [← a]; exact b)
        · exact l.dis p (.inr a) b
      · have rE2 : RelS A' Z H2 σ (kill vs (kill vs env)) Oe := l.rel.wiped (by rw [wipe_length]) fun j hj => wipe_ne hj
        rw [kill_kill] at rE2
        exact back_rel (bo.stay l.ext l.kept) rE2 (fun p h => .inr h) (fun p h => .inl h) fun p a b => l.dis p (.inl a) b
theorem ev_lc {elt tg iter : Expr} {ifs : List Expr} {scope : Scope} {own : List (Str × Nat)} {src : Ev → Res (List D × Bk)} {b : D → Ev → Option Ev} {cond : Ev → Res Bool} {fe : Ev → Res D} {pos : Pos} (hc : X.calm = true) (hN : X.N.Nodup) (hi : PI X tg iter (tI X.mg W src)) (ok : BlkOk X.N X.env.scope scope own)
    (hg : ∀ (s : Shared) (H : Hp) (C : Addr) (cl : List (Str × Addr)) (fp : List Addr), PG (X.blk s H scope (compEnvC scope cl C X.env) fp) tg (tG (own.map (·.2)) b)) (ht : ∀ (s : Shared) (H : Hp) (C : Addr) (cl : List (Str × Addr)) (fp : List Addr), PTs (X.blk s H scope (compEnvC scope cl C X.env) fp) ifs (tT X.mg W0 cond))
    (he : ∀ (s : Shared) (H : Hp) (C : Addr) (cl : List (Str × Addr)) (fp : List Addr), PE (X.blk s H scope (compEnvC scope cl C X.env) fp) elt (tV X.mg W0 fe)) (hs : ∀ x, foldedSetIterable iter X.env x = pure x := by intro _; rfl) :
    PE X (.ListComp elt [⟨tg, iter, ifs, 0⟩] scope pos) (tV X.mg W (eLc src b cond fe (own.map (·.2)))) := PE.imp (pe_lc hc hN hi ok hg ht he hs) fun _ _ _ => lc_of
theorem sv_setLc {i : Nat} {y : Str} {py : Pos} {elt tg iter : Expr} {ifs : List Expr} {scope : Scope} {own : List (Str × Nat)} {src : Ev → Res (List D × Bk)} {b : D → Ev → Option Ev} {cond : Ev → Res Bool} {fe : Ev → Res D} {pos spos : Pos} (hc : X.calm = true) (hN : X.N.Nodup) (hi : PI X tg iter (tI X.mg W src)) (ok : BlkOk X.N X.env.scope scope own)
    (hg : ∀ (s : Shared) (H : Hp) (C : Addr) (cl : List (Str × Addr)) (fp : List Addr), PG (X.blk s H scope (compEnvC scope cl C X.env) fp) tg (tG (own.map (·.2)) b)) (ht : ∀ (s : Shared) (H : Hp) (C : Addr) (cl : List (Str × Addr)) (fp : List Addr), PTs (X.blk s H scope (compEnvC scope cl C X.env) fp) ifs (tT X.mg W0 cond))
    (he : ∀ (s : Shared) (H : Hp) (C : Addr) (cl : List (Str × Addr)) (fp : List Addr), PE (X.blk s H scope (compEnvC scope cl C X.env) fp) elt (tV X.mg W0 fe)) (hy : X.N[i]? = some y := by rfl) (hyl : X.env.scope.names.lookup y = some .local := by rfl)
    (hsw : swapsWith (.ListComp elt [⟨tg, iter, ifs, 0⟩] scope pos) (some (.Name y py)) spos.line X.env = pure true := by exact sw_true rfl rfl rfl (by decide +kernel)) (hs : ∀ x, foldedSetIterable iter X.env x = pure x := by intro _; rfl) :
    PS X (.Assign [.Name y py] (.ListComp elt [⟨tg, iter, ifs, 0⟩] scope pos) spos) (tS X.mg W (sAsg (eLc src b cond fe (own.map (·.2))) (bName i))) :=
  PS.imp (ps_setLc hc hN hy hyl hsw hi ok hg ht he hs) fun E σ H h => by
    have h1 := asg_of [i] h
    have h2 : tV X.mg W (eLc src b cond fe (own.map (·.2))) σ H fun x H1 => gName i x σ H1 E.nx := tV_mono h1 fun v H1 h1 => by
      obtain ⟨A, Z, Ov, Oe, d, env, w, hd, rv, re, h⟩ := h1
      exact h _ H1 (by simp) (fun j hj => List.getElem?_set_ne (by simpa using fun e => hj (by simp [e]))) ⟨Z, fun p => Ov p ∨ Oe p, .refl w, re.store rv (fun p h => .inl h) (fun p h => .inr h) hd⟩
    exact lc_of h2
theorem cv_nil : PTs X [] (tT X.mg W (fun env => .ok true env)) := ⟨fun pins s σ H Q I h => pts_nil.run pins s σ H Q I (tT_ok h)⟩
theorem cv_one {c : Expr} {f : Ev → Res Bool} (h : PT X c (tT X.mg W f)) : PTs X [c] (tT X.mg W f) := pts_one h
end
end VS

/-! VS6: defs, their calls, errors. -/
namespace VS
open PySem PySem.Spec L2
open PyProof.Rows hiding St
/-- room for a call, and no repr under way -/
structure RoomG (k : Nat) (A : Around) : Prop where
  room : Room k A
  gs : A.guards = some []
theorem RoomG.mono {j k : Nat} {A : Around} (r : RoomG k A) (h : j ≤ k) : RoomG j A := ⟨r.room.mono h, r.gs⟩
theorem RoomG.deeper {k : Nat} {A : Around} (r : RoomG (k + 1) A) (env : Env) : RoomG k (A.deeper env) := ⟨r.room.deeper env, r.gs⟩
structure FnOkG (P : Program) (w : World) (K : PySem.W.Frag) (mg : Str → Option Value) (base : Heap) (k : Nat) (f : Addr) (fd : FuncData) (ps : List Str) (sp : Sp) : Prop where
  len : ∀ vs H Q E, sp vs H Q E → vs.length = ps.length
  run : ∀ (A : Around) (outer : List Env) (s : Shared) (H : Hp) (args : Args) (us : List Value) (vs : List V) (Q : VK) (E : XK), RoomG k A → Env0 P w K mg base A outer s H → BindsTo s fd args (ps.zip us) → Vals vs us → sp vs H Q E →
    codeAny (model P w) A (.call (.ref f) args) (CR (L2.CX P w) outer P w H s Q E) s
theorem FnOkG.mono {P : Program} {w : World} {K : PySem.W.Frag} {mg : Str → Option Value} {base : Heap} {j k : Nat} {f : Addr} {fd : FuncData} {ps : List Str} {sp : Sp} (F : FnOkG P w K mg base j f fd ps sp) (h : j ≤ k) : FnOkG P w K mg base k f fd ps sp :=
  ⟨F.len, fun A outer s H args us vs Q E hr => F.run A outer s H args us vs Q E (hr.mono h)⟩
theorem fn_ofG {P : Program} {w : World} {K : PySem.W.Frag} {mg : Str → Option Value} {base : Heap} {k : Nat} {f : Addr} {name qual : Str} {params : Arguments} {body : List Stmt} {scope : Scope} {dV kV doc pm cdv ct oc : Value} {an od : Option Addr}
    {osl : Array (Option Value)} {N ps : List Str} {sp : Sp} (lk : K.lookup f = some ⟨oc, od, .func (PySem.W.fnOf name qual params body scope dV kV doc pm an cdv ct), osl⟩) (hcd : PySem.W.codeIn K cdv qual = true) (S : FnScope N ps scope)
    (len : ∀ vs H Q E, sp vs H Q E → vs.length = ps.length)
    (hbody : ∀ (A : Around) (outer : List Env) (s : Shared) (H : Hp) (vs : List V) (Q : VK) (E : XK), RoomG k (A.deeper (envOfC qual scope s.heap.objs.size f cdv)) → sp vs H Q E →
      ∃ t, PSs (cxOf (L2.CX P w) P w K mg base N qual scope f cdv A outer s H E) body t ∧ t { nx := fun _ H' => Q .non H', rt := Q } (L2.start N vs) H) :
    FnOkG P w K mg base (k + 1) f (PySem.W.fnOf name qual params body scope dV kV doc pm an cdv ct) ps sp := by
  refine ⟨len, fun A outer s H args us vs Q E hr e0 hb r hsp => ?_⟩
  have hl := len _ _ _ _ hsp
  have KX : K.In s.heap := e0.mod.kin.keeps fun b o e => (e0.bs b o e).1
  have lim : s.heap.NoLimit := e0.mod.nolimit.keeps fun b o e => (e0.bs b o e).1
  have hkind : ∀ y ∈ ps.zip us, scope.names.lookup y.1 = some .local ∨ (scope.names.lookup y.1 = some .cell ∧ ((cellsFrom (s.heap.objs.size + 1) scope.names []).lookup y.1).isSome = true) := fun ⟨n, v⟩ hy => by
    rcases S.par n (List.of_mem_zip hy).1 with q | q
    · exact .inl q
    · exact .inr ⟨q, PySem.W.cellsFrom_some _ _ _ (.inl q)⟩
  refine codeAny_call_function hr.room.depth (KX _ _ lk) rfl S.co S.gen rfl (PySem.W.codeRec_of KX hcd) (hb _ _ _ _ ?_)
  refine wpAny_newFunctionEnv_cells S.kind hkind fun env he s1 x => ?_
  subst he
  refine ⟨lim.keeps x.toInCall.keep, codeAny_func ?_⟩
  obtain ⟨t, ht, hq⟩ := hbody A outer s H vs Q E (hr.deeper _) hsp
  have I : Inv (cxOf (L2.CX P w) P w K mg base N qual scope f cdv A outer s H E) [] (L2.start N vs) H s1 := inv_start S hr.room.hd e0 hl r x
  refine wpAny_mono (ht.run [] s1 (L2.start N vs) H _ I hq) (fun fl s' hs => ?_) fun e s' hs => hs
  have fin : ∀ {σ' : St} {H' : Hp} {v : V} {u : Value}, Inv (cxOf (L2.CX P w) P w K mg base N qual scope f cdv A outer s H E) [] σ' H' s' → RelV v u → Q v H' → CE outer P w H s Q u s' :=
    fun {σ' H' v u} J rv q => ⟨v, H', J.os, J.bare, J.base, J.hok, rv, q⟩
  cases fl with
  | ret u =>
    obtain ⟨v, σ', H', J, rv, q⟩ := hs
    exact fin J rv q
  | next =>
    obtain ⟨σ', H', J, q⟩ := hs
    exact fin (v := V.non) (u := Value.none) J rfl q
  | brk =>
    obtain ⟨_, _, _, q⟩ := hs
    exact False.elim q
  | cont =>
    obtain ⟨_, _, _, q⟩ := hs
    exact False.elim q

/-! ### what a def does: its value, and its arguments behind it (none: no longer known) -/
inductive FRes where
  | ok (d : D) (bs : List (Option D)) | err (c : Str) (bs : List (Option D)) | bad
def RepB (Z H : Hp) (bs : List (Option D)) (vs : List V) (O : Fp) : Prop :=
  ∃ F : Nat → Fp, (∀ i p, F i p → O p) ∧ (∀ i j p, F i p → F j p → i = j) ∧ ∀ (i : Nat) (d : D), bs[i]? = some (some d) → ∃ v, vs[i]? = some v ∧ Rep Z H d v (F i)
def AftF (Z0 H0 : Hp) (O0 : Fp) (vs : List V) (d : D) (bs : List (Option D)) (v : V) (H : Hp) : Prop :=
  ∃ Z Ov Ob, Stp Z0 H0 O0 Z H (fun p => Ov p ∨ Ob p) ∧ (∀ p, Ov p → Ob p → False) ∧ Rep Z H d v Ov ∧ RepB Z H bs vs Ob
def AftE (Z0 H0 : Hp) (O0 : Fp) (vs : List V) (bs : List (Option D)) (H : Hp) : Prop := ∃ Z Ob, Stp Z0 H0 O0 Z H Ob ∧ RepB Z H bs vs Ob
def OutF (mg : Str → Option Value) (Z H : Hp) (O : Fp) (vs : List V) (Q : VK) (E : XK) : FRes → Prop
  | .ok d bs => ∀ v H', AftF Z H O vs d bs v H' → Q v H'
  | .err c bs => ∀ H', AftE Z H O vs bs H' → E (.ref (cadr mg c)) none H'
  | .bad => False
/-- a def of n parameters that does F -/
def spV (mg : Str → Option Value) (n : Nat) (F : List D → FRes) : Sp := fun vs H Q E => ∃ Z O ds, Wd Z H O ∧ RepL Z H ds vs O ∧ ds.length = n ∧ OutF mg Z H O vs Q E (F ds)
def clB : Cl → Option D
  | .val d true => some d
  | _ => none
/-- the def of n parameters and m slots whose body does f -/
def fBody (n m : Nat) (f : Ev → SRes) (ds : List D) : FRes := match f (ds.map (fun d => Cl.val d true) ++ List.replicate (m - n) .dead) with
  | .next e => .ok .non ((e.take n).map clB)
  | .ret d e => .ok d ((e.take n).map clB)
  | .err c e => .err c ((e.take n).map clB)
  | _ => .bad
theorem RepL.split {Z H : Hp} : ∀ {l : List D} {vs : List V} {O : Fp}, RepL Z H l vs O → ∃ F : Nat → Fp, (∀ i p, F i p → O p) ∧ (∀ i j p, F i p → F j p → i = j) ∧ ∀ (i : Nat) (d : D), l[i]? = some d → ∃ v, vs[i]? = some v ∧ Rep Z H d v (F i)
  | [], _, _, _ => ⟨fun _ => f0, fun _ _ h => h.elim, fun _ _ _ h => h.elim, fun i d h => by simp at h⟩
  | d :: l, _, O, ⟨v, vr, O1, O2, e, h1, h2, h3, r1, r2⟩ => by
    subst e
    obtain ⟨F, g1, g2, g3⟩ := RepL.split r2
    refine ⟨fun i => match i with
      | 0 => O1
      | i + 1 => F i, fun i p h => ?_, fun i j p a b => ?_, fun i d' h => ?_⟩
    · cases i with
      | zero => exact h1 p h
      | succ i => exact h2 p (g1 i p h)
    · cases i with
      | zero =>
        cases j with
        | zero => rfl
        | succ j => exact (h3 p a (g1 j p b)).elim
      | succ i =>
        cases j with
        | zero => exact (h3 p b (g1 i p a)).elim
        | succ j => rw [g2 i j p a b]
    · cases i with
      | zero =>
        rw [List.getElem?_cons_zero] at h
        cases h
        exact ⟨v, rfl, r1⟩
      | succ i =>
        rw [List.getElem?_cons_succ] at h
        obtain ⟨v', e, r⟩ := g3 i d' h
        exact ⟨v', by rw [List.getElem?_cons_succ]; exact e, r⟩
theorem rel_start {Z H : Hp} {ds : List D} {vs : List V} {O : Fp} {N : List Str} {n : Nat} (r : RepL Z H ds vs O) (hn : ds.length = n) (hN : n ≤ N.length) : RelS (fun i => vs.getD i .non) Z H (L2.start N vs) (ds.map (fun d => Cl.val d true) ++ List.replicate (N.length - n) .dead) O := by
  have hl := RepL.len r
  obtain ⟨F, g1, g2, g3⟩ := r.split
  refine ⟨by unfold L2.start; simp [hl, hn], F, g1, g2, fun i c e => ?_⟩
  by_cases hi : i < ds.length
  · rw [List.getElem?_append_left (by simpa using hi), List.getElem?_map, List.getElem?_eq_getElem hi] at e
    cases e
    obtain ⟨v, ev, rv⟩ := g3 i _ (List.getElem?_eq_getElem hi)
    refine ⟨v, ?_, rv, fun _ => ?_⟩
    · unfold L2.start
      rw [List.getElem?_append_left (by simpa [hl] using hi), List.getElem?_map, ev]; rfl
    · show v = vs.getD i .non
      rw [List.getD_eq_getElem?_getD, ev]; rfl
  · rw [List.getElem?_append_right (by simpa using hi), List.getElem?_replicate] at e
    split at e
    · cases e; trivial
    · cases e
theorem rel_backs {A : Nat → V} {Z H : Hp} {σ : St} {env : Ev} {O : Fp} {n : Nat} {vs : List V} (r : RelS A Z H σ env O) (hv : vs.length = n) (hA : A = fun i => vs.getD i .non) : RepB Z H ((env.take n).map clB) vs O := by
  obtain ⟨l, F, g1, g2, g3⟩ := r
  refine ⟨F, g1, g2, fun i d e => ?_⟩
  rw [List.getElem?_map] at e
  obtain ⟨c, e1, e2⟩ := Option.map_eq_some_iff.mp e
  have hi : i < n := by
    have := (List.getElem?_eq_some_iff.mp e1).1
    rw [List.length_take] at this; omega
  rw [List.getElem?_take_of_lt hi] at e1
  have q := g3 i c e1
  cases c with
  | dead => cases e2
  | hole => cases e2
  | val d' fl =>
    cases fl with
    | false => cases e2
    | true =>
      cases e2
      obtain ⟨v, e3, r3, h3⟩ := q
      have ev := h3 rfl
      refine ⟨v, ?_, r3⟩
      rw [hA] at ev
      have hi' : i < vs.length := by omega
      rw [ev]
      show vs[i]? = some (vs.getD i .non)
      rw [List.getD_eq_getElem?_getD, List.getElem?_eq_getElem hi']; rfl
section
variable {P : Program} {w : World} {K : PySem.W.Frag} {mg : Str → Option Value} {base : Heap}
/-- THE RULE for a def: its body does fb -/
theorem fun_ok {x qual : Str} {st : Stmt} {f : Addr} {fd : FuncData} {N ps : List Str} {k n : Nat} (fb : Ev → SRes) (F : Fun K x qual st f fd) (S : FnScope N ps (defScope st)) (hn : ps.length = n)
    (hbody : ∀ (cdv : Value) (A : Around) (outer : List Env) (s : Shared) (H : Hp) (E : XK), RoomG k (A.deeper (envOfC qual (defScope st) s.heap.objs.size f cdv)) →
      Takes (cxOf (L2.CX P w) P w K mg base N qual (defScope st) f cdv A outer s H E) (fun c d _ H => E c d H) → PassesOwn (model P w) (A.deeper (envOfC qual (defScope st) s.heap.objs.size f cdv)) (envOfC qual (defScope st) s.heap.objs.size f cdv) (cxOf (L2.CX P w) P w K mg base N qual (defScope st) f cdv A outer s H E).xe →
      PSs (cxOf (L2.CX P w) P w K mg base N qual (defScope st) f cdv A outer s H E) (defBody st) (tS mg (fun c d _ H => E c d H) fb)) : FnOkG P w K mg base (k + 1) f fd ps (spV mg n (fBody n N.length fb)) := by
  obtain ⟨oc, od, kV, doc, pm, an, cdv, ct, osl, rfl, lk, hcd⟩ := F.ex
  have hlen : ∀ vs H Q E, spV mg n (fBody n N.length fb) vs H Q E → vs.length = ps.length := fun vs H Q E h => by
    obtain ⟨Z, O, ds, _, r, hl, _⟩ := h
    rw [RepL.len r, hl, hn]
  refine fn_ofG lk hcd S hlen fun A outer s H vs Q E hr hsp => ⟨_, hbody cdv A outer s H E hr (takes_of rfl rfl rfl rfl) (passes_of rfl), ?_⟩
  have hN : n ≤ N.length := by have := congrArg List.length S.pre; rw [List.length_take] at this; omega
  obtain ⟨Z, O, ds, wd, r, hl, h⟩ := hsp
  have hv : vs.length = n := by rw [RepL.len r, hl]
  refine ⟨_, Z, O, _, wd, rel_start r hl hN, ?_⟩
  unfold fBody at h
  cases e : fb (ds.map (fun d => Cl.val d true) ++ List.replicate (N.length - n) .dead) with
  | next e1 =>
    rw [e] at h
    rintro σ' H' ⟨Z1, O1, s1, r1⟩
    exact h .non H' ⟨Z1, f0, O1, s1.drop fun p h => h.elim (fun h => h.elim) id, fun _ h => h.elim, rfl, rel_backs r1 hv rfl⟩
  | ret d e1 =>
    rw [e] at h
    rintro v σ' H' ⟨Z1, Ov, Oe, s1, hd, rv, r1⟩
    exact h v H' ⟨Z1, Ov, Oe, s1, hd, rv, rel_backs r1 hv rfl⟩
  | err c e1 =>
    rw [e] at h
    rintro σ' H' ⟨Z1, O1, s1, r1⟩
    exact h H' ⟨Z1, O1, s1, rel_backs r1 hv rfl⟩
  | brk e1 => rw [e] at h; exact h.elim
  | cont e1 => rw [e] at h; exact h.elim
  | bad => rw [e] at h; exact h.elim
end

/-! ### calls -/
abbrev Ls := List (Option (Nat × Bool))
/-- the arguments: what is own by a slot is lent -/
def lend : List Opn → List D → Ev → Option (List D × Ls × Ev)
  | [], _, env => some ([], [], env)
  | .e _ :: os, d :: ds, env => (lend os ds env).map fun q => (d :: q.1, none :: q.2.1, q.2.2)
  | .e _ :: _, [], _ => none
  | .n i :: os, ds, env => match env.at i with
    | .val d fl => if own d then (lend os ds (env.set i .dead)).map fun q => (d :: q.1, some (i, fl) :: q.2.1, q.2.2) else (lend os ds env).map fun q => (d :: q.1, none :: q.2.1, q.2.2)
    | _ => none
def give : Ls → List (Option D) → Ev → Ev
  | some (i, fl) :: ls, some d :: bs, env => give ls bs (env.set i (.val d fl))
  | _ :: ls, _ :: bs, env => give ls bs env
  | _, _, env => env
def eCall (F : List D → FRes) (os : List Opn) (env : Ev) : Res D := (evO os env).bind fun ds e1 => match lend os ds e1 with
  | some q => match F q.1 with
    | .ok d bs => .ok d (give q.2.1 bs q.2.2)
    | .err c bs => .err c (give q.2.1 bs q.2.2)
    | .bad => .bad
  | none => .bad
def LendOk (A : Nat → V) (σ : St) : Ls → List V → Prop
  | [], _ => True
  | none :: ls, _ :: vs => LendOk A σ ls vs
  | some (i, fl) :: ls, v :: vs => σ[i]? = some (some v) ∧ (fl = true → v = A i) ∧ LendOk A σ ls vs
  | _ :: _, [] => False
theorem lend_ok {A : Nat → V} {Z H : Hp} {σ : St} : ∀ {os : List Opn} {ds : List D} {vs : List V} {Ov Oe O : Fp} {env : Ev} {q : List D × Ls × Ev}, OpL Z H σ os ds vs Ov → RelS A Z H σ env Oe → (∀ p, Ov p → Oe p → False) → (∀ p, Ov p → O p) → (∀ p, Oe p → O p) → lend os ds env = some q →
    ∃ Ox Or, RepL Z H q.1 vs Ox ∧ RelS A Z H σ q.2.2 Or ∧ (∀ p, Ox p → Or p → False) ∧ (∀ p, Ox p → O p) ∧ (∀ p, Or p → O p) ∧ LendOk A σ q.2.1 vs
  | [], ds, vs, Ov, Oe, O, env, q, ⟨h1, h2⟩, re, hd, g1, g2, e => by
    subst h2
    cases e
    exact ⟨f0, Oe, rfl, re, fun _ h => h.elim, fun _ h => h.elim, g2, trivial⟩
  | .e f :: os, _, _, Ov, Oe, O, env, q, ⟨d, dr, v, vr, O1, O2, e1, e2, h1, h2, h3, r1, r2⟩, re, hd, g1, g2, e => by
    subst e1 e2
    unfold lend at e
    obtain ⟨q', e3, e4⟩ := Option.map_eq_some_iff.mp e
    subst e4
    obtain ⟨Ox, Or, a1, a2, a3, a4, a5, a6⟩ := lend_ok (O := fun p => O2 p ∨ Oe p) r2 re (fun p a b => hd p (h2 p a) b) (fun p h => .inl h) (fun p h => .inr h) e3
    have dx : ∀ p, O1 p → (O2 p ∨ Oe p) → False := fun p a b => b.elim (h3 p a) (hd p (h1 p a))
    refine ⟨fun p => O1 p ∨ Ox p, Or, ⟨v, vr, O1, Ox, rfl, fun p h => .inl h, fun p h => .inr h, fun p a b => dx p a (a4 p b), r1, a1⟩, a2, fun p a b => a.elim (fun a => dx p a (a5 p b)) fun a => a3 p a b, fun p h => h.elim (fun h => g1 p (h1 p h)) fun h => (a4 p h).elim (fun h => g1 p (h2 p h)) (g2 p), fun p h => (a5 p h).elim (fun h => g1 p (h2 p h)) (g2 p), a6⟩
  | .n i :: os, ds, _, Ov, Oe, O, env, q, ⟨v, vr, e1, hv, r⟩, re, hd, g1, g2, e => by
    subst e1
    unfold lend at e
    cases c : env.at i with
    | dead => rw [c] at e; cases e
    | hole => rw [c] at e; cases e
    | val d fl =>
      rw [c] at e
      have e : (if own d then (lend os ds (env.set i .dead)).map fun q => (d :: q.1, some (i, fl) :: q.2.1, q.2.2) else (lend os ds env).map fun q => (d :: q.1, none :: q.2.1, q.2.2)) = some q := e
      obtain ⟨v', P1, P2, ev, rv, hfl, k1, k2, k3, r2⟩ := re.take (Ev.at_val c)
      rw [hv] at ev
      cases ev
      by_cases ho : own d = true
      · rw [if_pos ho] at e
        obtain ⟨q', e3, e4⟩ := Option.map_eq_some_iff.mp e
        subst e4
        obtain ⟨Ox, Or, a1, a2, a3, a4, a5, a6⟩ := lend_ok (O := fun p => Ov p ∨ P2 p) r r2 (fun p a b => hd p a (k2 p b)) (fun p h => .inl h) (fun p h => .inr h) e3
        have dx : ∀ p, P1 p → (Ov p ∨ P2 p) → False := fun p a b => b.elim (fun b => hd p b (k1 p a)) (k3 p a)
        exact ⟨fun p => P1 p ∨ Ox p, Or, ⟨v, vr, P1, Ox, rfl, fun p h => .inl h, fun p h => .inr h, fun p a b => dx p a (a4 p b), rv, a1⟩, a2, fun p a b => a.elim (fun a => dx p a (a5 p b)) fun a => a3 p a b, fun p h => h.elim (fun h => g2 p (k1 p h)) fun h => (a4 p h).elim (g1 p) fun h => g2 p (k2 p h), fun p h => (a5 p h).elim (g1 p) fun h => g2 p (k2 p h), hv, hfl, a6⟩
      · rw [if_neg ho] at e
        obtain ⟨q', e3, e4⟩ := Option.map_eq_some_iff.mp e
        subst e4
        obtain ⟨Ox, Or, a1, a2, a3, a4, a5, a6⟩ := lend_ok r re hd g1 g2 e3
        exact ⟨Ox, Or, ⟨v, vr, f0, Ox, rfl, fun p h => h.elim, fun p h => h, fun p h => h.elim, rv.imm (by simpa using ho), a1⟩, a2, a3, a4, a5, a6⟩
theorem give_ok {A : Nat → V} {Z H : Hp} {σ : St} : ∀ {ls : Ls} {bs : List (Option D)} {vs : List V} {env : Ev} {Ob Oe O : Fp}, LendOk A σ ls vs → RepB Z H bs vs Ob → RelS A Z H σ env Oe → (∀ p, Ob p → Oe p → False) → (∀ p, Ob p → O p) → (∀ p, Oe p → O p) → RelS A Z H σ (give ls bs env) O
  | [], bs, vs, env, Ob, Oe, O, _, _, re, _, _, g2 => by
    have e : give [] bs env = env := by cases bs <;> rfl
    rw [e]
    exact re.stay (fun _ _ h => h) g2 fun _ _ _ h => h
  | l :: ls, [], vs, env, Ob, Oe, O, _, _, re, _, _, g2 => by
    have e : give (l :: ls) [] env = env := by cases l <;> rfl
    rw [e]
    exact re.stay (fun _ _ h => h) g2 fun _ _ _ h => h
  | l :: ls, b :: bs, [], env, Ob, Oe, O, lo, _, _, _, _, _ => by cases l <;> exact lo.elim
  | l :: ls, b :: bs, v :: vs, env, Ob, Oe, O, lo, ⟨F, f1, f2, f3⟩, re, hd, g1, g2 => by
    have tl : RepB Z H bs vs (fun p => ∃ i, F (i + 1) p) := ⟨fun i => F (i + 1), fun i p h => ⟨i, h⟩, fun i j p a b => by have := f2 _ _ p a b; omega, fun i d e => by
      obtain ⟨v', e', r⟩ := f3 (i + 1) d (by rw [List.getElem?_cons_succ]; exact e)
      exact ⟨v', by rw [List.getElem?_cons_succ] at e'; exact e', r⟩⟩
    have skip : LendOk A σ ls vs → RelS A Z H σ (give ls bs env) O := fun lo' => give_ok lo' tl re (fun p ⟨i, h⟩ k => hd p (f1 _ p h) k) (fun p ⟨i, h⟩ => g1 p (f1 _ p h)) g2
    cases l with
    | none => cases b <;> exact skip lo
    | some q =>
      obtain ⟨i, fl⟩ := q
      obtain ⟨h1, h2, lo'⟩ := lo
      cases b with
      | none => exact skip lo'
      | some d =>
        obtain ⟨v', ev, rv⟩ := f3 0 d rfl
        have ev : v = v' := by simpa using ev
        subst ev
        have r1 : RelS A Z H σ (env.set i (.val d fl)) (fun p => F 0 p ∨ Oe p) := (re.kill i).put (c := .val d fl) ⟨v, h1, rv, h2⟩ (fun p h => .inl h) (fun p h => .inr h) fun p a b => hd p (f1 0 p a) b
        show RelS A Z H σ (give ls bs (env.set i (.val d fl))) O
        exact give_ok lo' tl r1 (fun p ⟨i, h⟩ k => k.elim (fun k => by have := f2 _ _ p h k; omega) (hd p (f1 _ p h))) (fun p ⟨i, h⟩ => g1 p (f1 _ p h)) fun p h => h.elim (fun h => g1 p (f1 0 p h)) (g2 p)
section
variable {X : Cx} {W : WX} {mg : Str → Option Value}
theorem call_of {F : List D → FRes} {os : List Opn} {n : Nat} {σ : St} {H : Hp} {Q : VK} (hn : os.length = n) (h : tV mg W (eCall F os) σ H Q) : opTs mg W os σ H fun vs H1 => spV mg n F vs H1 Q (WE W σ) := by
  obtain ⟨A, Z, O, env, w, re, h⟩ := h
  refine opTs_of os w re ?_
  unfold eCall at h
  cases e : evO os env with
  | bad => rw [e] at h; exact h.elim
  | err c e1 => rw [e] at h; exact h
  | ok ds e1 =>
    rw [e, Res.bind_ok] at h
    intro vs H1 ⟨Z1, Ov, Oe, s1, hd, ol, re1⟩
    cases q : lend os ds e1 with
    | none => rw [q] at h; exact h.elim
    | some q' =>
      rw [q] at h
      obtain ⟨Ox, Or, a1, a2, a3, a4, a5, a6⟩ := lend_ok (O := fun p => Ov p ∨ Oe p) ol re1 hd (fun p h => .inl h) (fun p h => .inr h) q
      have hlen : q'.1.length = n := by
        have : ∀ {os : List Opn} {ds : List D} {env : Ev} {q : List D × Ls × Ev}, lend os ds env = some q → q.1.length = os.length := by
          intro os
          induction os with
          | nil => intro ds env q h; cases h; rfl
          | cons o os ih =>
            intro ds env q h
            cases o with
            | e f =>
              cases ds with
              | nil => cases h
              | cons d ds =>
                unfold lend at h
                obtain ⟨q', e3, e4⟩ := Option.map_eq_some_iff.mp h
                subst e4
                simp [ih e3]
            | n i =>
              unfold lend at h
              cases c : env.at i with
              | dead => rw [c] at h; cases h
              | hole => rw [c] at h; cases h
              | val d fl =>
                rw [c] at h
                have h : (if own d then (lend os ds (env.set i .dead)).map fun q => (d :: q.1, some (i, fl) :: q.2.1, q.2.2) else (lend os ds env).map fun q => (d :: q.1, none :: q.2.1, q.2.2)) = some q := h
                by_cases ho : own d = true
                · rw [if_pos ho] at h
                  obtain ⟨q', e3, e4⟩ := Option.map_eq_some_iff.mp h
                  subst e4
                  simp [ih e3]
                · rw [if_neg ho] at h
                  obtain ⟨q', e3, e4⟩ := Option.map_eq_some_iff.mp h
                  subst e4
                  simp [ih e3]
        rw [this q, hn]
      have w1 : Wd Z1 H1 Ox := s1.wd.sub' a4
      refine ⟨Z1, Ox, q'.1, w1, a1, hlen, ?_⟩
      have h : Out mg W A Z H O σ Q (match F q'.1 with
        | .ok d bs => .ok d (give q'.2.1 bs q'.2.2)
        | .err c bs => .err c (give q'.2.1 bs q'.2.2)
        | .bad => .bad) := h
      cases c : F q'.1 with
      | bad => rw [c] at h; exact h
      | ok d bs =>
        rw [c] at h
        rintro v H2 ⟨Z2, Pv, Pb, s2, d2, rv, rb⟩
        have fd := s2.frame_disj s1.wd (R := Or) a5 a3
        have re2 := s2.rel a2 a3
        refine h v H2 ⟨Z2, Pv, fun p => Pb p ∨ Or p, s1.trans (s2.frame s1.wd a4 a5 a3 fun p h => ?_), fun p a b => b.elim (d2 p a) (fd p (.inl a)), RepL.one rv, give_ok a6 rb re2 (fun p a b => fd p (.inr a) b) (fun p h => .inl h) fun p h => .inr h⟩
        rcases h with h | h | h
        · exact .inl (.inl h)
        · exact .inl (.inr h)
        · exact .inr h
      | err c2 bs =>
        rw [c] at h
        rintro H2 ⟨Z2, Pb, s2, rb⟩
        have fd := s2.frame_disj s1.wd (R := Or) a5 a3
        have re2 := s2.rel a2 a3
        exact h H2 ⟨Z2, f0, fun p => Pb p ∨ Or p, s1.trans (s2.frame s1.wd a4 a5 a3 fun p h => h.elim (fun h => h.elim) id), fun _ h => h.elim, rfl, give_ok a6 rb re2 (fun p a b => fd p a b) (fun p h => .inl h) fun p h => .inr h⟩
variable {k n : Nat} {f : Addr} {fd : FuncData} {ps : List Str} {F : List D → FRes} {x : Str} {p pos : Pos} {e : Expr} {es : List Expr} {os : List Opn}
theorem run_fnG {pins : List (Addr × Obj)} {σ : St} {H : Hp} {s : Shared} {Q : VK} {us : List Value} {vs : List V} {sp : Sp} (G : FnOkG X.prog X.w X.K X.mg X.base k f fd ps sp) (hr : RoomG k X.A) (hb : Binds X.K fd ps []) (tk : Takes X W)
    (I : Inv X pins σ H s) (r : Vals vs us) (h : sp vs H Q (WE W σ)) : wpAny (model X.prog X.w) X.A (call (.ref f) us) (EP X pins σ Q) X.xe s := by
  have hl : us.length = ps.length := by rw [← r.length]; exact G.len _ _ _ _ h
  have b := hb s us I.kIn (by rw [List.append_nil]; exact hl)
  rw [List.append_nil] at b
  refine wpAny_call (codeAny_mono (G.run X.A X.stack s H ⟨us, []⟩ us vs Q (WE W σ) hr I.env0 b r h) fun r s' hq => ?_)
  cases r with
  | error e => exact passAt tk σ pins H s e s' I hq
  | ok fl =>
    cases fl with
    | ret u => exact I.after hq
    | next => exact False.elim hq
    | brk => exact False.elim hq
    | cont => exact False.elim hq
/-- f(e, ..) -/
theorem ev_call (G : FnOkG X.prog X.w X.K X.mg X.base k f fd ps (spV X.mg n F)) (hr : RoomG k X.A) (hm : X.mg x = some (.ref f)) (hk : PySem.W.keepIn X.K (.ref f) = true) (hb : Binds X.K fd ps []) (tk : Takes X W)
    (ha : OA X W (e :: es) os) (hn : os.length = n := by rfl) (hg : Gl X x := by rfl) (hdb : (x == ("__debug__" : Str)) = false := by decide) (he : starEach (e :: es) X.env = (false, eval e X.env) :: starEach es X.env := by rfl) (hpl : (backTo pos (starEach es X.env)).any (·.1) = false := by rfl) :
    PE X (.Call (.Name x p) (e :: es) [] pos) (tV X.mg W (eCall F os)) := by
  refine ⟨fun pins s σ H Q I h => ?_⟩
  have h := call_of hn h
  refine wpAny_Call_Name_kw (ld_glob I hg hm ?_ hdb)
  refine PySem.W.callWith_K (h₀ := X.base) I.ok.mod.kin hk (thn (ha.run pos pins s σ H _ I h) fun us s1 ⟨vs, H1, I1, r, q⟩ => ⟨I1.kIn, ?_⟩) he hpl
  exact run_fnG G hr hb tk I1 r q
/-- f() -/
theorem ev_call0 (G : FnOkG X.prog X.w X.K X.mg X.base k f fd ps (spV X.mg 0 F)) (hr : RoomG k X.A) (hm : X.mg x = some (.ref f)) (hk : PySem.W.keepIn X.K (.ref f) = true) (hb : Binds X.K fd ps []) (tk : Takes X W) (hg : Gl X x := by rfl)
    (hdb : (x == ("__debug__" : Str)) = false := by decide) : PE X (.Call (.Name x p) [] [] pos) (tV X.mg W (eCall F [])) := by
  refine ⟨fun pins s σ H Q I h => ?_⟩
  have h : spV X.mg 0 F [] H Q (WE W σ) := call_of (os := []) rfl h
  refine wpAny_Call_Name_kw (ld_glob I hg hm ?_ hdb)
  exact PySem.W.callWith_K0 I.kIn hk (run_fnG (us := []) G hr hb tk I .nil h)
end
end VS

/-! VS7: what the built-in operations do to trees. -/
namespace VS
open PySem PySem.Spec L2
open PyProof.Rows hiding St
/-! ### reading operands -/
theorem RepAny.nil_of {Z H : Hp} {vs : List V} (r : RepAny Z H [] vs) : vs = [] := by cases r; rfl
theorem RepAny.cons_of {Z H : Hp} {d : D} {ds : List D} {vs : List V} (r : RepAny Z H (d :: ds) vs) : ∃ v O vr, vs = v :: vr ∧ Rep Z H d v O ∧ RepAny Z H ds vr := by
  cases r with
  | cons a b => exact ⟨_, _, _, rfl, a, b⟩
theorem RepAny.one {Z H : Hp} {d : D} {vs : List V} (r : RepAny Z H [d] vs) : ∃ v O, vs = [v] ∧ Rep Z H d v O := by
  obtain ⟨v, O, vr, e, h, t⟩ := r.cons_of
  cases t
  exact ⟨v, O, e, h⟩
theorem RepAny.two {Z H : Hp} {d d' : D} {vs : List V} (r : RepAny Z H [d, d'] vs) : ∃ v O v' O', vs = [v, v'] ∧ Rep Z H d v O ∧ Rep Z H d' v' O' := by
  obtain ⟨v, O, vr, e, h, t⟩ := r.cons_of
  obtain ⟨v', O', e', h'⟩ := t.one
  subst e'
  exact ⟨v, O, v', O', e, h, h'⟩
theorem RepAny.three {Z H : Hp} {d d' d2 : D} {vs : List V} (r : RepAny Z H [d, d', d2] vs) : ∃ v O v' O' v2 O2, vs = [v, v', v2] ∧ Rep Z H d v O ∧ Rep Z H d' v' O' ∧ Rep Z H d2 v2 O2 := by
  obtain ⟨v, O, vr, e, h, t⟩ := r.cons_of
  obtain ⟨v', O', v2, O2, e', h', h2⟩ := t.two
  subst e'
  exact ⟨v, O, v', O', v2, O2, e, h, h', h2⟩
/-- what follows an operation -/
abbrev Kt (Z H : Hp) (d : D) (Q : VK) : Prop := ∀ v Z' H' O', Stp Z H f0 Z' H' O' → Rep Z' H' d v O' → Q v H'
theorem wd0 {Z H : Hp} (w : ∀ p o, Z p = some o → H p = some o) : Wd Z H f0 := ⟨w, fun _ h => h.elim, fun _ h => h.elim⟩
theorem Kt.val {Z H : Hp} {d : D} {Q : VK} {v : V} (k : Kt Z H d Q) (w : ∀ p o, Z p = some o → H p = some o) (r : Rep Z H d v f0) : Q v H := k v Z H f0 (Stp.refl (wd0 w)) r
theorem Kt.lst {Z H : Hp} {ds : List D} {vs : List V} {O : Fp} {Q : VK} {p : Addr} (k : Kt Z H (.lst true ds) Q) (w : ∀ p o, Z p = some o → H p = some o) (r : RepL Z H ds vs O) (ho : ownL ds = false) (n : H p = none) : Q (.ref p) (upd H p (.lst vs)) :=
  k _ Z _ _ (Stp.new_own (wd0 w) n) ⟨p, vs, rfl, .inr rfl, upd_same, RepL.stay (O := f0) (fun _ _ h => h) (RepL.imm r ho) (fun _ h => h.elim) fun _ _ h => h.elim⟩
theorem Kt.tup {Z H : Hp} {ds : List D} {vs : List V} {O : Fp} {Q : VK} {p : Addr} (k : Kt Z H (.tup ds) Q) (w : ∀ p o, Z p = some o → H p = some o) (r : RepL Z H ds vs O) (ho : ownL ds = false) (n : H p = none) : Q (.ref p) (upd H p (.tup vs)) :=
  k _ _ _ _ (Stp.new_shared (wd0 w) n) ⟨p, vs, rfl, upd_same, RepL.stay (O := f0) (Stp.new_shared (u := .tup vs) (wd0 w) n).ext (RepL.imm r ho) (fun _ h => h.elim) fun _ _ h => h.elim⟩
/-- a list, a tuple, the script: its items -/
def seqD : D → Option (List D)
  | .lst _ l => some l
  | .tup l => some l
  | .scr ns => some (ns.map .int)
  | _ => none
def isL : D → Bool
  | .lst _ _ => true
  | .scr _ => true
  | _ => false
theorem repL_ints {Z H : Hp} : ∀ (ns : List Int), RepL Z H (ns.map .int) (ns.map V.int) f0
  | [] => rfl
  | n :: ns => ⟨.int n, ns.map V.int, f0, f0, rfl, fun _ h => h, fun _ h => h, fun _ h => h.elim, rfl, repL_ints ns⟩
theorem rep_seq {K : PySem.W.Frag} {Z H : Hp} (w : ∀ p o, Z p = some o → H p = some o) {d : D} {l : List D} {v : V} {O : Fp} (r : Rep Z H d v O) (e : seqD d = some l) :
    ∃ p vs O', v = .ref p ∧ RepL Z H l vs O' ∧ ((isL d = true ∧ SqL K H p vs) ∨ (isL d = false ∧ SqT K H p vs)) := by
  cases d with
  | lst fl l' =>
    cases e
    cases fl with
    | true => obtain ⟨p, vs, e, _, h, r⟩ := r; exact ⟨p, vs, _, e, r, .inl ⟨rfl, SqL.of h⟩⟩
    | false => obtain ⟨p, vs, e, h, r⟩ := r; exact ⟨p, vs, _, e, r, .inl ⟨rfl, SqL.of (w _ _ h)⟩⟩
  | tup l' => cases e; obtain ⟨p, vs, e, h, r⟩ := r; exact ⟨p, vs, _, e, r, .inr ⟨rfl, SqT.of (w _ _ h)⟩⟩
  | scr ns =>
    cases e
    obtain ⟨p, e, h⟩ := r
    exact ⟨p, _, f0, e, repL_ints ns, .inl ⟨rfl, .inl (rd_mono w h)⟩⟩
  | _ => cases e
def intD : D → Option Int
  | .int i => some i
  | _ => none
def blD : D → Option Bool
  | .bl i => some i
  | _ => none
def strD : D → Option Str
  | .str i => some i
  | _ => none
def allD {α : Type} (f : D → Option α) : List D → Option (List α)
  | [] => some []
  | d :: l => match f d, allD f l with
    | some a, some as => some (a :: as)
    | _, _ => none
theorem allD_rep {α : Type} {f : D → Option α} {c : α → V} {Z H : Hp} (hf : ∀ d a v O, f d = some a → Rep Z H d v O → v = c a) : ∀ {l : List D} {as : List α} {vs : List V} {O : Fp}, allD f l = some as → RepL Z H l vs O → vs = as.map c
  | [], as, vs, O, e, r => by cases e; exact r
  | d :: l, as, vs, O, e, ⟨v, vr, O1, O2, ev, h1, h2, h3, r1, r2⟩ => by
    unfold allD at e
    cases e1 : f d with
    | none => rw [e1] at e; cases e
    | some a =>
      cases e2 : allD f l with
      | none => rw [e1, e2] at e; cases e
      | some as' =>
        rw [e1, e2] at e
        cases e
        subst ev
        rw [hf d a v O1 e1 r1, allD_rep hf e2 r2, List.map_cons]
theorem intD_rep {Z H : Hp} (d : D) (a : Int) (v : V) (O : Fp) (e : intD d = some a) (r : Rep Z H d v O) : v = .int a := by cases d <;> first | (cases e; exact r) | cases e
theorem blD_rep {Z H : Hp} (d : D) (a : Bool) (v : V) (O : Fp) (e : blD d = some a) (r : Rep Z H d v O) : v = .bl a := by cases d <;> first | (cases e; exact r) | cases e
theorem strD_rep {Z H : Hp} (d : D) (a : Str) (v : V) (O : Fp) (e : strD d = some a) (r : Rep Z H d v O) : v = .str a := by cases d <;> first | (cases e; exact r) | cases e
section
variable {X : Cx} {W : WX}
/-! ### ints -/
def gI2 (C : Int → Int → Bool) (f : Int → Int → D) : List D → Option D
  | [.int i, .int j] => if C i j then some (f i j) else none
  | _ => none
theorem ro_I2 {C : Int → Int → Bool} {C' : Int → Int → Prop} {f : Int → Int → D} {g : Int → Int → V} (hC : ∀ i j, C i j = true → C' i j) (hf : ∀ i j Z H, Rep Z H (f i j) (g i j) f0) : RO (r2L (rI C' g)) (gI2 C f) := by
  intro Z H xs vs Q d w r e k
  unfold gI2 at e
  split at e
  · rename_i i j
    split at e
    · rename_i hc
      cases e
      obtain ⟨v, O, v', O', ev, r1, r2⟩ := r.two
      subst ev
      exact ⟨i, j, r1, r2, hC i j hc, Kt.val k w (hf i j Z H)⟩
    · cases e
  · cases e
theorem ro_I20 {f : Int → Int → D} {g : Int → Int → V} (hf : ∀ i j Z H, Rep Z H (f i j) (g i j) f0) : RO (r2L (rI0 g)) (gI2 (fun _ _ => true) f) := by
  intro Z H xs vs Q d w r e k
  unfold gI2 at e
  split at e
  · rename_i i j
    rw [if_pos rfl] at e
    cases e
    obtain ⟨v, O, v', O', ev, r1, r2⟩ := r.two
    subst ev
    exact ⟨i, j, r1, r2, Kt.val k w (hf i j Z H)⟩
  · cases e
abbrev gAddI : List D → Option D := gI2 (fun _ _ => true) fun i j => .int (i + j)
abbrev gSubI : List D → Option D := gI2 (fun _ _ => true) fun i j => .int (i - j)
abbrev gLt : List D → Option D := gI2 (fun _ _ => true) fun i j => .bl (decide (i < j))
abbrev gLe : List D → Option D := gI2 (fun _ _ => true) fun i j => .bl (decide (i ≤ j))
abbrev gGt : List D → Option D := gI2 (fun _ _ => true) fun i j => .bl (decide (j < i))
abbrev gGe : List D → Option D := gI2 (fun _ _ => true) fun i j => .bl (decide (j ≤ i))
theorem ro_addI : RO (r2L (rI0 fun i j => .int (i + j))) gAddI := ro_I20 fun _ _ _ _ => rfl
theorem ro_subI : RO (r2L (rI0 fun i j => .int (i - j))) gSubI := ro_I20 fun _ _ _ _ => rfl
theorem ro_lt : RO (r2L (rI0 fun i j => .bl (decide (i < j)))) gLt := ro_I20 fun _ _ _ _ => rfl
theorem ro_le : RO (r2L (rI0 fun i j => .bl (decide (i ≤ j)))) gLe := ro_I20 fun _ _ _ _ => rfl
theorem ro_gt : RO (r2L (rI0 fun i j => .bl (decide (j < i)))) gGt := ro_I20 fun _ _ _ _ => rfl
theorem ro_ge : RO (r2L (rI0 fun i j => .bl (decide (j ≤ i)))) gGe := ro_I20 fun _ _ _ _ => rfl
def mulB (i j : Int) : Bool := decide (i.natAbs < 2 ^ 64) || decide (j.natAbs < 2 ^ 64) || (decide (i.natAbs < 2 ^ 9000) && decide (j.natAbs < 2 ^ 9000))
theorem mulB_ok {i j : Int} (h : mulB i j = true) : IntMulOk i j := by
  unfold mulB at h
  rw [Bool.or_eq_true, Bool.or_eq_true, Bool.and_eq_true, decide_eq_true_eq, decide_eq_true_eq, decide_eq_true_eq, decide_eq_true_eq] at h
  rcases h with (h | h) | h
  · exact CMul.ok (.inl (by omega))
  · exact CMul.ok (.inr (by omega))
  · exact CMulW.ok (wide_mul h.1 h.2 (by decide) (by decide) (by decide))
theorem op_mulX : OpR X (binaryOp .Mult) (rI IntMulOk fun i j => .int (i * j)) := opI fun _ _ _ _ _ _ _ hc q => mul_int q hc
abbrev gMulI : List D → Option D := gI2 mulB fun i j => .int (i * j)
theorem ro_mulI : RO (r2L (rI IntMulOk fun i j => .int (i * j))) gMulI := ro_I2 (fun _ _ h => mulB_ok h) fun _ _ _ _ => rfl
abbrev gDivI : List D → Option D := gI2 (fun _ j => decide (0 < j) && decide (j.natAbs < 2 ^ 9000)) fun i j => .int (i / j)
theorem ro_divI : RO (r2L (rI CDivW fun i j => .int (i / j))) gDivI := ro_I2 (fun i j h => by
  rw [Bool.and_eq_true, decide_eq_true_eq, decide_eq_true_eq] at h
  exact wide_div h.1 h.2 (by decide) (by decide)) fun _ _ _ _ => rfl
abbrev gModI : List D → Option D := gI2 (fun _ j => decide (0 < j)) fun i j => .int (i % j)
theorem ro_modI : RO (r2L (rI (fun _ j => 0 < j) fun i j => .int (i % j))) gModI := ro_I2 (fun i j h => of_decide_eq_true h) fun _ _ _ _ => rfl
abbrev gPowI : List D → Option D := gI2 (fun i j => decide (0 ≤ j) && (decide (j ≤ 1000000) && decide (i.natAbs < 2 ^ 64))) fun i j => .int (i ^ j.toNat)
theorem ro_powI : RO (r2L (rI CPow fun i j => .int (i ^ j.toNat))) gPowI := ro_I2 (fun i j h => by
  rw [Bool.and_eq_true, Bool.and_eq_true, decide_eq_true_eq, decide_eq_true_eq, decide_eq_true_eq] at h
  exact ⟨h.1, h.2.1, h.2.2⟩) fun _ _ _ _ => rfl
def gNeg : List D → Option D
  | [.int i] => some (.int (-i))
  | _ => none
theorem ro_neg : RO (r1L (rU fun i => .int (-i))) gNeg := by
  intro Z H xs vs Q d w r e k
  unfold gNeg at e
  split at e
  · rename_i i
    cases e
    obtain ⟨v, O, ev, r1⟩ := r.one
    subst ev
    exact ⟨i, r1, Kt.val k w rfl⟩
  · cases e
/-! ### + on texts, lists, tuples -/
def gAddS : List D → Option D
  | [.str x, .str y] => if x.length + y.length ≤ 10000000 then some (.str (x ++ y)) else none
  | _ => none
theorem ro_addS : RO (r2L (fun x y H Q => ∃ i j, x = .str i ∧ y = .str j ∧ i.length + j.length ≤ sizeLine ∧ Q (.str (i ++ j)) H)) gAddS := by
  intro Z H xs vs Q d w r e k
  unfold gAddS at e
  split at e
  · rename_i i j
    split at e
    · rename_i hc
      cases e
      obtain ⟨v, O, v', O', ev, r1, r2⟩ := r.two
      subst ev
      exact ⟨i, j, r1, r2, Nat.le_of_lt (line10 hc), Kt.val k w rfl⟩
    · cases e
  · cases e
def gCat : List D → Option D
  | [.lst _ l, .lst _ m] => if l.length + m.length ≤ 10000000 ∧ ownL l = false ∧ ownL m = false then some (.lst true (l ++ m)) else none
  | _ => none
theorem ownL_append {m : List D} : ∀ {l : List D}, ownL (l ++ m) = (ownL l || ownL m)
  | [] => rfl
  | d :: l => by rw [List.cons_append, ownL, ownL_append, ownL, Bool.or_assoc]
theorem rep_lstH {Z H : Hp} (w : ∀ p o, Z p = some o → H p = some o) {fl : Bool} {l : List D} {v : V} {O : Fp} (r : Rep Z H (.lst fl l) v O) : ∃ p vs O', v = .ref p ∧ H p = some (.lst vs) ∧ RepL Z H l vs O' := by
  cases fl with
  | true => obtain ⟨p, vs, e, _, h, r⟩ := r; exact ⟨p, vs, _, e, h, r⟩
  | false => obtain ⟨p, vs, e, h, r⟩ := r; exact ⟨p, vs, _, e, w _ _ h, r⟩
theorem RepL.app0 {Z H : Hp} {l m : List D} {vs us : List V} {O1 O2 : Fp} (r : RepL Z H l vs O1) (s : RepL Z H m us O2) (h1 : ownL l = false) (h2 : ownL m = false) : RepL Z H (l ++ m) (vs ++ us) f0 :=
  RepL.append (O1 := f0) (O2 := f0) (RepL.imm r h1) (RepL.imm s h2) (fun _ h => h.elim) (fun _ h => h) fun _ h => h
theorem ro_cat : RO (r2L rCat) gCat := by
  intro Z H xs vs Q d w r e k
  unfold gCat at e
  split at e
  · rename_i f1 l f2 m
    split at e
    · rename_i hc
      cases e
      obtain ⟨v, O, v', O', ev, r1, r2⟩ := r.two
      subst ev
      obtain ⟨p, as, O1, e1, h1, q1⟩ := rep_lstH w r1
      obtain ⟨p2, bs, O2, e2, h2, q2⟩ := rep_lstH w r2
      refine ⟨p, p2, as, bs, e1, e2, h1, h2, by rw [RepL.len q1, RepL.len q2]; exact Nat.le_of_lt (line10 hc.1), fun pn np => Kt.lst k w (RepL.app0 q1 q2 hc.2.1 hc.2.2) (by rw [ownL_append, hc.2.1, hc.2.2]; rfl) np⟩
    · cases e
  · cases e
def gCatT : List D → Option D
  | [.tup [], .tup m] => some (.tup m)
  | [.tup l, .tup m] => if l.length + m.length ≤ 10000000 ∧ ownL l = false ∧ ownL m = false then some (.tup (l ++ m)) else none
  | _ => none
/-- within what a range, a times may take -/
def rngOk (j : Int) : Bool := decide (j.natAbs < 2 ^ 62)
theorem rngOk_of {j : Int} (h : rngOk j = true) : -(2 ^ 62) ≤ j ∧ j < 2 ^ 62 := by
  have h' : j.natAbs < 2 ^ 62 := of_decide_eq_true h
  omega
theorem rngOk_small {j : Int} (h : -1000000 ≤ j) (h2 : j ≤ 1000000) : rngOk j = true := by
  unfold rngOk
  exact decide_eq_true (by omega)
/-- list * int -/
def gRep : List D → Option D
  | [.lst _ l, .int k] => if l.length * k.toNat ≤ 10000000 ∧ ownL l = false ∧ rngOk k = true then some (.lst true (List.replicate k.toNat l).flatten) else none
  | _ => none
theorem ownL_rep {l : List D} (h : ownL l = false) : ∀ n, ownL (List.replicate n l).flatten = false
  | 0 => rfl
  | n + 1 => by rw [List.replicate_succ, List.flatten_cons, ownL_append, h, ownL_rep h n]; rfl
theorem RepL.rep0 {Z H : Hp} {l : List D} {vs : List V} {O : Fp} (r : RepL Z H l vs O) (h : ownL l = false) : ∀ n, RepL Z H (List.replicate n l).flatten (List.replicate n vs).flatten f0
  | 0 => rfl
  | n + 1 => by rw [List.replicate_succ, List.flatten_cons, List.replicate_succ, List.flatten_cons]; exact RepL.app0 r (RepL.rep0 r h n) h (ownL_rep h n)

theorem ro_rep : RO (r2L rRep) gRep := by
  intro Z H xs vs Q d w r e k
  unfold gRep at e
  split at e
  · rename_i f1 l n
    split at e
    · rename_i hc
      cases e
      obtain ⟨v, O, v', O', ev, r1, r2⟩ := r.two
      subst ev
      obtain ⟨p, as, O1, e1, h1, q1⟩ := rep_lstH w r1
      obtain ⟨c1, c2, c3⟩ := hc
      obtain ⟨c3, c4⟩ := rngOk_of c3
      refine ⟨p, n, as, e1, r2, h1, by omega, by omega, by rw [RepL.len q1]; exact Nat.le_of_lt (line10 c1), fun pn np => Kt.lst k w (RepL.rep0 q1 c2 _) (ownL_rep c2 _) np⟩
    · cases e
  · cases e
def gCatA : List D → Option D
  | [.tup l, .tup m] => if l.length + m.length ≤ 10000000 ∧ ownL l = false ∧ ownL m = false then some (.tup (l ++ m)) else none
  | _ => none
theorem ro_catA {K : PySem.W.Frag} : RO (r2L (rCatA K)) gCatA := by
  intro Z H xs vs Q d w r e k
  unfold gCatA at e
  split at e
  · rename_i l m
    split at e
    · rename_i hc
      cases e
      obtain ⟨v, O, v', O', ev, ⟨p, as, e1, h1, q1⟩, ⟨p2, bs, e2, h2, q2⟩⟩ := r.two
      subst ev
      refine ⟨p, p2, as, bs, e1, e2, SqT.of (w _ _ h1), SqT.of (w _ _ h2), by rw [RepL.len q1, RepL.len q2]; exact Nat.le_of_lt (line10 hc.1), fun z => ?_, fun _ z => ?_, fun _ _ pn np => Kt.tup k w (RepL.app0 q1 q2 hc.2.1 hc.2.2) (by rw [ownL_append, hc.2.1, hc.2.2]; rfl) np⟩
      · have hl := RepL.len q1
        rw [z] at hl
        have : l = [] := by cases l <;> first | rfl | cases hl
        subst this
        exact Kt.val k w ⟨p2, bs, rfl, h2, RepL.imm q2 hc.2.2⟩
      · have hl := RepL.len q2
        rw [z] at hl
        have : m = [] := by cases m <;> first | rfl | cases hl
        subst this
        refine Kt.val k w ⟨p, as, rfl, h1, ?_⟩
        rw [List.append_nil]
        exact RepL.imm q1 hc.2.1
    · cases e
  · cases e
/-! ### subscripts, slices -/
def gIx : List D → Option D
  | [.str z, .int i] => if z.length ≤ 10000000 then (atI z.cps.toList i).map fun c => .str ⟨#[c]⟩ else none
  | [d, .int i] => match seqD d with
    | some l => match atI l i with
      | some x => if own x = false then some x else none
      | none => none
    | none => none
  | _ => none
theorem RepL.at {Z H : Hp} {l : List D} {vs : List V} {O : Fp} {i : Int} {x : D} (r : RepL Z H l vs O) (e : atI l i = some x) : ∃ v O', atI vs i = some v ∧ Rep Z H x v O' := by
  unfold atI at e
  obtain ⟨j, e1, e2⟩ := Option.bind_eq_some_iff.mp e
  obtain ⟨v, O', e3, r', _⟩ := r.get e2
  refine ⟨v, O', ?_, r'⟩
  unfold atI
  rw [RepL.len r, e1]
  exact e3
theorem ro_ix {K : PySem.W.Frag} : RO (r2L (rIx K)) gIx := by
  intro Z H xs vs Q d w r e k
  unfold gIx at e
  split at e
  · rename_i z i
    split at e
    · rename_i hz
      obtain ⟨c, e1, e2⟩ := Option.map_eq_some_iff.mp e
      subst e2
      obtain ⟨v, O, v', O', ev, r1, r2⟩ := r.two
      subst ev
      exact .inr (.inr ⟨z, i, c, r1, r2, Nat.le_of_lt (line10 hz), e1, Kt.val k w rfl⟩)
    · cases e
  · rename_i dd i hne
    obtain ⟨v, O, v', O', ev, r1, r2⟩ := r.two
    subst ev
    cases es : seqD dd with
    | none => rw [es] at e; cases e
    | some l =>
      rw [es] at e
      have e : (match atI l i with
        | some x => if own x = false then some x else none
        | none => none) = some d := e
      cases ea : atI l i with
      | none => rw [ea] at e; cases e
      | some x =>
        rw [ea] at e
        have e : (if own x = false then some x else none) = some d := e
        split at e
        · rename_i ho
          cases e
          obtain ⟨p, as, O1, e1, q1, hs⟩ := rep_seq (K := K) w r1 es
          obtain ⟨u, O2, e2, r3⟩ := q1.at ea
          have fin : Q u H := Kt.val k w (r3.imm ho)
          rcases hs with ⟨_, h⟩ | ⟨_, h⟩
          · exact .inl ⟨p, as, i, u, e1, r2, h, e2, fin⟩
          · exact .inr (.inl ⟨p, as, i, u, e1, r2, h, e2, fin⟩)
        · cases e
  · cases e
def cutD (l : List D) (lo hi : Option Int) : List D := (l.drop (HT.sIx l.length 0 lo)).take (HT.sIx l.length l.length hi - HT.sIx l.length 0 lo)
theorem RepL.drop0 {Z H : Hp} : ∀ {l : List D} {vs : List V} {O : Fp} (n : Nat), RepL Z H l vs O → RepL Z H (l.drop n) (vs.drop n) O
  | _, _, _, 0, r => r
  | [], _, _, n + 1, r => by rw [show _ = [] from r]; rfl
  | d :: l, _, _, n + 1, ⟨v, vr, O1, O2, e, h1, h2, h3, r1, r2⟩ => by
    subst e
    exact RepL.stay (fun _ _ h => h) (RepL.drop0 n r2) h2 fun _ _ _ h => h
theorem RepL.take0 {Z H : Hp} : ∀ {l : List D} {vs : List V} {O : Fp} (n : Nat), RepL Z H l vs O → RepL Z H (l.take n) (vs.take n) O
  | _, _, _, 0, r => rfl
  | [], _, _, n + 1, r => by rw [show _ = [] from r]; rfl
  | d :: l, _, _, n + 1, ⟨v, vr, O1, O2, e, h1, h2, h3, r1, r2⟩ => by
    subst e
    exact ⟨v, vr.take n, O1, O2, rfl, h1, h2, h3, r1, RepL.take0 n r2⟩
theorem RepL.cut {Z H : Hp} {l : List D} {vs : List V} {O : Fp} (r : RepL Z H l vs O) (lo hi : Option Int) : RepL Z H (cutD l lo hi) (cutV vs lo hi) O := by
  unfold cutD cutV
  rw [RepL.len r]
  exact RepL.take0 _ (RepL.drop0 _ r)
theorem ownL_drop : ∀ {l : List D} (n : Nat), ownL l = false → ownL (l.drop n) = false
  | _, 0, h => h
  | [], n + 1, h => rfl
  | d :: l, n + 1, h => ownL_drop (l := l) n (by have h' : own d = false ∧ ownL l = false := by simpa [ownL] using h
                                                 exact h'.2)
theorem ownL_take : ∀ {l : List D} (n : Nat), ownL l = false → ownL (l.take n) = false
  | _, 0, h => rfl
  | [], n + 1, h => rfl
  | d :: l, n + 1, h => by
    have h' : own d = false ∧ ownL l = false := by simpa [ownL] using h
    rw [List.take_succ_cons, ownL, h'.1, ownL_take n h'.2]; rfl
theorem ownL_cut {l : List D} (h : ownL l = false) (lo hi : Option Int) : ownL (cutD l lo hi) = false := ownL_take _ (ownL_drop _ h)
/-- a list's, a tuple's, a text's slice -/
def gSl (d : D) (lo hi : Option Int) : Option D := match d with
  | .str z => if z.length ≤ 10000000 then some (.str (cutS z lo hi)) else none
  | .tup l => if ownL l = false then some (.tup (cutD l lo hi)) else none
  | .lst _ l => if ownL l = false then some (.lst true (cutD l lo hi)) else none
  | .scr ns => some (.lst true (cutD (ns.map .int) lo hi))
  | _ => none
def rSl (K : PySem.W.Frag) : V → Option Int → Option Int → Hp → VK → Prop := fun x lo hi H Q => rSlL K x lo hi H Q ∨ rSlA K x lo hi H Q ∨ rSlS x lo hi H Q
theorem sl_any : SlR X (rSl X.K) := sl_list.or (sl_tupA.or sl_str)
theorem ownL_ints : ∀ ns : List Int, ownL (ns.map .int) = false
  | [] => rfl
  | n :: ns => by rw [List.map_cons, ownL, ownL_ints ns]; rfl
theorem cut_whole {l : List D} {lo hi : Option Int} (h : HT.sIx l.length 0 lo = 0 ∧ HT.sIx l.length l.length hi = l.length) : cutD l lo hi = l := by
  unfold cutD
  rw [h.1, h.2, List.drop_zero, Nat.sub_zero, List.take_length]
theorem sl_ok {K : PySem.W.Frag} {Z H : Hp} {d x : D} {v : V} {O : Fp} {lo hi : Option Int} {Q : VK} (w : ∀ p o, Z p = some o → H p = some o) (r : Rep Z H d v O) (e : gSl d lo hi = some x) (k : Kt Z H x Q) : rSl K v lo hi H Q := by
  unfold gSl at e
  split at e
  · rename_i z
    split at e
    · rename_i hz
      cases e
      exact .inr (.inr ⟨z, r, Nat.le_of_lt (line10 hz), Kt.val k w rfl⟩)
    · cases e
  · rename_i l
    split at e
    · rename_i ho
      cases e
      obtain ⟨p, vs, e1, h1, q1⟩ := r
      refine .inr (.inl ⟨p, vs, e1, SqT.of (w _ _ h1), fun hw => ?_, fun _ pn np => Kt.tup k w (q1.cut lo hi) (ownL_cut ho _ _) np⟩)
      rw [RepL.len q1] at hw
      rw [cut_whole hw] at k
      exact Kt.val k w ⟨p, vs, rfl, h1, RepL.imm q1 ho⟩
    · cases e
  · rename_i fl l
    split at e
    · rename_i ho
      cases e
      obtain ⟨p, vs, O1, e1, h1, q1⟩ := rep_lstH w r
      exact .inl ⟨p, vs, e1, SqL.of h1, fun pn np => Kt.lst k w (q1.cut lo hi) (ownL_cut ho _ _) np⟩
    · cases e
  · rename_i ns
    cases e
    obtain ⟨p, e1, h1⟩ := r
    exact .inl ⟨p, _, e1, .inl (rd_mono w h1), fun pn np => Kt.lst k w ((repL_ints ns).cut lo hi) (ownL_cut (ownL_ints ns) _ _) np⟩
  · cases e
def gSl2 : List D → Option D
  | [d, .int i, .int j] => gSl d (some i) (some j)
  | _ => none
def gSlLo : List D → Option D
  | [d, .int i] => gSl d (some i) none
  | _ => none
def gSlHi : List D → Option D
  | [d, .int j] => gSl d none (some j)
  | _ => none
theorem ro_sl2 {K : PySem.W.Frag} : RO (rSl2 (rSl K)) gSl2 := by
  intro Z H xs vs Q d w r e k
  unfold gSl2 at e
  split at e
  · obtain ⟨v, O, v', O', v2, O2, ev, r1, r2, r3⟩ := r.three
    subst ev
    exact ⟨_, _, r2, r3, sl_ok w r1 e k⟩
  · cases e
theorem ro_slLo {K : PySem.W.Frag} : RO (rSlLo (rSl K)) gSlLo := by
  intro Z H xs vs Q d w r e k
  unfold gSlLo at e
  split at e
  · obtain ⟨v, O, v', O', ev, r1, r2⟩ := r.two
    subst ev
    exact ⟨_, r2, sl_ok w r1 e k⟩
  · cases e
theorem ro_slHi {K : PySem.W.Frag} : RO (rSlHi (rSl K)) gSlHi := by
  intro Z H xs vs Q d w r e k
  unfold gSlHi at e
  split at e
  · obtain ⟨v, O, v', O', ev, r1, r2⟩ := r.two
    subst ev
    exact ⟨_, r2, sl_ok w r1 e k⟩
  · cases e
/-- xs[::-1] of a list -/
def gRevL : List D → Option D
  | [.lst _ l] => if ownL l = false then some (.lst true l.reverse) else none
  | _ => none
theorem ownL_mem : ∀ {l : List D}, ownL l = false ↔ ∀ d ∈ l, own d = false
  | [] => by simp [ownL]
  | d :: l => by rw [ownL, Bool.or_eq_false_iff, ownL_mem]; simp
theorem RepL.rev0 {Z H : Hp} : ∀ {l : List D} {vs : List V} {O : Fp}, RepL Z H l vs O → ownL l = false → RepL Z H l.reverse vs.reverse f0
  | [], _, _, r, _ => by rw [show _ = [] from r]; rfl
  | d :: l, _, _, ⟨v, vr, O1, O2, e, h1, h2, h3, r1, r2⟩, h => by
    subst e
    have h' : own d = false ∧ ownL l = false := by simpa [ownL] using h
    rw [List.reverse_cons, List.reverse_cons]
    exact RepL.app0 (RepL.rev0 r2 h'.2) (RepL.one r1) (by rw [ownL_mem] at h' ⊢; intro d hd; exact h'.2 d (List.mem_reverse.mp hd)) (by simp [ownL, h'.1])
def rRevL (K : PySem.W.Frag) : V → Hp → VK → Prop := fun x H Q => ∃ a xs, x = .ref a ∧ SqL K H a xs ∧ ∀ p, H p = none → Q (.ref p) (upd H p (.lst xs.reverse))
theorem ro_revL {K : PySem.W.Frag} : RO (r1L (rRevL K)) gRevL := by
  intro Z H xs vs Q d w r e k
  unfold gRevL at e
  split at e
  · rename_i fl l
    split at e
    · rename_i ho
      cases e
      obtain ⟨v, O, ev, r1⟩ := r.one
      subst ev
      obtain ⟨p, vs, O1, e1, h1, q1⟩ := rep_lstH w r1
      exact ⟨p, vs, e1, SqL.of h1, fun pn np => Kt.lst k w (q1.rev0 ho) (by rw [ownL_mem] at ho ⊢; intro d hd; exact ho d (List.mem_reverse.mp hd)) np⟩
    · cases e
  · cases e
theorem ev_revL {e : Expr} {o : Opn} {k : Nat} {p1 p2 p3 pos : Pos} (he : OE X W e o) : PE X (.Subscript e (.Slice none none (some (.UnaryOp .USub (.Constant (.int 1) k p1) p2)) p3) pos) (tV X.mg W (eRO [o] gRevL)) :=
  PE.imp (pe_revL he) fun _ _ _ h => ro_of (ro_revL (K := X.K)) h
/-! ### len, list, tuple, int -/
def gLen : List D → Option D
  | [.str x] => if x.length ≤ 10000000 then some (.int x.length) else none
  | [d] => (seqD d).map fun l => .int l.length
  | _ => none
theorem ro_len {K : PySem.W.Frag} : RO (fun xs H Q => ∃ x n, xs = [x] ∧ LenV K x H n ∧ Q (.int n) H) gLen := by
  intro Z H xs vs Q d w r e k
  unfold gLen at e
  split at e
  · rename_i x
    split at e
    · rename_i hz
      cases e
      obtain ⟨v, O, ev, r1⟩ := r.one
      subst ev
      obtain rfl : v = .str x := r1
      exact ⟨_, _, rfl, ⟨Nat.le_of_lt (line10 hz), rfl⟩, Kt.val k w rfl⟩
    · cases e
  · rename_i dd hne
    obtain ⟨l, e1, e2⟩ := Option.map_eq_some_iff.mp e
    subst e2
    obtain ⟨v, O, ev, r1⟩ := r.one
    subst ev
    obtain ⟨p, as, O1, e3, q1, hs⟩ := rep_seq (K := K) w r1 e1
    subst e3
    have hl := RepL.len q1
    rcases hs with ⟨_, h⟩ | ⟨_, h⟩
    · exact ⟨_, _, rfl, .inl ⟨as, h, rfl⟩, Kt.val k w (by rw [hl]; rfl)⟩
    · exact ⟨_, _, rfl, .inr ⟨as, h, rfl⟩, Kt.val k w (by rw [hl]; rfl)⟩
  · cases e
def gList : List D → Option D
  | [d] => match seqD d with
    | some l => if ownL l = false then some (.lst true l) else none
    | none => none
  | _ => none
theorem ro_list {K : PySem.W.Frag} : RO (fun xs H Q => ∃ p ys, xs = [.ref p] ∧ (SqL K H p ys ∨ SqT K H p ys) ∧ ∀ l, H l = none → Q (.ref l) (upd H l (.lst ys))) gList := by
  intro Z H xs vs Q d w r e k
  unfold gList at e
  split at e
  · rename_i dd
    cases es : seqD dd with
    | none => rw [es] at e; cases e
    | some l =>
      rw [es] at e
      have e : (if ownL l = false then some (.lst true l) else none) = some d := e
      split at e
      · rename_i ho
        cases e
        obtain ⟨v, O, ev, r1⟩ := r.one
        subst ev
        obtain ⟨p, as, O1, e3, q1, hs⟩ := rep_seq (K := K) w r1 es
        subst e3
        refine ⟨p, as, rfl, ?_, fun pn np => Kt.lst k w q1 ho np⟩
        rcases hs with ⟨_, h⟩ | ⟨_, h⟩
        · exact .inl h
        · exact .inr h
      · cases e
  · cases e
def gTuple : List D → Option D
  | [d] => match seqD d with
    | some l => if ownL l = false then some (.tup l) else none
    | none => none
  | _ => none
theorem ro_tuple {K : PySem.W.Frag} : RO (fun xs H Q => ∃ p ys, xs = [.ref p] ∧ ((SqL K H p ys ∧ ∀ l, H l = none → Q (.ref l) (upd H l (.tup ys))) ∨ (SqT K H p ys ∧ Q (.ref p) H))) gTuple := by
  intro Z H xs vs Q d w r e k
  unfold gTuple at e
  split at e
  · rename_i dd
    cases es : seqD dd with
    | none => rw [es] at e; cases e
    | some l =>
      rw [es] at e
      have e : (if ownL l = false then some (.tup l) else none) = some d := e
      split at e
      · rename_i ho
        cases e
        obtain ⟨v, O, ev, r1⟩ := r.one
        subst ev
        obtain ⟨p, as, O1, e3, q1, hs⟩ := rep_seq (K := K) w r1 es
        subst e3
        rcases hs with ⟨_, h⟩ | ⟨hi, h⟩
        · exact ⟨p, as, rfl, .inl ⟨h, fun pn np => Kt.tup k w q1 ho np⟩⟩
        · refine ⟨p, as, rfl, .inr ⟨h, ?_⟩⟩
          cases dd with
          | tup l' => cases es; exact Kt.val k w (r1.imm ho)
          | lst _ _ => cases hi
          | scr _ => cases hi
          | _ => cases es
      · cases e
  · cases e
def gInt : List D → Option D
  | [.int i] => some (.int i)
  | [.bl b] => some (.int (if b then 1 else 0))
  | _ => none
theorem ro_int : RO (fun xs H Q => (∃ i, xs = [.int i] ∧ Q (.int i) H) ∨ ∃ k, xs = [.bl k] ∧ Q (.int (if k then 1 else 0)) H) gInt := by
  intro Z H xs vs Q d w r e k
  unfold gInt at e
  split at e
  · rename_i i
    cases e
    obtain ⟨v, O, ev, r1⟩ := r.one
    subst ev
    exact .inl ⟨i, by rw [show v = .int i from r1], Kt.val k w rfl⟩
  · rename_i i
    cases e
    obtain ⟨v, O, ev, r1⟩ := r.one
    subst ev
    exact .inr ⟨i, by rw [show v = .bl i from r1], Kt.val k w rfl⟩
  · cases e
/-! ### sum, max, min, all, any -/
/-- of a list (or the script) of ints -/
def intsD (d : D) : Option (List Int) := match seqD d with
  | some l => if isL d then allD intD l else none
  | none => none
theorem rep_ints {K : PySem.W.Frag} {Z H : Hp} (w : ∀ p o, Z p = some o → H p = some o) {d : D} {v : V} {O : Fp} {ns : List Int} (r : Rep Z H d v O) (e : intsD d = some ns) : ∃ p, v = .ref p ∧ SqL K H p (ns.map V.int) := by
  unfold intsD at e
  cases es : seqD d with
  | none => rw [es] at e; cases e
  | some l =>
    rw [es] at e
    have e : (if isL d then allD intD l else none) = some ns := e
    split at e
    · rename_i hi
      obtain ⟨p, as, O1, e3, q1, hs⟩ := rep_seq (K := K) w r es
      rcases hs with ⟨_, h⟩ | ⟨h, _⟩
      · rw [allD_rep intD_rep e q1] at h
        exact ⟨p, e3, h⟩
      · rw [h] at hi; cases hi
    · cases e
def gSum : List D → Option D
  | [d] => (intsD d).map fun ns => .int ns.sum
  | _ => none
theorem ro_sum {K : PySem.W.Frag} : RO (rSum K) gSum := by
  intro Z H xs vs Q d w r e k
  unfold gSum at e
  split at e
  · obtain ⟨ns, e1, e2⟩ := Option.map_eq_some_iff.mp e
    subst e2
    obtain ⟨v, O, ev, r1⟩ := r.one
    subst ev
    obtain ⟨p, e3, h⟩ := rep_ints (K := K) w r1 e1
    subst e3
    exact ⟨p, ns, rfl, h, Kt.val k w rfl⟩
  · cases e
def maxI : List Int → Option Int
  | [] => none
  | n :: ns => some (ns.foldl max n)
def minI : List Int → Option Int
  | [] => none
  | n :: ns => some (ns.foldl min n)
theorem foldl_max (ns : List Int) : ∀ n : Int, n ≤ ns.foldl max n ∧ (∀ y ∈ ns, y ≤ ns.foldl max n) ∧ (ns.foldl max n = n ∨ ns.foldl max n ∈ ns) := by
  induction ns with
  | nil => intro n; exact ⟨Int.le_refl _, fun _ h => by simp at h, .inl rfl⟩
  | cons m ns ih =>
    intro n
    obtain ⟨h1, h2, h3⟩ := ih (max n m)
    refine ⟨Int.le_trans (Int.le_max_left _ _) h1, fun y hy => ?_, ?_⟩
    · rcases List.mem_cons.mp hy with e | hy
      · subst e; exact Int.le_trans (Int.le_max_right _ _) h1
      · exact h2 y hy
    · show ns.foldl max (max n m) = n ∨ ns.foldl max (max n m) ∈ m :: ns
      rcases h3 with e | e
      · rw [e]
        by_cases c : n ≤ m
        · rw [Int.max_eq_right c]; exact .inr List.mem_cons_self
        · rw [Int.max_eq_left (by omega)]; exact .inl rfl
      · exact .inr (List.mem_cons_of_mem _ e)
theorem foldl_min (ns : List Int) : ∀ n : Int, ns.foldl min n ≤ n ∧ (∀ y ∈ ns, ns.foldl min n ≤ y) ∧ (ns.foldl min n = n ∨ ns.foldl min n ∈ ns) := by
  induction ns with
  | nil => intro n; exact ⟨Int.le_refl _, fun _ h => by simp at h, .inl rfl⟩
  | cons m ns ih =>
    intro n
    obtain ⟨h1, h2, h3⟩ := ih (min n m)
    refine ⟨Int.le_trans h1 (Int.min_le_left _ _), fun y hy => ?_, ?_⟩
    · rcases List.mem_cons.mp hy with e | hy
      · subst e; exact Int.le_trans h1 (Int.min_le_right _ _)
      · exact h2 y hy
    · show ns.foldl min (min n m) = n ∨ ns.foldl min (min n m) ∈ m :: ns
      rcases h3 with e | e
      · rw [e]
        by_cases c : n ≤ m
        · rw [Int.min_eq_left c]; exact .inl rfl
        · rw [Int.min_eq_right (by omega)]; exact .inr List.mem_cons_self
      · exact .inr (List.mem_cons_of_mem _ e)
theorem maxI_is {ns : List Int} {a m : Int} (e : maxI ns = some a) (h1 : m ∈ ns) (h2 : ∀ y, y ∈ ns → y ≤ m) : m = a := by
  cases ns with
  | nil => cases e
  | cons n ns =>
    cases e
    obtain ⟨g1, g2, g3⟩ := foldl_max ns n
    have a1 : m ≤ ns.foldl max n := by
      rcases List.mem_cons.mp h1 with e | h
      · rw [e]; exact g1
      · exact g2 m h
    have a2 : ns.foldl max n ≤ m := by
      rcases g3 with e | h
      · rw [e]; exact h2 n List.mem_cons_self
      · exact h2 _ (List.mem_cons_of_mem _ h)
    omega
theorem minI_is {ns : List Int} {a m : Int} (e : minI ns = some a) (h1 : m ∈ ns) (h2 : ∀ y, y ∈ ns → m ≤ y) : m = a := by
  cases ns with
  | nil => cases e
  | cons n ns =>
    cases e
    obtain ⟨g1, g2, g3⟩ := foldl_min ns n
    have a1 : ns.foldl min n ≤ m := by
      rcases List.mem_cons.mp h1 with e | h
      · rw [e]; exact g1
      · exact g2 m h
    have a2 : m ≤ ns.foldl min n := by
      rcases g3 with e | h
      · rw [e]; exact h2 n List.mem_cons_self
      · exact h2 _ (List.mem_cons_of_mem _ h)
    omega
def gMaxL : List D → Option D
  | [d] => ((intsD d).bind maxI).map .int
  | _ => none
def gMinL : List D → Option D
  | [d] => ((intsD d).bind minI).map .int
  | _ => none
theorem ro_maxL {K : PySem.W.Frag} : RO (rMax K) gMaxL := by
  intro Z H xs vs Q d w r e k
  unfold gMaxL at e
  split at e
  · obtain ⟨a, e1, e2⟩ := Option.map_eq_some_iff.mp e
    subst e2
    obtain ⟨ns, e1, e4⟩ := Option.bind_eq_some_iff.mp e1
    obtain ⟨v, O, ev, r1⟩ := r.one
    subst ev
    obtain ⟨p, e3, h⟩ := rep_ints (K := K) w r1 e1
    subst e3
    exact ⟨p, ns, rfl, h, by cases ns with | nil => cases e4 | cons _ _ => exact Nat.succ_pos _, fun m h1 h2 => Kt.val k w (by rw [maxI_is e4 h1 h2]; rfl)⟩
  · cases e
theorem ro_minL {K : PySem.W.Frag} : RO (rMin K) gMinL := by
  intro Z H xs vs Q d w r e k
  unfold gMinL at e
  split at e
  · obtain ⟨a, e1, e2⟩ := Option.map_eq_some_iff.mp e
    subst e2
    obtain ⟨ns, e1, e4⟩ := Option.bind_eq_some_iff.mp e1
    obtain ⟨v, O, ev, r1⟩ := r.one
    subst ev
    obtain ⟨p, e3, h⟩ := rep_ints (K := K) w r1 e1
    subst e3
    exact ⟨p, ns, rfl, h, by cases ns with | nil => cases e4 | cons _ _ => exact Nat.succ_pos _, fun m h1 h2 => Kt.val k w (by rw [minI_is e4 h1 h2]; rfl)⟩
  · cases e
def gMax2 : List D → Option D
  | [.int i, .int j] => some (.int (if j > i then j else i))
  | _ => none
def gMin2 : List D → Option D
  | [.int i, .int j] => some (.int (if j < i then j else i))
  | _ => none
theorem ro_max2 : RO (fun xs H Q => ∃ i j, xs = [.int i, .int j] ∧ Q (.int (if j > i then j else i)) H) gMax2 := by
  intro Z H xs vs Q d w r e k
  unfold gMax2 at e
  split at e
  · rename_i i j
    cases e
    obtain ⟨v, O, v', O', ev, r1, r2⟩ := r.two
    subst ev
    exact ⟨i, j, by rw [show v = .int i from r1, show v' = .int j from r2], Kt.val k w rfl⟩
  · cases e
theorem ro_min2 : RO (fun xs H Q => ∃ i j, xs = [.int i, .int j] ∧ Q (.int (if j < i then j else i)) H) gMin2 := by
  intro Z H xs vs Q d w r e k
  unfold gMin2 at e
  split at e
  · rename_i i j
    cases e
    obtain ⟨v, O, v', O', ev, r1, r2⟩ := r.two
    subst ev
    exact ⟨i, j, by rw [show v = .int i from r1, show v' = .int j from r2], Kt.val k w rfl⟩
  · cases e
def blsD (d : D) : Option (List Bool) := match d with
  | .lst _ l => allD blD l
  | _ => none
theorem rep_bls {Z H : Hp} (w : ∀ p o, Z p = some o → H p = some o) {d : D} {v : V} {O : Fp} {ns : List Bool} (r : Rep Z H d v O) (e : blsD d = some ns) : ∃ p, v = .ref p ∧ H p = some (.lst (ns.map V.bl)) := by
  cases d with
  | lst fl l =>
    have e : allD blD l = some ns := e
    obtain ⟨p, vs, O1, e1, h1, q1⟩ := rep_lstH w r
    rw [allD_rep blD_rep e q1] at h1
    exact ⟨p, e1, h1⟩
  | _ => cases e
def gAll : List D → Option D
  | [d] => (blsD d).map fun bs => .bl (bs.all id)
  | _ => none
def gAny : List D → Option D
  | [d] => (blsD d).map fun bs => .bl (bs.any id)
  | _ => none
theorem ro_all {K : PySem.W.Frag} : RO (rAll K) gAll := by
  intro Z H xs vs Q d w r e k
  unfold gAll at e
  split at e
  · obtain ⟨ns, e1, e2⟩ := Option.map_eq_some_iff.mp e
    subst e2
    obtain ⟨v, O, ev, r1⟩ := r.one
    subst ev
    obtain ⟨p, e3, h⟩ := rep_bls w r1 e1
    subst e3
    exact ⟨p, ns, rfl, SqL.of h, Kt.val k w rfl⟩
  · cases e
theorem ro_any {K : PySem.W.Frag} : RO (rAny K) gAny := by
  intro Z H xs vs Q d w r e k
  unfold gAny at e
  split at e
  · obtain ⟨ns, e1, e2⟩ := Option.map_eq_some_iff.mp e
    subst e2
    obtain ⟨v, O, ev, r1⟩ := r.one
    subst ev
    obtain ⟨p, e3, h⟩ := rep_bls w r1 e1
    subst e3
    exact ⟨p, ns, rfl, SqL.of h, Kt.val k w rfl⟩
  · cases e
/-! ### ==, != of data; in -/
mutual
def pyD : D → Option PyData
  | .non => some .none
  | .bl b => some (.bool b)
  | .int i => some (.int i)
  | .str x => some (.str x)
  | .tup l => (pyL l).map .tuple
  | .lst _ l => (pyL l).map .list
  | .scr ns => some (.list (ns.map .int))
  | _ => none
def pyL : List D → Option (List PyData)
  | [] => some []
  | d :: l => match pyD d, pyL l with
    | some a, some as => some (a :: as)
    | _, _ => none
end
theorem dp_ints {K : PySem.W.Frag} {H : Hp} : ∀ ns : List Int, DpAll K H (ns.map V.int) (ns.map PyData.int)
  | [] => .nil
  | n :: ns => .cons (.int n) (dp_ints ns)
mutual
theorem dp_of {K : PySem.W.Frag} {Z H : Hp} (w : ∀ p o, Z p = some o → H p = some o) : ∀ {d : D} {v : V} {O : Fp} {a : PyData}, Rep Z H d v O → pyD d = some a → Dp K H v a
  | .non, _, _, _, r, e => by cases e; rw [show _ = V.non from r]; exact .non
  | .bl b, _, _, _, r, e => by cases e; rw [show _ = V.bl b from r]; exact .bl b
  | .int i, _, _, _, r, e => by cases e; rw [show _ = V.int i from r]; exact .int i
  | .str x, _, _, _, r, e => by cases e; rw [show _ = V.str x from r]; exact .str x
  | .tup l, _, _, a, ⟨p, vs, e1, h, r⟩, e => by
    have e : (pyL l).map .tuple = some a := e
    obtain ⟨as, e2, e3⟩ := Option.map_eq_some_iff.mp e
    subst e1 e3
    exact .tup (SqT.of (w _ _ h)) (dpL_of w r e2)
  | .lst true l, _, _, a, ⟨p, vs, e1, _, h, r⟩, e => by
    have e : (pyL l).map .list = some a := e
    obtain ⟨as, e2, e3⟩ := Option.map_eq_some_iff.mp e
    subst e1 e3
    exact .lst (SqL.of h) (dpL_of w r e2)
  | .lst false l, _, _, a, ⟨p, vs, e1, h, r⟩, e => by
    have e : (pyL l).map .list = some a := e
    obtain ⟨as, e2, e3⟩ := Option.map_eq_some_iff.mp e
    subst e1 e3
    exact .lst (SqL.of (w _ _ h)) (dpL_of w r e2)
  | .scr ns, _, _, _, ⟨p, e1, h⟩, e => by
    cases e
    subst e1
    exact .lst (.inl (rd_mono w h)) (dp_ints ns)
  | .obj _, _, _, _, _, e => by cases e
  | .dk _ _ _, _, _, _, _, e => by cases e
  | .dt _ _ _, _, _, _, _, e => by cases e
theorem dpL_of {K : PySem.W.Frag} {Z H : Hp} (w : ∀ p o, Z p = some o → H p = some o) : ∀ {l : List D} {vs : List V} {O : Fp} {as : List PyData}, RepL Z H l vs O → pyL l = some as → DpAll K H vs as
  | [], _, _, _, r, e => by cases e; rw [show _ = [] from r]; exact .nil
  | d :: l, _, _, as, ⟨v, vr, O1, O2, e1, h1, h2, h3, r1, r2⟩, e => by
    subst e1
    unfold pyL at e
    cases c1 : pyD d with
    | none => rw [c1] at e; cases e
    | some a =>
      cases c2 : pyL l with
      | none => rw [c1, c2] at e; cases e
      | some as' =>
        rw [c1, c2] at e
        cases e
        exact .cons (dp_of w r1 c1) (dpL_of w r2 c2)
end
def eqD2 (d e : D) : Option Bool := match pyD d, pyD e with
  | some a, some b => if SeqAt.shaped a = true ∧ SeqAt.shaped b = true then some (PyData.eqv a b) else none
  | _, _ => none
theorem eqD2_some {d e : D} {c : Bool} (h : eqD2 d e = some c) : ∃ a b, pyD d = some a ∧ pyD e = some b ∧ SeqAt.shaped a = true ∧ SeqAt.shaped b = true ∧ c = PyData.eqv a b := by
  unfold eqD2 at h
  cases c1 : pyD d with
  | none => rw [c1] at h; cases h
  | some a =>
    cases c2 : pyD e with
    | none => rw [c1, c2] at h; cases h
    | some b =>
      rw [c1, c2] at h
      have h : (if SeqAt.shaped a = true ∧ SeqAt.shaped b = true then some (PyData.eqv a b) else none) = some c := h
      split at h
      · rename_i hs
        cases h
        exact ⟨a, b, rfl, rfl, hs.1, hs.2, rfl⟩
      · cases h
def gEq : List D → Option D
  | [d, e] => (eqD2 d e).map .bl
  | _ => none
def gNe : List D → Option D
  | [d, e] => (eqD2 d e).map fun b => .bl (!b)
  | _ => none
theorem ro_eq {K : PySem.W.Frag} : RO (r2L (rEqD K)) gEq := by
  intro Z H xs vs Q d w r e k
  unfold gEq at e
  split at e
  · obtain ⟨c, e1, e2⟩ := Option.map_eq_some_iff.mp e
    subst e2
    obtain ⟨a, b, h1, h2, h3, h4, h5⟩ := eqD2_some e1
    obtain ⟨v, O, v', O', ev, r1, r2⟩ := r.two
    subst ev h5
    exact ⟨a, b, dp_of w r1 h1, dp_of w r2 h2, h3, h4, Kt.val k w rfl⟩
  · cases e
theorem ro_ne {K : PySem.W.Frag} : RO (r2L (rNeD K)) gNe := by
  intro Z H xs vs Q d w r e k
  unfold gNe at e
  split at e
  · obtain ⟨c, e1, e2⟩ := Option.map_eq_some_iff.mp e
    subst e2
    obtain ⟨a, b, h1, h2, h3, h4, h5⟩ := eqD2_some e1
    obtain ⟨v, O, v', O', ev, r1, r2⟩ := r.two
    subst ev h5
    exact ⟨a, b, dp_of w r1 h1, dp_of w r2 h2, h3, h4, Kt.val k w rfl⟩
  · cases e
def flatD : D → Option V
  | .non => some .non
  | .bl b => some (.bl b)
  | .int i => some (.int i)
  | .str x => some (.str x)
  | _ => none
theorem flatD_rep {Z H : Hp} (d : D) (a : V) (v : V) (O : Fp) (e : flatD d = some a) (r : Rep Z H d v O) : v = id a := by cases d <;> first | (cases e; exact r) | cases e
theorem flatD_flat {d : D} {a : V} (e : flatD d = some a) : flatV a = true := by cases d <;> first | (cases e; rfl) | cases e
theorem allD_flat : ∀ {l : List D} {as : List V}, allD flatD l = some as → as.all flatV = true
  | [], as, e => by cases e; rfl
  | d :: l, as, e => by
    unfold allD at e
    cases e1 : flatD d with
    | none => rw [e1] at e; cases e
    | some a =>
      cases e2 : allD flatD l with
      | none => rw [e1, e2] at e; cases e
      | some as' =>
        rw [e1, e2] at e
        cases e
        rw [List.all_cons, flatD_flat e1, allD_flat e2]; rfl
def inD (d e : D) : Option Bool := match flatD d, seqD e with
  | some a, some l => (allD flatD l).map fun as => inV a as
  | _, _ => none
def gIn : List D → Option D
  | [.str ⟨⟨[c]⟩⟩, .str z] => some (.bl (decide (c ∈ z.cps.toList)))
  | [d, e] => (inD d e).map .bl
  | _ => none
def gNotIn : List D → Option D
  | [d, e] => (inD d e).map fun b => .bl (!b)
  | _ => none
def rIn2 (K : PySem.W.Frag) : R2 := fun x y H Q => rIn K false x y H Q ∨ ∃ (c : Nat) (z : Str), x = .str ⟨#[c]⟩ ∧ y = .str z ∧ Q (.bl (decide (c ∈ z.cps.toList))) H
theorem op_in2 : OpR X (compareOp .In) (rIn2 X.K) := op_in_seq.or op_in_sign
theorem inD_some {K : PySem.W.Frag} {Z H : Hp} (w : ∀ p o, Z p = some o → H p = some o) {d e : D} {b : Bool} {v v' : V} {O O' : Fp} (h : inD d e = some b) (r1 : Rep Z H d v O) (r2 : Rep Z H e v' O') :
    ∃ p xs, v' = .ref p ∧ (SqL K H p xs ∨ SqT K H p xs) ∧ flatV v = true ∧ xs.all flatV = true ∧ b = inV v xs := by
  unfold inD at h
  cases c1 : flatD d with
  | none => rw [c1] at h; cases h
  | some a =>
    cases c2 : seqD e with
    | none => rw [c1, c2] at h; cases h
    | some l =>
      rw [c1, c2] at h
      obtain ⟨as, e1, e2⟩ := Option.map_eq_some_iff.mp h
      obtain ⟨p, xs, O1, e3, q1, hs⟩ := rep_seq (K := K) w r2 c2
      have ex := allD_rep flatD_rep e1 q1
      rw [List.map_id] at ex
      have ev : v = a := flatD_rep d a v O c1 r1
      subst ex ev
      exact ⟨p, xs, e3, hs.elim (fun h => .inl h.2) fun h => .inr h.2, flatD_flat c1, allD_flat e1, e2.symm⟩
theorem ro_in {K : PySem.W.Frag} : RO (r2L (rIn2 K)) gIn := by
  intro Z H xs vs Q d w r e k
  unfold gIn at e
  split at e
  · rename_i c z
    cases e
    obtain ⟨v, O, v', O', ev, r1, r2⟩ := r.two
    subst ev
    exact .inr ⟨c, z, r1, r2, Kt.val k w rfl⟩
  · obtain ⟨b, e1, e2⟩ := Option.map_eq_some_iff.mp e
    subst e2
    obtain ⟨v, O, v', O', ev, r1, r2⟩ := r.two
    subst ev
    obtain ⟨p, ys, h1, h2, h3, h4, h5⟩ := inD_some (K := K) w e1 r1 r2
    refine .inl ⟨p, ys, h1, h2, h3, h4, ?_⟩
    rw [if_neg Bool.false_ne_true, ← h5]
    exact Kt.val k w rfl
  · cases e
theorem ro_notIn {K : PySem.W.Frag} : RO (r2L (rIn K true)) gNotIn := by
  intro Z H xs vs Q d w r e k
  unfold gNotIn at e
  split at e
  · obtain ⟨b, e1, e2⟩ := Option.map_eq_some_iff.mp e
    subst e2
    obtain ⟨v, O, v', O', ev, r1, r2⟩ := r.two
    subst ev
    obtain ⟨p, ys, h1, h2, h3, h4, h5⟩ := inD_some (K := K) w e1 r1 r2
    refine ⟨p, ys, h1, h2, h3, h4, ?_⟩
    rw [if_pos rfl, ← h5]
    exact Kt.val k w rfl
  · cases e
/-! ### repr -/
def rRepr (K : PySem.W.Frag) : List V → Hp → VK → Prop := fun vs H Q => ∃ v d, vs = [v] ∧ Dp K H v d ∧ d.showable = true ∧ d.hasDict = false ∧ d.depth ≤ 60 ∧ d.shown.length ≤ sizeLine ∧ Q (.str d.shown) H
theorem call_repr {k : Nat} (hr : RoomG k X.A) : CallR X (.builtin "repr") (rRepr X.K) := by
  intro pins s σ H xs us Q I r h
  obtain ⟨v, d, rfl, hd, hs, hk, hdp, hz, q⟩ := h
  obtain ⟨u, rfl, ru⟩ := vals1 r
  obtain ⟨as, rd⟩ := Dp.reads I d v u hd ru
  have hu := hr.room.units
  cases rd with
  | none => exact PySem.P.repr_of_none ⟨.str _, H, I.tok _, ⟨_, rfl⟩, q⟩
  | bool b => exact PySem.P.repr_of_bool ⟨.str _, H, I.tok _, ⟨_, rfl⟩, q⟩
  | int i t => exact PySem.P.repr_of_int (of_decide_eq_true hs) ⟨.str _, H, I.tok _, ⟨_, rfl⟩, q⟩
  | str x t => exact PySem.P.repr_of_str ⟨.str _, H, I.tok _, ⟨_, rfl⟩, q⟩ hz
  | list a b c e => exact repr_of_reads' (.list a b c e) hs (fun z => by rw [hk] at z; cases z) hr.gs (by omega) (fun _ _ h => h) (fun h' u' tk hh => ⟨.str _, H, I.kept (h' := h') (t' := tk) hh, ⟨_, rfl⟩, q⟩) hz
  | tuple a b c e => exact repr_of_reads' (.tuple a b c e) hs (fun z => by rw [hk] at z; cases z) hr.gs (by omega) (fun _ _ h => h) (fun h' u' tk hh => ⟨.str _, H, I.kept (h' := h') (t' := tk) hh, ⟨_, rfl⟩, q⟩) hz
  | dict a b c e f => cases hk
def gRepr : List D → Option D
  | [d] => match pyD d with
    | some a => if a.showable = true ∧ a.hasDict = false ∧ a.depth ≤ 60 ∧ a.shown.length ≤ 10000000 then some (.str a.shown) else none
    | none => none
  | _ => none
theorem ro_repr {K : PySem.W.Frag} : RO (rRepr K) gRepr := by
  intro Z H xs vs Q d w r e k
  unfold gRepr at e
  split at e
  · rename_i dd
    cases c : pyD dd with
    | none => rw [c] at e; cases e
    | some a =>
      rw [c] at e
      have e : (if a.showable = true ∧ a.hasDict = false ∧ a.depth ≤ 60 ∧ a.shown.length ≤ 10000000 then some (.str a.shown) else none) = some d := e
      split at e
      · rename_i hc
        cases e
        obtain ⟨v, O, ev, r1⟩ := r.one
        subst ev
        exact ⟨v, a, rfl, dp_of w r1 c, hc.1, hc.2.1, hc.2.2.1, Nat.le_of_lt (line10 hc.2.2.2), Kt.val k w rfl⟩
      · cases e
  · cases e
/-! ### isinstance of a built-in class -/
def tyD : D → Option String
  | .non => some "NoneType"
  | .bl _ => some "bool"
  | .int _ => some "int"
  | .str _ => some "str"
  | .tup _ => some "tuple"
  | .lst _ _ => some "list"
  | .scr _ => some "list"
  | .dk _ _ _ => some "dict"
  | .dt _ _ _ => some "dict"
  | .obj _ => none
theorem tyD_rep {K : PySem.W.Frag} {Z H : Hp} (w : ∀ p o, Z p = some o → H p = some o) {d : D} {t : String} {v : V} {O : Fp} (e : tyD d = some t) (r : Rep Z H d v O) : TyX K H v (.type t) := by
  cases d with
  | non => cases e; rw [show v = .non from r]; exact .base .non
  | bl b => cases e; rw [show v = .bl b from r]; exact .base (.bl b)
  | int b => cases e; rw [show v = .int b from r]; exact .base (.int b)
  | str b => cases e; rw [show v = .str b from r]; exact .base (.str b)
  | tup l => cases e; obtain ⟨p, vs, e, h, _⟩ := r; subst e; exact .base (.tup (w _ _ h))
  | lst fl l => cases e; obtain ⟨p, vs, _, e, h, _⟩ := rep_lstH w r; subst e; exact .base (.lst h)
  | scr ns =>
    cases e
    obtain ⟨p, e, h⟩ := r
    subst e
    rcases rd_mono w h with h | ⟨o, h⟩
    · exact .base (.lst h)
    · exact .base (.frz h)
  | dk fl ks l =>
    cases e
    cases fl with
    | true => obtain ⟨p, vs, e, _, h, _⟩ := r; subst e; exact .base (.dK h)
    | false => obtain ⟨p, vs, e, h, _⟩ := r; subst e; exact .base (.dK (w _ _ h))
  | dt fl ks l =>
    cases e
    cases fl with
    | true => obtain ⟨p, vs, e, _, h, _⟩ := r; subst e; exact .base (.dT h)
    | false => obtain ⟨p, vs, e, h, _⟩ := r; subst e; exact .base (.dT (w _ _ h))
  | obj a => cases e
def isiB (T t : String) : Bool := t == T || (t == "bool" && T == "int")
def gIsi (T : String) : List D → Option D
  | [d] => (tyD d).map fun t => .bl (isiB T t)
  | _ => none
def okT : List String := ["int", "bool", "str", "tuple", "list", "dict"]
theorem kit_isi {K : PySem.W.Frag} {T t : String} (hT : T ∈ okT) (ht : t ∈ "NoneType" :: okT) : PySem.W.kitOne K (.type t) (.type T) = some (isiB T t) := by
  have key : ∀ T ∈ okT, ∀ t ∈ "NoneType" :: okT, kitB t T = some (isiB T t) := by decide +kernel
  exact kit_ty (key T hT t ht)
theorem tyD_ok {d : D} {t : String} (e : tyD d = some t) : t ∈ "NoneType" :: okT := by cases d <;> first | (cases e; decide) | cases e
theorem ev_isi {T : String} {x : Str} {e : Expr} {o : Opn} {p p2 pos : Pos} (hT : T ∈ okT) (hm : X.mg "isinstance" = none) (hm2 : X.mg x = none) (hv : bootBuiltins x = some (.type T)) (he : OE X W e o) (hg : Gl X "isinstance" := by rfl) (hg2 : Gl X x := by rfl)
    (hn2 : x ≠ "__name__" := by decide) (hd2 : (x == ("__debug__" : Str)) = false := by decide)
    (hs : starEach [e, .Name x p2] X.env = (false, eval e X.env) :: starEach [.Name x p2] X.env := by rfl) (hs2 : starEach [.Name x p2] X.env = (false, eval (.Name x p2) X.env) :: starEach [] X.env := by rfl) (hpl : (backTo pos (starEach [.Name x p2] X.env)).any (·.1) = false := by rfl) :
    PE X (.Call (.Name "isinstance" p) [e, .Name x p2] [] pos) (tV X.mg W (eRO [o] (gIsi T))) := by
  have ha : PA X [e, .Name x p2] (tCons (o.t X.mg W) (tCons (tC (.ty T)) tNil)) := pa_cons he (pa_cons (pe_bltn (v := .ty T) hg2 hm2 hv rfl hn2 hd2) pa_nil hs2) hs
  refine PE.imp (pe_callB call_isi hg hm (by decide +kernel) ha (he := hs) (hpl := hpl)) fun σ H Q h => ?_
  have hr : RO (fun vs H Q => match vs with
    | [x] => rIsi X.K [x, .ty T] H Q
    | _ => False) (gIsi T) := by
    intro Z H xs vs Q d w r e k
    unfold gIsi at e
    split at e
    · obtain ⟨t, e1, e2⟩ := Option.map_eq_some_iff.mp e
      subst e2
      obtain ⟨v, O, ev, r1⟩ := r.one
      subst ev
      exact ⟨v, .ty T, .type t, .type T, isiB T t, rfl, .ty T, tyD_rep w e1 r1, kit_isi hT (tyD_ok e1), Kt.val k w rfl⟩
    · cases e
  exact ro_of hr h
/-! ### join -/
def strsD (d : D) : Option (List Str) := match seqD d with
  | some l => allD strD l
  | none => none
def gJoin (a : Str) : List D → Option D
  | [d] => match strsD d with
    | some ys => if (ys.map (·.length)).sum + ys.length * a.length ≤ 10000000 then some (.str (Txt.join a ys)) else none
    | none => none
  | _ => none
def rJoin (K : PySem.W.Frag) : V → List V → Hp → VK → Prop := fun x xs H Q => ∃ a p, ∃ ys : List Str, x = .str a ∧ xs = [.ref p] ∧ (SqL K H p (ys.map V.str) ∨ SqT K H p (ys.map V.str)) ∧
    (ys.map (·.length)).sum + ys.length * a.length ≤ 16777216 ∧ Q (.str (Txt.join a ys)) H
theorem ro_join {K : PySem.W.Frag} {a : Str} : RO (r1L fun y H Q => rJoin K (.str a) [y] H Q) (gJoin a) := by
  intro Z H xs vs Q d w r e k
  unfold gJoin at e
  split at e
  · rename_i dd
    cases c : strsD dd with
    | none => rw [c] at e; cases e
    | some ys =>
      rw [c] at e
      have e : (if (ys.map (·.length)).sum + ys.length * a.length ≤ 10000000 then some (.str (Txt.join a ys)) else none) = some d := e
      split at e
      · rename_i hz
        cases e
        obtain ⟨v, O, ev, r1⟩ := r.one
        subst ev
        unfold strsD at c
        cases es : seqD dd with
        | none => rw [es] at c; cases c
        | some l =>
          rw [es] at c
          have c : allD strD l = some ys := c
          obtain ⟨p, as, O1, e3, q1, hs⟩ := rep_seq (K := K) w r1 es
          rw [allD_rep strD_rep c q1] at hs
          exact ⟨a, p, ys, rfl, by rw [e3], hs.elim (fun h => .inl h.2) fun h => .inr h.2, by omega, Kt.val k w rfl⟩
      · cases e
  · cases e
theorem ev_join {a : Str} {j : Nat} {e : Expr} {oe' : Opn} {apos pos cp : Pos} (he : OE X W e oe') (hs : starEach [e] X.env = [(false, eval e X.env)] := by rfl) (hbase : attributeBase (.Constant (.str a) j cp) "join" X.env (eval (.Constant (.str a) j cp) X.env) = eval (.Constant (.str a) j cp) X.env := by rfl) (hline : (apos.endLine == pos.line) = true := by rfl) :
    PE X (.Call (.Attribute (.Constant (.str a) j cp) "join" apos) [e] [] pos) (tV X.mg W (eRO [oe'] (gJoin a))) :=
  PE.imp (pe_join pe_str he hs hbase hline) fun σ H Q h => ⟨⟨a, rfl⟩, ro_of (ro_join (K := X.K)) h⟩
end
end VS

/-! VS8: what is changed in place; what is walked; errors raised and caught; calls by names. -/
namespace VS
open PySem PySem.Spec L2
open PyProof.Rows hiding St
/-! ### an own list of a slot, changed -/
theorem RelS.lst {A : Nat → V} {Z H : Hp} {σ : St} {env : Ev} {O : Fp} {i : Nat} {l : List D} {fl : Bool} (r : RelS A Z H σ env O) (h : env.at i = .val (.lst true l) fl) :
    ∃ (p : Addr) (vs : List V) (O1 O2 : Fp), σ[i]? = some (some (.ref p)) ∧ H p = some (.lst vs) ∧ RepL Z H l vs (fun q => O1 q ∧ q ≠ p) ∧ O1 p ∧ (∀ q, O1 q → O q) ∧ (∀ q, O2 q → O q) ∧ (∀ q, O1 q → O2 q → False) ∧ RelS A Z H σ (env.set i .dead) O2 ∧ (fl = true → V.ref p = A i) := by
  obtain ⟨v, O1, O2, e1, ⟨p, vs, e2, op, hp, rl⟩, hv, h1, h2, hd, r2⟩ := r.take (Ev.at_val h)
  subst e2
  exact ⟨p, vs, O1, O2, e1, hp, rl, op, h1, h2, hd, r2, hv⟩
/-- behind the change: what was beside (Ov) may have gone into the list -/
theorem put_lst {A : Nat → V} {Z0 H0 Z H : Hp} {O0 Ov Oe O1 O2 Ox On : Fp} {σ : St} {env : Ev} {i : Nat} {fl : Bool} {p : Addr} {l' : List D} {vs' : List V} {ds : List D} {us : List V} (s : Stp Z0 H0 O0 Z H (fun q => Ov q ∨ Oe q)) (hd : ∀ q, Ov q → Oe q → False)
    (e1 : σ[i]? = some (some (.ref p))) (op : O1 p) (h1 : ∀ q, O1 q → Oe q) (h2 : ∀ q, O2 q → Oe q) (h3 : ∀ q, O1 q → O2 q → False) (r2 : RelS A Z H σ (env.set i .dead) O2) (hv : fl = true → V.ref p = A i)
    (hn : ∀ q, On q → (Ov q ∨ O1 q) ∧ q ≠ p) (hx : ∀ q, Ox q → Ov q ∨ (O1 q ∧ q ≠ p)) (hxn : ∀ q, Ox q → On q → False) (rl : RepL Z H l' vs' On) (rx : RepL Z H ds us Ox) :
    Aft A Z0 H0 O0 σ ds (env.set i (.val (.lst true l') fl)) us (upd H p (.lst vs')) := by
  have sw := Stp.write (u := .lst vs') s.wd (p := p) (.inr (h1 p op))
  have nx : ∀ q, Ox q → q ≠ p := fun q h e => (hx q h).elim (fun h => hd q h (by rw [e]; exact h1 p op)) fun h => h.2 e
  have n2 : ∀ q, O2 q → q ≠ p := fun q h e => h3 q (by rw [e]; exact op) h
  have nOn : ∀ q, On q → q ≠ p := fun q h => (hn q h).2
  have kp : ∀ {R : Fp}, (∀ q, R q → q ≠ p) → ∀ q o, R q → H q = some o → (upd H p (.lst vs')) q = some o := fun n q o a b => by rw [upd_ne (n q a)]; exact b
  refine ⟨Z, Ox, fun q => (On q ∨ q = p) ∨ O2 q, s.trans (sw.drop fun q h => ?_), fun q a b => ?_, RepL.stay (fun _ _ h => h) rx (fun _ h => h) (kp nx), ?_⟩
  · rcases h with h | (h | h) | h
    · exact (hx q h).imp id fun h => h1 q h.1
    · exact (hn q h).1.imp id (h1 q)
    · exact .inr (by rw [h]; exact h1 p op)
    · exact .inr (h2 q h)
  · rcases b with (b | b) | b
    · exact hxn q a b
    · exact nx q a b
    · exact (hx q a).elim (fun a => hd q a (h2 q b)) fun a => h3 q a.1 b
  · refine (r2.stay (fun _ _ h => h) (fun _ h => h) (kp n2)).put (c := .val (.lst true l') fl) (O1 := fun q => On q ∨ q = p) ⟨.ref p, e1, ⟨p, vs', rfl, .inr rfl, upd_same, RepL.stay (fun _ _ h => h) rl (fun q h => ⟨.inl h, nOn q h⟩) (kp nOn)⟩, hv⟩ (fun q h => .inl h) (fun q h => .inr h) fun q a b => ?_
    rcases a with a | a
    · exact (hn q a).1.elim (fun a => hd q a (h2 q b)) fun a => h3 q a b
    · exact n2 q b a
theorem Aft.non {A : Nat → V} {Z H : Hp} {O : Fp} {σ : St} {env : Ev} {H' : Hp} (a : Aft A Z H O σ [] env [] H') : Aft A Z H O σ [.non] env [.non] H' := by
  obtain ⟨Z1, Ov, Oe, s1, hd, rv, re⟩ := a
  exact ⟨Z1, f0, Oe, s1.drop fun p h => h.elim (fun h => h.elim) .inr, fun _ h => h.elim, RepL.one rfl, re⟩
section
variable {X : Cx} {W : WX} {mg : Str → Option Value}
/-! ### xs.append(e), xs.insert(k, e), xs.pop(k) -/
def eAppend (i : Nat) (f : Ev → Res D) (env : Ev) : Res D := match env.at i with
  | .val (.lst true _) _ => (f env).bind fun d e1 => match e1.at i with
    | .val (.lst true l) fl => if l.length < 10000000 then .ok .non (e1.set i (.val (.lst true (l ++ [d])) fl)) else .bad
    | _ => .bad
  | _ => .bad
theorem tyV_list {K : PySem.W.Frag} {H : Hp} {p : Addr} {vs : List V} (h : H p = some (.lst vs)) : tyV K "list" (.ref p) H := .inl ⟨rfl, _, SqL.of h⟩
theorem append_of {i : Nat} {f : Ev → Res D} {σ : St} {H : Hp} {Q : VK} {K : PySem.W.Frag} (h : tV mg W (eAppend i f) σ H Q) : tBM K "list" rAppend (tVar i) (tCons (tV mg W f) tNil) σ H Q := by
  obtain ⟨A, Z, O, env, w, r, h⟩ := h
  unfold eAppend at h
  split at h
  · rename_i l0 fl0 e0
    obtain ⟨p, vs, _, _, e1, hp, _⟩ := r.lst e0
    refine ⟨_, e1, tyV_list hp, A, Z, O, env, w, r, ?_⟩
    cases e : f env with
    | bad => rw [e] at h; exact h
    | err c e2 => rw [e] at h; exact h
    | ok d e2 =>
      rw [e, Res.bind_ok] at h
      intro y H2 ⟨Z2, Ov, Oe, s2, hd, rv, re⟩
      obtain ⟨y', ey, rv⟩ := RepL.one_of rv
      cases ey
      split at h
      · rename_i l fl e3
        split at h
        · rename_i hz
          obtain ⟨p', us, O1, O2, e4, hp2, rl, op, h1, h2, h3, r2, hv⟩ := re.lst e3
          rw [e1] at e4
          cases e4
          refine ⟨p, us, y, rfl, rfl, hp2, by rw [RepL.len rl]; exact Nat.lt_trans hz (by rw [sizeLine_eq]; decide), ?_⟩
          have q := (put_lst (ds := []) (us := []) (Ox := f0) (On := fun q => (O1 q ∧ q ≠ p) ∨ Ov q) (l' := l ++ [d]) (vs' := us ++ [y]) s2 hd e1 op h1 h2 h3 r2 hv (fun q a => a.elim (fun a => ⟨.inr a.1, a.2⟩) fun a => ⟨.inl a, fun e => hd q a (by rw [e]; exact h1 p op)⟩) (fun _ h => h.elim) (fun _ h => h.elim)
            (RepL.append rl (RepL.one rv) (fun q a b => hd q b (h1 q a.1)) (fun q h => .inl h) fun q h => .inr h) rfl).non
          exact h _ _ q
        · exact h.elim
      · exact h.elim
  · exact h.elim
theorem ev_append {e : Expr} {f : Ev → Res D} {x : Str} {px apos cpos : Pos} (i : Nat) (he : PE X e (tV X.mg W f)) (hN : X.N[i]? = some x := by rfl) (hv : Vis X.env.scope x := by first | exact Or.inl rfl | exact Or.inr (Or.inl rfl) | exact Or.inr (Or.inr rfl)) (hd : (x == ("__debug__" : Str)) = false := by decide)
    (hcd : (x == ("__classdict__" : Str)) = false := by decide) (hbase : attributeBase (.Name x px) "append" X.env (eval (.Name x px) X.env) = eval (.Name x px) X.env := by rfl)
    (hfew : ((backTo cpos (starEach (e :: []) X.env)).all (fun x => !x.1) && (backToKw cpos (keywordEach [] X.env)).all (fun x => x.1.isSome)
      && decide ((e :: []).length + ([] : List Keyword).length + (if ([] : List Keyword).isEmpty then 0 else 1) < 30)) = true := by rfl)
    (hline : (apos.endLine == cpos.line) = true := by rfl) (hs : starEach (e :: []) X.env = (false, eval e X.env) :: starEach [] X.env := by rfl) (hplain : (backTo cpos (starEach [] X.env)).any (·.1) = false := by rfl) :
    PE X (.Call (.Attribute (.Name x px) "append" apos) [e] [] cpos) (tV X.mg W (eAppend i f)) :=
  PE.imp (pe_bm PySem.F.plainAttrs_list PySem.F.slot_list_append PySem.F.type_list_append mt_append (pe_var hN hv hd hcd) (pa_cons he pa_nil hs) hbase hfew hline hs hplain) fun _ _ _ h => append_of h
/-- xs.pop(k): what is popped has no own parts -/
def ePop (i : Nat) (f : Ev → Res D) (env : Ev) : Res D := match env.at i with
  | .val (.lst true _) _ => (f env).bind fun d e1 => match d, e1.at i with
    | .int k, .val (.lst true l) fl => if 0 ≤ k ∧ k < 10000000 then (match l[k.toNat]? with
      | some x => if own x = false ∧ ownL l = false then .ok x (e1.set i (.val (.lst true (l.eraseIdx k.toNat)) fl)) else .bad
      | none => .bad) else .bad
    | _, _ => .bad
  | _ => .bad
theorem ownL_erase {l : List D} (h : ownL l = false) (k : Nat) : ownL (l.eraseIdx k) = false := by
  rw [ownL_mem] at h ⊢
  exact fun d hd => h d (List.mem_of_mem_eraseIdx hd)
theorem RepL.erase0 {Z H : Hp} : ∀ {l : List D} {vs : List V} {O : Fp} (k : Nat), RepL Z H l vs O → RepL Z H (l.eraseIdx k) (vs.eraseIdx k) O
  | [], _, _, k, r => by rw [show _ = [] from r]; rfl
  | d :: l, _, _, 0, ⟨v, vr, O1, O2, e, h1, h2, h3, r1, r2⟩ => by
    subst e
    exact RepL.stay (fun _ _ h => h) r2 h2 fun _ _ _ h => h
  | d :: l, _, _, k + 1, ⟨v, vr, O1, O2, e, h1, h2, h3, r1, r2⟩ => by
    subst e
    exact ⟨v, vr.eraseIdx k, O1, O2, rfl, h1, h2, h3, r1, RepL.erase0 k r2⟩
theorem pop_of {i : Nat} {f : Ev → Res D} {σ : St} {H : Hp} {Q : VK} {K : PySem.W.Frag} (h : tV mg W (ePop i f) σ H Q) : tBM K "list" rPopAt (tVar i) (tCons (tV mg W f) tNil) σ H Q := by
  obtain ⟨A, Z, O, env, w, r, h⟩ := h
  unfold ePop at h
  split at h
  · rename_i l0 fl0 e0
    obtain ⟨p, vs, _, _, e1, hp, _⟩ := r.lst e0
    refine ⟨_, e1, tyV_list hp, A, Z, O, env, w, r, ?_⟩
    cases e : f env with
    | bad => rw [e] at h; exact h
    | err c e2 => rw [e] at h; exact h
    | ok d e2 =>
      rw [e, Res.bind_ok] at h
      intro y H2 ⟨Z2, Ov, Oe, s2, hd, rv, re⟩
      obtain ⟨y', ey, rv⟩ := RepL.one_of rv
      cases ey
      split at h
      · rename_i k l fl e3 rvL
        split at h
        · rename_i hz
          split at h
          · rename_i x hx
            split at h
            · rename_i ho
              obtain ⟨p', us, O1, O2, e4, hp2, rl, op, h1, h2, h3, r2, hv⟩ := re.lst e3
              rw [e1] at e4
              cases e4
              obtain ⟨z, Oz, ez, rz, _⟩ := rl.get hx
              have hk : k.toNat < us.length := (List.getElem?_eq_some_iff.mp ez).1
              obtain rfl : y = .int k := rv
              refine ⟨p, us, k, k.toNat, z, rfl, rfl, hp2, by omega, by omega, ?_, ez, ?_⟩
              · have e5 : ((k.toNat : Nat) : Int) = k := by omega
                have hz2 := (ixN_seq (n := us.length) (i := k) (j := k.toNat) (by unfold ixN; rw [if_pos hz.1, if_pos (by omega)])).1
                exact hz2
              · have q := put_lst (ds := [x]) (us := [z]) (Ox := f0) (On := fun q => (O1 q ∧ q ≠ p)) (l' := l.eraseIdx k.toNat) (vs' := us.eraseIdx k.toNat) s2 hd e1 op h1 h2 h3 r2 hv (fun q a => ⟨.inr a.1, a.2⟩) (fun _ h => h.elim) (fun _ h => h.elim) (RepL.erase0 _ rl) (RepL.one (rz.imm ho.1))
                exact h _ _ q
            · exact h.elim
          · exact h.elim
        · exact h.elim
      · exact h.elim
  · exact h.elim
theorem ev_pop {e : Expr} {f : Ev → Res D} {x : Str} {px apos cpos : Pos} (i : Nat) (he : PE X e (tV X.mg W f)) (hN : X.N[i]? = some x := by rfl) (hv : Vis X.env.scope x := by first | exact Or.inl rfl | exact Or.inr (Or.inl rfl) | exact Or.inr (Or.inr rfl)) (hd : (x == ("__debug__" : Str)) = false := by decide)
    (hcd : (x == ("__classdict__" : Str)) = false := by decide) (hbase : attributeBase (.Name x px) "pop" X.env (eval (.Name x px) X.env) = eval (.Name x px) X.env := by rfl)
    (hfew : ((backTo cpos (starEach (e :: []) X.env)).all (fun x => !x.1) && (backToKw cpos (keywordEach [] X.env)).all (fun x => x.1.isSome)
      && decide ((e :: []).length + ([] : List Keyword).length + (if ([] : List Keyword).isEmpty then 0 else 1) < 30)) = true := by rfl)
    (hline : (apos.endLine == cpos.line) = true := by rfl) (hs : starEach (e :: []) X.env = (false, eval e X.env) :: starEach [] X.env := by rfl) (hplain : (backTo cpos (starEach [] X.env)).any (·.1) = false := by rfl) :
    PE X (.Call (.Attribute (.Name x px) "pop" apos) [e] [] cpos) (tV X.mg W (ePop i f)) :=
  PE.imp (pe_bm PySem.F.plainAttrs_list PySem.F.slot_list_pop PySem.F.type_list_pop mt_popAt (pe_var hN hv hd hcd) (pa_cons he pa_nil hs) hbase hfew hline hs hplain) fun _ _ _ h => pop_of h
/-! ### xs[i] = e -/
theorem RepL.set0 {Z H : Hp} {d : D} {v : V} {Od : Fp} (rd : Rep Z H d v Od) : ∀ {l : List D} {vs : List V} {O O' : Fp} {j : Nat}, RepL Z H l vs O → (∀ q, O q → Od q → False) → (∀ q, O q → O' q) → (∀ q, Od q → O' q) → RepL Z H (l.set j d) (vs.set j v) O'
  | [], _, _, _, _, r, _, _, _ => by rw [show _ = [] from r]; rfl
  | d0 :: l, _, O, O', 0, ⟨u, vr, O1, O2, e, h1, h2, h3, r1, r2⟩, hd, g1, g2 => by
    subst e
    exact ⟨v, vr, Od, O2, rfl, g2, fun q h => g1 q (h2 q h), fun q a b => hd q (h2 q b) a, rd, r2⟩
  | d0 :: l, _, O, O', j + 1, ⟨u, vr, O1, O2, e, h1, h2, h3, r1, r2⟩, hd, g1, g2 => by
    subst e
    exact ⟨u, vr.set j v, O1, fun q => O2 q ∨ Od q, rfl, fun q h => g1 q (h1 q h), fun q h => h.elim (fun h => g1 q (h2 q h)) (g2 q), fun q a b => b.elim (h3 q a) (hd q (h1 q a)), r1, RepL.set0 rd r2 (fun q a b => hd q (h2 q a) b) (fun q h => .inl h) fun q h => .inr h⟩
def bSub (i : Nat) (fi : Ev → Res D) (d : D) (env : Ev) : Option Ev := match env.at i with
  | .val (.lst true _) _ => (match fi env with
    | .ok (.int k) e1 => (match e1.at i with
      | .val (.lst true l) fl => (ixN l.length k).map fun j => e1.set i (.val (.lst true (l.set j d)) fl)
      | _ => none)
    | _ => none)
  | _ => none
theorem AftS.of {A : Nat → V} {Z H : Hp} {O : Fp} {σ : St} {ds : List D} {env : Ev} {vs : List V} {H' : Hp} (a : Aft A Z H O σ ds env vs H') : AftS A Z H O env σ H' := by
  obtain ⟨Z1, O1, s1, r1⟩ := a.left
  exact ⟨Z1, O1, s1, r1⟩
theorem sub_of {i : Nat} {fi : Ev → Res D} {v : V} {σ : St} {H : Hp} {Q : St → Hp → Prop} (h : tG [] (bSub i fi) v σ H Q) : gSub (tVar i) (tV mg W0 fi) rSetL v σ H Q := by
  obtain ⟨A, Z, Ov, Oe, d, env, w, hd, rv, re, h⟩ := h
  unfold bSub at h
  split at h
  · rename_i l0 fl0 e0
    obtain ⟨p, vs, _, _, e1, hp, _⟩ := re.lst e0
    refine ⟨_, e1, A, Z, Oe, env, w.sub' (fun q h => .inr h), re, ?_⟩
    cases e : fi env with
    | bad => rw [e] at h; exact h.elim
    | err c e1 => rw [e] at h; exact h.elim
    | ok k e2 =>
      rw [e] at h
      intro y H2 ⟨Z2, Pv, Pe, s2, hd2, ry, re2⟩
      obtain ⟨y', ey, ry⟩ := RepL.one_of ry
      cases ey
      cases k with
      | int k =>
        obtain rfl : y = .int k := ry
        have h : OutG σ [] A Z H (fun p => Ov p ∨ Oe p) Q (match e2.at i with
          | .val (.lst true l) fl => (ixN l.length k).map fun j => e2.set i (.val (.lst true (l.set j d)) fl)
          | _ => none) := h
        split at h
        · rename_i l fl e3
          cases c : ixN l.length k with
          | none => rw [c] at h; exact h.elim
          | some j =>
            rw [c] at h
            have h : ∀ σ' H', σ'.length = σ.length → (∀ j, j ∉ [] → σ'[j]? = σ[j]?) → AftS A Z H (fun p => Ov p ∨ Oe p) (e2.set i (.val (.lst true (l.set j d)) fl)) σ' H' → Q σ' H' := h
            obtain ⟨p', us, O1, O2, e4, hp2, rl, op, h1, h2, h3, r2, hv⟩ := re2.lst e3
            rw [e1] at e4
            cases e4
            have hdO : ∀ q, Oe q → Ov q → False := fun q a b => hd q b a
            have fd := s2.frame_disj w (fun q h => .inl h) hdO
            have s3 : Stp Z H (fun q => Ov q ∨ Oe q) Z2 H2 (fun q => Ov q ∨ Pe q) := s2.frame w (fun q h => .inr h) (fun q h => .inl h) hdO fun q h => h.elim .inr fun h => .inl (.inr h)
            have dv : ∀ q, Ov q → Pe q → False := fun q a b => fd q (.inr b) a
            have rv2 := s2.rep rv hdO
            refine ⟨p, us, k, j, rfl, rfl, hp2, by rw [RepL.len rl]; exact c, ?_⟩
            refine h σ _ rfl (fun _ _ => rfl) (AftS.of (ds := []) (vs := []) ?_)
            exact put_lst (Ox := f0) (On := fun q => (O1 q ∧ q ≠ p) ∨ Ov q) s3 dv e1 op h1 h2 h3 r2 hv (fun q a => a.elim (fun a => ⟨.inr a.1, a.2⟩) fun a => ⟨.inl a, fun e => dv q a (by rw [e]; exact h1 p op)⟩) (fun _ h => h.elim) (fun _ h => h.elim)
              (RepL.set0 rv2 rl (fun q a b => dv q b (h1 q a.1)) (fun q h => .inl h) fun q h => .inr h) rfl
        · exact h.elim
      | _ => exact h.elim
  · exact h.elim
theorem gv_sub {x : Str} {ie : Expr} {fi : Ev → Res D} {px pos : Pos} (i : Nat) (hi : PE X ie (tV X.mg W0 fi)) (hN : X.N[i]? = some x := by rfl) (hv : Vis X.env.scope x := by first | exact Or.inl rfl | exact Or.inr (Or.inl rfl) | exact Or.inr (Or.inr rfl)) (hd : (x == ("__debug__" : Str)) = false := by decide)
    (hcd : (x == ("__classdict__" : Str)) = false := by decide)
    (ha : ∀ v, assign (.Subscript (.Name x px) ie pos) X.env v = (do
      let ov ← holding [v] (eval (.Name x px) X.env)
      let iv ← holding [v, ov] (eval ie X.env)
      standAt pos
      holding [v, ov, iv] (setItem ov iv v)
      release [v, ov, iv] []) := by intro _; rfl) : PG X (.Subscript (.Name x px) ie pos) (tG [] (bSub i fi)) :=
  PG.imp (pg_sub (pe_var hN hv hd hcd) hi set_list ha) fun _ _ _ _ h => sub_of h
/-! ### what is walked -/
/-- the items of a value: of a text its signs -/
def itemsD : D → Option (List D)
  | .str x => some (x.cps.toList.map fun c => .str ⟨#[c]⟩)
  | d => match seqD d with
    | some l => if ownL l = false then some l else none
    | none => none
/-- a value reckoned, walked -/
def srcE (it : D → Option (List D)) (f : Ev → Res D) (env : Ev) : Res (List D × Bk) := (f env).bind fun d e1 => match it d with
  | some l => .ok (l, none) e1
  | none => .bad
/-- a name's value, walked: an own list is lent meanwhile -/
def srcN (it : D → Option (List D)) (i : Nat) (env : Ev) : Res (List D × Bk) := match env.at i with
  | .val d fl => (match it d with
    | some l => if own d = false then .ok (l, none) env else .ok (l, some (i, d, fl)) (env.set i .hole)
    | none => .bad)
  | _ => .bad
def JAny (K : PySem.W.Frag) (x : V) (H : Hp) (J : It) : Prop := (∃ a, x = .ref a ∧ (∃ xs, SqL K H a xs) ∧ J = Itl K a) ∨ (∃ a, x = .ref a ∧ (∃ xs, SqT K H a xs) ∧ J = Itt K a) ∨ ∃ z, x = .str z ∧ J = Its z
def iAny (K : PySem.W.Frag) (tl : TE) : TI := fun σ H R => tl σ H fun x H1 => ∃ J, JAny K x H1 J ∧ R J H1
theorem pi_any {tg l : Expr} {tl : TE} (hl : PE X l tl) : PI X tg l (iAny X.K tl) := by
  refine ⟨fun pins s σ H R I h => ?_⟩
  refine thn (hl.run pins s σ H _ I h) fun v s1 ⟨x, H1, I1, r1, J, hJ, q⟩ => ?_
  rcases hJ with ⟨a, e, ⟨xs, hq⟩, eJ⟩ | ⟨a, e, ⟨xs, hq⟩, eJ⟩ | ⟨z, e, eJ⟩
  · subst e eJ
    cases r1
    obtain ⟨its, rv, p, hz⟩ := I1.list hq
    refine wpAny_pyIter_list p.isList ?_
    refine ⟨s1.heap.objs.size, [s1.heap.objs.size], _, _, H1, rfl, I1.kept (t' := s1.toks) fun b o e => Heap.get?_push_of_some _ e, turn_list a _, ⟨_, Heap.get?_push_size _ rfl, rfl, rfl⟩, fun b hb => ?_, q⟩
    have e : b = s1.heap.objs.size := by simpa using hb
    subst e
    exact I1.fpOk (Nat.le_refl _) (I1.hok.fresh (Nat.le_refl _))
  · subst e eJ
    cases r1
    obtain ⟨its, rv, p, hz⟩ := I1.tuple hq
    refine wpAny_pyIter_tuple (show s1.heap.IsTuple a its.toArray from p) ?_
    refine ⟨s1.heap.objs.size, [s1.heap.objs.size], _, _, H1, rfl, I1.kept (t' := s1.toks) fun b o e => Heap.get?_push_of_some _ e, turn_tuple a _, ⟨_, Heap.get?_push_size _ rfl, rfl, rfl⟩, fun b hb => ?_, q⟩
    have e : b = s1.heap.objs.size := by simpa using hb
    subst e
    exact I1.fpOk (Nat.le_refl _) (I1.hok.fresh (Nat.le_refl _))
  · subst e eJ
    obtain ⟨t, rfl⟩ := r1
    cases ha : z.cps.all (· < 128)
    · exact wpAny_pyIter_wide ha (pi_one (tk := s1.toks) I1 _ (turn_str _ z t "str_iterator" (.inr rfl)) ⟨_, Heap.get?_push_size _ rfl, rfl, rfl⟩ q)
    · exact wpAny_pyIter_ascii ha (pi_one (tk := s1.toks) I1 _ (turn_str _ z t "str_ascii_iterator" (.inl rfl)) ⟨_, Heap.get?_push_size _ rfl, rfl, rfl⟩ q)
/-- the walk's items -/
theorem itOk_any {K : PySem.W.Frag} {Z H : Hp} {Oh : Fp} {d : D} {l : List D} {v : V} (w : ∀ p o, Z p = some o → H p = some o) (r : Rep Z H d v Oh) (e : itemsD d = some l) : ∃ J, JAny K v H J ∧ ItOk J Z H Oh l := by
  have str : ∀ x, d = .str x → ∃ J, JAny K v H J ∧ ItOk J Z H Oh l := fun x ed => by
    subst ed
    cases e
    obtain rfl : v = .str x := r
    refine ⟨_, .inr (.inr ⟨x, rfl, rfl⟩), fun Z' H' i O hz wd hk => ⟨fun y hy => ?_, fun hi => by show x.cps.size ≤ i; rw [hi]; simp⟩⟩
    rw [List.getElem?_map] at hy
    obtain ⟨c, e1, e2⟩ := Option.map_eq_some_iff.mp hy
    subst e2
    have hi : i < x.cps.size := by have := (List.getElem?_eq_some_iff.mp e1).1; simpa using this
    refine ⟨hi, fun y H2 ⟨eh, c', e3, e4⟩ => ?_⟩
    subst eh e4
    have : c = c' := by rw [← Array.getElem?_toList, e1] at e3; exact Option.some.inj e3
    subst this
    exact ⟨Z', .refl (wd0 wd.sub), rfl⟩
  have seq : ∀ l', seqD d = some l' → ownL l' = false → l = l' → ∃ J, JAny K v H J ∧ ItOk J Z H Oh l := fun l' es ho el => by
    subst el
    obtain ⟨p, vs, O1, e1, q1, hs⟩ := rep_seq (K := K) w r es
    have later : ∀ {Z' H' : Hp} {O : Fp}, (∀ p o, Z p = some o → Z' p = some o) → Wd Z' H' O → (∀ p o, Oh p → H p = some o → H' p = some o) → ∃ us, RepL Z' H' l us f0 ∧ ((isL d = true ∧ SqL K H' p us) ∨ (isL d = false ∧ SqT K H' p us)) := fun {Z' H' O} hz wd hk => by
      have r' := r.stay hz (fun _ h => h) hk
      obtain ⟨p', us, O1', e1', q1', hs'⟩ := rep_seq (K := K) wd.sub r' es
      rw [e1] at e1'
      cases e1'
      exact ⟨us, RepL.imm q1' ho, hs'⟩
    cases hb : isL d with
    | true =>
      refine ⟨Itl K p, .inl ⟨p, e1, ?_, rfl⟩, fun Z' H' i O hz wd hk => ?_⟩
      · rcases hs with ⟨_, h⟩ | ⟨h, _⟩
        · exact ⟨vs, h⟩
        · rw [hb] at h; cases h
      · obtain ⟨us, q2, hs2⟩ := later hz wd hk
        have h2 : SqL K H' p us := hs2.elim (fun h => h.2) fun h => by have := h.1; rw [hb] at this; cases this
        refine ⟨fun y hy => ?_, fun hi => ⟨us, h2, by rw [RepL.len q2]; omega⟩⟩
        obtain ⟨u, O', eu, ru, _⟩ := q2.get hy
        have ho' : own y = false := (ownL_mem.mp ho) y (List.mem_of_getElem? hy)
        refine ⟨⟨us, u, h2, eu⟩, fun x H2 ⟨eh, hx⟩ => ?_⟩
        subst eh
        have ex := hx us h2
        rw [eu] at ex
        cases ex
        exact ⟨Z', .refl (wd0 wd.sub), ru.imm ho'⟩
    | false =>
      refine ⟨Itt K p, .inr (.inl ⟨p, e1, ?_, rfl⟩), fun Z' H' i O hz wd hk => ?_⟩
      · rcases hs with ⟨h, _⟩ | ⟨_, h⟩
        · rw [hb] at h; cases h
        · exact ⟨vs, h⟩
      · obtain ⟨us, q2, hs2⟩ := later hz wd hk
        have h2 : SqT K H' p us := hs2.elim (fun h => by have := h.1; rw [hb] at this; cases this) fun h => h.2
        refine ⟨fun y hy => ?_, fun hi => ⟨us, h2, by rw [RepL.len q2]; omega⟩⟩
        obtain ⟨u, O', eu, ru, _⟩ := q2.get hy
        have ho' : own y = false := (ownL_mem.mp ho) y (List.mem_of_getElem? hy)
        refine ⟨⟨us, u, h2, eu⟩, fun x H2 ⟨eh, hx⟩ => ?_⟩
        subst eh
        have ex := hx us h2
        rw [eu] at ex
        cases ex
        exact ⟨Z', .refl (wd0 wd.sub), ru.imm ho'⟩
  unfold itemsD at e
  split at e
  · exact str _ rfl
  · cases es : seqD d with
    | none => rw [es] at e; cases e
    | some l' =>
      rw [es] at e
      have e : (if ownL l' = false then some l' else none) = some l := e
      split at e
      · rename_i ho
        exact seq l' es ho (Option.some.inj e).symm
      · cases e
/-- the walks of Jf have the items that it tells -/
def Src (Jf : V → Hp → It → Prop) (it : D → Option (List D)) : Prop := ∀ (Z H : Hp) (Oh : Fp) (d : D) (l : List D) (v : V), (∀ p o, Z p = some o → H p = some o) → Rep Z H d v Oh → it d = some l → ∃ J, Jf v H J ∧ ItOk J Z H Oh l
theorem srcE_of {Jf : V → Hp → It → Prop} {it : D → Option (List D)} (hs : Src Jf it) {f : Ev → Res D} {σ : St} {H : Hp} {R : It → Hp → Prop} (h : tI mg W (srcE it f) σ H R) : tV mg W f σ H fun x H1 => ∃ J, Jf x H1 J ∧ R J H1 := by
  obtain ⟨A, Z, O, env, w, r, h⟩ := h
  refine ⟨A, Z, O, env, w, r, ?_⟩
  unfold srcE at h
  cases e : f env with
  | bad => rw [e] at h; exact h
  | err c e1 => rw [e] at h; exact h
  | ok d e1 =>
    rw [e, Res.bind_ok] at h
    intro v H1 ⟨Z1, Ov, Oe, s1, hd, rv, re⟩
    obtain ⟨v', ev, rv⟩ := RepL.one_of rv
    cases ev
    cases c : it d with
    | none => rw [c] at h; exact h.elim
    | some l =>
      rw [c] at h
      obtain ⟨J, hJ, ok⟩ := hs _ _ _ _ _ _ s1.wd.sub rv c
      exact ⟨J, hJ, h J H1 ⟨A, Z1, Ov, Oe, s1, hd, ok, rfl, re⟩⟩
theorem srcN_of {Jf : V → Hp → It → Prop} {it : D → Option (List D)} (hs : Src Jf it) {i : Nat} {σ : St} {H : Hp} {R : It → Hp → Prop} (h : tI mg W (srcN it i) σ H R) : tVar i σ H fun x H1 => ∃ J, Jf x H1 J ∧ R J H1 := by
  obtain ⟨A, Z, O, env, w, r, h⟩ := h
  unfold srcN at h
  cases e : env.at i with
  | dead => rw [e] at h; exact h.elim
  | hole => rw [e] at h; exact h.elim
  | val d fl =>
    rw [e] at h
    obtain ⟨v, O1, O2, e1, rv, hv, h1, h2, hd, r2⟩ := r.take (Ev.at_val e)
    refine ⟨v, e1, ?_⟩
    have h : OutI mg W A Z H O σ R (match it d with
      | some l => if own d = false then .ok (l, none) env else .ok (l, some (i, d, fl)) (env.set i .hole)
      | none => .bad) := h
    cases c : it d with
    | none => rw [c] at h; exact h.elim
    | some l =>
      rw [c] at h
      have h : OutI mg W A Z H O σ R (if own d = false then .ok (l, none) env else .ok (l, some (i, d, fl)) (env.set i .hole)) := h
      by_cases ho : own d = false
      · rw [if_pos ho] at h
        obtain ⟨J, hJ, ok⟩ := hs _ _ f0 _ _ _ w.sub (rv.imm ho) c
        exact ⟨J, hJ, h J H ⟨A, Z, f0, O, (Stp.refl w).drop fun p h => h.elim (fun h => h.elim) id, fun _ h => h.elim, ok, rfl, r⟩⟩
      · rw [if_neg ho] at h
        obtain ⟨J, hJ, ok⟩ := hs _ _ _ _ _ _ w.sub rv c
        refine ⟨J, hJ, h J H ⟨fun j => if j = i then v else A j, Z, O1, O2, (Stp.refl w).drop fun p h => h.elim (h1 p) (h2 p), hd, ok, ⟨fun j hj => if_neg hj, fun hf => (show (if i = i then v else A i) = v from if_pos rfl).trans (hv hf), by show Rep Z H d (if i = i then v else A i) O1; rw [if_pos rfl]; exact rv⟩, ?_⟩⟩
        have r3 : RelS (fun j => if j = i then v else A j) Z H σ (env.set i .dead) O2 := r2.argsAt (fun j hj => (if_neg hj).symm) (.inl (Ev.at_set (Ev.lt_of e (by intro z; cases z))))
        exact r3.put (c := .hole) (O1 := f0) (show σ[i]? = some (some (if i = i then v else A i)) by rw [if_pos rfl]; exact e1) (fun _ h => h.elim) (fun _ h => h) fun _ h => h.elim
theorem PI.imp {tg l : Expr} {t t' : TI} (h : PI X tg l t) (i : ∀ σ H R, t' σ H R → t σ H R) : PI X tg l t' := ⟨fun pins s σ H R I q => h.run pins s σ H R I (i σ H R q)⟩
theorem iv_e {tg e : Expr} {f : Ev → Res D} (h : PE X e (tV X.mg W f)) : PI X tg e (tI X.mg W (srcE itemsD f)) := PI.imp (pi_any h) fun _ _ _ => srcE_of (Jf := JAny X.K) fun _ _ _ _ _ _ => itOk_any
theorem iv_n {tg : Expr} (i : Nat) {x : Str} {pos : Pos} (hN : X.N[i]? = some x := by rfl) (hv : Vis X.env.scope x := by first | exact Or.inl rfl | exact Or.inr (Or.inl rfl) | exact Or.inr (Or.inr rfl)) (hd : (x == ("__debug__" : Str)) = false := by decide)
    (hcd : (x == ("__classdict__" : Str)) = false := by decide) : PI X tg (.Name x pos) (tI X.mg W (srcN itemsD i)) := PI.imp (pi_any (pe_var hN hv hd hcd)) fun _ _ _ => srcN_of (Jf := JAny X.K) fun _ _ _ _ _ _ => itOk_any
/-! ### range -/
def rngD (lo hi : Int) : List D := (List.range (hi - lo).toNat).map fun (i : Nat) => .int (lo + i)
def srcR1 (f : Ev → Res D) (env : Ev) : Res (List D × Bk) := (eInt f env).bind fun d e1 => match d with
  | .int j => if rngOk j = true then .ok (rngD 0 j, none) e1 else .bad
  | _ => .bad
def srcR2 (f g : Ev → Res D) (env : Ev) : Res (List D × Bk) := (eInt f env).bind fun x e1 => (eInt g e1).bind fun d e2 => match x, d with
  | .int i, .int j => if (rngOk i && rngOk j) = true then .ok (rngD i j, none) e2 else .bad
  | _, _ => .bad
theorem itOk_rng {Z H : Hp} {lo hi : Int} : ItOk (Itr lo (hi - lo).toNat) Z H f0 (rngD lo hi) := fun Z' H' i O hz wd hk => by
  refine ⟨fun y hy => ?_, fun hl => by unfold rngD at hl; rw [List.length_map, List.length_range] at hl; exact Nat.le_of_eq hl.symm⟩
  unfold rngD at hy
  rw [List.getElem?_map] at hy
  obtain ⟨c, e1, e2⟩ := Option.map_eq_some_iff.mp hy
  subst e2
  have hi := (List.getElem?_eq_some_iff.mp e1)
  obtain ⟨h1, h2⟩ := hi
  rw [List.getElem_range] at h2
  subst h2
  rw [List.length_range] at h1
  refine ⟨h1, fun x H2 ⟨eh, ex⟩ => ?_⟩
  subst eh ex
  exact ⟨Z', .refl (wd0 wd.sub), rfl⟩
theorem rng_aft {A : Nat → V} {Z H : Hp} {O : Fp} {σ : St} {env : Ev} {ds : List D} {vs : List V} {H' : Hp} {lo hi : Int} (a : Aft A Z H O σ ds env vs H') : AftI A Z H O σ (rngD lo hi) none env (Itr lo (hi - lo).toNat) H' := by
  obtain ⟨Z1, O1, s1, r1⟩ := a.left
  exact ⟨A, Z1, f0, O1, s1.drop fun p h => h.elim (fun h => h.elim) id, fun _ h => h.elim, itOk_rng, rfl, r1⟩
theorem iv_r1 {tg a : Expr} {f : Ev → Res D} {p pos : Pos} (hm : X.mg "range" = none) (ha : PE X a (tV X.mg W f)) (hg : Gl X "range" := by rfl) (hs : starEach [a] X.env = [(false, eval a X.env)] := by rfl) (hs2 : starEach (a :: []) X.env = (false, eval a X.env) :: starEach [] X.env := by rfl) :
    PI X tg (.Call (.Name "range" p) [a] [] pos) (tI X.mg W (srcR1 f)) :=
  PI.imp (pi_range1 hg hm (pa_cons ha pa_nil hs2) hs) fun σ H R h => by
    obtain ⟨A, Z, O, env, w, r, h⟩ := h
    refine ⟨A, Z, O, env, w, r, ?_⟩
    unfold srcR1 eInt at h
    cases e : f env with
    | bad => rw [e] at h; exact h
    | err c e1 => rw [e] at h; exact h
    | ok d e1 =>
      rw [e, Res.bind_ok] at h
      cases d with
      | int j =>
        rw [Res.bind_ok] at h
        have h : OutI X.mg W A Z H O σ R (if rngOk j = true then .ok (rngD 0 j, none) e1 else .bad) := h
        split at h
        · rename_i hj
          have hj := rngOk_of hj
          intro v H1 a
          obtain ⟨Z1, Ov, Oe, s1, hd, rv, re⟩ := id a
          obtain ⟨v', ev, rv⟩ := RepL.one_of rv
          cases ev
          obtain rfl : v = .int j := rv
          refine ⟨j, rfl, hj.1, hj.2, h _ H1 ?_⟩
          have := rng_aft (lo := 0) (hi := j) a
          rw [show (j - 0).toNat = j.toNat by omega] at this
          exact this
        · exact h.elim
      | _ => exact h.elim
theorem iv_r2 {tg a b : Expr} {f g : Ev → Res D} {p pos : Pos} (hm : X.mg "range" = none) (ha : PE X a (tV X.mg W f)) (hb : PE X b (tV X.mg W g)) (hg : Gl X "range" := by rfl) (hs : starEach [a, b] X.env = [(false, eval a X.env), (false, eval b X.env)] := by rfl) (hs2 : starEach [b] X.env = [(false, eval b X.env)] := by rfl)
    (hs3 : starEach (a :: [b]) X.env = (false, eval a X.env) :: starEach [b] X.env := by rfl) (hs4 : starEach (b :: []) X.env = (false, eval b X.env) :: starEach [] X.env := by rfl) :
    PI X tg (.Call (.Name "range" p) [a, b] [] pos) (tI X.mg W (srcR2 f g)) :=
  PI.imp (pi_range2 hg hm (pa_cons ha (pa_cons hb pa_nil hs4) hs3) hs hs2) fun σ H R h => by
    obtain ⟨A, Z, O, env, w, r, h⟩ := h
    refine ⟨A, Z, O, env, w, r, ?_⟩
    unfold srcR2 eInt at h
    cases e : f env with
    | bad => rw [e] at h; exact h
    | err c e1 => rw [e] at h; exact h
    | ok d e1 =>
      rw [e, Res.bind_ok] at h
      cases d with
      | int i =>
        rw [Res.bind_ok] at h
        intro v H1 a
        obtain ⟨Z1, Ov, Oe, s1, hd, rv, re⟩ := id a
        obtain ⟨v', ev, rv⟩ := RepL.one_of rv
        cases ev
        obtain rfl : v = .int i := rv
        have w1 : Wd Z1 H1 Oe := s1.wd.sub' fun p h => .inr h
        refine ⟨A, Z1, Oe, e1, w1, re, ?_⟩
        obtain ⟨Z1', O1', w1', r1', k⟩ := a.forget.start
        cases e2 : g e1 with
        | bad => rw [e2] at h; exact h
        | err c e3 =>
          rw [e2] at h
          intro H' b
          obtain ⟨Z2, O2, s2, r2⟩ := b.left
          have s3 := s1.drop (C := Oe) fun p h => .inr h
          exact h H' ⟨Z2, f0, O2, (s3.trans s2).drop fun p h => h.elim (fun h => h.elim) id, fun _ h => h.elim, rfl, r2⟩
        | ok d2 e3 =>
          rw [e2, Res.bind_ok] at h
          cases d2 with
          | int j =>
            rw [Res.bind_ok] at h
            have h : OutI X.mg W A Z H O σ R (if (rngOk i && rngOk j) = true then .ok (rngD i j, none) e3 else .bad) := h
            split at h
            · rename_i hj
              have hj : (-(2 ^ 62) ≤ i ∧ i < 2 ^ 62) ∧ (-(2 ^ 62) ≤ j ∧ j < 2 ^ 62) := ⟨rngOk_of (Bool.and_eq_true_iff.mp hj).1, rngOk_of (Bool.and_eq_true_iff.mp hj).2⟩
              intro v2 H2 b
              obtain ⟨Z2, Ov2, Oe2, s2, hd2, rv2, re2⟩ := id b
              obtain ⟨v2', ev2, rv2⟩ := RepL.one_of rv2
              cases ev2
              obtain rfl : v2 = .int j := rv2
              refine ⟨i, j, rfl, ⟨hj.1.1, hj.1.2, hj.2.1, hj.2.2⟩, h _ H2 ?_⟩
              have s3 := s1.drop (C := Oe) fun p h => .inr h
              have s4 := s2.drop (C := Oe2) fun p h => .inr h
              exact ⟨A, Z2, f0, Oe2, (s3.trans s4).drop fun p h => h.elim (fun h => h.elim) id, fun _ h => h.elim, itOk_rng, rfl, re2⟩
            · exact h.elim
          | _ => exact h.elim
      | _ => exact h.elim
/-! ### {} -/
def eDict0 (env : Ev) : Res D := .ok (.dk true [] []) env
theorem ev_dict0 {pos : Pos} : PE X (.Dict [] [] pos) (tV X.mg W eDict0) := PE.imp pe_dnewK fun σ H Q h => by
  obtain ⟨A, Z, O, env, w, r, h⟩ := h
  intro p np
  have s := Stp.new_own (u := .dK []) w np
  have nO : ∀ q, O q → q ≠ p := fun q h e => w.al q h (by rw [e]; exact np)
  exact h _ _ ⟨Z, fun q => q = p, O, s.drop fun q h => h.elim .inr .inl, fun q a b => nO q b a, RepL.one ⟨p, [], rfl, rfl, upd_same, rfl, rfl⟩, r.stay (fun _ _ h => h) (fun _ h => h) fun q o a b => by rw [upd_ne (nO q a)]; exact b⟩
/-! ### errors -/
def sRaise (c : Str) (env : Ev) : SRes := .err c env
theorem sv_raise {B newId initId : String} {bmB : List Value} {C : Addr} {x m : Str} {j : Nat} {p p2 pos pos2 : Pos} (F : ExcBaseFacts B newId initId bmB) (q : PySem.W.excIn X.K C bmB newId = true) (gC : X.mg x = some (.ref C)) (kC : PySem.W.keepIn X.K (.ref C) = true) (r : Raises X (.ref C)) (tk : Takes X W) (hc : X.calm = true := by rfl) (hg : Gl X x := by rfl)
    (hdb : (x == ("__debug__" : Str)) = false := by decide) : PS X (.Raise (some (.Call (.Name x p) [.Constant (.str m) j p2] [] pos)) none pos2) (tS X.mg W (sRaise x)) :=
  PS.imp (ps_raise hc tk (pmk_own F q gC kC r hg hdb)) fun E σ H h => by
    obtain ⟨A, Z, O, env, w, r, h⟩ := h
    have e : cadr X.mg x = C := by unfold cadr; rw [gC]
    have h : W (.ref (cadr X.mg x)) none σ H := h σ H ⟨Z, O, .refl w, r⟩
    rw [e] at h
    exact h
end
end VS

/-! VS9: enumerate, zip; try .. except; calls by names; a list within a list, appended to. -/
namespace VS
open PySem PySem.Spec L2
open PyProof.Rows hiding St
open RZ
/-! ### enumerate of a text -/
def ItEs (x : Str) : It :=
  ⟨fun i _ => i < x.cps.size, fun i H v H' => ∃ T c, v = .ref T ∧ H T = none ∧ H' = upd H T (.tup [.int (i : Nat), .str ⟨#[c]⟩]) ∧ x.cps[i]? = some c, fun i _ => i = x.cps.size⟩
theorem turn_enumS {P : Program} {w : World} {K : PySem.W.Frag} {elts : List Expr} {kk : Nat} {tpos : Pos} (e it : Addr) (x : Str) (t : Tok) (ty : String) (hty : ty = "str_ascii_iterator" ∨ ty = "str_iterator") :
    Turn P w K (.Tuple elts kk tpos) (ItEs x) [e, it] e (fun i h => (∃ old, IsEnum h e it ((i : Nat) : Int) old) ∧ h.IsStrIter it ty x t i ∧ e ≠ it) where
  mem := by simp
  obj := fun i h st b hb => by
    obtain ⟨⟨old, he⟩, ⟨o, ho, hc, hd⟩, _⟩ := st
    have e' : b = e ∨ b = it := by simpa using hb
    rcases e' with z | z
    · rw [z]; exact ⟨_, he, fun v q => nomatch q⟩
    · rw [z]; exact ⟨o, ho, fun v q => by rw [hd] at q; cases q⟩
  keep := fun i h h' st k => let ⟨⟨old, he⟩, ⟨o, ho, r⟩, hne⟩ := st; ⟨⟨old, k e (by simp) _ he⟩, ⟨o, k it (by simp) o ho, r⟩, hne⟩
  item := by
    intro X hP hw hK hc i pins s σ H E I hf st hg
    subst hP hw hK
    obtain ⟨⟨old, he⟩, hit, hne⟩ := st
    have hel : e < s.heap.objs.size := Heap.lt_size he
    have hil : it < s.heap.objs.size := by obtain ⟨_, q, _⟩ := hit; exact Heap.lt_size q
    have D : Draws X.prog X.w X.A.in1 it [it] x.cps.size (fun i v => ∃ c u, x.cps[i]? = some c ∧ v = .str ⟨#[c]⟩ u) (fun i h => h.IsStrIter it ty x t i) := by
      rcases hty with q | q
      · rw [q]; exact Draws.strAscii (show X.A.in1.handled = none from I.ok.hd hc) it x t
      · rw [q]; exact Draws.strWide (show X.A.in1.handled = none from I.ok.hd hc) it x t
    refine wpAny_pyNext_enum_itemD D he hit hg hne (by simpa using hne) fun v h' tk hP ho hit' hT hsz hk => ?_
    obtain ⟨c, u, hc1, rfl⟩ := hP
    refine ⟨_, rfl, wpAny_letOwnedTupleGo_enum (s := { s with heap := h', toks := tk + 1 }) ho fun h'' he' sb => ?_⟩
    have hT2 : h''.get? s.heap.objs.size = some { cls := .type "tuple", data := .seq #[.int i tk, .str ⟨#[c]⟩ u] } := (sb.2 _ (Nat.ne_of_gt hel)).trans hT
    have new : ObjOk X.prog X.w (upd H s.heap.objs.size (.tup [.int (i : Nat), .str ⟨#[c]⟩])) h'' s.heap.objs.size (.tup [.int (i : Nat), .str ⟨#[c]⟩]) :=
      ⟨by show 2 ≤ sizeLine; decide, [.int i tk, .str ⟨#[c]⟩ u], .cons ⟨_, rfl⟩ (.cons ⟨_, rfl⟩ .nil), ⟨_, hT2, rfl, _, rfl⟩⟩
    have I1 : Inv X pins σ (upd H s.heap.objs.size (.tup [.int (i : Nat), .str ⟨#[c]⟩])) { s with heap := h'', toks := tk + 1 } :=
      I.turnedNew (ch := [e, it]) (fun b ob hb q => (sb.2 b (fun z => hb (by simp [z]))).trans (hk b ob (fun z => hb (by simp [z])) (fun z => hb (by simp [z])) q)) hf (Nat.le_refl _) new
    refine ⟨.ref s.heap.objs.size, _, I1, rfl, ⟨_, c, rfl, I.hok.fresh (Nat.le_refl _), rfl, hc1⟩, ⟨⟨.str ⟨#[c]⟩ u, ?_⟩, D.frame _ _ _ hit' fun b hb o q => (sb.2 b (fun z => hne (by rw [← z]; simpa using hb))).trans q, hne⟩, fun b hb => ?_⟩
    · have e1 : ((i + 1 : Nat) : Int) = (i : Int) + 1 := by omega
      rw [e1]; exact he'
    · have hb' : b < s.heap.objs.size := by
        have e' : b = e ∨ b = it := by simpa using hb
        rcases e' with z | z
        · rw [z]; exact hel
        · rw [z]; exact hil
      rw [upd_ne (Nat.ne_of_lt hb')]
      exact (hf b hb).1
  done := by
    intro X hP hw hK hc i pins s σ H E I hf st hg
    subst hP hw hK
    obtain ⟨⟨old, he⟩, hit, hne⟩ := st
    obtain ⟨f0, f1, f2, f3, f4, f5⟩ := hf it (by simp)
    have D : Draws X.prog X.w X.A.in1 it [it] x.cps.size (fun i v => ∃ c u, x.cps[i]? = some c ∧ v = .str ⟨#[c]⟩ u) (fun i h => h.IsStrIter it ty x t i) := by
      rcases hty with q | q
      · rw [q]; exact Draws.strAscii (show X.A.in1.handled = none from I.ok.hd hc) it x t
      · rw [q]; exact Draws.strWide (show X.A.in1.handled = none from I.ok.hd hc) it x t
    have ei : i = x.cps.size := hg
    subst ei
    exact wpAny_pyNext_enum_endD D he hit fun h' eb => ⟨rfl, I.turned (t' := s.toks) (fun b o hb q => eb b o hb q) f0 f1 f3 f4 f5⟩
  self := fun A i s Q E st h => let ⟨⟨_, he⟩, _⟩ := st; wpAny_pyIter_enum he h
/-- enumerate(list), enumerate(text) -/
def JEn (K : PySem.W.Frag) (x : V) (H : Hp) (J : It) : Prop := (∃ a, x = .ref a ∧ (∃ xs, SqL K H a xs) ∧ J = Ite K a) ∨ ∃ z, x = .str z ∧ J = ItEs z
def iEnA (K : PySem.W.Frag) (ta : TA) : TI := fun σ H R => ta σ H fun vs H1 => ∃ x J, vs = [x] ∧ JEn K x H1 J ∧ R J H1
theorem pi_enA {X : Cx} {e : Expr} {ta : TA} {p pos tpos : Pos} {elts : List Expr} {kk : Nat} (hg : Gl X "enumerate") (hm : X.mg "enumerate" = none) (ha : PA X [e] ta) (hs : starEach [e] X.env = [(false, eval e X.env)] := by rfl) :
    PI X (.Tuple elts kk tpos) (.Call (.Name "enumerate" p) [e] [] pos) (iEnA X.K ta) := by
  refine ⟨fun pins s σ H R I h => ?_⟩
  refine Call_ (ld_blt I hg hm boot_enumerate (PyProof.Rows.callWith_type1 (thn (ha.run pos pins s σ H _ I h) fun us s1 ⟨vs, H1, I1, r1, q1⟩ => ?_) hs rfl))
  obtain ⟨x, J, ex, hJ, q⟩ := q1
  subst ex
  cases r1 with
  | cons r rr =>
    cases rr
    have fresh : ∀ b, b ∈ [s1.heap.objs.size + 1, s1.heap.objs.size] → FpOk X pins H1 b := fun b hb => by
      have e' : b = s1.heap.objs.size + 1 ∨ b = s1.heap.objs.size := by simpa using hb
      have hle : s1.heap.objs.size ≤ b := by
        rcases e' with z | z
        · rw [z]; exact Nat.le_add_right _ _
        · rw [z]; exact Nat.le_refl _
      exact I1.fpOk hle (I1.hok.fresh hle)
    rcases hJ with ⟨a, e, ⟨xs, hq⟩, eJ⟩ | ⟨z, e, eJ⟩
    · subst e eJ
      cases r
      obtain ⟨its, rv, p', hz⟩ := I1.list hq
      refine call_enumerate_list p'.isList fun h' he hit hsz hk => wpAny_pyIter_enum he ?_
      have I2 : Inv X pins σ H1 { s1 with heap := h' } := I1.kept (t' := s1.toks) hk
      exact ⟨s1.heap.objs.size + 1, [s1.heap.objs.size + 1, s1.heap.objs.size], _, _, H1, rfl, I2, turn_enum a (s1.heap.objs.size + 1) s1.heap.objs.size, ⟨⟨.none, he⟩, hit, Nat.succ_ne_self _⟩, fresh, q⟩
    · subst e eJ
      obtain ⟨t, rfl⟩ := r
      refine call_enumerate_str fun h' he hit hsz hk => wpAny_pyIter_enum he ?_
      have I2 : Inv X pins σ H1 { s1 with heap := h' } := I1.kept (t' := s1.toks) hk
      have hty : strIterType z = "str_ascii_iterator" ∨ strIterType z = "str_iterator" := by unfold strIterType; split <;> simp
      exact ⟨s1.heap.objs.size + 1, [s1.heap.objs.size + 1, s1.heap.objs.size], _, _, H1, rfl, I2, turn_enumS (s1.heap.objs.size + 1) s1.heap.objs.size z t _ hty, ⟨⟨.none, he⟩, hit, Nat.succ_ne_self _⟩, fresh, q⟩
def enD (l : List D) : List D := l.zipIdx.map fun q => .tup [.int (q.2 : Nat), q.1]
def itemsEn : D → Option (List D)
  | .str x => some (enD (x.cps.toList.map fun c => .str ⟨#[c]⟩))
  | .lst _ l => if ownL l = false then some (enD l) else none
  | .scr ns => some (enD (ns.map .int))
  | _ => none
theorem enD_get {l : List D} {i : Nat} {d : D} (h : (enD l)[i]? = some d) : ∃ y, l[i]? = some y ∧ d = .tup [.int (i : Nat), y] := by
  unfold enD at h
  rw [List.getElem?_map] at h
  obtain ⟨q, e1, e2⟩ := Option.map_eq_some_iff.mp h
  rw [List.getElem?_zipIdx] at e1
  obtain ⟨y, e3, e4⟩ := Option.map_eq_some_iff.mp e1
  subst e4 e2
  exact ⟨y, e3, by simp⟩
theorem enD_len (l : List D) : (enD l).length = l.length := by unfold enD; simp
theorem rep_pair {Z H : Hp} {T : Addr} {a b : D} {v u : V} (wd : ∀ p o, Z p = some o → H p = some o) (n : H T = none) (r1 : Rep Z H a v f0) (r2 : Rep Z H b u f0) : ∃ Z', Stp Z H f0 Z' (upd H T (.tup [v, u])) f0 ∧ Rep Z' (upd H T (.tup [v, u])) (.tup [a, b]) (.ref T) f0 := by
  have s := Stp.new_shared (u := .tup [v, u]) (wd0 wd) n
  refine ⟨_, s, T, [v, u], rfl, upd_same, v, [u], f0, f0, rfl, fun _ h => h, fun _ h => h, fun _ h => h.elim, r1.stay s.ext (fun _ h => h) fun _ _ h => h.elim, u, [], f0, f0, rfl, fun _ h => h, fun _ h => h, fun _ h => h.elim, r2.stay s.ext (fun _ h => h) fun _ _ h => h.elim, rfl⟩
theorem src_en {K : PySem.W.Frag} : Src (JEn K) itemsEn := by
  intro Z H Oh d l v w r e
  have seq : ∀ l', seqD d = some l' → isL d = true → ownL l' = false → l = enD l' → ∃ J, JEn K v H J ∧ ItOk J Z H Oh l := fun l' es hb ho el => by
    subst el
    obtain ⟨p, vs, O1, e1, q1, hs⟩ := rep_seq (K := K) w r es
    refine ⟨Ite K p, .inl ⟨p, e1, ?_, rfl⟩, fun Z' H' i O hz wd hk => ?_⟩
    · rcases hs with ⟨_, h⟩ | ⟨h, _⟩
      · exact ⟨vs, h⟩
      · rw [hb] at h; cases h
    · have r' := r.stay hz (fun _ h => h) hk
      obtain ⟨p', us, O1', e1', q1', hs'⟩ := rep_seq (K := K) wd.sub r' es
      rw [e1] at e1'
      cases e1'
      have h2 : SqL K H' p us := hs'.elim (fun h => h.2) fun h => by have := h.1; rw [hb] at this; cases this
      refine ⟨fun y hy => ?_, fun hi => ⟨us, h2, by rw [RepL.len q1', hi, enD_len]; exact Nat.le_refl _⟩⟩
      obtain ⟨y0, ey, ed⟩ := enD_get hy
      subst ed
      obtain ⟨u, O', eu, ru, _⟩ := q1'.get ey
      have ho' : own y0 = false := (ownL_mem.mp ho) y0 (List.mem_of_getElem? ey)
      refine ⟨⟨us, u, h2, eu⟩, fun x H2 ⟨T, x', ex, nT, eH, hx⟩ => ?_⟩
      subst ex eH
      have ex' := hx us h2
      rw [eu] at ex'
      cases ex'
      exact rep_pair wd.sub nT rfl (ru.imm ho')
  unfold itemsEn at e
  split at e
  · rename_i x
    cases e
    obtain rfl : v = .str x := r
    refine ⟨ItEs x, .inr ⟨x, rfl, rfl⟩, fun Z' H' i O hz wd hk => ⟨fun y hy => ?_, fun hi => by show i = x.cps.size; rw [hi, enD_len]; simp⟩⟩
    obtain ⟨y0, ey, ed⟩ := enD_get hy
    rw [List.getElem?_map] at ey
    obtain ⟨c, e1, e2⟩ := Option.map_eq_some_iff.mp ey
    subst e2 ed
    have hi : i < x.cps.size := by have := (List.getElem?_eq_some_iff.mp e1).1; simpa using this
    refine ⟨hi, fun y H2 ⟨T, c', ex, nT, eH, hc⟩ => ?_⟩
    subst ex eH
    have : c = c' := by rw [← Array.getElem?_toList, e1] at hc; exact Option.some.inj hc
    subst this
    exact rep_pair wd.sub nT rfl rfl
  · rename_i fl l'
    split at e
    · rename_i ho
      exact seq l' rfl rfl ho (Option.some.inj e).symm
    · cases e
  · rename_i ns
    exact seq _ rfl rfl (ownL_ints ns) (Option.some.inj e).symm
  · cases e
section
variable {X : Cx} {W : WX} {mg : Str → Option Value}
theorem iv_enE {e : Expr} {f : Ev → Res D} {p pos tpos : Pos} {elts : List Expr} {kk : Nat} (hm : X.mg "enumerate" = none) (he : PE X e (tV X.mg W f)) (hg : Gl X "enumerate" := by rfl) (hs : starEach [e] X.env = [(false, eval e X.env)] := by rfl) (hs2 : starEach (e :: []) X.env = (false, eval e X.env) :: starEach [] X.env := by rfl) :
    PI X (.Tuple elts kk tpos) (.Call (.Name "enumerate" p) [e] [] pos) (tI X.mg W (srcE itemsEn f)) :=
  PI.imp (pi_enA hg hm (pa_cons he pa_nil hs2) hs) fun σ H R h => tV_mono (srcE_of (src_en (K := X.K)) h) fun x H1 ⟨J, hJ, q⟩ => ⟨x, J, rfl, hJ, q⟩
theorem iv_enN {x : Str} {px p pos tpos : Pos} {elts : List Expr} {kk : Nat} (i : Nat) (hm : X.mg "enumerate" = none) (hN : X.N[i]? = some x := by rfl) (hv : Vis X.env.scope x := by first | exact Or.inl rfl | exact Or.inr (Or.inl rfl) | exact Or.inr (Or.inr rfl)) (hd : (x == ("__debug__" : Str)) = false := by decide)
    (hcd : (x == ("__classdict__" : Str)) = false := by decide) (hg : Gl X "enumerate" := by rfl) (hs : starEach [.Name x px] X.env = [(false, eval (.Name x px) X.env)] := by rfl) (hs2 : starEach (.Name x px :: []) X.env = (false, eval (.Name x px) X.env) :: starEach [] X.env := by rfl) :
    PI X (.Tuple elts kk tpos) (.Call (.Name "enumerate" p) [.Name x px] [] pos) (tI X.mg W (srcN itemsEn i)) :=
  PI.imp (pi_enA hg hm (pa_cons (pe_var hN hv hd hcd) pa_nil hs2) hs) fun σ H R h => by
    obtain ⟨v, e, J, hJ, q⟩ := srcN_of (src_en (K := X.K)) h
    exact ⟨v, e, v, J, rfl, hJ, q⟩
/-! ### zip -/
def zipD (l m : List D) : List D := (l.zip m).map fun q => .tup [q.1, q.2]
def srcZip (g : Ev → Res (List D)) (env : Ev) : Res (List D × Bk) := (g env).bind fun ds e1 => match ds with
  | [.lst _ l, .lst _ m] => if ownL l = false ∧ ownL m = false then .ok (zipD l m, none) e1 else .bad
  | [.tup l, .tup m] => if ownL l = false ∧ ownL m = false then .ok (zipD l m, none) e1 else .bad
  | _ => .bad
theorem zipD_get {l m : List D} {i : Nat} {d : D} (h : (zipD l m)[i]? = some d) : ∃ x y, l[i]? = some x ∧ m[i]? = some y ∧ d = .tup [x, y] := by
  unfold zipD at h
  rw [List.getElem?_map] at h
  obtain ⟨q, e1, e2⟩ := Option.map_eq_some_iff.mp h
  rw [List.getElem?_zip_eq_some] at e1
  exact ⟨q.1, q.2, e1.1, e1.2, e2.symm⟩
theorem zipD_len (l m : List D) : (zipD l m).length = min l.length m.length := by unfold zipD; simp
theorem zip_of {K : PySem.W.Frag} {g : Ev → Res (List D)} {σ : St} {H : Hp} {R : It → Hp → Prop} (h : tI mg W (srcZip g) σ H R) : tA mg W g σ H fun vs H1 => ∃ a b xs ys, vs = [.ref a, .ref b] ∧ ((SqL K H1 a xs ∧ SqL K H1 b ys ∧ R (Itz K a b) H1) ∨ (SqT K H1 a xs ∧ SqT K H1 b ys ∧ R (ItzT K a b) H1)) := by
  obtain ⟨A, Z, O, env, w, r, h⟩ := h
  refine ⟨A, Z, O, env, w, r, ?_⟩
  unfold srcZip at h
  cases e : g env with
  | bad => rw [e] at h; exact h
  | err c e1 => rw [e] at h; exact h
  | ok ds e1 =>
    rw [e, Res.bind_ok] at h
    intro vs H1 ⟨Z1, Ov, Oe, s1, hd, rv, re⟩
    split at h
    · rename_i ds0 f1 l f2 m
      split at h
      · rename_i ho
        obtain ⟨v, vr, O1, O2, ev, g1, g2, g3, r1, r2⟩ := rv
        obtain ⟨u, eu, r3⟩ := RepL.one_of r2
        subst ev eu
        obtain ⟨p, xs, P1, e1, h1, q1⟩ := rep_lstH s1.wd.sub r1
        obtain ⟨p2, ys, P2, e2, h2, q2⟩ := rep_lstH s1.wd.sub r3
        subst e1 e2
        refine ⟨p, p2, xs, ys, rfl, .inl ⟨SqL.of h1, SqL.of h2, h _ H1 ⟨A, Z1, Ov, Oe, s1, hd, fun Z' H' i O hz wd hk => ?_, rfl, re⟩⟩⟩
        have k1 := r1.stay hz (fun _ h => h) fun q o a b => hk q o (g1 q a) b
        have k2 := r3.stay hz (fun _ h => h) fun q o a b => hk q o (g2 q a) b
        obtain ⟨p', xs', P1', e1', h1', q1'⟩ := rep_lstH wd.sub k1
        obtain ⟨p2', ys', P2', e2', h2', q2'⟩ := rep_lstH wd.sub k2
        cases e1'
        cases e2'
        refine ⟨fun y hy => ?_, fun hi => ⟨xs', ys', SqL.of h1', SqL.of h2', ?_⟩⟩
        · obtain ⟨x, y', a1, a2, a3⟩ := zipD_get hy
          subst a3
          obtain ⟨v1, _, b1, c1, _⟩ := q1'.get a1
          obtain ⟨v2, _, b2, c2, _⟩ := q2'.get a2
          refine ⟨⟨xs', ys', v1, v2, SqL.of h1', SqL.of h2', b1, b2⟩, fun z H2 ⟨T, z1, z2, ez, nT, eH, f1, f2⟩ => ?_⟩
          subst ez eH
          have x1 := f1 xs' (SqL.of h1'); rw [b1] at x1; cases x1
          have x2 := f2 ys' (SqL.of h2'); rw [b2] at x2; cases x2
          exact rep_pair wd.sub nT (c1.imm ((ownL_mem.mp ho.1) _ (List.mem_of_getElem? a1))) (c2.imm ((ownL_mem.mp ho.2) _ (List.mem_of_getElem? a2)))
        · rw [RepL.len q1', RepL.len q2', hi, zipD_len]; omega
      · exact h.elim
    · rename_i ds0 l m
      split at h
      · rename_i ho
        obtain ⟨v, vr, O1, O2, ev, g1, g2, g3, r1, r2⟩ := rv
        obtain ⟨u, eu, r3⟩ := RepL.one_of r2
        subst ev eu
        obtain ⟨p, xs, e1, h1, q1⟩ := id r1
        obtain ⟨p2, ys, e2, h2, q2⟩ := id r3
        subst e1 e2
        refine ⟨p, p2, xs, ys, rfl, .inr ⟨SqT.of (s1.wd.sub _ _ h1), SqT.of (s1.wd.sub _ _ h2), h _ H1 ⟨A, Z1, Ov, Oe, s1, hd, fun Z' H' i O hz wd hk => ?_, rfl, re⟩⟩⟩
        have k1 := r1.stay hz (fun _ h => h) fun q o a b => hk q o (g1 q a) b
        have k2 := r3.stay hz (fun _ h => h) fun q o a b => hk q o (g2 q a) b
        obtain ⟨p', xs', e1', h1', q1'⟩ := k1
        obtain ⟨p2', ys', e2', h2', q2'⟩ := k2
        cases e1'
        cases e2'
        have h1' : SqT K H' p xs' := SqT.of (wd.sub _ _ h1')
        have h2' : SqT K H' p2 ys' := SqT.of (wd.sub _ _ h2')
        refine ⟨fun y hy => ?_, fun hi => ⟨xs', ys', h1', h2', ?_⟩⟩
        · obtain ⟨x, y', a1, a2, a3⟩ := zipD_get hy
          subst a3
          obtain ⟨v1, _, b1, c1, _⟩ := q1'.get a1
          obtain ⟨v2, _, b2, c2, _⟩ := q2'.get a2
          refine ⟨⟨xs', ys', v1, v2, h1', h2', b1, b2⟩, fun z H2 ⟨T, z1, z2, ez, nT, eH, f1, f2⟩ => ?_⟩
          subst ez eH
          have x1 := f1 xs' h1'; rw [b1] at x1; cases x1
          have x2 := f2 ys' h2'; rw [b2] at x2; cases x2
          exact rep_pair wd.sub nT (c1.imm ((ownL_mem.mp ho.1) _ (List.mem_of_getElem? a1))) (c2.imm ((ownL_mem.mp ho.2) _ (List.mem_of_getElem? a2)))
        · rw [RepL.len q1', RepL.len q2', hi, zipD_len]; omega
      · exact h.elim
    · exact h.elim
theorem iv_zip {e e2 : Expr} {f g : Ev → Res D} {p pos tpos : Pos} {elts : List Expr} {kk : Nat} (hm : X.mg "zip" = none) (he : PE X e (tV X.mg W f)) (he2 : PE X e2 (tV X.mg W g)) (hg : Gl X "zip" := by rfl)
    (hs : starEach [e, e2] X.env = (false, eval e X.env) :: starEach [e2] X.env := by rfl) (hs2 : starEach (e2 :: []) X.env = (false, eval e2 X.env) :: starEach [] X.env := by rfl) (hpl : (backTo pos (starEach [e2] X.env)).any (·.1) = false := by rfl) :
    PI X (.Tuple elts kk tpos) (.Call (.Name "zip" p) [e, e2] [] pos) (tI X.mg W (srcZip (aCons f (aCons g aNil)))) :=
  PI.imp (pi_zipA hg hm (av_cons he (av_cons he2 av_nil hs2) hs) hs hpl) fun _ _ _ h => zip_of h
/-! ### a list within a list is appended to -/
theorem RepL.upd0 {Z H : Hp} : ∀ {l : List D} {vs : List V} {O : Fp} {j : Nat} {x : D}, RepL Z H l vs O → l[j]? = some x → ∃ v Ox, vs[j]? = some v ∧ Rep Z H x v Ox ∧ (∀ q, Ox q → O q) ∧
    ∀ (x' : D) (H' : Hp) (On : Fp), Rep Z H' x' v On → (∀ q, On q → O q → Ox q) → (∀ q o, O q → ¬ Ox q → H q = some o → H' q = some o) → RepL Z H' (l.set j x') vs (fun q => (O q ∧ ¬ Ox q) ∨ On q)
  | [], _, _, _, _, r, h => by simp at h
  | d :: l, _, O, 0, _, ⟨v, vr, O1, O2, e, h1, h2, h3, r1, r2⟩, h => by
    subst e
    rw [List.getElem?_cons_zero] at h
    cases h
    refine ⟨v, O1, rfl, r1, h1, fun x' H' On rn hn hk => ⟨v, vr, On, O2, rfl, fun q h => .inr h, fun q h => .inl ⟨h2 q h, fun z => h3 q z h⟩, fun q a b => h3 q (hn q a (h2 q b)) b, rn, RepL.stay (fun _ _ h => h) r2 (fun _ h => h) fun q o a b => hk q o (h2 q a) (fun z => h3 q z a) b⟩⟩
  | d :: l, _, O, j + 1, x, ⟨v, vr, O1, O2, e, h1, h2, h3, r1, r2⟩, h => by
    subst e
    rw [List.getElem?_cons_succ] at h
    obtain ⟨u, Ox, a1, a2, a3, a4⟩ := RepL.upd0 r2 h
    refine ⟨u, Ox, by rw [List.getElem?_cons_succ]; exact a1, a2, fun q h => h2 q (a3 q h), fun x' H' On rn hn hk => ?_⟩
    have t := a4 x' H' On rn (fun q a b => hn q a (h2 q b)) fun q o a b c => hk q o (h2 q a) b c
    refine ⟨v, vr, O1, fun q => (O2 q ∧ ¬ Ox q) ∨ On q, rfl, fun q h => .inl ⟨h1 q h, fun z => h3 q h (a3 q z)⟩, fun q h => h.elim (fun h => .inl ⟨h2 q h.1, h.2⟩) .inr, fun q a b => b.elim (fun b => h3 q a b.1) fun b => h3 q a (a3 q (hn q b (h1 q a))), r1.stay (fun _ _ h => h) (fun _ h => h) fun q o a b => hk q o (h1 q a) (fun z => h3 q a (a3 q z)) b, t⟩
/-- xs[j].append(e), e without own parts -/
def eAppendIn (i j : Nat) (f : Ev → Res D) (env : Ev) : Res D := match env.at i with
  | .val (.lst true l0) _ => (match l0[j]? with
    | some (.lst true _) => (f env).bind fun d e1 => match e1.at i with
      | .val (.lst true l) fl => (match l[j]? with
        | some (.lst true m) => if m.length < 10000000 ∧ own d = false then .ok .non (e1.set i (.val (.lst true (l.set j (.lst true (m ++ [d])))) fl)) else .bad
        | _ => .bad)
      | _ => .bad
    | _ => .bad)
  | _ => .bad
end
end VS

/-! VS10: a list within a list, appended to; try .. except; calls by names; the law's end. -/
namespace VS
open PySem PySem.Spec L2
open PyProof.Rows hiding St
section
variable {X : Cx} {W : WX} {mg : Str → Option Value}
/-- xs[j].append('z') -/
def eAppIn (i j : Nat) (z : Str) (env : Ev) : Res D := match env.at i with
  | .val (.lst true l) fl => (match l[j]? with
    | some (.lst true m) => if m.length < 10000000 then .ok .non (env.set i (.val (.lst true (l.set j (.lst true (m ++ [.str z])))) fl)) else .bad
    | _ => .bad)
  | _ => .bad
theorem appIn_of {i j : Nat} {z : Str} {σ : St} {H : Hp} {Q : VK} {K : PySem.W.Frag} (h : tV mg W (eAppIn i j z) σ H Q) : tBM K "list" rAppend (tOp (rIxL K) (tVar i) (tC (.int (j : Nat)))) (tCons (tC (.str z)) tNil) σ H Q := by
  obtain ⟨A, Z, O, env, w, r, h⟩ := h
  unfold eAppIn at h
  split at h
  · rename_i l fl e0
    split at h
    · rename_i m e2
      split at h
      · rename_i hm
        obtain ⟨p, vs, O1, O2, e1, hp, rl, op, h1, h2, hd, r2, hv⟩ := r.lst e0
        obtain ⟨v, Ox, a1, ⟨q, us, ev, oq, hq, rm⟩, a3, a4⟩ := RepL.upd0 rl e2
        subst ev
        have nq : q ≠ p := (a3 q oq).2
        have hqO : O q := h1 q (a3 q oq).1
        have hl : us.length = m.length := RepL.len rm
        refine ⟨.ref p, e1, p, vs, (j : Nat), .ref q, rfl, rfl, SqL.of hp, atI_nat a1, tyV_list hq, q, us, .str z, rfl, rfl, hq, by rw [hl]; exact Nat.lt_trans hm (by rw [sizeLine_eq]; decide), ?_⟩
        have sw := Stp.write (u := .lst (us ++ [.str z])) w (p := q) hqO
        have keepNe : ∀ {R : Fp}, (∀ b, R b → b ≠ q) → ∀ b o, R b → H b = some o → (upd H q (.lst (us ++ [.str z]))) b = some o := fun n b o c d => by rw [upd_ne (n b c)]; exact d
        have rn : Rep Z (upd H q (.lst (us ++ [.str z]))) (.lst true (m ++ [.str z])) (.ref q) Ox := by
          refine ⟨q, us ++ [.str z], rfl, oq, upd_same, ?_⟩
          have rm' := rm.stay (fun _ _ h => h) (fun _ h => h) (keepNe fun b hb => hb.2)
          exact RepL.append rm' (RepL.one (O := f0) rfl) (fun _ _ h => h.elim) (fun _ h => h) fun _ h => h.elim
        have t := a4 _ _ _ rn (fun _ h _ => h) fun b o hb nb e => keepNe (R := fun b => ¬ Ox b) (fun b nb e => nb (by rw [e]; exact oq)) b o nb e
        refine h _ _ ⟨Z, f0, O, sw.drop fun b hb => hb.elim (fun h => h.elim) id, fun _ h => h.elim, RepL.one rfl, ?_⟩
        have n2 : ∀ b, O2 b → b ≠ q := fun b hb e => hd q (a3 q oq).1 (by rw [← e]; exact hb)
        refine (r2.stay (fun _ _ h => h) (fun _ h => h) (keepNe n2)).put (c := .val (.lst true (l.set j (.lst true (m ++ [.str z])))) fl) (O1 := O1) ⟨.ref p, e1, ⟨p, vs, rfl, op, by rw [upd_ne (Ne.symm nq)]; exact hp, RepL.stay (fun _ _ h => h) t (fun b hb => ?_) fun _ _ _ h => h⟩, hv⟩ h1 h2 hd
        rcases hb with hb | hb
        · exact hb.1
        · exact a3 b hb
      · exact h.elim
    · exact h.elim
  · exact h.elim
theorem ev_appIn {x z : Str} {j : Nat} {jj zj : Nat} {kk px ip apos cpos zp : Pos} (i : Nat) (hN : X.N[i]? = some x := by rfl) (hv : Vis X.env.scope x := by first | exact Or.inl rfl | exact Or.inr (Or.inl rfl) | exact Or.inr (Or.inr rfl)) (hd : (x == ("__debug__" : Str)) = false := by decide)
    (hcd : (x == ("__classdict__" : Str)) = false := by decide) (hps : PlainIx (.Constant (.int (j : Nat)) jj ip) := by intro _ _; rfl)
    (hbase : attributeBase (.Subscript (.Name x px) (.Constant (.int (j : Nat)) jj ip) kk) "append" X.env (eval (.Subscript (.Name x px) (.Constant (.int (j : Nat)) jj ip) kk) X.env) = eval (.Subscript (.Name x px) (.Constant (.int (j : Nat)) jj ip) kk) X.env := by rfl)
    (hfew : ((backTo cpos (starEach (.Constant (.str z) zj zp :: []) X.env)).all (fun x => !x.1) && (backToKw cpos (keywordEach [] X.env)).all (fun x => x.1.isSome)
      && decide ((Expr.Constant (.str z) zj zp :: []).length + ([] : List Keyword).length + (if ([] : List Keyword).isEmpty then 0 else 1) < 30)) = true := by rfl)
    (hline : (apos.endLine == cpos.line) = true := by rfl) (hs : starEach (.Constant (.str z) zj zp :: []) X.env = (false, eval (.Constant (.str z) zj zp) X.env) :: starEach [] X.env := by rfl) (hplain : (backTo cpos (starEach [] X.env)).any (·.1) = false := by rfl) :
    PE X (.Call (.Attribute (.Subscript (.Name x px) (.Constant (.int (j : Nat)) jj ip) kk) "append" apos) [.Constant (.str z) zj zp] [] cpos) (tV X.mg W (eAppIn i j z)) :=
  PE.imp (pe_bm PySem.F.plainAttrs_list PySem.F.slot_list_append PySem.F.type_list_append mt_append (pe_ix ix_list (pe_var hN hv hd hcd) pe_int hps) (pa_cons pe_str pa_nil hs) hbase hfew hline hs hplain) fun _ _ _ h => appIn_of h
end
end VS

/-! VS11: try .. except, the caught error looked at; calls by names. -/
namespace VS
open PySem PySem.Spec L2
open PyProof.Rows hiding St
/-! ### f(k = e, ..), all by names -/
def eCallK (F : List D → FRes) (pm : List Nat) (g : Ev → Res (List D)) (env : Ev) : Res D := (g env).bind fun ds e1 => if ownL ds = false ∧ ds.length = pm.length then (match F (pm.map fun k => ds.getD k .non) with
  | .ok d _ => .ok d e1
  | .err c _ => .err c e1
  | .bad => .bad) else .bad
theorem repL_perm {Z H : Hp} {ds : List D} {vs : List V} {O : Fp} (r : RepL Z H ds vs O) (ho : ownL ds = false) : ∀ pm : List Nat, RepL Z H (pm.map fun k => ds.getD k .non) (pm.map fun k => vs.getD k .non) f0
  | [] => rfl
  | k :: pm => by
    refine ⟨_, _, f0, f0, rfl, fun _ h => h, fun _ h => h, fun _ h => h.elim, ?_, repL_perm r ho pm⟩
    show Rep Z H (ds.getD k .non) (vs.getD k .non) f0
    rw [List.getD_eq_getElem?_getD, List.getD_eq_getElem?_getD]
    cases e : ds[k]? with
    | none =>
      have : vs[k]? = none := by rw [List.getElem?_eq_none_iff] at e ⊢; rw [RepL.len r]; exact e
      rw [this]; exact rfl
    | some d =>
      obtain ⟨v, O', e1, r1, _⟩ := r.get e
      rw [e1]
      exact r1.imm ((ownL_mem.mp ho) _ (List.mem_of_getElem? e))
theorem vals_perm {vs : List V} {us : List Value} (r : Vals vs us) : ∀ pm : List Nat, Vals (pm.map fun k => vs.getD k .non) (pm.map fun k => us.getD k .none)
  | [] => .nil
  | k :: pm => by
    refine .cons ?_ (vals_perm r pm)
    show L2.RelV (vs.getD k .non) (us.getD k .none)
    rw [List.getD_eq_getElem?_getD, List.getD_eq_getElem?_getD]
    cases e : vs[k]? with
    | none =>
      have : us[k]? = none := by rw [List.getElem?_eq_none_iff] at e ⊢; rw [← r.length]; exact e
      rw [this]; exact rfl
    | some v =>
      obtain ⟨w, e1, r1⟩ := r.get e
      rw [e1]; exact r1
section
variable {X : Cx} {W : WX} {mg : Str → Option Value}
theorem PK.imp {kws : List Keyword} {t t' : TA} (h : PK X kws t) (i : ∀ σ H Q, t' σ H Q → t σ H Q) : PK X kws t' := ⟨fun pos pins s σ H Q I q => h.run pos pins s σ H Q I (i σ H Q q)⟩
theorem kv_nil : PK X [] (tA X.mg W aNil) := PK.imp pk_nil fun _ _ _ => tNil_of
theorem kv_cons {e : Expr} {nm : Option Str} {kpos : Pos} {kws : List Keyword} {f : Ev → Res D} {g : Ev → Res (List D)} (h : PE X e (tV X.mg W f)) (hr : PK X kws (tA X.mg W g)) : PK X (⟨nm, e, kpos⟩ :: kws) (tA X.mg W (aCons f g)) := PK.imp (pk_cons h hr) fun _ _ _ => tCons_of
theorem callK_of {F : List D → FRes} {pm : List Nat} {g : Ev → Res (List D)} {σ : St} {H : Hp} {Q : VK} (h : tV mg W (eCallK F pm g) σ H Q) : tA mg W g σ H fun zs H1 => zs.length = pm.length ∧ spV mg pm.length F (pm.map fun k => zs.getD k .non) H1 Q (WE W σ) := by
  obtain ⟨A, Z, O, env, w, r, h⟩ := h
  refine ⟨A, Z, O, env, w, r, ?_⟩
  unfold eCallK at h
  cases e : g env with
  | bad => rw [e] at h; exact h
  | err c e1 => rw [e] at h; exact h
  | ok ds e1 =>
    rw [e, Res.bind_ok] at h
    split at h
    · rename_i ho
      intro zs H1 ⟨Z1, Ov, Oe, s1, hd, rv, re⟩
      have rp := repL_perm rv ho.1 pm
      refine ⟨by rw [RepL.len rv]; exact ho.2, Z1, f0, _, s1.wd.sub' (fun _ h => h.elim), rp, by simp, ?_⟩
      cases c : F (pm.map fun k => ds.getD k .non) with
      | bad => rw [c] at h; exact h
      | ok d bs =>
        rw [c] at h
        rintro v H2 ⟨Z2, Pv, Pb, s2, d2, rv2, rb⟩
        have w1 : Wd Z1 H1 Oe := s1.wd.sub' fun p h => .inr h
        have n0 : ∀ p, f0 p → Oe p → False := fun _ h => h.elim
        have s3 := s2.frame s1.wd (D' := fun p => Pv p ∨ Oe p) (R := Oe) (fun p h => h.elim) (fun p h => .inr h) n0 fun p h => h.elim (fun h => .inl (.inl h)) .inr
        exact h v H2 ⟨Z2, Pv, Oe, s1.trans s3, fun p a b => s2.frame_disj w1 (fun p h => h) n0 p (.inl a) b, RepL.one rv2, s2.rel re n0⟩
      | err c2 bs =>
        rw [c] at h
        rintro H2 ⟨Z2, Pb, s2, rb⟩
        have w1 : Wd Z1 H1 Oe := s1.wd.sub' fun p h => .inr h
        have n0 : ∀ p, f0 p → Oe p → False := fun _ h => h.elim
        have s3 := s2.frame s1.wd (D' := fun p => f0 p ∨ Oe p) (R := Oe) (fun p h => h.elim) (fun p h => .inr h) n0 fun p h => h.elim (fun h => h.elim) .inr
        exact h H2 ⟨Z2, f0, Oe, s1.trans s3, fun _ h => h.elim, rfl, s2.rel re n0⟩
    · exact h.elim
variable {k n : Nat} {f : Addr} {fd : FuncData} {ps ks : List Str} {F : List D → FRes} {x : Str} {p pos : Pos} {kws : List Keyword} {pm : List Nat} {g : Ev → Res (List D)}
theorem ev_callK (G : FnOkG X.prog X.w X.K X.mg X.base k f fd ps (spV X.mg n F)) (hr : RoomG k X.A) (hm : X.mg x = some (.ref f)) (hk : PySem.W.keepIn X.K (.ref f) = true) (hb : ∀ ws : List Value, ws.length = pm.length → bindArgs fd ⟨[], ks.zip ws⟩ = pure (ps.zip (pm.map fun k => ws.getD k .none))) (tk : Takes X W)
    (hkw : PK X kws (tA X.mg W g)) (hn : pm.length = n := by rfl) (hg : Gl X x := by rfl) (hdb : (x == ("__debug__" : Str)) = false := by decide) (hall : (backToKw pos (keywordEach kws X.env)).all (·.1.isSome) = true := by rfl) (hks : (backToKw pos (keywordEach kws X.env)).filterMap (·.1) = ks := by rfl) (hpl : ((backTo pos (starEach [] X.env)).any (·.1) || (backToKw pos (keywordEach kws X.env)).any (·.1.isNone)) = false := by rfl) :
    PE X (.Call (.Name x p) [] kws pos) (tV X.mg W (eCallK F pm g)) := by
  subst hn
  refine ⟨fun pins s σ H Q I h => ?_⟩
  have h := callK_of h
  refine wpAny_Call_Name_kw (ld_glob I hg hm ?_ hdb)
  refine PySem.W.callWith_KW0 (h₀ := X.base) I.ok.mod.kin hk hall (thn (hkw.run pos pins s σ H _ I h) fun ws s2 ⟨zs, H2, I2, rz, hl0, q2⟩ => ⟨I2.kIn, ?_⟩) hpl
  rw [hks]
  have hl : ws.length = pm.length := by rw [← rz.length]; exact hl0
  have r2 := vals_perm rz pm
  have hl2 : (pm.map fun k => ws.getD k .none).length = ps.length := by rw [← r2.length]; exact G.len _ _ _ _ q2
  refine wpAny_call (codeAny_mono (G.run X.A X.stack s2 H2 ⟨[], ks.zip ws⟩ _ _ Q (WE W σ) hr I2.env0 (.of_eq (hb ws hl)) r2 q2) fun r s' hq => ?_)
  cases r with
  | error e => exact passAt tk σ pins H2 s2 e s' I2 hq
  | ok fl =>
    cases fl with
    | ret u => exact I2.after hq
    | next => exact False.elim hq
    | brk => exact False.elim hq
    | cont => exact False.elim hq
end
end VS

/-! VS12: try .. except C as e: x = 'a' if isinstance(e, A) else .. -/
namespace VS
open PySem PySem.Spec L2
open PyProof.Rows hiding St
def sTry (fb : Ev → SRes) (sel : List (Str × Str)) (i j : Nat) (env : Ev) : SRes := match fb env with
  | .err c e1 => (match sel.lookup c with
    | some z => if i < e1.length then .next ((e1.set i .dead).set j (.val (.str z) false)) else .bad
    | none => .bad)
  | r => r
theorem RelS.deadset {A : Nat → V} {Z H : Hp} {σ : St} {env : Ev} {O : Fp} {i : Nat} (x : Option V) (r : RelS A Z H σ (env.set i .dead) O) : RelS A Z H (σ.set i x) (env.set i .dead) O := by
  obtain ⟨l, F, g1, g2, g3⟩ := r
  refine ⟨by simpa using l, F, g1, g2, fun j c e => ?_⟩
  by_cases hj : j = i
  · subst hj
    by_cases hl : j < env.length
    · rw [List.getElem?_set_self hl] at e; cases e; trivial
    · rw [List.getElem?_eq_none (by simpa using hl)] at e; cases e
  · rw [List.getElem?_set_ne (Ne.symm hj)]
    exact g3 j c e
/-- the suite's value: z -/
def tSel (i : Nat) (a : Addr) (z : Str) : TE := fun σ H Q => σ[i]? = some (some (.ref a)) ∧ Q (.str z) H
section
variable {X : Cx} {W : WX} {mg : Str → Option Value}
def tSuite (mg : Str → Option Value) (sel : List (Str × Str)) (i j : Nat) (a : Addr) (cls : Value) (d : Option Addr) : TS := fun E σ H => ∃ c z, sel.lookup c = some z ∧ cls = .ref (cadr mg c) ∧ d = none ∧ σ[i]? = some (some (.ref a)) ∧ E.nx (σ.set j (some (.str z))) H
theorem try_of {K : PySem.W.Frag} {fb : Ev → SRes} {sel : List (Str × Str)} {i j : Nat} {cc : Value} {E : Ends} {σ : St} {H : Hp} (hij : i ≠ j) (hx : ∀ c z, sel.lookup c = some z → PySem.W.exmOne K (.ref (cadr mg c)) cc = some true) (h : tS mg W (sTry fb sel i j) E σ H) :
    tS mg (wAs K cc i (tSuite mg sel i j) W E) fb E σ H := by
  obtain ⟨A, Z, O, env, w, r, h⟩ := h
  refine ⟨A, Z, O, env, w, r, ?_⟩
  unfold sTry at h
  cases e : fb env with
  | bad => rw [e] at h; exact h
  | next e1 => rw [e] at h; exact h
  | ret d e1 => rw [e] at h; exact h
  | brk e1 => rw [e] at h; exact h
  | cont e1 => rw [e] at h; exact h
  | err c e1 =>
    rw [e] at h
    have h : OutS mg W A Z H O E (match sel.lookup c with
      | some z => if i < e1.length then .next ((e1.set i .dead).set j (.val (.str z) false)) else .bad
      | none => .bad) := h
    cases q : sel.lookup c with
    | none => rw [q] at h; exact h.elim
    | some z =>
      rw [q] at h
      have h : OutS mg W A Z H O E (if i < e1.length then .next ((e1.set i .dead).set j (.val (.str z) false)) else .bad) := h
      split at h
      · rename_i hl
        intro σ' H' ⟨Z1, O1, s1, r1⟩
        refine ⟨true, hx c z q, fun _ a na => ⟨c, z, q, rfl, rfl, ?_, ?_⟩, fun z => by cases z⟩
        · rw [List.getElem?_set_self (by rw [← r1.len]; exact hl)]
        · refine h _ H' ⟨Z1, O1, s1, ?_⟩
          have a1 := (r1.kill i).deadset (some (.ref a))
          have a2 : RelS A Z1 H' ((σ'.set i (some (.ref a))).set j (some (.str z))) ((e1.set i .dead).set j (.val (.str z) false)) O1 := a1.store (d := .str z) (O1 := f0) rfl (fun _ h => h.elim) (fun _ h => h) fun _ h => h.elim
          have ee : (e1.set i .dead).set j (.val (.str z) false) = (e1.set j (.val (.str z) false)).set i .dead := List.set_comm _ _ hij
          rw [ee] at a2 ⊢
          exact a2.deadset none
      · exact h.elim
theorem sv_try {x n y : Str} {cc : Value} {i j : Nat} {body : List Stmt} {e : Expr} {np p2 pa pos pos' : Pos} {fb : Ev → SRes} {sel : List (Str × Str)} (hs : X.stack = X.env :: X.outer) (hf : X.env.frame = some X.env.locals) (hN : X.N.Nodup) (hc : Names X x cc) (tk : Takes X W)
    (hb : ∀ (W : WX) (pn : List (Addr × Obj)) (xe : Value → Shared → Prop), Takes (X.tr pn xe) W → PassesOwn (model X.prog X.w) X.A X.env xe → PSs (X.tr pn xe) body (tS X.mg W fb))
    (hx : ∀ c z, sel.lookup c = some z → PySem.W.exmOne X.K (.ref (cadr X.mg c)) cc = some true)
    (hse : ∀ c z, sel.lookup c = some z → ∀ (a : Addr) (oe : Obj) (pn : List (Addr × Obj)), Zc (.ref (cadr X.mg c)) none oe → (∃ vs, oe.data = .fields vs) → PE (X.suite a ((a, oe) :: pn)) e (tSel i a z))
    (hij : i ≠ j := by decide) (hi : X.N[i]? = some n := by rfl) (hln : X.env.kindOf n = some .local := by rfl) (hj : X.N[j]? = some y := by rfl) (hy : Loc X.env.scope y := by first | exact Or.inl rfl | exact Or.inr rfl) (hfy : X.fn y = true ∨ X.env.scope.names.lookup y = some .local := by first | exact .inl rfl | exact .inr rfl | assumption)
    (hsw : swapsWith e (some (.Name y p2)) pa.line X.env = pure false := by rfl) :
    PS X (.Try body [.ExceptHandler (some (.Name x np)) (some n) [.Assign [.Name y p2] e pa] pos'] [] [] pos) (tS X.mg W (sTry fb sel i j)) :=
  PS.imp (ps_try_as hs hf hN hi hln hc tk hb (ts := tSuite X.mg sel i j) fun a oe cls d pn hz hd => ⟨fun pins s σ H E I ⟨c, z, hl, ec, ed, h1, h2⟩ => by
    subst ec ed
    exact (pss_one (ps_set (X := X.suite a ((a, oe) :: pn)) hN hj hy (hse c z hl a oe pn hz hd) hsw hfy)).run pins s σ H E I ⟨h1, h2⟩⟩) fun E σ H h => try_of hij hx h
variable {a D : Addr} {oe : Obj} {pn : List (Addr × Obj)} {i : Nat}
theorem sel_one {z : Str} {zj : Nat} {zp : Pos} : PE (X.suite a pn) (.Constant (.str z) zj zp) (tSel i a z) := PE.imp pe_str fun _ _ _ h => h.2
theorem sel_if {C : Addr} {b : Bool} {y n : Str} {p1 p2 p3 p4 p5 : Pos} {e1 e2 : Expr} {z z1 z2 : Str} (C0 : ExcC X.K D) (hz : Zc (.ref D) none oe) (hf : ∃ vs, oe.data = .fields vs) (hk : PySem.W.kitOne X.K (.ref D) (.ref C) = some b) (hg : Gl X "isinstance") (hm : X.mg "isinstance" = none) (hgy : Gl X y) (hmy : X.mg y = some (.ref C))
    (h1 : PE (X.suite a ((a, oe) :: pn)) e1 (tSel i a z1)) (h2 : PE (X.suite a ((a, oe) :: pn)) e2 (tSel i a z2)) (hzz : (if b then z1 else z2) = z := by rfl) (hi : X.N[i]? = some n := by rfl) (hv : Vis X.env.scope n := by first | exact Or.inl rfl | exact Or.inr (Or.inl rfl) | exact Or.inr (Or.inr rfl)) (hd : (n == ("__debug__" : Str)) = false := by decide) (hcd : (n == ("__classdict__" : Str)) = false := by decide) (hdy : (y == ("__debug__" : Str)) = false := by decide)
    (hs : starEach [.Name n p2, .Name y p3] X.env = (false, eval (.Name n p2) X.env) :: starEach [.Name y p3] X.env := by rfl) (hs2 : starEach [.Name y p3] X.env = (false, eval (.Name y p3) X.env) :: starEach [] X.env := by rfl) (hpl : (backTo p4 (starEach [.Name y p3] X.env)).any (·.1) = false := by rfl)
    (ht : ∀ whole, isTrue (.Call (.Name "isinstance" p1) [.Name n p2, .Name y p3] [] p4) X.env whole = (do let v ← whole; standAt (Expr.Call (.Name "isinstance" p1) [.Name n p2, .Name y p3] [] p4).pos; holding [v] (truthy v)) := by intro _; rfl) :
    PE (X.suite a ((a, oe) :: pn)) (.IfExp (.Call (.Name "isinstance" p1) [.Name n p2, .Name y p3] [] p4) e1 e2 p5) (tSel i a z) := by
  subst hzz
  have ha : PA (X.suite a ((a, oe) :: pn)) [.Name n p2, .Name y p3] (tCons (tVar i) (tCons (tC (.ref C)) tNil)) := pa_cons (pe_var hi hv hd hcd) (pa_cons (pe_glob (v := .ref C) hgy hmy rfl hdy) pa_nil hs2) hs
  refine PE.imp (pe_ifExp (pt_val (pe_callB (call_isE C0 hz hf) hg hm (by decide +kernel) ha (he := hs) (hpl := hpl)) ht) h1 h2) fun σ H Q h => ?_
  refine ⟨.ref a, h.1, .ref C, .ref C, b, rfl, fun u ru => ru, hk, b, rfl, ?_⟩
  cases b with
  | true => exact h
  | false => exact h
end
end VS

/-! VS13: the law's end: from what the law's def does to the head's goal. -/
namespace VS
open PySem PySem.Spec L2
open PyProof.Rows hiding St
/-- no list stands in the written part -/
def noLst (K : PySem.W.Frag) : Bool := K.all fun q => match q.2.cls with
  | .type t => !(t == "list")
  | _ => true
theorem noLst_at : ∀ {K : PySem.W.Frag}, noLst K = true → ∀ {a : Addr} {o : Obj}, K.lookup a = some o → o.cls ≠ .type "list"
  | [], _, _, _, e => by cases e
  | (b, ob) :: K, h, a, o, e => by
    have h' : (match ob.cls with
      | .type t => !(t == "list")
      | _ => true) = true ∧ noLst K = true := by
      unfold noLst at h
      rw [List.all_cons, Bool.and_eq_true] at h
      exact h
    rw [List.lookup_cons] at e
    split at e
    · cases e
      intro z
      rw [z] at h'
      exact absurd h'.1 (by decide)
    · exact noLst_at h'.2 e
/-- the script as the only thing that is told -/
def HpS (a : Addr) (ob : Obj) (xs : List V) : Hp := fun b => if b = a then some (.frz ob (.lst xs)) else none
theorem HpS_ne {a b : Addr} {ob : Obj} {xs : List V} (h : b ≠ a) : HpS a ob xs b = none := if_neg h
theorem HpS_eq {a : Addr} {ob : Obj} {xs : List V} : HpS a ob xs a = some (.frz ob (.lst xs)) := if_pos rfl
theorem end_call {P : Program} {w : World} {K : PySem.W.Frag} {mg mb : Str → Option Value} {k : Nat} {fl a : Addr} {fd : FuncData} {x : Str} {F : List D → FRes} {s : Shared} {vs : List Value} {ns : List Int}
    (kin : K.In s.heap) (nl : noLst K = true) (gl : s.heap.Ns mainGlobals mg) (bl : s.heap.Ns builtinsNs mb) (bb : ∀ y : Str, y ≠ "__name__" → mb y = bootBuiltins y) (lim : s.heap.NoLimit) (g0 : s.gens = #[])
    (ha : s.heap.get? a = some { cls := .type "list", data := .seq vs.toArray }) (hi : IntsAre vs ns) (hz : ns.length ≤ sizeLine) (hr : RoomG k callerA)
    (hF : ∀ base : Heap, K.In base → base.Ns mainGlobals mg → FnOkG P w K mg base k fl fd [x] (spV mg 1 F)) (hb : ∀ (s : Shared) (u : Value), BindsTo s fd ⟨[u], []⟩ [(x, u)])
    (hlaw : ∃ bs, F [.scr ns] = .ok (.bl true) bs) :
    codeAny (model P w) callerA (.call (.ref fl) ⟨[.ref a], []⟩) (fun r s' => r = .ok (.ret (.bool true)) ∧ OldK s.heap s'.heap ∧ s'.os = s.os ∧ AllBare s'.gens) s := by
  have rv := vals_ints hi
  have notK : K.lookup a = none := by
    cases e : K.lookup a with
    | none => rfl
    | some o =>
      have e1 := kin a o e
      rw [ha] at e1
      cases e1
      exact absurd rfl (noLst_at nl e)
  generalize hH : HpS a { cls := .type "list", data := .seq vs.toArray } (ns.map V.int) = H
  have Hne : ∀ b, b ≠ a → H b = none := fun b h => by rw [← hH]; exact HpS_ne h
  have Heq : H a = some (.frz { cls := .type "list", data := .seq vs.toArray } (.lst (ns.map V.int))) := by rw [← hH]; exact HpS_eq
  have hid : ∀ {b : Addr} {o : Obj}, s.heap.get? b = some o → H b = none → (hidT s.heap H).get? b = some o := fun e n => hidT_get e n
  have dictFree : ∀ {b : Addr} {o : Obj} {es : Array DictEntry} {ep : Nat}, s.heap.get? b = some o → o.data = .dict es ep → H b = none := fun {b o es ep} e d => by
    by_cases hba : b = a
    · subst hba
      rw [ha] at e
      cases e
      have d' : Data.seq vs.toArray _ = Data.dict es ep := d
      cases d'
    · exact Hne b hba
  have keepNs : ∀ {b : Addr} {m : Str → Option Value}, s.heap.Ns b m → (hidT s.heap H).Ns b m := fun ⟨o, es, ep, e, d, r⟩ => ⟨o, es, ep, hid e (dictFree e d), d, r⟩
  have kinB : K.In (hidT s.heap H) := fun b o e => hid (kin b o e) (Hne b fun z => by rw [z, notK] at e; cases e)
  have md : Mod K mg (hidT s.heap H) := ⟨kinB, keepNs gl, ⟨mb, keepNs bl, bb⟩, let ⟨mc, h1, h2⟩ := lim; ⟨mc, keepNs h1, h2⟩⟩
  have hok : HOk P w H s.heap := fun b u z => by
    by_cases hba : b = a
    · subst hba
      rw [Heq] at z
      cases z
      exact ⟨ha, by rw [List.length_map]; exact hz, vs, _, rv, ha⟩
    · rw [Hne b hba] at z
      cases z
  have e0 : Env0 P w K mg (hidT s.heap H) callerA [] s H := by
    refine ⟨rfl, md, fun b o e => of_hidT e, Nat.le_of_eq (hidT_size _ _), trivial, fun b hb => ?_, hok, .of_eq g0⟩
    exact absurd (show b ∈ ([] : List Addr) from hb) (by simp)
  have sp : spV mg 1 F [.ref a] H (fun v _ => v = .bl true) (fun _ _ _ => False) := by
    refine ⟨H, f0, [.scr ns], ⟨fun _ _ h => h, fun _ h => h.elim, fun _ h => h.elim⟩, RepL.one ⟨a, rfl, .inr ⟨_, Heq⟩⟩, rfl, ?_⟩
    obtain ⟨bs, e⟩ := hlaw
    rw [e]
    rintro v H' ⟨Z, Ov, Ob, _, _, rv, _⟩
    exact rv
  have run := (hF _ kinB (keepNs gl)).run callerA [] s H ⟨[.ref a], []⟩ [.ref a] [.ref a] _ _ hr e0 (hb s (.ref a)) (.cons rfl .nil) sp
  refine codeAny_mono run fun r s' h => ?_
  cases r with
  | error e =>
    obtain ⟨_, _, _, _, _, _, _, _, _, _, _, _, z⟩ := h
    exact z.elim
  | ok f =>
    cases f with
    | ret u =>
      obtain ⟨v, H', os, bare, un, hok', r', q⟩ := h
      have q' : v = .bl true := q
      subst q'
      obtain rfl : u = Value.bool true := r'
      refine ⟨rfl, OldK.of_keep fun b o e => ?_, os, bare⟩
      by_cases hba : b = a
      · subst hba
        have z2 := un.frzs b _ _ Heq
        obtain ⟨e2, _⟩ := hok' b _ z2
        rw [ha] at e
        cases e
        exact e2
      · exact un.keep b o e (Hne b hba) (fun z => absurd (show b ∈ ([] : List Addr) from z) (by simp)) (by simp)
    | next => exact False.elim h
    | brk => exact False.elim h
    | cont => exact False.elim h
/-- the goal that the head leaves, from what the law's def does -/
theorem end_walk {l : PySem.W.OpenLaw} {n k : Nat} {q : Program} {loose : List Str} {XP : (Str → Option Value) → Heap → Prop} {YP : World → Heap → Prop} {d : DefRec} {K : Params → PySem.W.Frag} {F : List D → FRes} {x : Str}
    (hn : l.most = some n) (hn2 : n ≤ sizeLine) (hdf : d.params.defaults = []) (hr : RoomG k callerA)
    (hY : ∀ (w : World) (h : Heap), YP w h → (K w.params).In h) (nl : ∀ w : World, noLst (K w.params) = true)
    (hF : ∀ (w : World) (mg : Str → Option Value) (fl : Addr) (h : Heap), (K w.params).In h → h.Ns mainGlobals mg → mg d.name = some (.ref fl) →
      ∃ fd : FuncData, (∀ (s : Shared) (u : Value), BindsTo s fd ⟨[u], []⟩ [(x, u)]) ∧
        ∀ base : Heap, (K w.params).In base → base.Ns mainGlobals mg → FnOkG l.prog w (K w.params) mg base k fl fd [x] (spV mg 1 F))
    (hlaw : ∀ ns : List Int, ns.length ≤ n → ∃ bs, F [.scr ns] = .ok (.bl true) bs) :
    PySem.W.WalkO q loose XP YP l.row.toRowW d [] (fun f vs => PySem.call f vs) := by
  refine Att.attach_call hn hdf fun w s₀ s₁ mg mb fl o pm cd doc a vs ns G Y ho hd hcd hmg hobj hints hlen hg => ?_
  have kin := hY w _ Y
  obtain ⟨fd, hb, ok⟩ := hF w mg fl _ kin G.T.g hmg
  exact end_call kin (nl w) G.T.g G.T.b G.T.builtins G.T.nolimit hg hobj hints (Nat.le_trans hlen hn2) hr ok hb (hlaw ns hlen)
end VS

/-! VS14: short names for what is printed; + and * over all kinds. -/
namespace VS
open PySem PySem.Spec L2
open PyProof.Rows hiding St
def rOr (r r' : R2) : R2 := fun x y H Q => r x y H Q ∨ r' x y H Q
theorem opR_or {X : Cx} {f : Value → Value → Sem Value} {r r' : R2} (h : OpR X f r) (h' : OpR X f r') : OpR X f (rOr r r') := fun pins s σ H x y v u Q I rx ry q =>
  q.elim (h pins s σ H x y v u Q I rx ry) (h' pins s σ H x y v u Q I rx ry)
theorem RO.weak {r : List V → Hp → VK → Prop} {g g' : List D → Option D} (h : RO r g) (w : ∀ xs d, g' xs = some d → g xs = some d) : RO r g' := fun Z H xs vs Q d a b c k => h Z H xs vs Q d a b (w _ _ c) k
theorem RO.or1 {r r' : R2} {g : List D → Option D} (h : RO (r2L r) g) : RO (r2L (rOr r r')) g := fun Z H xs vs Q d a b c k => by
  have := h Z H xs vs Q d a b c k
  match vs, this with
  | [x, y], t => exact .inl t
theorem RO.or2 {r r' : R2} {g : List D → Option D} (h : RO (r2L r') g) : RO (r2L (rOr r r')) g := fun Z H xs vs Q d a b c k => by
  have := h Z H xs vs Q d a b c k
  match vs, this with
  | [x, y], t => exact .inr t
def gAdd : List D → Option D
  | [.int i, .int j] => some (.int (i + j))
  | [.str x, .str y] => if x.length + y.length ≤ 10000000 then some (.str (x ++ y)) else none
  | [.lst _ l, .lst _ m] => if l.length + m.length ≤ 10000000 ∧ ownL l = false ∧ ownL m = false then some (.lst true (l ++ m)) else none
  | [.tup l, .tup m] => if l.length + m.length ≤ 10000000 ∧ ownL l = false ∧ ownL m = false then some (.tup (l ++ m)) else none
  | _ => none
theorem RO.cases {r : List V → Hp → VK → Prop} {g : List D → Option D} (h : ∀ xs d, g xs = some d → ∃ g', RO r g' ∧ g' xs = some d) : RO r g := fun Z H xs vs Q d a b c k => by
  obtain ⟨g', h1, h2⟩ := h xs d c
  exact h1 Z H xs vs Q d a b h2 k
def rAdd (K : PySem.W.Frag) : R2 := rOr (rI0 fun i j => .int (i + j)) (rOr (fun x y H Q => ∃ i j, x = .str i ∧ y = .str j ∧ i.length + j.length ≤ sizeLine ∧ Q (.str (i ++ j)) H) (rOr rCat (rCatA K)))
theorem op_addA {X : Cx} : OpR X (binaryOp .Add) (rAdd X.K) := opR_or op_add (opR_or op_add_str (opR_or op_cat op_catA))
theorem ro_add {K : PySem.W.Frag} : RO (r2L (rAdd K)) gAdd := RO.cases fun xs d e => by
  unfold gAdd at e
  split at e
  · exact ⟨_, .or1 ro_addI, e⟩
  · exact ⟨_, .or2 (.or1 ro_addS), e⟩
  · exact ⟨_, .or2 (.or2 (.or1 ro_cat)), e⟩
  · exact ⟨_, .or2 (.or2 (.or2 ro_catA)), e⟩
  · cases e
def gMul : List D → Option D
  | [.int i, .int j] => if mulB i j = true then some (.int (i * j)) else none
  | [.lst _ l, .int k] => if l.length * k.toNat ≤ 10000000 ∧ ownL l = false ∧ rngOk k = true then some (.lst true (List.replicate k.toNat l).flatten) else none
  | _ => none
def rMul : R2 := rOr (rI IntMulOk fun i j => .int (i * j)) rRep
theorem op_mulA {X : Cx} : OpR X (binaryOp .Mult) rMul := opR_or op_mulX op_rep
theorem ro_mul : RO (r2L rMul) gMul := RO.cases fun xs d e => by
  unfold gMul at e
  split at e
  · exact ⟨_, .or1 ro_mulI, e⟩
  · exact ⟨_, .or2 ro_rep, e⟩
  · cases e
def gEqA : List D → Option D
  | [.str x, .str y] => some (.bl (decide (x = y)))
  | [.int x, .int y] => some (.bl (decide (x = y)))
  | xs => gEq xs
def gNeA : List D → Option D
  | [.str x, .str y] => some (.bl (!decide (x = y)))
  | [.int x, .int y] => some (.bl (!decide (x = y)))
  | xs => gNe xs
def gEqS : List D → Option D
  | [.str x, .str y] => some (.bl (decide (x = y)))
  | [.int x, .int y] => some (.bl (decide (x = y)))
  | _ => none
def gNeS : List D → Option D
  | [.str x, .str y] => some (.bl (!decide (x = y)))
  | [.int x, .int y] => some (.bl (!decide (x = y)))
  | _ => none
theorem ro_eqS : RO (r2L rEq) gEqS := fun Z H xs vs Q d w r e k => by
  unfold gEqS at e
  split at e
  · rename_i x y
    cases e
    obtain ⟨v, O, v', O', ev, r1, r2⟩ := r.two
    obtain rfl : v = .str x := r1
    obtain rfl : v' = .str y := r2
    subst ev
    refine ⟨rfl, ?_⟩
    have e1 : decide (V.str x = V.str y) = decide (x = y) := by rw [Bool.eq_iff_iff]; simp
    rw [e1]
    exact Kt.val k w rfl
  · rename_i x y
    cases e
    obtain ⟨v, O, v', O', ev, r1, r2⟩ := r.two
    obtain rfl : v = .int x := r1
    obtain rfl : v' = .int y := r2
    subst ev
    refine ⟨rfl, ?_⟩
    have e1 : decide (V.int x = V.int y) = decide (x = y) := by rw [Bool.eq_iff_iff]; simp
    rw [e1]
    exact Kt.val k w rfl
  · cases e
theorem ro_neS : RO (r2L rNe) gNeS := fun Z H xs vs Q d w r e k => by
  unfold gNeS at e
  split at e
  · rename_i x y
    cases e
    obtain ⟨v, O, v', O', ev, r1, r2⟩ := r.two
    obtain rfl : v = .str x := r1
    obtain rfl : v' = .str y := r2
    subst ev
    refine ⟨rfl, ?_⟩
    have e1 : decide (V.str x = V.str y) = decide (x = y) := by rw [Bool.eq_iff_iff]; simp
    rw [e1]
    exact Kt.val k w rfl
  · rename_i x y
    cases e
    obtain ⟨v, O, v', O', ev, r1, r2⟩ := r.two
    obtain rfl : v = .int x := r1
    obtain rfl : v' = .int y := r2
    subst ev
    refine ⟨rfl, ?_⟩
    have e1 : decide (V.int x = V.int y) = decide (x = y) := by rw [Bool.eq_iff_iff]; simp
    rw [e1]
    exact Kt.val k w rfl
  · cases e
theorem ro_eqA {K : PySem.W.Frag} : RO (r2L (rOr rEq (rEqD K))) gEqA := RO.cases fun xs d e => by
  unfold gEqA at e
  split at e
  · exact ⟨_, .or1 ro_eqS, e⟩
  · exact ⟨_, .or1 ro_eqS, e⟩
  · exact ⟨_, .or2 ro_eq, e⟩
theorem ro_neA {K : PySem.W.Frag} : RO (r2L (rOr rNe (rNeD K))) gNeA := RO.cases fun xs d e => by
  unfold gNeA at e
  split at e
  · exact ⟨_, .or1 ro_neS, e⟩
  · exact ⟨_, .or1 ro_neS, e⟩
  · exact ⟨_, .or2 ro_ne, e⟩
section
variable {X : Cx} {W : WX} {a b e : Expr} {oa ob o : Opn} {pos p p2 : Pos}
theorem e_add (ha : OE X W a oa) (hb : OE X W b ob) : PE X (.BinOp a .Add b pos) (tV X.mg W (eRO [oa, ob] gAdd)) := ev_op op_addA ro_add ha hb
theorem e_mul (ha : OE X W a oa) (hb : OE X W b ob) : PE X (.BinOp a .Mult b pos) (tV X.mg W (eRO [oa, ob] gMul)) := ev_op op_mulA ro_mul ha hb
theorem e_sub (ha : OE X W a oa) (hb : OE X W b ob) : PE X (.BinOp a .Sub b pos) (tV X.mg W (eRO [oa, ob] gSubI)) := ev_op op_sub ro_subI ha hb
theorem e_div (ha : OE X W a oa) (hb : OE X W b ob) : PE X (.BinOp a .FloorDiv b pos) (tV X.mg W (eRO [oa, ob] gDivI)) := ev_op op_fdivW ro_divI ha hb
theorem e_mod (ha : OE X W a oa) (hb : OE X W b ob) : PE X (.BinOp a .Mod b pos) (tV X.mg W (eRO [oa, ob] gModI)) := ev_op op_mod ro_modI ha hb
theorem e_pow (ha : OE X W a oa) (hb : OE X W b ob) : PE X (.BinOp a .Pow b pos) (tV X.mg W (eRO [oa, ob] gPowI)) := ev_op op_pow ro_powI ha hb
theorem e_neg (ha : OE X W a oa) : PE X (.UnaryOp .USub a pos) (tV X.mg W (eRO [oa] gNeg)) := ev_un un_neg ro_neg ha
theorem e_lt (ha : OE X W a oa) (hb : OE X W b ob) : PE X (.Compare a [.Lt] [b] pos) (tV X.mg W (eRO [oa, ob] gLt)) := ev_cmp op_lt ro_lt ha hb (nomark _)
theorem e_le (ha : OE X W a oa) (hb : OE X W b ob) : PE X (.Compare a [.LtE] [b] pos) (tV X.mg W (eRO [oa, ob] gLe)) := ev_cmp op_le ro_le ha hb (nomark _)
theorem e_gt (ha : OE X W a oa) (hb : OE X W b ob) : PE X (.Compare a [.Gt] [b] pos) (tV X.mg W (eRO [oa, ob] gGt)) := ev_cmp op_gt ro_gt ha hb (nomark _)
theorem e_ge (ha : OE X W a oa) (hb : OE X W b ob) : PE X (.Compare a [.GtE] [b] pos) (tV X.mg W (eRO [oa, ob] gGe)) := ev_cmp op_ge ro_ge ha hb (nomark _)
theorem e_eq {k : Nat} (hr : RoomG k X.A) (ha : OE X W a oa) (hb : OE X W b ob) : PE X (.Compare a [.Eq] [b] pos) (tV X.mg W (eRO [oa, ob] gEqA)) := ev_cmp (opR_or op_eq (op_eqD hr.room.units)) ro_eqA ha hb (nomark _)
theorem e_ne {k : Nat} (hr : RoomG k X.A) (ha : OE X W a oa) (hb : OE X W b ob) : PE X (.Compare a [.NotEq] [b] pos) (tV X.mg W (eRO [oa, ob] gNeA)) := ev_cmp (opR_or op_ne (op_neD hr.room.units)) ro_neA ha hb (nomark _)
theorem e_in (ha : OE X W a oa) (hb : OE X W b ob) (hm : behindInMarks .In b = false := by rfl) : PE X (.Compare a [.In] [b] pos) (tV X.mg W (eRO [oa, ob] gIn)) := ev_cmp op_in2 ro_in ha hb hm
theorem e_notIn (ha : OE X W a oa) (hb : OE X W b ob) (hm : behindInMarks .NotIn b = false := by rfl) : PE X (.Compare a [.NotIn] [b] pos) (tV X.mg W (eRO [oa, ob] gNotIn)) := ev_cmp op_notIn_seq ro_notIn ha hb hm
theorem t_lt (ha : OE X W a oa) (hb : OE X W b ob) : PT X (.Compare a [.Lt] [b] pos) (tT X.mg W (asB (eRO [oa, ob] gLt))) := tv_cmp op_lt ro_lt ha hb (nomark _)
theorem t_le (ha : OE X W a oa) (hb : OE X W b ob) : PT X (.Compare a [.LtE] [b] pos) (tT X.mg W (asB (eRO [oa, ob] gLe))) := tv_cmp op_le ro_le ha hb (nomark _)
theorem t_gt (ha : OE X W a oa) (hb : OE X W b ob) : PT X (.Compare a [.Gt] [b] pos) (tT X.mg W (asB (eRO [oa, ob] gGt))) := tv_cmp op_gt ro_gt ha hb (nomark _)
theorem t_ge (ha : OE X W a oa) (hb : OE X W b ob) : PT X (.Compare a [.GtE] [b] pos) (tT X.mg W (asB (eRO [oa, ob] gGe))) := tv_cmp op_ge ro_ge ha hb (nomark _)
theorem t_eq {k : Nat} (hr : RoomG k X.A) (ha : OE X W a oa) (hb : OE X W b ob) : PT X (.Compare a [.Eq] [b] pos) (tT X.mg W (asB (eRO [oa, ob] gEqA))) := tv_cmp (opR_or op_eq (op_eqD hr.room.units)) ro_eqA ha hb (nomark _)
theorem t_ne {k : Nat} (hr : RoomG k X.A) (ha : OE X W a oa) (hb : OE X W b ob) : PT X (.Compare a [.NotEq] [b] pos) (tT X.mg W (asB (eRO [oa, ob] gNeA))) := tv_cmp (opR_or op_ne (op_neD hr.room.units)) ro_neA ha hb (nomark _)
theorem t_in (ha : OE X W a oa) (hb : OE X W b ob) (hm : behindInMarks .In b = false := by rfl) : PT X (.Compare a [.In] [b] pos) (tT X.mg W (asB (eRO [oa, ob] gIn))) := tv_cmp op_in2 ro_in ha hb hm
theorem t_notIn (ha : OE X W a oa) (hb : OE X W b ob) (hm : behindInMarks .NotIn b = false := by rfl) : PT X (.Compare a [.NotIn] [b] pos) (tT X.mg W (asB (eRO [oa, ob] gNotIn))) := tv_cmp op_notIn_seq ro_notIn ha hb hm
theorem e_ix (ha : OE X W a oa) (hb : OE X W b ob) (hs : PlainIx b := by intro _ _; rfl) : PE X (.Subscript a b pos) (tV X.mg W (eRO [oa, ob] gIx)) := ev_ix ix_seq ro_ix ha hb hs
variable {lo hi : Expr} {fl fh : Ev → Res D}
theorem e_sl2 (ha : OE X W a oa) (hl : PE X lo (tV X.mg W fl)) (hh : PE X hi (tV X.mg W fh)) : PE X (.Subscript a (.Slice (some lo) (some hi) none p2) pos) (tV X.mg W (eRO [oa, .e (eInt fl), .e (eInt fh)] gSl2)) := ev_sl2 sl_any ro_sl2 ha hl hh
theorem e_slLo (ha : OE X W a oa) (hl : PE X lo (tV X.mg W fl)) : PE X (.Subscript a (.Slice (some lo) none none p2) pos) (tV X.mg W (eRO [oa, .e (eInt fl)] gSlLo)) := ev_slLo sl_any ro_slLo ha hl
theorem e_slHi (ha : OE X W a oa) (hh : PE X hi (tV X.mg W fh)) : PE X (.Subscript a (.Slice none (some hi) none p2) pos) (tV X.mg W (eRO [oa, .e (eInt fh)] gSlHi)) := ev_slHi sl_any ro_slHi ha hh
section

theorem b_len (hm : X.mg "len" = none) (he : OE X W e o) (hg : Gl X "len" := by rfl) (hs : starEach [e] X.env = [(false, eval e X.env)] := by rfl) (hs2 : starEach (e :: []) X.env = (false, eval e X.env) :: starEach [] X.env := by rfl) (hpl : (backTo pos (starEach [] X.env)).any (·.1) = false := by rfl) : PE X (.Call (.Name "len" p) [e] [] pos) (tV X.mg W (eRO [o] gLen)) :=
  ev_callB call_len ro_len hg hm boot_len (oa_cons he oa_nil hs2) (he := hs2) (hpl := hpl)
theorem b_list (hm : X.mg "list" = none) (he : OE X W e o) (hg : Gl X "list" := by rfl) (hs2 : starEach (e :: []) X.env = (false, eval e X.env) :: starEach [] X.env := by rfl) (hpl : (backTo pos (starEach [] X.env)).any (·.1) = false := by rfl) : PE X (.Call (.Name "list" p) [e] [] pos) (tV X.mg W (eRO [o] gList)) :=
  ev_callTy call_list_of ro_list hg hm PyProof.Rows.boot_list (oa_cons he oa_nil hs2) (he := hs2) (hpl := hpl)
theorem b_tuple (hm : X.mg "tuple" = none) (he : OE X W e o) (hg : Gl X "tuple" := by rfl) (hs2 : starEach (e :: []) X.env = (false, eval e X.env) :: starEach [] X.env := by rfl) (hpl : (backTo pos (starEach [] X.env)).any (·.1) = false := by rfl) : PE X (.Call (.Name "tuple" p) [e] [] pos) (tV X.mg W (eRO [o] gTuple)) :=
  ev_callTy call_tuple_of ro_tuple hg hm PyProof.Rows.boot_tuple (oa_cons he oa_nil hs2) (he := hs2) (hpl := hpl)
theorem b_int (hm : X.mg "int" = none) (he : OE X W e o) (hg : Gl X "int" := by rfl) (hs2 : starEach (e :: []) X.env = (false, eval e X.env) :: starEach [] X.env := by rfl) (hpl : (backTo pos (starEach [] X.env)).any (·.1) = false := by rfl) : PE X (.Call (.Name "int" p) [e] [] pos) (tV X.mg W (eRO [o] gInt)) :=
  ev_callTy call_int1 ro_int hg hm PyProof.Rows.boot_int (oa_cons he oa_nil hs2) (he := hs2) (hpl := hpl)
theorem b_sum (hc : X.calm = true) (hm : X.mg "sum" = none) (he : OE X W e o) (hg : Gl X "sum" := by rfl) (hs2 : starEach (e :: []) X.env = (false, eval e X.env) :: starEach [] X.env := by rfl) (hpl : (backTo pos (starEach [] X.env)).any (·.1) = false := by rfl) : PE X (.Call (.Name "sum" p) [e] [] pos) (tV X.mg W (eRO [o] gSum)) :=
  ev_callB (cr_sum hc) ro_sum hg hm boot_sum (oa_cons he oa_nil hs2) (he := hs2) (hpl := hpl)
theorem b_max1 (hc : X.calm = true) (hm : X.mg "max" = none) (he : OE X W e o) (hg : Gl X "max" := by rfl) (hs2 : starEach (e :: []) X.env = (false, eval e X.env) :: starEach [] X.env := by rfl) (hpl : (backTo pos (starEach [] X.env)).any (·.1) = false := by rfl) : PE X (.Call (.Name "max" p) [e] [] pos) (tV X.mg W (eRO [o] gMaxL)) :=
  ev_callB (cr_max hc) ro_maxL hg hm boot_max (oa_cons he oa_nil hs2) (he := hs2) (hpl := hpl)
theorem b_min1 (hc : X.calm = true) (hm : X.mg "min" = none) (he : OE X W e o) (hg : Gl X "min" := by rfl) (hs2 : starEach (e :: []) X.env = (false, eval e X.env) :: starEach [] X.env := by rfl) (hpl : (backTo pos (starEach [] X.env)).any (·.1) = false := by rfl) : PE X (.Call (.Name "min" p) [e] [] pos) (tV X.mg W (eRO [o] gMinL)) :=
  ev_callB (cr_min hc) ro_minL hg hm boot_min (oa_cons he oa_nil hs2) (he := hs2) (hpl := hpl)
theorem b_all (hc : X.calm = true) (hm : X.mg "all" = none) (he : OE X W e o) (hg : Gl X "all" := by rfl) (hs2 : starEach (e :: []) X.env = (false, eval e X.env) :: starEach [] X.env := by rfl) (hpl : (backTo pos (starEach [] X.env)).any (·.1) = false := by rfl) : PE X (.Call (.Name "all" p) [e] [] pos) (tV X.mg W (eRO [o] gAll)) :=
  ev_callB (cr_all hc) ro_all hg hm boot_all (oa_cons he oa_nil hs2) (he := hs2) (hpl := hpl)
theorem b_any (hc : X.calm = true) (hm : X.mg "any" = none) (he : OE X W e o) (hg : Gl X "any" := by rfl) (hs2 : starEach (e :: []) X.env = (false, eval e X.env) :: starEach [] X.env := by rfl) (hpl : (backTo pos (starEach [] X.env)).any (·.1) = false := by rfl) : PE X (.Call (.Name "any" p) [e] [] pos) (tV X.mg W (eRO [o] gAny)) :=
  ev_callB (cr_any hc) ro_any hg hm boot_any (oa_cons he oa_nil hs2) (he := hs2) (hpl := hpl)
theorem b_repr {k : Nat} (hr : RoomG k X.A) (hm : X.mg "repr" = none) (he : OE X W e o) (hg : Gl X "repr" := by rfl) (hs2 : starEach (e :: []) X.env = (false, eval e X.env) :: starEach [] X.env := by rfl) (hpl : (backTo pos (starEach [] X.env)).any (·.1) = false := by rfl) : PE X (.Call (.Name "repr" p) [e] [] pos) (tV X.mg W (eRO [o] gRepr)) :=
  ev_callB (call_repr hr) ro_repr hg hm boot_repr (oa_cons he oa_nil hs2) (he := hs2) (hpl := hpl)
theorem b_max2 (hc : X.calm = true) (hm : X.mg "max" = none) (ha : OE X W a oa) (hb : OE X W b ob) (hg : Gl X "max" := by rfl) (hs : starEach [a, b] X.env = (false, eval a X.env) :: starEach [b] X.env := by rfl) (hs2 : starEach (b :: []) X.env = (false, eval b X.env) :: starEach [] X.env := by rfl) (hpl : (backTo pos (starEach [b] X.env)).any (·.1) = false := by rfl) : PE X (.Call (.Name "max" p) [a, b] [] pos) (tV X.mg W (eRO [oa, ob] gMax2)) :=
  ev_callB (call_max2 hc) ro_max2 hg hm boot_max (oa_cons ha (oa_cons hb oa_nil hs2) hs) (he := hs) (hpl := hpl)
theorem b_min2 (hc : X.calm = true) (hm : X.mg "min" = none) (ha : OE X W a oa) (hb : OE X W b ob) (hg : Gl X "min" := by rfl) (hs : starEach [a, b] X.env = (false, eval a X.env) :: starEach [b] X.env := by rfl) (hs2 : starEach (b :: []) X.env = (false, eval b X.env) :: starEach [] X.env := by rfl) (hpl : (backTo pos (starEach [b] X.env)).any (·.1) = false := by rfl) : PE X (.Call (.Name "min" p) [a, b] [] pos) (tV X.mg W (eRO [oa, ob] gMin2)) :=
  ev_callB (call_min2 hc) ro_min2 hg hm boot_min (oa_cons ha (oa_cons hb oa_nil hs2) hs) (he := hs) (hpl := hpl)
end
end
end VS

/-! VS15: what the printed texts lean on. -/
namespace VS
open PySem PySem.Spec L2
open PyProof.Rows hiding St
theorem kit_ref {K : PySem.W.Frag} {A C : Addr} {b : Bool} (h1 : PySem.W.hasDictIn K C = true) (h2 : PySem.W.typeIn K (.ref C) = some (.type "type")) (h4 : PySem.W.subIn K (.ref A) (.ref C) = some b) (hs : PySem.W.subIn K (.ref A) (.ref A) = some true) : PySem.W.kitOne K (.ref A) (.ref C) = some b := by
  obtain ⟨cd, hc, _⟩ := PySem.W.any_some h1
  unfold PySem.W.kitOne
  by_cases e : ((Value.ref A) == (Value.ref C)) = true
  · rw [if_pos e]
    have e' : A = C := Value.ref.inj (beq_iff_eq.mp e)
    subst e'
    rw [hs] at h4
    exact h4
  · rw [if_neg e]
    show (if ((PySem.W.clsIn K C).isSome && PySem.W.typeIn K (.ref C) == some (.type "type")) = true then PySem.W.subIn K (.ref A) (.ref C) else none) = some b
    have e2 : ((PySem.W.clsIn K C).isSome && PySem.W.typeIn K (.ref C) == some (.type "type")) = true := by rw [hc, h2] <;> rfl
    rw [if_pos e2]
    exact h4
theorem bindsK {K : PySem.W.Frag} {x qual : Str} {st : Stmt} {f : Addr} {fd : FuncData} {n : Nat} {ks : List Str} {bs : List Value → List (Str × Value)} (F : Fun K x qual st f fd)
    (h : ∀ (kV doc pm : Value) (an : Option Addr) (cdv ct : Value) (ws : List Value), ws.length = n → bindArgs (PySem.W.fnOf x qual (defArgs st) (defBody st) (defScope st) .none kV doc pm an cdv ct) ⟨[], ks.zip ws⟩ = pure (bs ws)) : ∀ ws : List Value, ws.length = n → bindArgs fd ⟨[], ks.zip ws⟩ = pure (bs ws) := by
  obtain ⟨oc, od, kV, doc, pm, an, cdv, ct, osl, rfl, lk, hcd⟩ := F.ex
  exact h kV doc pm an cdv ct
theorem bind1 {K : PySem.W.Frag} {x qual p : Str} {st : Stmt} {f : Addr} {fd : FuncData} (F : Fun K x qual st f fd)
    (h : ∀ (kV doc pm : Value) (an : Option Addr) (cdv ct : Value) (u : Value), bindArgs (PySem.W.fnOf x qual (defArgs st) (defBody st) (defScope st) .none kV doc pm an cdv ct) ⟨[u], []⟩ = pure [(p, u)]) (s : Shared) (u : Value) : BindsTo s fd ⟨[u], []⟩ [(p, u)] := by
  obtain ⟨oc, od, kV, doc, pm, an, cdv, ct, osl, rfl, lk, hcd⟩ := F.ex
  exact .of_eq (h kV doc pm an cdv ct u)
section
variable {X : Cx} {W : WX} {mg : Str → Option Value}
def sPar3 (i j l : Nat) (g : Ev → Res (List D)) (env : Ev) : SRes := (g env).to fun ds e1 => match ds with
  | [d, d', d''] => .next (((e1.set i (.val d false)).set j (.val d' false)).set l (.val d'' false))
  | _ => .bad
theorem par3_of {i j l : Nat} {g : Ev → Res (List D)} {E : Ends} {σ : St} {H : Hp} (h : tS mg W (sPar3 i j l g) E σ H) : tPar3 i j l (tA mg W g) E σ H := by
  obtain ⟨A, Z, O, env, w, r, h⟩ := h
  refine ⟨A, Z, O, env, w, r, ?_⟩
  unfold sPar3 at h
  cases e : g env with
  | bad => rw [e] at h; exact h
  | err c e1 => rw [e] at h; exact err_of (Q := fun _ _ => True) h
  | ok ds e1 =>
    rw [e] at h
    intro vs H' ⟨Z1, Ov, Oe, s1, hd, rv, re⟩
    match ds, h, rv with
    | [d, d', d''], h, rv =>
      obtain ⟨v, vr, O1, O2, ev, g1, g2, g3, r1, r2⟩ := rv
      obtain ⟨v2, vr2, O3, O4, ev2, g4, g5, g6, r3, r4⟩ := r2
      obtain ⟨v3, ev3, r5⟩ := RepL.one_of r4
      subst ev ev2 ev3
      refine ⟨v, v2, v3, rfl, h _ H' ⟨Z1, fun p => Ov p ∨ Oe p, s1, ?_⟩⟩
      have a1 := re.store (i := i) r1 (O := fun p => O1 p ∨ Oe p) (fun p h => .inl h) (fun p h => .inr h) fun p a b => hd p (g1 p a) b
      have a2 := a1.store (i := j) r3 (O := fun p => O3 p ∨ O1 p ∨ Oe p) (fun p h => .inl h) (fun p h => .inr h) fun p a b => b.elim (fun b => g3 p b (g4 p a)) fun b => hd p (g2 p (g4 p a)) b
      exact a2.store r5 (fun p h => .inl (g2 p (g5 p h))) (fun p h => h.elim (fun h => .inl (g2 p (g4 p h))) fun h => h.elim (fun h => .inl (g1 p h)) .inr) fun p a b => b.elim (fun b => g6 p b a) fun b => b.elim (fun b => g3 p b (g5 p a)) fun b => hd p (g2 p (g5 p a)) b
theorem sv_par3 {i j k : Nat} {x y z : Str} {a b c : Expr} {g : Ev → Res (List D)} {px py pz pt pos : Pos} {kt k2 pt2} (hc : X.calm = true) (hN : X.N.Nodup) (ha : PA X [a, b, c] (tA X.mg W g)) (hij : i ≠ j := by decide) (hik : i ≠ k := by decide) (hjk : j ≠ k := by decide) (hi : X.N[i]? = some x := by rfl) (hj : X.N[j]? = some y := by rfl) (hk : X.N[k]? = some z := by rfl)
    (hx : X.env.scope.names.lookup x = some .local := by rfl) (hy : X.env.scope.names.lookup y = some .local := by rfl) (hz : X.env.scope.names.lookup z = some .local := by rfl)
    (hw : swappedStores [.Tuple [.Name x px, .Name y py, .Name z pz] kt pt] (.Tuple [a, b, c] k2 pt2) X.env = pure (some [x, y, z]) := by rfl)
    (hs : swapsWithSole [.Tuple [.Name x px, .Name y py, .Name z pz] kt pt] (.Tuple [a, b, c] k2 pt2) pos.line X.env = pure false := by rfl) :
    PS X (.Assign [.Tuple [.Name x px, .Name y py, .Name z pz] kt pt] (.Tuple [a, b, c] k2 pt2) pos) (tS X.mg W (sPar3 i j k g)) :=
  PS.imp (ps_par3 hc hN hi hj hk hij hik hjk hx hy hz ha hw hs) fun _ _ _ => par3_of
/-- an element of a list within a list of a name: places by constants -/
def eIx2 (i : Nat) (j k : Int) (env : Ev) : Res D := match env.at i with
  | .val (.lst _ l) _ => (match atI l j with
    | some (.lst _ m) => (match atI m k with
      | some x => if own x = false then .ok x env else .bad
      | none => .bad)
    | _ => .bad)
  | _ => .bad
theorem ix2_of {i : Nat} {j k : Int} {σ : St} {H : Hp} {Q : VK} {K : PySem.W.Frag} (h : tV mg W (eIx2 i j k) σ H Q) : tOp (rIx K) (tOp (rIx K) (tVar i) (tC (.int j))) (tC (.int k)) σ H Q := by
  obtain ⟨A, Z, O, env, w, r, h⟩ := h
  unfold eIx2 at h
  split at h
  · rename_i fw l fl e0
    split at h
    · rename_i f2 m e1
      split at h
      · rename_i x e2
        split at h
        · rename_i ho
          obtain ⟨v, O1, O2, ev, rv, _⟩ := r.take (Ev.at_val e0)
          obtain ⟨p, vs, P1, ep, hp, rl⟩ := rep_lstH w.sub rv
          subst ep
          obtain ⟨u, O3, eu, ru⟩ := rl.at e1
          obtain ⟨q, us, P2, eq, hq, rm⟩ := rep_lstH w.sub ru
          subst eq
          obtain ⟨z, O4, ez, rz⟩ := rm.at e2
          refine ⟨.ref p, ev, .inl ⟨p, vs, j, .ref q, rfl, rfl, SqL.of hp, eu, .inl ⟨q, us, k, z, rfl, rfl, SqL.of hq, ez, h z H ?_⟩⟩⟩
          exact ⟨Z, f0, O, (Stp.refl w).drop fun p h => h.elim (fun h => h.elim) id, fun _ h => h.elim, RepL.one (rz.imm ho), r⟩
        · exact h.elim
      · exact h.elim
    · exact h.elim
  · exact h.elim
theorem k_int {i : Int} {j : Nat} {pos : Pos} : PE X (.Constant (.int i) j pos) (tC (.int i)) := pe_int
theorem k_neg {i : Int} {j : Nat} {p pos : Pos} : PE X (.UnaryOp .USub (.Constant (.int i) j p) pos) (tC (.int (-i))) := PE.imp (pe_un un_neg pe_int) fun _ _ _ h => ⟨i, rfl, h⟩
theorem e_ix2 (i : Nat) {x : Str} {j k : Int} {ea eb : Expr} {px p1 p2 : Pos} (ha : PE X ea (tC (.int j))) (hb : PE X eb (tC (.int k))) (hN : X.N[i]? = some x := by rfl) (hv : Vis X.env.scope x := by first | exact Or.inl rfl | exact Or.inr (Or.inl rfl) | exact Or.inr (Or.inr rfl)) (hd : (x == ("__debug__" : Str)) = false := by decide)
    (hcd : (x == ("__classdict__" : Str)) = false := by decide) (hs : PlainIx ea := by intro _ _; rfl) (hs2 : PlainIx eb := by intro _ _; rfl) : PE X (.Subscript (.Subscript (.Name x px) ea p1) eb p2) (tV X.mg W (eIx2 i j k)) :=
  PE.imp (pe_ix ix_seq (pe_ix ix_seq (pe_var hN hv hd hcd) ha hs) hb hs2) fun _ _ _ => ix2_of
end
end VS

/-! VS16: reckoning with the readings: rows for simp, loops by invariants. -/
namespace VS
open PySem PySem.Spec L2
@[simp] theorem Ev.at_def (env : Ev) (i : Nat) : Ev.at env i = env.getD i .dead := rfl
@[simp] theorem seq_next (e : Ev) (g : Ev → SRes) : (SRes.next e).seq g = g e := rfl
@[simp] theorem seq_ret (d : D) (e : Ev) (g : Ev → SRes) : (SRes.ret d e).seq g = .ret d e := rfl
@[simp] theorem seq_brk (e : Ev) (g : Ev → SRes) : (SRes.brk e).seq g = .brk e := rfl
@[simp] theorem seq_cont (e : Ev) (g : Ev → SRes) : (SRes.cont e).seq g = .cont e := rfl
@[simp] theorem seq_err (c : Str) (e : Ev) (g : Ev → SRes) : (SRes.err c e).seq g = .err c e := rfl
@[simp] theorem to_ok {α : Type} (a : α) (e : Ev) (k : α → Ev → SRes) : (Res.ok a e).to k = k a e := rfl
@[simp] theorem to_err {α : Type} (c : Str) (e : Ev) (k : α → Ev → SRes) : (Res.err c e : Res α).to k = .err c e := rfl
@[simp] theorem sSkip_def (env : Ev) : sSkip env = .next env := rfl
@[simp] theorem sSeq_def (f g : Ev → SRes) (env : Ev) : sSeq f g env = (f env).seq g := rfl
@[simp] theorem sDrop_def (f : Ev → Res D) (env : Ev) : sDrop f env = (f env).to fun _ e1 => .next e1 := rfl
@[simp] theorem sRet_def (f : Ev → Res D) (env : Ev) : sRet f env = (f env).to fun d e1 => .ret d e1 := rfl
@[simp] theorem sIf_def (c : Ev → Res Bool) (f g : Ev → SRes) (env : Ev) : sIf c f g env = (c env).to fun b e1 => if b then f e1 else g e1 := rfl
@[simp] theorem sAsg_def (f : Ev → Res D) (b : D → Ev → Option Ev) (env : Ev) : sAsg f b env = (f env).to fun d e1 => match b d e1 with
  | some e2 => .next e2
  | none => .bad := rfl
@[simp] theorem sRaise_def (c : Str) (env : Ev) : sRaise c env = .err c env := rfl
@[simp] theorem eC_def (d : D) (env : Ev) : eC d env = .ok d env := rfl
@[simp] theorem eVar_def (i : Nat) (env : Ev) : eVar i env = match env.getD i .dead with
  | .val d fl => .ok (frz d) (env.set i (.val (frz d) fl))
  | _ => .bad := rfl
@[simp] theorem eMov_def (i : Nat) (env : Ev) : eMov i env = match env.getD i .dead with
  | .val d _ => .ok d (env.set i .dead)
  | _ => .bad := rfl
@[simp] theorem eRO_def (os : List Opn) (g : List D → Option D) (env : Ev) : eRO os g env = (evO os env).bind fun ds e1 => match (pick os ds e1).bind g with
  | some d => .ok d e1
  | none => .bad := rfl
@[simp] theorem evO_nil (env : Ev) : evO [] env = .ok [] env := rfl
@[simp] theorem evO_e (f : Ev → Res D) (os : List Opn) (env : Ev) : evO (.e f :: os) env = (f env).bind fun d e1 => (evO os e1).bind fun ds e2 => .ok (d :: ds) e2 := rfl
@[simp] theorem evO_n (i : Nat) (os : List Opn) (env : Ev) : evO (.n i :: os) env = if isVal (env.getD i .dead) then evO os env else .bad := rfl
@[simp] theorem isVal_val (d : D) (fl : Bool) : isVal (.val d fl) = true := rfl
@[simp] theorem pick_nil (ds : List D) (env : Ev) : pick [] ds env = some [] := rfl
@[simp] theorem pick_e (f : Ev → Res D) (os : List Opn) (d : D) (ds : List D) (env : Ev) : pick (.e f :: os) (d :: ds) env = (pick os ds env).map (d :: ·) := rfl
@[simp] theorem pick_n (i : Nat) (os : List Opn) (ds : List D) (env : Ev) : pick (.n i :: os) ds env = match env.getD i .dead with
  | .val d _ => (pick os ds env).map (d :: ·)
  | _ => none := rfl
@[simp] theorem aNil_def (env : Ev) : aNil env = .ok [] env := rfl
@[simp] theorem aCons_def (f : Ev → Res D) (g : Ev → Res (List D)) (env : Ev) : aCons f g env = (f env).bind fun d e1 => (g e1).bind fun ds e2 => .ok (d :: ds) e2 := rfl
@[simp] theorem eInt_def (f : Ev → Res D) (env : Ev) : eInt f env = (f env).bind fun d e1 => match d with
  | .int i => .ok (.int i) e1
  | _ => .bad := rfl
@[simp] theorem eIf_def (c : Ev → Res Bool) (f g : Ev → Res D) (env : Ev) : eIf c f g env = (c env).bind fun b e1 => if b then f e1 else g e1 := rfl
@[simp] theorem eAnd_bl (f g : Ev → Res D) (env : Ev) : eAnd f g env = (f env).bind fun d e1 => match d with
  | .bl true => g e1
  | .bl false => .ok (.bl false) e1
  | _ => .bad := by
  unfold eAnd
  congr 1
  funext d e1
  cases d <;> first | rfl | (rename_i b; cases b <;> rfl)
@[simp] theorem eOr_bl (f g : Ev → Res D) (env : Ev) : eOr f g env = (f env).bind fun d e1 => match d with
  | .bl true => .ok (.bl true) e1
  | .bl false => g e1
  | _ => .bad := by
  unfold eOr
  congr 1
  funext d e1
  cases d <;> first | rfl | (rename_i b; cases b <;> rfl)
@[simp] theorem eNot_def (f : Ev → Res D) (env : Ev) : eNot f env = (f env).bind fun d e1 => match d with
  | .bl b => .ok (.bl (!b)) e1
  | _ => .bad := rfl
@[simp] theorem asB_def (f : Ev → Res D) (env : Ev) : asB f env = (f env).bind fun d e1 => match d with
  | .bl b => .ok b e1
  | _ => .bad := rfl
@[simp] theorem bNot_def (f : Ev → Res Bool) (env : Ev) : bNot f env = (f env).bind fun b e1 => .ok (!b) e1 := rfl
@[simp] theorem bAnd_def (f g : Ev → Res Bool) (env : Ev) : bAnd f g env = (f env).bind fun b e1 => if b then g e1 else .ok false e1 := rfl
@[simp] theorem bOr_def (f g : Ev → Res Bool) (env : Ev) : bOr f g env = (f env).bind fun b e1 => if b then .ok true e1 else g e1 := rfl
@[simp] theorem eFrz_def (f : Ev → Res D) (env : Ev) : eFrz f env = (f env).bind fun d e1 => .ok (frz d) e1 := rfl
@[simp] theorem eLst_def (g : Ev → Res (List D)) (env : Ev) : eLst g env = (g env).bind fun ds e1 => if ds.length ≤ 10000000 then .ok (.lst true ds) e1 else .bad := rfl
@[simp] theorem eTup_def (g : Ev → Res (List D)) (env : Ev) : eTup g env = (g env).bind fun ds e1 => if ds.length ≤ 10000000 then .ok (.tup ds) e1 else .bad := rfl
@[simp] theorem bName_def (i : Nat) (d : D) (env : Ev) : bName i d env = some (env.set i (.val d false)) := rfl
@[simp] theorem bTup_tup (bs : List (D → Ev → Option Ev)) (ds : List D) (env : Ev) : bTup bs (.tup ds) env = bAll bs ds env := rfl
@[simp] theorem bAll_nil (env : Ev) : bAll [] [] env = some env := rfl
@[simp] theorem bAll_cons (b : D → Ev → Option Ev) (bs : List (D → Ev → Option Ev)) (d : D) (ds : List D) (env : Ev) : bAll (b :: bs) (d :: ds) env = (b d env).bind (bAll bs ds) := rfl
@[simp] theorem frz_non : frz .non = .non := rfl
@[simp] theorem frz_bl (b : Bool) : frz (.bl b) = .bl b := rfl
@[simp] theorem frz_int (i : Int) : frz (.int i) = .int i := rfl
@[simp] theorem frz_str (x : Str) : frz (.str x) = .str x := rfl
@[simp] theorem frz_tup (l : List D) : frz (.tup l) = .tup (frzL l) := rfl
@[simp] theorem frz_lst (w : Bool) (l : List D) : frz (.lst w l) = .lst false (frzL l) := rfl
@[simp] theorem frzL_nil : frzL [] = [] := rfl
@[simp] theorem frzL_cons (d : D) (l : List D) : frzL (d :: l) = frz d :: frzL l := rfl
@[simp] theorem frz_scr (ns : List Int) : frz (.scr ns) = .scr ns := rfl
@[simp] theorem own_int (i : Int) : own (.int i) = false := rfl
@[simp] theorem own_bl (i : Bool) : own (.bl i) = false := rfl
@[simp] theorem own_non : own .non = false := rfl
@[simp] theorem own_str (i : Str) : own (.str i) = false := rfl
@[simp] theorem own_tup (l : List D) : own (.tup l) = ownL l := rfl
@[simp] theorem own_scr (l : List Int) : own (.scr l) = false := rfl
@[simp] theorem own_lst (w : Bool) (l : List D) : own (.lst w l) = (w || ownL l) := rfl
@[simp] theorem ownL_nil : ownL [] = false := rfl
@[simp] theorem ownL_cons (d : D) (l : List D) : ownL (d :: l) = (own d || ownL l) := rfl
@[simp] theorem ownL_intsS (l : List Int) : ownL (l.map D.int) = false := ownL_ints l
@[simp] theorem ownL_strs (l : List Str) : ownL (l.map D.str) = false := by induction l with
  | nil => rfl
  | cons x l ih => simp [ih]
@[simp] theorem frzL_ints (l : List Int) : frzL (l.map D.int) = l.map D.int := frzL_imm _ (ownL_ints l)
@[simp] theorem frzL_map {α : Type} (f : α → D) (l : List α) : frzL (l.map f) = l.map fun x => frz (f x) := by induction l with
  | nil => rfl
  | cons x l ih => simp [ih]
theorem frzL_eq (l : List D) : frzL l = l.map frz := by induction l with
  | nil => rfl
  | cons x l ih => simp [ih]
@[simp] theorem gI2_def (C : Int → Int → Bool) (f : Int → Int → D) (i j : Int) : gI2 C f [.int i, .int j] = if C i j then some (f i j) else none := rfl
@[simp] theorem gAdd_int (i j : Int) : gAdd [.int i, .int j] = some (.int (i + j)) := rfl
@[simp] theorem gMul_int (i j : Int) : gMul [.int i, .int j] = if mulB i j = true then some (.int (i * j)) else none := rfl
@[simp] theorem gLen_str (x : Str) : gLen [.str x] = if x.length ≤ 10000000 then some (.int x.length) else none := rfl
@[simp] theorem gLen_lst (w : Bool) (l : List D) : gLen [.lst w l] = some (.int l.length) := rfl
@[simp] theorem gLen_tup (l : List D) : gLen [.tup l] = some (.int l.length) := rfl
@[simp] theorem gLen_scr (l : List Int) : gLen [.scr l] = some (.int (l.map D.int).length) := rfl
@[simp] theorem gIx_lst (w : Bool) (l : List D) (i : Int) : gIx [.lst w l, .int i] = match atI l i with
  | some x => if own x = false then some x else none
  | none => none := rfl
@[simp] theorem gIx_tup (l : List D) (i : Int) : gIx [.tup l, .int i] = match atI l i with
  | some x => if own x = false then some x else none
  | none => none := rfl
@[simp] theorem gIx_scr (l : List Int) (i : Int) : gIx [.scr l, .int i] = match atI (l.map D.int) i with
  | some x => if own x = false then some x else none
  | none => none := rfl
theorem atI_ofNat {α : Type} (l : List α) (j : Nat) (h : j < l.length) : atI l (j : Int) = some l[j] := L2.atI_nat (List.getElem?_eq_getElem h)
@[simp] theorem fBody_def (n m : Nat) (f : Ev → SRes) (ds : List D) : fBody n m f ds = match f (ds.map (fun d => Cl.val d true) ++ List.replicate (m - n) .dead) with
  | .next e => .ok .non ((e.take n).map clB)
  | .ret d e => .ok d ((e.take n).map clB)
  | .err c e => .err c ((e.take n).map clB)
  | _ => .bad := rfl
@[simp] theorem clB_val (d : D) : clB (.val d true) = some d := rfl
@[simp] theorem clB_valf (d : D) : clB (.val d false) = none := rfl
@[simp] theorem clB_dead : clB .dead = none := rfl
@[simp] theorem eCall_def (F : List D → FRes) (os : List Opn) (env : Ev) : eCall F os env = (evO os env).bind fun ds e1 => match lend os ds e1 with
  | some q => match F q.1 with
    | .ok d bs => .ok d (give q.2.1 bs q.2.2)
    | .err c bs => .err c (give q.2.1 bs q.2.2)
    | .bad => .bad
  | none => .bad := rfl
@[simp] theorem lend_nil (ds : List D) (env : Ev) : lend [] ds env = some ([], [], env) := rfl
@[simp] theorem lend_e (f : Ev → Res D) (os : List Opn) (d : D) (ds : List D) (env : Ev) : lend (.e f :: os) (d :: ds) env = (lend os ds env).map fun q => (d :: q.1, none :: q.2.1, q.2.2) := rfl
@[simp] theorem lend_n (i : Nat) (os : List Opn) (ds : List D) (env : Ev) : lend (.n i :: os) ds env = match env.getD i .dead with
  | .val d fl => if own d then (lend os ds (env.set i .dead)).map fun q => (d :: q.1, some (i, fl) :: q.2.1, q.2.2) else (lend os ds env).map fun q => (d :: q.1, none :: q.2.1, q.2.2)
  | _ => none := rfl
@[simp] theorem give_nil (bs : List (Option D)) (env : Ev) : give [] bs env = env := by cases bs <;> rfl
@[simp] theorem give_none (ls : Ls) (b : Option D) (bs : List (Option D)) (env : Ev) : give (none :: ls) (b :: bs) env = give ls bs env := by cases b <;> rfl
@[simp] theorem give_some (i : Nat) (fl : Bool) (ls : Ls) (d : D) (bs : List (Option D)) (env : Ev) : give (some (i, fl) :: ls) (some d :: bs) env = give ls bs (env.set i (.val d fl)) := rfl
@[simp] theorem give_lost (i : Nat) (fl : Bool) (ls : Ls) (bs : List (Option D)) (env : Ev) : give (some (i, fl) :: ls) (none :: bs) env = give ls bs env := rfl
theorem give_nones : ∀ (ls : Ls) (bs : List (Option D)) (env : Ev), (∀ l ∈ ls, l = none) → give ls bs env = env
  | [], bs, env, _ => give_nil bs env
  | none :: ls, [], env, _ => rfl
  | none :: ls, b :: bs, env, h => by rw [give_none]; exact give_nones ls bs env fun l hl => h l (List.mem_cons_of_mem _ hl)
  | some q :: ls, bs, env, h => by cases h _ List.mem_cons_self
@[simp] theorem give_1 (bs : List (Option D)) (env : Ev) : give [none] bs env = env := give_nones _ _ _ (by simp)
@[simp] theorem give_2 (bs : List (Option D)) (env : Ev) : give [none, none] bs env = env := give_nones _ _ _ (by simp)
@[simp] theorem give_3 (bs : List (Option D)) (env : Ev) : give [none, none, none] bs env = env := give_nones _ _ _ (by simp)
@[simp] theorem give_4 (bs : List (Option D)) (env : Ev) : give [none, none, none, none] bs env = env := give_nones _ _ _ (by simp)
@[simp] theorem give_5 (bs : List (Option D)) (env : Ev) : give [none, none, none, none, none] bs env = env := give_nones _ _ _ (by simp)
@[simp] theorem mapEv_next (k : Ev → Ev) (e : Ev) : (SRes.next e).mapEv k = .next (k e) := rfl
@[simp] theorem mapEv_ret (k : Ev → Ev) (d : D) (e : Ev) : (SRes.ret d e).mapEv k = .ret d (k e) := rfl
@[simp] theorem mapEv_err (k : Ev → Ev) (d : Str) (e : Ev) : (SRes.err d e).mapEv k = .err d (k e) := rfl
@[simp] theorem back_none (e : Ev) : back none e = e := rfl
@[simp] theorem sFor_def (src : Ev → Res (List D × Bk)) (b : D → Ev → Option Ev) (body : Ev → SRes) (env : Ev) : sFor src b body env = (src env).to fun a e1 => (forRun b body a.1 e1).mapEv (back a.2) := rfl
@[simp] theorem srcE_def (it : D → Option (List D)) (f : Ev → Res D) (env : Ev) : srcE it f env = (f env).bind fun d e1 => match it d with
  | some l => .ok (l, none) e1
  | none => .bad := rfl
@[simp] theorem srcN_def (it : D → Option (List D)) (i : Nat) (env : Ev) : srcN it i env = match env.getD i .dead with
  | .val d fl => (match it d with
    | some l => if own d = false then .ok (l, none) env else .ok (l, some (i, d, fl)) (env.set i .hole)
    | none => .bad)
  | _ => .bad := rfl
@[simp] theorem srcR1_def (f : Ev → Res D) (env : Ev) : srcR1 f env = (eInt f env).bind fun d e1 => match d with
  | .int j => if rngOk j = true then .ok (rngD 0 j, none) e1 else .bad
  | _ => .bad := rfl
/-- chars of a text -/
def chs (x : Str) : List D := x.cps.toList.map fun c => .str ⟨#[c]⟩
@[simp] theorem itemsD_str (x : Str) : itemsD (.str x) = some (chs x) := rfl
@[simp] theorem itemsEn_str (x : Str) : itemsEn (.str x) = some (enD (chs x)) := rfl
theorem itemsD_lst {w : Bool} {l : List D} (h : ownL l = false) : itemsD (.lst w l) = some l := by show (if ownL l = false then some l else none) = _; rw [if_pos h]
theorem itemsD_tup {l : List D} (h : ownL l = false) : itemsD (.tup l) = some l := by show (if ownL l = false then some l else none) = _; rw [if_pos h]
theorem itemsEn_lst {w : Bool} {l : List D} (h : ownL l = false) : itemsEn (.lst w l) = some (enD l) := by show (if ownL l = false then some (enD l) else none) = _; rw [if_pos h]
/-! ### loops -/
/-- a for that runs to its end -/
theorem forRun_inv {b : D → Ev → Option Ev} {body : Ev → SRes} (P : Nat → Ev → Prop) (ds : List D) : ∀ (k : Nat) (e : Ev), P k e → (∀ i d e, ds[i]? = some d → P (k + i) e → ∃ e1, b d e = some e1 ∧ ∃ e2, (body e1 = .next e2 ∨ body e1 = .cont e2) ∧ P (k + i + 1) e2) →
    ∃ e', forRun b body ds e = .next e' ∧ P (k + ds.length) e' := by
  induction ds with
  | nil => intro k e h _; exact ⟨e, rfl, h⟩
  | cons d ds ih =>
    intro k e h step
    obtain ⟨e1, h1, e2, h2, h3⟩ := step 0 d e rfl h
    obtain ⟨e', h4, h5⟩ := ih (k + 1) e2 (by simpa using h3) fun i d' e he hp => by
      have := step (i + 1) d' e (by simpa using he) (by have e0 : k + (i + 1) = k + 1 + i := by omega
                                                        rw [e0]; exact hp)
      have e0 : k + (i + 1) = k + 1 + i := by omega
      rw [e0] at this
      exact this
    refine ⟨e', ?_, by have e0 : k + (d :: ds).length = k + 1 + ds.length := by simp; omega
                       rw [e0]; exact h5⟩
    rw [forRun, h1]
    rcases h2 with h2 | h2 <;> (simp only [h2]; exact h4)
theorem for_inv {b : D → Ev → Option Ev} {body : Ev → SRes} (P : Nat → Ev → Prop) {ds : List D} {e : Ev} (h0 : P 0 e) (step : ∀ i d e, ds[i]? = some d → P i e → ∃ e1, b d e = some e1 ∧ ∃ e2, (body e1 = .next e2 ∨ body e1 = .cont e2) ∧ P (i + 1) e2) :
    ∃ e', forRun b body ds e = .next e' ∧ P ds.length e' := by
  have := forRun_inv P ds 0 e h0 (by simpa using step)
  simpa using this
/-- a comprehension that changes nothing but its own names -/
theorem lc_pure {b : D → Ev → Option Ev} {cond : Ev → Res Bool} {elt : Ev → Res D} {vs : List Nat} {K0 : Ev} {p : D → Bool} {f : D → D} : ∀ (ds : List D) (acc : List D) (e : Ev), kill vs e = K0 → acc.length + ds.length ≤ 10000000 →
    (∀ d ∈ ds, ∃ e1, b d K0 = some e1 ∧ ∃ e2, cond e1 = .ok (p d) e2 ∧ (p d = false → kill vs e2 = K0) ∧ (p d = true → ∃ e3, elt e2 = .ok (f d) e3 ∧ kill vs e3 = K0)) → lcRun b cond elt vs ds acc e = .ok (acc ++ (ds.filter p).map f) K0
  | [], acc, e, hk, _, _ => by rw [lcRun, hk]; simp
  | d :: ds, acc, e, hk, hl, h => by
    obtain ⟨e1, h1, e2, h2, h3, h4⟩ := h d List.mem_cons_self
    have h' : ∀ d ∈ ds, _ := fun d hd => h d (List.mem_cons_of_mem _ hd)
    rw [lcRun, hk, h1]
    simp only [h2]
    cases hp : p d with
    | false =>
      rw [List.filter_cons_of_neg (by simp [hp])]
      exact lc_pure ds acc e2 (h3 hp) (by simp at hl; omega) h'
    | true =>
      obtain ⟨e3, h5, h6⟩ := h4 hp
      rw [List.filter_cons_of_pos (by simp [hp])]
      simp only [h5]
      have hl' : acc.length < 10000000 := by simp at hl; omega
      rw [if_pos hl', lc_pure ds (acc ++ [f d]) e3 h6 (by simp at hl ⊢; omega) h']
      simp
theorem lc_map {b : D → Ev → Option Ev} {elt : Ev → Res D} {vs : List Nat} {K0 : Ev} {f : D → D} {ds : List D} {e : Ev} (hk : kill vs e = K0) (hl : ds.length ≤ 10000000)
    (h : ∀ d ∈ ds, ∃ e1, b d K0 = some e1 ∧ ∃ e3, elt e1 = .ok (f d) e3 ∧ kill vs e3 = K0) : lcRun b (fun env => .ok true env) elt vs ds [] e = .ok (ds.map f) K0 := by
  have := lc_pure (p := fun _ => true) (f := f) (cond := fun env => .ok true env) ds [] e hk (by simpa using hl) fun d hd => by
    obtain ⟨e1, h1, e3, h2, h3⟩ := h d hd
    refine ⟨e1, h1, e1, rfl, ?_, fun _ => ⟨e3, h2, h3⟩⟩
    intro z
    cases z
  rw [this, List.filter_eq_self.mpr (by simp)]
  simp
/-- a comprehension that goes on with a state -/
theorem lc_inv {b : D → Ev → Option Ev} {elt : Ev → Res D} {vs : List Nat} (P : Nat → List D → Ev → Prop) : ∀ (ds : List D) (k : Nat) (acc : List D) (e : Ev), P k acc (kill vs e) → acc.length + ds.length ≤ 10000000 →
    (∀ i d acc e, ds[i]? = some d → P (k + i) acc e → ∃ e1, b d e = some e1 ∧ ∃ y e3, elt e1 = .ok y e3 ∧ P (k + i + 1) (acc ++ [y]) (kill vs e3)) → ∃ acc' e', lcRun b (fun env => .ok true env) elt vs ds acc e = .ok acc' e' ∧ P (k + ds.length) acc' e'
  | [], k, acc, e, h, _, _ => ⟨acc, _, rfl, h⟩
  | d :: ds, k, acc, e, h, hl, st => by
    obtain ⟨e1, h1, y, e3, h2, h3⟩ := st 0 d acc _ rfl h
    have hl' : acc.length < 10000000 := by simp at hl; omega
    obtain ⟨acc', e', h4, h5⟩ := lc_inv P ds (k + 1) (acc ++ [y]) e3 h3 (by simp at hl ⊢; omega) fun i d' acc' e he hp => by
      have e0 : k + (i + 1) = k + 1 + i := by omega
      have := st (i + 1) d' acc' e (by simpa using he) (by rw [e0]; exact hp)
      rw [e0] at this
      exact this
    refine ⟨acc', e', ?_, by have e0 : k + (d :: ds).length = k + 1 + ds.length := by simp; omega
                             rw [e0]; exact h5⟩
    rw [lcRun, h1]
    simp only [h2, if_pos hl']
    exact h4
@[simp] theorem eLc_def (src : Ev → Res (List D × Bk)) (b : D → Ev → Option Ev) (cond : Ev → Res Bool) (elt : Ev → Res D) (vs : List Nat) (env : Ev) : eLc src b cond elt vs env = (src env).bind fun a e1 => (lcRun b cond elt vs a.1 [] e1).bind fun ds e2 => .ok (.lst true ds) (back a.2 e2) := rfl
@[simp] theorem kill_nil (env : Ev) : kill [] env = env := rfl
@[simp] theorem srcR2_def (f g : Ev → Res D) (env : Ev) : srcR2 f g env = (eInt f env).bind fun x e1 => (eInt g e1).bind fun d e2 => match x, d with
  | .int i, .int j => if (rngOk i && rngOk j) = true then .ok (rngD i j, none) e2 else .bad
  | _, _ => .bad := rfl
theorem eAppend_ok {i : Nat} {f : Ev → Res D} {env e1 : Ev} {l0 l : List D} {f0 fl : Bool} {d : D} (h0 : env.getD i .dead = .val (.lst true l0) f0) (h1 : f env = .ok d e1) (h2 : e1.getD i .dead = .val (.lst true l) fl) (h3 : l.length < 10000000) : eAppend i f env = .ok .non (e1.set i (.val (.lst true (l ++ [d])) fl)) := by
  unfold eAppend
  rw [Ev.at_def, h0]
  simp only [h1, Res.bind_ok]
  rw [Ev.at_def, h2]
  simp only [if_pos h3]
theorem bSub_ok {i : Nat} {fi : Ev → Res D} {env e1 : Ev} {l0 l : List D} {f0 fl : Bool} {d : D} {k : Nat} (h0 : env.getD i .dead = .val (.lst true l0) f0) (h1 : fi env = .ok (.int k) e1) (h2 : e1.getD i .dead = .val (.lst true l) fl) (h3 : k < l.length) : bSub i fi d env = some (e1.set i (.val (.lst true (l.set k d)) fl)) := by
  unfold bSub
  rw [Ev.at_def, h0]
  simp only [h1]
  rw [Ev.at_def, h2]
  have e : ixN l.length (k : Int) = some k := by unfold ixN; rw [if_pos (by omega), if_pos (by omega)]; rfl
  simp only [e, Option.map_some]
theorem chs_length (x : Str) : (chs x).length = x.cps.size := by unfold chs; simp
@[simp] theorem ownL_chs (x : Str) : ownL (chs x) = false := by
  unfold chs
  exact (congrArg ownL (List.map_map (f := fun c => (⟨#[c]⟩ : Str)) (g := D.str) (l := x.cps.toList)).symm).trans (ownL_strs _)
end VS

/-! VS17: built-ins on lists of ints, of truths. -/
namespace VS
open PySem PySem.Spec L2
theorem allD_map {α β : Type} {g : D → Option α} (f : β → D) (h : β → α) (e : ∀ b, g (f b) = some (h b)) : ∀ l : List β, allD g (l.map f) = some (l.map h)
  | [] => rfl
  | b :: l => by rw [List.map_cons, allD, e b, allD_map f h e l]; rfl
@[simp] theorem allD_ints (l : List Int) : allD intD (l.map D.int) = some l := by rw [allD_map (g := intD) D.int id fun _ => rfl]; simp
@[simp] theorem allD_bls (l : List Bool) : allD blD (l.map D.bl) = some l := by rw [allD_map (g := blD) D.bl id fun _ => rfl]; simp
@[simp] theorem allD_strs (l : List Str) : allD strD (l.map D.str) = some l := by rw [allD_map (g := strD) D.str id fun _ => rfl]; simp
theorem gAll_lst (w : Bool) (l : List D) (bs : List Bool) (h : l = bs.map D.bl) : gAll [.lst w l] = some (.bl (bs.all id)) := by
  subst h
  show (allD blD _).map _ = _
  rw [allD_bls]; rfl
theorem gSum_lst (w : Bool) (ns : List Int) : gSum [.lst w (ns.map .int)] = some (.int ns.sum) := by
  show (allD intD _).map _ = _
  rw [allD_ints]; rfl
@[simp] theorem gSum_scr (ns : List Int) : gSum [.scr ns] = some (.int ns.sum) := by
  show (allD intD _).map _ = _
  rw [allD_ints]; rfl
@[simp] theorem gMax2_def (i j : Int) : gMax2 [.int i, .int j] = some (.int (max i j)) := by
  show some (D.int (if j > i then j else i)) = _
  congr 2
  split <;> omega
@[simp] theorem gMin2_def (i j : Int) : gMin2 [.int i, .int j] = some (.int (min i j)) := by
  show some (D.int (if j < i then j else i)) = _
  congr 2
  split <;> omega
@[simp] theorem gInt_int (i : Int) : gInt [.int i] = some (.int i) := rfl
@[simp] theorem gNeg_int (i : Int) : gNeg [.int i] = some (.int (-i)) := rfl
@[simp] theorem seqD_lst (w : Bool) (l : List D) : seqD (.lst w l) = some l := rfl
@[simp] theorem seqD_tup (l : List D) : seqD (.tup l) = some l := rfl
@[simp] theorem seqD_scr (l : List Int) : seqD (.scr l) = some (l.map .int) := rfl
@[simp] theorem gTuple_lst (w : Bool) (l : List D) : gTuple [.lst w l] = if ownL l = false then some (.tup l) else none := rfl
@[simp] theorem gTuple_tup (l : List D) : gTuple [.tup l] = if ownL l = false then some (.tup l) else none := rfl
@[simp] theorem gList_lst (w : Bool) (l : List D) : gList [.lst w l] = if ownL l = false then some (.lst true l) else none := rfl
@[simp] theorem gList_tup (l : List D) : gList [.tup l] = if ownL l = false then some (.lst true l) else none := rfl
@[simp] theorem gMul_lst (w : Bool) (l : List D) (k : Int) : gMul [.lst w l, .int k] = if l.length * k.toNat ≤ 10000000 ∧ ownL l = false ∧ rngOk k = true then some (.lst true (List.replicate k.toNat l).flatten) else none := rfl
@[simp] theorem gAdd_lst (w v : Bool) (l m : List D) : gAdd [.lst w l, .lst v m] = if l.length + m.length ≤ 10000000 ∧ ownL l = false ∧ ownL m = false then some (.lst true (l ++ m)) else none := rfl
@[simp] theorem gAdd_tup (l m : List D) : gAdd [.tup l, .tup m] = if l.length + m.length ≤ 10000000 ∧ ownL l = false ∧ ownL m = false then some (.tup (l ++ m)) else none := rfl
@[simp] theorem gRevL_lst (w : Bool) (l : List D) : gRevL [.lst w l] = if ownL l = false then some (.lst true l.reverse) else none := rfl
@[simp] theorem gEqA_str (a b : Str) : gEqA [.str a, .str b] = some (.bl (decide (a = b))) := rfl
@[simp] theorem gNeA_str (a b : Str) : gNeA [.str a, .str b] = some (.bl (!decide (a = b))) := rfl
@[simp] theorem gEqA_int (a b : Int) : gEqA [.int a, .int b] = some (.bl (decide (a = b))) := rfl
@[simp] theorem gNeA_int (a b : Int) : gNeA [.int a, .int b] = some (.bl (!decide (a = b))) := rfl
@[simp] theorem gEq_def (d e : D) : gEq [d, e] = (eqD2 d e).map .bl := rfl
@[simp] theorem gNe_def (d e : D) : gNe [d, e] = (eqD2 d e).map fun b => .bl (!b) := rfl
theorem gIn_ch (c : Nat) (z : Str) : gIn [.str ⟨#[c]⟩, .str z] = some (.bl (decide (c ∈ z.cps.toList))) := rfl
theorem enD_get? (l : List D) (i : Nat) : (enD l)[i]? = l[i]?.map fun d => .tup [.int (i : Nat), d] := by
  unfold enD
  rw [List.getElem?_map, List.getElem?_zipIdx]
  cases l[i]? <;> simp
@[simp] theorem enD_length (l : List D) : (enD l).length = l.length := enD_len l
theorem chs_get? (x : Str) (i : Nat) : (chs x)[i]? = x.cps.toList[i]?.map fun c => .str ⟨#[c]⟩ := by unfold chs; rw [List.getElem?_map]
theorem str1 {a b : Nat} : ((⟨#[a]⟩ : Str) = ⟨#[b]⟩) ↔ a = b := by simp
/-- a text's signs -/
def cs (x : Str) : List Nat := x.cps.toList
def ch (c : Nat) : D := .str ⟨#[c]⟩
theorem chs_cs (x : Str) : chs x = (cs x).map ch := rfl
theorem cs_length (x : Str) : (cs x).length = x.cps.size := by unfold cs; simp
theorem len_cs (x : Str) : x.length = (cs x).length := by rw [cs_length]; rfl
@[simp] theorem chs_len (x : Str) : (chs x).length = (cs x).length := by rw [chs_cs, List.length_map]
@[simp] theorem own_ch (c : Nat) : own (ch c) = false := rfl
@[simp] theorem frz_ch (c : Nat) : frz (ch c) = ch c := rfl
theorem gIn_cs (c : Nat) (z : Str) : gIn [ch c, .str z] = some (.bl (decide (c ∈ cs z))) := rfl
@[simp] theorem gEqA_ch (a b : Nat) : gEqA [ch a, ch b] = some (.bl (decide (a = b))) := by
  show some (D.bl (decide ((⟨#[a]⟩ : Str) = ⟨#[b]⟩))) = _
  congr 2
  simp
/-- a comprehension over l, whose items are g's -/
theorem lc_over {α : Type} {b : D → Ev → Option Ev} {cond : Ev → Res Bool} {elt : Ev → Res D} {vs : List Nat} {K0 : Ev} (g h : α → D) (p : α → Bool) : ∀ (l : List α) (acc : List D) (e : Ev), kill vs e = K0 → acc.length + l.length ≤ 10000000 →
    (∀ x ∈ l, ∃ e1, b (g x) K0 = some e1 ∧ ∃ e2, cond e1 = .ok (p x) e2 ∧ (p x = false → kill vs e2 = K0) ∧ (p x = true → ∃ e3, elt e2 = .ok (h x) e3 ∧ kill vs e3 = K0)) → lcRun b cond elt vs (l.map g) acc e = .ok (acc ++ (l.filter p).map h) K0
  | [], acc, e, hk, _, _ => by rw [List.map_nil, lcRun, hk]; simp
  | d :: ds, acc, e, hk, hl, hh => by
    obtain ⟨e1, h1, e2, h2, h3, h4⟩ := hh d List.mem_cons_self
    have h' := fun d' hd => hh d' (List.mem_cons_of_mem d hd)
    rw [List.map_cons, lcRun, hk, h1]
    simp only [h2]
    cases hp : p d with
    | false =>
      rw [List.filter_cons_of_neg (by simp [hp])]
      exact lc_over g h p ds acc e2 (h3 hp) (by simp at hl; omega) h'
    | true =>
      obtain ⟨e3, h5, h6⟩ := h4 hp
      rw [List.filter_cons_of_pos (by simp [hp])]
      simp only [h5]
      have hl' : acc.length < 10000000 := by simp at hl; omega
      rw [if_pos hl', lc_over g h p ds (acc ++ [h d]) e3 h6 (by simp at hl ⊢; omega) h']
      simp
theorem lc_all {α : Type} {b : D → Ev → Option Ev} {elt : Ev → Res D} {vs : List Nat} {K0 : Ev} (g h : α → D) {l : List α} {e : Ev} (hk : kill vs e = K0) (hl : l.length ≤ 10000000)
    (hh : ∀ x ∈ l, ∃ e1, b (g x) K0 = some e1 ∧ ∃ e3, elt e1 = .ok (h x) e3 ∧ kill vs e3 = K0) : lcRun b (fun env => .ok true env) elt vs (l.map g) [] e = .ok (l.map h) K0 := by
  have := lc_over (cond := fun env => .ok true env) g h (fun _ => true) l [] e hk (by simpa using hl) fun d hd => by
    obtain ⟨e1, h1, e3, h2, h3⟩ := hh d hd
    refine ⟨e1, h1, e1, rfl, ?_, fun _ => ⟨e3, h2, h3⟩⟩
    intro z
    cases z
  rw [this, List.filter_eq_self.mpr (by simp)]
  simp
/-- a for over l, whose items are g's; the state of the loop is S x, x by the step f -/
theorem for_fold {α β : Type} {b : D → Ev → Option Ev} {body : Ev → SRes} (g : α → D) (f : β → α → β) (R : β → Ev → Prop) : ∀ (l : List α) (x : β) (e : Ev), R x e → (∀ y a e, a ∈ l → R y e → ∃ e1, b (g a) e = some e1 ∧ ∃ e2, (body e1 = .next e2 ∨ body e1 = .cont e2) ∧ R (f y a) e2) →
    ∃ e', forRun b body (l.map g) e = .next e' ∧ R (l.foldl f x) e'
  | [], x, e, h, _ => ⟨e, rfl, h⟩
  | a :: l, x, e, h, st => by
    obtain ⟨e1, h1, e2, h2, h3⟩ := st x a e List.mem_cons_self h
    obtain ⟨e', h4, h5⟩ := for_fold g f R l (f x a) e2 h3 fun y a' e' ha => st y a' e' (List.mem_cons_of_mem _ ha)
    refine ⟨e', ?_, h5⟩
    rw [List.map_cons, forRun, h1]
    rcases h2 with h2 | h2 <;> (simp only [h2]; exact h4)
end VS

/-! what the defs of the law do, printed by gen.py -/
namespace K90
open PySem PySem.Spec L2 VS
open PyProof.Rows hiding St
def top (i : Nat) : Stmt := PySem.Challenge.pw_straightall_k90_windows_of_letters.main.body.getD i (.Pass ⟨0, 0, 0, 0⟩)
abbrev s_is_integer : Stmt := top 6
abbrev s_is_within : Stmt := top 7
abbrev s_need_number : Stmt := top 8
abbrev s_ends_from : Stmt := top 10
abbrev s_is_text : Stmt := top 14
abbrev s_shared_row : Stmt := top 15
abbrev s_text_strands : Stmt := top 16
abbrev s_window_by : Stmt := top 17
abbrev s_windows_of : Stmt := top 18
abbrev s_need_index : Stmt := top 20
abbrev s_need_index_from : Stmt := top 21
abbrev s_need_text : Stmt := top 23
abbrev s_need_texts : Stmt := top 24
abbrev s_shared : Stmt := top 25
abbrev s_shared_window : Stmt := top 26
abbrev s_window_table : Stmt := top 27
abbrev s_windows : Stmt := top 28
abbrev s_law_feed : Stmt := top 30
abbrev s_law_draw : Stmt := top 31
abbrev s_law_one : Stmt := top 32
abbrev s_law_letters : Stmt := top 34
abbrev s_law_shared : Stmt := top 35
abbrev s_law_bad_texts : Stmt := top 36
abbrev s_law_word_of : Stmt := top 37
abbrev s_law_due : Stmt := top 38
abbrev s_law_right : Stmt := top 39
abbrev s_law_refused_right : Stmt := top 40
abbrev s_law : Stmt := top 41
/-- what the top has written -/
structure Gd (K : PySem.W.Frag) (mg : Str → Option Value) where
  f_is_integer : Addr
  d_is_integer : FuncData
  F_is_integer : Fun K "is_integer" "is_integer" s_is_integer f_is_integer d_is_integer
  m_is_integer : mg "is_integer" = some (.ref f_is_integer)
  f_is_within : Addr
  d_is_within : FuncData
  F_is_within : Fun K "is_within" "is_within" s_is_within f_is_within d_is_within
  m_is_within : mg "is_within" = some (.ref f_is_within)
  f_need_number : Addr
  d_need_number : FuncData
  F_need_number : Fun K "need_number" "need_number" s_need_number f_need_number d_need_number
  m_need_number : mg "need_number" = some (.ref f_need_number)
  f_ends_from : Addr
  d_ends_from : FuncData
  F_ends_from : Fun K "ends_from" "ends_from" s_ends_from f_ends_from d_ends_from
  m_ends_from : mg "ends_from" = some (.ref f_ends_from)
  f_is_text : Addr
  d_is_text : FuncData
  F_is_text : Fun K "is_text" "is_text" s_is_text f_is_text d_is_text
  m_is_text : mg "is_text" = some (.ref f_is_text)
  f_shared_row : Addr
  d_shared_row : FuncData
  F_shared_row : Fun K "shared_row" "shared_row" s_shared_row f_shared_row d_shared_row
  m_shared_row : mg "shared_row" = some (.ref f_shared_row)
  f_text_strands : Addr
  d_text_strands : FuncData
  F_text_strands : Fun K "text_strands" "text_strands" s_text_strands f_text_strands d_text_strands
  m_text_strands : mg "text_strands" = some (.ref f_text_strands)
  f_window_by : Addr
  d_window_by : FuncData
  F_window_by : Fun K "window_by" "window_by" s_window_by f_window_by d_window_by
  m_window_by : mg "window_by" = some (.ref f_window_by)
  f_windows_of : Addr
  d_windows_of : FuncData
  F_windows_of : Fun K "windows_of" "windows_of" s_windows_of f_windows_of d_windows_of
  m_windows_of : mg "windows_of" = some (.ref f_windows_of)
  f_need_index : Addr
  d_need_index : FuncData
  F_need_index : Fun K "need_index" "need_index" s_need_index f_need_index d_need_index
  m_need_index : mg "need_index" = some (.ref f_need_index)
  f_need_index_from : Addr
  d_need_index_from : FuncData
  F_need_index_from : Fun K "need_index_from" "need_index_from" s_need_index_from f_need_index_from d_need_index_from
  m_need_index_from : mg "need_index_from" = some (.ref f_need_index_from)
  f_need_text : Addr
  d_need_text : FuncData
  F_need_text : Fun K "need_text" "need_text" s_need_text f_need_text d_need_text
  m_need_text : mg "need_text" = some (.ref f_need_text)
  f_need_texts : Addr
  d_need_texts : FuncData
  F_need_texts : Fun K "need_texts" "need_texts" s_need_texts f_need_texts d_need_texts
  m_need_texts : mg "need_texts" = some (.ref f_need_texts)
  f_shared : Addr
  d_shared : FuncData
  F_shared : Fun K "shared" "shared" s_shared f_shared d_shared
  m_shared : mg "shared" = some (.ref f_shared)
  f_shared_window : Addr
  d_shared_window : FuncData
  F_shared_window : Fun K "shared_window" "shared_window" s_shared_window f_shared_window d_shared_window
  m_shared_window : mg "shared_window" = some (.ref f_shared_window)
  f_window_table : Addr
  d_window_table : FuncData
  F_window_table : Fun K "window_table" "window_table" s_window_table f_window_table d_window_table
  m_window_table : mg "window_table" = some (.ref f_window_table)
  f_windows : Addr
  d_windows : FuncData
  F_windows : Fun K "windows" "windows" s_windows f_windows d_windows
  m_windows : mg "windows" = some (.ref f_windows)
  f_law_feed : Addr
  d_law_feed : FuncData
  F_law_feed : Fun K "_law_feed" "_law_feed" s_law_feed f_law_feed d_law_feed
  m_law_feed : mg "_law_feed" = some (.ref f_law_feed)
  f_law_draw : Addr
  d_law_draw : FuncData
  F_law_draw : Fun K "_law_draw" "_law_draw" s_law_draw f_law_draw d_law_draw
  m_law_draw : mg "_law_draw" = some (.ref f_law_draw)
  f_law_one : Addr
  d_law_one : FuncData
  F_law_one : Fun K "_law_one" "_law_one" s_law_one f_law_one d_law_one
  m_law_one : mg "_law_one" = some (.ref f_law_one)
  f_law_letters : Addr
  d_law_letters : FuncData
  F_law_letters : Fun K "_law_letters" "_law_letters" s_law_letters f_law_letters d_law_letters
  m_law_letters : mg "_law_letters" = some (.ref f_law_letters)
  f_law_shared : Addr
  d_law_shared : FuncData
  F_law_shared : Fun K "_law_shared" "_law_shared" s_law_shared f_law_shared d_law_shared
  m_law_shared : mg "_law_shared" = some (.ref f_law_shared)
  f_law_bad_texts : Addr
  d_law_bad_texts : FuncData
  F_law_bad_texts : Fun K "_law_bad_texts" "_law_bad_texts" s_law_bad_texts f_law_bad_texts d_law_bad_texts
  m_law_bad_texts : mg "_law_bad_texts" = some (.ref f_law_bad_texts)
  f_law_word_of : Addr
  d_law_word_of : FuncData
  F_law_word_of : Fun K "_law_word_of" "_law_word_of" s_law_word_of f_law_word_of d_law_word_of
  m_law_word_of : mg "_law_word_of" = some (.ref f_law_word_of)
  f_law_due : Addr
  d_law_due : FuncData
  F_law_due : Fun K "_law_due" "_law_due" s_law_due f_law_due d_law_due
  m_law_due : mg "_law_due" = some (.ref f_law_due)
  f_law_right : Addr
  d_law_right : FuncData
  F_law_right : Fun K "_law_right" "_law_right" s_law_right f_law_right d_law_right
  m_law_right : mg "_law_right" = some (.ref f_law_right)
  f_law_refused_right : Addr
  d_law_refused_right : FuncData
  F_law_refused_right : Fun K "_law_refused_right" "_law_refused_right" s_law_refused_right f_law_refused_right d_law_refused_right
  m_law_refused_right : mg "_law_refused_right" = some (.ref f_law_refused_right)
  f_law : Addr
  d_law : FuncData
  F_law : Fun K "law" "law" s_law f_law d_law
  m_law : mg "law" = some (.ref f_law)
  z_all : mg "all" = none
  z_bool : mg "bool" = none
  z_enumerate : mg "enumerate" = none
  z_int : mg "int" = none
  z_isinstance : mg "isinstance" = none
  z_len : mg "len" = none
  z_max : mg "max" = none
  z_min : mg "min" = none
  z_range : mg "range" = none
  z_repr : mg "repr" = none
  z_str : mg "str" = none
  z_sum : mg "sum" = none
  z_tuple : mg "tuple" = none
  z_zip : mg "zip" = none
  c_LETTERS : ∃ t, mg "LETTERS" = some (.str "abcdefghijklmnopqrstuvwxyz" t)
  c_MOST_LETTERS : ∃ t, mg "MOST_LETTERS" = some (.int 6 t)
  A_BadIndex : Addr
  m_BadIndex : mg "BadIndex" = some (.ref A_BadIndex)
  sb_BadIndex : PySem.W.subIn K (.ref A_BadIndex) (.type "BaseException") = some true
  ty_BadIndex : PySem.W.typeIn K (.ref A_BadIndex) = some (.type "type")
  hd_BadIndex : PySem.W.hasDictIn K A_BadIndex = true
  se_BadIndex : PySem.W.subIn K (.ref A_BadIndex) (.ref A_BadIndex) = some true
  A_BadNumber : Addr
  m_BadNumber : mg "BadNumber" = some (.ref A_BadNumber)
  sb_BadNumber : PySem.W.subIn K (.ref A_BadNumber) (.type "BaseException") = some true
  ty_BadNumber : PySem.W.typeIn K (.ref A_BadNumber) = some (.type "type")
  hd_BadNumber : PySem.W.hasDictIn K A_BadNumber = true
  se_BadNumber : PySem.W.subIn K (.ref A_BadNumber) (.ref A_BadNumber) = some true
  A_BadText : Addr
  m_BadText : mg "BadText" = some (.ref A_BadText)
  sb_BadText : PySem.W.subIn K (.ref A_BadText) (.type "BaseException") = some true
  ty_BadText : PySem.W.typeIn K (.ref A_BadText) = some (.type "type")
  hd_BadText : PySem.W.hasDictIn K A_BadText = true
  se_BadText : PySem.W.subIn K (.ref A_BadText) (.ref A_BadText) = some true
  A_LeastError : Addr
  m_LeastError : mg "LeastError" = some (.ref A_LeastError)
  sb_LeastError : PySem.W.subIn K (.ref A_LeastError) (.type "BaseException") = some true
  ty_LeastError : PySem.W.typeIn K (.ref A_LeastError) = some (.type "type")
  hd_LeastError : PySem.W.hasDictIn K A_LeastError = true
  se_LeastError : PySem.W.subIn K (.ref A_LeastError) (.ref A_LeastError) = some true
  kp_BadIndex : PySem.W.keepIn K (.ref A_BadIndex) = true
  q_BadIndex : PySem.W.excIn K A_BadIndex [.type "ValueError", .type "Exception", .type "BaseException", .type "object"] "ValueError.__new__" = true
  kp_BadNumber : PySem.W.keepIn K (.ref A_BadNumber) = true
  q_BadNumber : PySem.W.excIn K A_BadNumber [.type "ValueError", .type "Exception", .type "BaseException", .type "object"] "ValueError.__new__" = true
  kp_BadText : PySem.W.keepIn K (.ref A_BadText) = true
  q_BadText : PySem.W.excIn K A_BadText [.type "ValueError", .type "Exception", .type "BaseException", .type "object"] "ValueError.__new__" = true
  x_BadIndex : ExcC K A_BadIndex
  x_BadNumber : ExcC K A_BadNumber
  x_BadText : ExcC K A_BadText
  su_BadIndex_BadIndex : PySem.W.subIn K (.ref A_BadIndex) (.ref A_BadIndex) = some true
  su_BadIndex_BadNumber : PySem.W.subIn K (.ref A_BadIndex) (.ref A_BadNumber) = some false
  su_BadIndex_BadText : PySem.W.subIn K (.ref A_BadIndex) (.ref A_BadText) = some false
  su_BadIndex_LeastError : PySem.W.subIn K (.ref A_BadIndex) (.ref A_LeastError) = some true
  su_BadNumber_BadIndex : PySem.W.subIn K (.ref A_BadNumber) (.ref A_BadIndex) = some false
  su_BadNumber_BadNumber : PySem.W.subIn K (.ref A_BadNumber) (.ref A_BadNumber) = some true
  su_BadNumber_BadText : PySem.W.subIn K (.ref A_BadNumber) (.ref A_BadText) = some false
  su_BadNumber_LeastError : PySem.W.subIn K (.ref A_BadNumber) (.ref A_LeastError) = some true
  su_BadText_BadIndex : PySem.W.subIn K (.ref A_BadText) (.ref A_BadIndex) = some false
  su_BadText_BadNumber : PySem.W.subIn K (.ref A_BadText) (.ref A_BadNumber) = some false
  su_BadText_BadText : PySem.W.subIn K (.ref A_BadText) (.ref A_BadText) = some true
  su_BadText_LeastError : PySem.W.subIn K (.ref A_BadText) (.ref A_LeastError) = some true
/-! ### is_integer -/
def b_is_integer : Ev → SRes := sRet (eAnd (eRO [.n 0] (gIsi "int")) (eNot (eRO [.n 0] (gIsi "bool"))))
def f_is_integer : List D → FRes := fBody 1 1 b_is_integer
theorem sc_is_integer : FnScope ["thing"] ["thing"] (defScope s_is_integer) := ⟨rfl, rfl, rfl, by decide +kernel, rfl, by decide +kernel, by decide +kernel⟩
theorem ok_is_integer {P : Program} {w : World} {K : PySem.W.Frag} {mg : Str → Option Value} (g : Gd K mg) (base : Heap) : FnOkG P w K mg base 1 g.f_is_integer g.d_is_integer ["thing"] (spV mg 1 f_is_integer) :=
  fun_ok (N := ["thing"]) (n := 1) b_is_integer g.F_is_integer sc_is_integer rfl fun cdv A outer s H E hr tk po => show PSs _ _ (tS _ _ b_is_integer) from
    (sv_one (sv_ret (ev_and (ev_isi (T := "int") (by decide) g.z_isinstance g.z_int (by decide +kernel) (on 0)) (ev_one (ev_not (ev_isi (T := "bool") (by decide) g.z_isinstance g.z_bool (by decide +kernel) (on 0)))))))
theorem bn_is_integer {K : PySem.W.Frag} {mg : Str → Option Value} (g : Gd K mg) : Binds K g.d_is_integer ["thing"] [] := g.F_is_integer.binds fun _ _ _ _ _ _ us hl => match us, hl with | [_], _ => rfl

/-! ### is_within -/
def b_is_within : Ev → SRes := sRet (eAnd (eCall f_is_integer [.n 0]) (eChain (fun i j => decide (i ≤ j)) (fun i j => decide (i ≤ j)) (eVar 1) (eVar 0) (eVar 2)))
def f_is_within : List D → FRes := fBody 3 3 b_is_within
theorem sc_is_within : FnScope ["thing", "least", "most"] ["thing", "least", "most"] (defScope s_is_within) := ⟨rfl, rfl, rfl, by decide +kernel, rfl, by decide +kernel, by decide +kernel⟩
theorem ok_is_within {P : Program} {w : World} {K : PySem.W.Frag} {mg : Str → Option Value} (g : Gd K mg) (base : Heap) : FnOkG P w K mg base 2 g.f_is_within g.d_is_within ["thing", "least", "most"] (spV mg 3 f_is_within) :=
  fun_ok (N := ["thing", "least", "most"]) (n := 3) b_is_within g.F_is_within sc_is_within rfl fun cdv A outer s H E hr tk po => show PSs _ _ (tS _ _ b_is_within) from
    (sv_one (sv_ret (ev_and (ev_call (ok_is_integer g _) (hr.mono (by decide)) g.m_is_integer g.F_is_integer.kp (bn_is_integer g) tk (oa_cons (on 0) oa_nil)) (ev_one (ev_chain op_le op_le (ev_var 1) (ev_var 0) (ev_var 2))))))
theorem bn_is_within {K : PySem.W.Frag} {mg : Str → Option Value} (g : Gd K mg) : Binds K g.d_is_within ["thing", "least", "most"] [] := g.F_is_within.binds fun _ _ _ _ _ _ us hl => match us, hl with | [_, _, _], _ => rfl

/-! ### need_number -/
def b_need_number : Ev → SRes := sIf (bNot (asB (eCall f_is_within [.n 0, .n 1, .n 2]))) (sRaise "BadNumber") (sSkip)
def f_need_number : List D → FRes := fBody 3 3 b_need_number
theorem sc_need_number : FnScope ["number", "least", "most"] ["number", "least", "most"] (defScope s_need_number) := ⟨rfl, rfl, rfl, by decide +kernel, rfl, by decide +kernel, by decide +kernel⟩
theorem ok_need_number {P : Program} {w : World} {K : PySem.W.Frag} {mg : Str → Option Value} (g : Gd K mg) (base : Heap) : FnOkG P w K mg base 3 g.f_need_number g.d_need_number ["number", "least", "most"] (spV mg 3 f_need_number) :=
  fun_ok (N := ["number", "least", "most"]) (n := 3) b_need_number g.F_need_number sc_need_number rfl fun cdv A outer s H E hr tk po => show PSs _ _ (tS _ _ b_need_number) from
    (sv_one (sv_if (tv_not (tv_val (ev_call (ok_is_within g _) (hr.mono (by decide)) g.m_is_within g.F_is_within.kp (bn_is_within g) tk (oa_cons (on 0) (oa_cons (on 1) (oa_cons (on 2) oa_nil)))))) (sv_one (sv_raise PySem.F.excBase_ValueError g.q_BadNumber g.m_BadNumber g.kp_BadNumber (raises_own g.sb_BadNumber g.ty_BadNumber) tk)) sv_nil))
theorem bn_need_number {K : PySem.W.Frag} {mg : Str → Option Value} (g : Gd K mg) : Binds K g.d_need_number ["number", "least", "most"] [] := g.F_need_number.binds fun _ _ _ _ _ _ us hl => match us, hl with | [_, _, _], _ => rfl

/-! ### ends_from -/
def b_ends_from_L1 : Ev → SRes := sAsg (eVar 2) (bSub 1 (eVar 3))
def b_ends_from : Ev → SRes := sSeq (sAsg (eRO [.e (eLst (aCons (eC (.int 0)) (aNil))), .e (eRO [.n 0] gLen)] gMul) (bName 1)) (sSeq (sFor (srcN itemsEn 0) (bTup [bName 2, bName 3]) b_ends_from_L1) (sRet (eRO [.n 1] gTuple)))
def f_ends_from : List D → FRes := fBody 1 4 b_ends_from
theorem sc_ends_from : FnScope ["here", "ends", "end", "strand"] ["here"] (defScope s_ends_from) := ⟨rfl, rfl, rfl, by decide +kernel, rfl, by decide +kernel, by decide +kernel⟩
theorem ok_ends_from {P : Program} {w : World} {K : PySem.W.Frag} {mg : Str → Option Value} (g : Gd K mg) (base : Heap) : FnOkG P w K mg base 1 g.f_ends_from g.d_ends_from ["here"] (spV mg 1 f_ends_from) :=
  fun_ok (N := ["here", "ends", "end", "strand"]) (n := 1) b_ends_from g.F_ends_from sc_ends_from rfl fun cdv A outer s H E hr tk po => show PSs _ _ (tS _ _ b_ends_from) from
    (sv_cons (sv_set (i := 1) sc_ends_from.nd (e_mul (oe (ev_lst (av_cons ev_int av_nil))) (oe (b_len g.z_len (on 0)))))
      (sv_cons (sv_for po rfl (iv_enN 0 g.z_enumerate) (gv_tup rfl (gvs_cons (gv_name (i := 2) sc_ends_from.nd) (gvs_cons (gv_name (i := 3) sc_ends_from.nd) gvs_nil))) (show PSs _ _ (tS _ _ b_ends_from_L1) from (sv_one (sv_asg (ev_var 2) (gv_sub 1 (ev_var 3))))))
      (sv_one (sv_ret (b_tuple g.z_tuple (on 1))))))
theorem bn_ends_from {K : PySem.W.Frag} {mg : Str → Option Value} (g : Gd K mg) : Binds K g.d_ends_from ["here"] [] := g.F_ends_from.binds fun _ _ _ _ _ _ us hl => match us, hl with | [_], _ => rfl

/-! ### is_text -/
def b_is_text_E1 : Ev → Res D := eRO [.n 1, .e (eC (.str "abcdefghijklmnopqrstuvwxyz"))] gIn
def b_is_text : Ev → SRes := sRet (eAnd (eRO [.n 0] (gIsi "str")) (eAnd (eRO [.e (eRO [.n 0] gLen), .e (eC (.int 6))] gLe) (eRO [.e (eLc (srcN itemsD 0) (bName 1) (fun env => .ok true env) b_is_text_E1 [1])] gAll)))
def f_is_text : List D → FRes := fBody 1 2 b_is_text
theorem sc_is_text : FnScope ["thing", "letter"] ["thing"] (defScope s_is_text) := ⟨rfl, rfl, rfl, by decide +kernel, rfl, by decide +kernel, by decide +kernel⟩
theorem ok_is_text {P : Program} {w : World} {K : PySem.W.Frag} {mg : Str → Option Value} (g : Gd K mg) (base : Heap) : FnOkG P w K mg base 1 g.f_is_text g.d_is_text ["thing"] (spV mg 1 f_is_text) :=
  fun_ok (N := ["thing", "letter"]) (n := 1) b_is_text g.F_is_text sc_is_text rfl fun cdv A outer s H E hr tk po => show PSs _ _ (tS _ _ b_is_text) from
    (sv_one (sv_ret (ev_and (ev_isi (T := "str") (by decide) g.z_isinstance g.z_str (by decide +kernel) (on 0)) (ev_and (e_le (oe (b_len g.z_len (on 0))) (oe (ev_gint rfl g.c_MOST_LETTERS))) (ev_one (b_all rfl g.z_all (oe (ev_lc (own := [("letter", 1)]) rfl sc_is_text.nd (iv_n 0) (blkOk_by (by rfl)) (fun _ _ _ _ _ => (gv_name (i := 1) sc_is_text.nd)) (fun _ _ _ _ _ => cv_nil) (fun _ _ _ _ _ => (e_in (on 1) (oe (ev_gstr rfl g.c_LETTERS))))))))))))
theorem bn_is_text {K : PySem.W.Frag} {mg : Str → Option Value} (g : Gd K mg) : Binds K g.d_is_text ["thing"] [] := g.F_is_text.binds fun _ _ _ _ _ _ us hl => match us, hl with | [_], _ => rfl

/-! ### shared_row -/
def b_shared_row_L1 : Ev → SRes := sDrop (eAppend 4 (eIf (asB (eRO [.n 6, .n 3] gEqA)) (eRO [.e (eRO [.n 2, .n 5] gIx), .e (eC (.int 1))] gAdd) (eRO [.e (eRO [.n 2, .e (eRO [.n 5, .e (eC (.int 1))] gAdd)] gIx), .e (eRO [.n 4, .n 5] gIx)] gMax2)))
def b_shared_row_L2 : Ev → SRes := sSeq (sAsg (eLst (aCons (eC (.int 0)) (aNil))) (bName 4)) (sSeq (sFor (srcN itemsEn 1) (bTup [bName 5, bName 6]) b_shared_row_L1) (sAsg (eVar 4) (bName 2)))
def b_shared_row : Ev → SRes := sSeq (sAsg (eRO [.e (eLst (aCons (eC (.int 0)) (aNil))), .e (eRO [.e (eRO [.n 1] gLen), .e (eC (.int 1))] gAdd)] gMul) (bName 2)) (sSeq (sFor (srcN itemsD 0) (bName 3) b_shared_row_L2) (sRet (eMov 2)))
def f_shared_row : List D → FRes := fBody 2 7 b_shared_row
theorem sc_shared_row : FnScope ["text", "other", "row", "letter", "more", "at", "sign"] ["text", "other"] (defScope s_shared_row) := ⟨rfl, rfl, rfl, by decide +kernel, rfl, by decide +kernel, by decide +kernel⟩
theorem ok_shared_row {P : Program} {w : World} {K : PySem.W.Frag} {mg : Str → Option Value} (g : Gd K mg) (base : Heap) : FnOkG P w K mg base 1 g.f_shared_row g.d_shared_row ["text", "other"] (spV mg 2 f_shared_row) :=
  fun_ok (N := ["text", "other", "row", "letter", "more", "at", "sign"]) (n := 2) b_shared_row g.F_shared_row sc_shared_row rfl fun cdv A outer s H E hr tk po => show PSs _ _ (tS _ _ b_shared_row) from
    (sv_cons (sv_set (i := 2) sc_shared_row.nd (e_mul (oe (ev_lst (av_cons ev_int av_nil))) (oe (e_add (oe (b_len g.z_len (on 1))) (oe ev_int)))))
      (sv_cons (sv_for po rfl (iv_n 0) (gv_name (i := 3) sc_shared_row.nd) (show PSs _ _ (tS _ _ b_shared_row_L2) from (sv_cons (sv_set (i := 4) sc_shared_row.nd (ev_lst (av_cons ev_int av_nil)))
      (sv_cons (sv_for po rfl (iv_enN 1 g.z_enumerate) (gv_tup rfl (gvs_cons (gv_name (i := 5) sc_shared_row.nd) (gvs_cons (gv_name (i := 6) sc_shared_row.nd) gvs_nil))) (show PSs _ _ (tS _ _ b_shared_row_L1) from (sv_one (sv_expr (ev_append 4 (ev_if (t_eq hr (on 6) (on 3)) (e_add (oe (e_ix (on 2) (on 5))) (oe ev_int)) (b_max2 rfl g.z_max (oe (e_ix (on 2) (oe (e_add (on 5) (oe ev_int))))) (oe (e_ix (on 4) (on 5))))))))))
      (sv_one (sv_set (i := 2) sc_shared_row.nd (ev_var 4)))))))
      (sv_one (sv_ret (ev_mov 2)))))
theorem bn_shared_row {K : PySem.W.Frag} {mg : Str → Option Value} (g : Gd K mg) : Binds K g.d_shared_row ["text", "other"] [] := g.F_shared_row.binds fun _ _ _ _ _ _ us hl => match us, hl with | [_, _], _ => rfl

/-! ### text_strands -/
def b_text_strands_E1 : Ev → Res D := eRO [.n 2, .n 5] gAdd
def b_text_strands_L2 : Ev → SRes := sIf (bOr (asB (eRO [.n 6, .n 9] gEqA)) (asB (eRO [.n 7, .e (eRO [.n 3, .n 8] gIx)] gGt))) (sAsg (eTup (aCons (eRO [.n 3, .n 8] gIx) (aCons (eVar 7) (aNil)))) (bTup [bName 7, bSub 3 (eVar 8)])) (sSkip)
def b_text_strands_L3 : Ev → SRes := sSeq (sAsg (eRO [.e (eRO [.n 2, .e (eC (.int 1))] gSubI), .n 5] gSubI) (bName 7)) (sSeq (sFor (srcN itemsEn 1) (bTup [bName 8, bName 9]) b_text_strands_L2) (sDrop (eAppend 4 (eVar 7))))
def b_text_strands : Ev → SRes := sSeq (sAsg (eRO [.n 0] gLen) (bName 2)) (sSeq (sAsg (eLc (srcR1 (eRO [.n 1] gLen)) (bName 5) (fun env => .ok true env) b_text_strands_E1 [5]) (bName 3)) (sSeq (sAsg (eLst (aNil)) (bName 4)) (sSeq (sFor (srcN itemsEn 0) (bTup [bName 5, bName 6]) b_text_strands_L3) (sRet (eCall f_ends_from [.e (eRO [.n 3, .e (eRO [.n 4] gRevL)] gAdd)])))))
def f_text_strands : List D → FRes := fBody 2 10 b_text_strands
theorem sc_text_strands : FnScope ["text", "other", "many", "down", "ends", "at", "letter", "along", "to", "sign"] ["text", "other"] (defScope s_text_strands) := ⟨rfl, rfl, rfl, by decide +kernel, rfl, by decide +kernel, by decide +kernel⟩
theorem ok_text_strands {P : Program} {w : World} {K : PySem.W.Frag} {mg : Str → Option Value} (g : Gd K mg) (base : Heap) : FnOkG P w K mg base 2 g.f_text_strands g.d_text_strands ["text", "other"] (spV mg 2 f_text_strands) :=
  fun_ok (N := ["text", "other", "many", "down", "ends", "at", "letter", "along", "to", "sign"]) (n := 2) b_text_strands g.F_text_strands sc_text_strands rfl fun cdv A outer s H E hr tk po => show PSs _ _ (tS _ _ b_text_strands) from
    (sv_cons (sv_set (i := 2) sc_text_strands.nd (b_len g.z_len (on 0)))
      (sv_cons (sv_setLc (i := 3) (own := [("at", 5)]) rfl sc_text_strands.nd (iv_r1 g.z_range (b_len g.z_len (on 1))) (blkOk_by (by rfl)) (fun _ _ _ _ _ => (gv_name (i := 5) sc_text_strands.nd)) (fun _ _ _ _ _ => cv_nil) (fun _ _ _ _ _ => (e_add (on 2) (on 5))))
      (sv_cons (sv_set (i := 4) sc_text_strands.nd (ev_lst av_nil))
      (sv_cons (sv_for po rfl (iv_enN 0 g.z_enumerate) (gv_tup rfl (gvs_cons (gv_name (i := 5) sc_text_strands.nd) (gvs_cons (gv_name (i := 6) sc_text_strands.nd) gvs_nil))) (show PSs _ _ (tS _ _ b_text_strands_L3) from (sv_cons (sv_set (i := 7) sc_text_strands.nd (e_sub (oe (e_sub (on 2) (oe ev_int))) (on 5)))
      (sv_cons (sv_for po rfl (iv_enN 1 g.z_enumerate) (gv_tup rfl (gvs_cons (gv_name (i := 8) sc_text_strands.nd) (gvs_cons (gv_name (i := 9) sc_text_strands.nd) gvs_nil))) (show PSs _ _ (tS _ _ b_text_strands_L2) from (sv_one (sv_if (wv_or (t_eq hr (on 6) (on 9)) (wv_or1 (t_gt (on 7) (oe (e_ix (on 3) (on 8)))))).pt (sv_one (sv_asg (ev_tup (av_cons (e_ix (on 3) (on 8)) (av_cons (ev_var 7) av_nil))) (gv_tup rfl (gvs_cons (gv_name (i := 7) sc_text_strands.nd) (gvs_cons (gv_sub 3 (ev_var 8)) gvs_nil))))) sv_nil))))
      (sv_one (sv_expr (ev_append 4 (ev_var 7))))))))
      (sv_one (sv_ret (ev_call (ok_ends_from g _) (hr.mono (by decide)) g.m_ends_from g.F_ends_from.kp (bn_ends_from g) tk (oa_cons (oe (e_add (on 3) (oe (ev_revL (on 4))))) oa_nil))))))))
theorem bn_text_strands {K : PySem.W.Frag} {mg : Str → Option Value} (g : Gd K mg) : Binds K g.d_text_strands ["text", "other"] [] := g.F_text_strands.binds fun _ _ _ _ _ _ us hl => match us, hl with | [_, _], _ => rfl

/-! ### window_by -/
def b_window_by_C1 : Ev → Res Bool := asB (eRO [.n 4, .n 3] gLt)
def b_window_by_E2 : Ev → Res D := eVar 4
def b_window_by : Ev → SRes := sRet (eRO [.e (eRO [.n 3, .n 2] gSubI), .e (eRO [.e (eLc (srcE itemsD (eRO [.n 0, .e (eInt (eRO [.n 1, .n 2] gAdd))] gSlLo)) (bName 4) b_window_by_C1 b_window_by_E2 [4])] gLen)] gSubI)
def f_window_by : List D → FRes := fBody 4 5 b_window_by
theorem sc_window_by : FnScope ["strands", "many", "start", "end", "place"] ["strands", "many", "start", "end"] (defScope s_window_by) := ⟨rfl, rfl, rfl, by decide +kernel, rfl, by decide +kernel, by decide +kernel⟩
theorem ok_window_by {P : Program} {w : World} {K : PySem.W.Frag} {mg : Str → Option Value} (g : Gd K mg) (base : Heap) : FnOkG P w K mg base 1 g.f_window_by g.d_window_by ["strands", "many", "start", "end"] (spV mg 4 f_window_by) :=
  fun_ok (N := ["strands", "many", "start", "end", "place"]) (n := 4) b_window_by g.F_window_by sc_window_by rfl fun cdv A outer s H E hr tk po => show PSs _ _ (tS _ _ b_window_by) from
    (sv_one (sv_ret (e_sub (oe (e_sub (on 3) (on 2))) (oe (b_len g.z_len (oe (ev_lc (own := [("place", 4)]) rfl sc_window_by.nd (iv_e (e_slLo (on 0) (e_add (on 1) (on 2)))) (blkOk_by (by rfl)) (fun _ _ _ _ _ => (gv_name (i := 4) sc_window_by.nd)) (fun _ _ _ _ _ => (cv_one (t_lt (on 4) (on 3)))) (fun _ _ _ _ _ => (ev_var 4)))))))))
theorem bn_window_by {K : PySem.W.Frag} {mg : Str → Option Value} (g : Gd K mg) : Binds K g.d_window_by ["strands", "many", "start", "end"] [] := g.F_window_by.binds fun _ _ _ _ _ _ us hl => match us, hl with | [_, _, _, _], _ => rfl

/-! ### windows_of -/
def b_windows_of_E1 : Ev → Res D := eCall f_window_by [.n 2, .e (eRO [.n 0] gLen), .n 5, .n 6]
def b_windows_of_L2 : Ev → SRes := sDrop (eAppend 4 (eLc (srcR2 (eVar 5) (eRO [.n 3, .e (eC (.int 1))] gAdd)) (bName 6) (fun env => .ok true env) b_windows_of_E1 [6]))
def b_windows_of : Ev → SRes := sSeq (sIf (bAnd (asB (eRO [.n 0, .e (eC (.str ""))] gEqA)) (asB (eRO [.n 1, .e (eC (.str ""))] gEqA))) (sRet (eLst (aCons (eLst (aCons (eC (.int 0)) (aNil))) (aNil)))) (sSkip)) (sSeq (sAsg (eTup (aCons (eFrz (eCall f_text_strands [.n 0, .n 1])) (aCons (eRO [.n 1] gLen) (aNil)))) (bTup [bName 2, bName 3])) (sSeq (sAsg (eLst (aNil)) (bName 4)) (sSeq (sFor (srcR1 (eRO [.n 3, .e (eC (.int 1))] gAdd)) (bName 5) b_windows_of_L2) (sRet (eMov 4)))))
def f_windows_of : List D → FRes := fBody 2 7 b_windows_of
theorem sc_windows_of : FnScope ["text", "other", "strands", "last", "found", "start", "end"] ["text", "other"] (defScope s_windows_of) := ⟨rfl, rfl, rfl, by decide +kernel, rfl, by decide +kernel, by decide +kernel⟩
theorem ok_windows_of {P : Program} {w : World} {K : PySem.W.Frag} {mg : Str → Option Value} (g : Gd K mg) (base : Heap) : FnOkG P w K mg base 3 g.f_windows_of g.d_windows_of ["text", "other"] (spV mg 2 f_windows_of) :=
  fun_ok (N := ["text", "other", "strands", "last", "found", "start", "end"]) (n := 2) b_windows_of g.F_windows_of sc_windows_of rfl fun cdv A outer s H E hr tk po => show PSs _ _ (tS _ _ b_windows_of) from
    (sv_cons (sv_if (wv_and (t_eq hr (on 0) (oe ev_str)) (wv_and1 (t_eq hr (on 1) (oe ev_str)))).pt (sv_one (sv_ret (ev_lst (av_cons (ev_lst (av_cons ev_int av_nil)) av_nil)))) sv_nil)
      (sv_cons (sv_asg (ev_tup (av_cons (ev_frz (ev_call (ok_text_strands g _) (hr.mono (by decide)) g.m_text_strands g.F_text_strands.kp (bn_text_strands g) tk (oa_cons (on 0) (oa_cons (on 1) oa_nil)))) (av_cons (b_len g.z_len (on 1)) av_nil))) (gv_tup rfl (gvs_cons (gv_name (i := 2) sc_windows_of.nd) (gvs_cons (gv_name (i := 3) sc_windows_of.nd) gvs_nil))))
      (sv_cons (sv_set (i := 4) sc_windows_of.nd (ev_lst av_nil))
      (sv_cons (sv_for po rfl (iv_r1 g.z_range (e_add (on 3) (oe ev_int))) (gv_name (i := 5) sc_windows_of.nd) (show PSs _ _ (tS _ _ b_windows_of_L2) from (sv_one (sv_expr (ev_append 4 (ev_lc (own := [("end", 6)]) rfl sc_windows_of.nd (iv_r2 g.z_range (ev_var 5) (e_add (on 3) (oe ev_int))) (blkOk_by (by rfl)) (fun _ _ _ _ _ => (gv_name (i := 6) sc_windows_of.nd)) (fun _ _ _ _ _ => cv_nil) (fun _ _ _ _ _ => (ev_call (ok_window_by g _) (hr.mono (by decide)) g.m_window_by g.F_window_by.kp (bn_window_by g) takes0 (oa_cons (on 2) (oa_cons (oe (b_len g.z_len (on 0))) (oa_cons (on 5) (oa_cons (on 6) oa_nil))))))))))))
      (sv_one (sv_ret (ev_mov 4)))))))
theorem bn_windows_of {K : PySem.W.Frag} {mg : Str → Option Value} (g : Gd K mg) : Binds K g.d_windows_of ["text", "other"] [] := g.F_windows_of.binds fun _ _ _ _ _ _ us hl => match us, hl with | [_, _], _ => rfl

/-! ### need_index -/
def b_need_index : Ev → SRes := sIf (bNot (asB (eCall f_is_within [.n 0, .e (eC (.int 0)), .e (eRO [.n 1, .e (eC (.int 1))] gSubI)]))) (sRaise "BadIndex") (sSkip)
def f_need_index : List D → FRes := fBody 2 2 b_need_index
theorem sc_need_index : FnScope ["index", "count"] ["index", "count"] (defScope s_need_index) := ⟨rfl, rfl, rfl, by decide +kernel, rfl, by decide +kernel, by decide +kernel⟩
theorem ok_need_index {P : Program} {w : World} {K : PySem.W.Frag} {mg : Str → Option Value} (g : Gd K mg) (base : Heap) : FnOkG P w K mg base 3 g.f_need_index g.d_need_index ["index", "count"] (spV mg 2 f_need_index) :=
  fun_ok (N := ["index", "count"]) (n := 2) b_need_index g.F_need_index sc_need_index rfl fun cdv A outer s H E hr tk po => show PSs _ _ (tS _ _ b_need_index) from
    (sv_one (sv_if (tv_not (tv_val (ev_call (ok_is_within g _) (hr.mono (by decide)) g.m_is_within g.F_is_within.kp (bn_is_within g) tk (oa_cons (on 0) (oa_cons (oe ev_int) (oa_cons (oe (e_sub (on 1) (oe ev_int))) oa_nil)))))) (sv_one (sv_raise PySem.F.excBase_ValueError g.q_BadIndex g.m_BadIndex g.kp_BadIndex (raises_own g.sb_BadIndex g.ty_BadIndex) tk)) sv_nil))
theorem bn_need_index {K : PySem.W.Frag} {mg : Str → Option Value} (g : Gd K mg) : Binds K g.d_need_index ["index", "count"] [] := g.F_need_index.binds fun _ _ _ _ _ _ us hl => match us, hl with | [_, _], _ => rfl

/-! ### need_index_from -/
def b_need_index_from : Ev → SRes := sIf (bNot (asB (eCall f_is_within [.n 0, .n 1, .e (eRO [.n 2, .e (eC (.int 1))] gSubI)]))) (sRaise "BadIndex") (sSkip)
def f_need_index_from : List D → FRes := fBody 3 3 b_need_index_from
theorem sc_need_index_from : FnScope ["index", "least", "count"] ["index", "least", "count"] (defScope s_need_index_from) := ⟨rfl, rfl, rfl, by decide +kernel, rfl, by decide +kernel, by decide +kernel⟩
theorem ok_need_index_from {P : Program} {w : World} {K : PySem.W.Frag} {mg : Str → Option Value} (g : Gd K mg) (base : Heap) : FnOkG P w K mg base 3 g.f_need_index_from g.d_need_index_from ["index", "least", "count"] (spV mg 3 f_need_index_from) :=
  fun_ok (N := ["index", "least", "count"]) (n := 3) b_need_index_from g.F_need_index_from sc_need_index_from rfl fun cdv A outer s H E hr tk po => show PSs _ _ (tS _ _ b_need_index_from) from
    (sv_one (sv_if (tv_not (tv_val (ev_call (ok_is_within g _) (hr.mono (by decide)) g.m_is_within g.F_is_within.kp (bn_is_within g) tk (oa_cons (on 0) (oa_cons (on 1) (oa_cons (oe (e_sub (on 2) (oe ev_int))) oa_nil)))))) (sv_one (sv_raise PySem.F.excBase_ValueError g.q_BadIndex g.m_BadIndex g.kp_BadIndex (raises_own g.sb_BadIndex g.ty_BadIndex) tk)) sv_nil))
theorem bn_need_index_from {K : PySem.W.Frag} {mg : Str → Option Value} (g : Gd K mg) : Binds K g.d_need_index_from ["index", "least", "count"] [] := g.F_need_index_from.binds fun _ _ _ _ _ _ us hl => match us, hl with | [_, _, _], _ => rfl

/-! ### need_text -/
def b_need_text : Ev → SRes := sIf (bNot (asB (eCall f_is_text [.n 0]))) (sRaise "BadText") (sSkip)
def f_need_text : List D → FRes := fBody 1 1 b_need_text
theorem sc_need_text : FnScope ["text"] ["text"] (defScope s_need_text) := ⟨rfl, rfl, rfl, by decide +kernel, rfl, by decide +kernel, by decide +kernel⟩
theorem ok_need_text {P : Program} {w : World} {K : PySem.W.Frag} {mg : Str → Option Value} (g : Gd K mg) (base : Heap) : FnOkG P w K mg base 2 g.f_need_text g.d_need_text ["text"] (spV mg 1 f_need_text) :=
  fun_ok (N := ["text"]) (n := 1) b_need_text g.F_need_text sc_need_text rfl fun cdv A outer s H E hr tk po => show PSs _ _ (tS _ _ b_need_text) from
    (sv_one (sv_if (tv_not (tv_val (ev_call (ok_is_text g _) (hr.mono (by decide)) g.m_is_text g.F_is_text.kp (bn_is_text g) tk (oa_cons (on 0) oa_nil)))) (sv_one (sv_raise PySem.F.excBase_ValueError g.q_BadText g.m_BadText g.kp_BadText (raises_own g.sb_BadText g.ty_BadText) tk)) sv_nil))
theorem bn_need_text {K : PySem.W.Frag} {mg : Str → Option Value} (g : Gd K mg) : Binds K g.d_need_text ["text"] [] := g.F_need_text.binds fun _ _ _ _ _ _ us hl => match us, hl with | [_], _ => rfl

/-! ### need_texts -/
def b_need_texts : Ev → SRes := sSeq (sDrop (eCall f_need_text [.n 0])) (sDrop (eCall f_need_text [.n 1]))
def f_need_texts : List D → FRes := fBody 2 2 b_need_texts
theorem sc_need_texts : FnScope ["text", "other"] ["text", "other"] (defScope s_need_texts) := ⟨rfl, rfl, rfl, by decide +kernel, rfl, by decide +kernel, by decide +kernel⟩
theorem ok_need_texts {P : Program} {w : World} {K : PySem.W.Frag} {mg : Str → Option Value} (g : Gd K mg) (base : Heap) : FnOkG P w K mg base 3 g.f_need_texts g.d_need_texts ["text", "other"] (spV mg 2 f_need_texts) :=
  fun_ok (N := ["text", "other"]) (n := 2) b_need_texts g.F_need_texts sc_need_texts rfl fun cdv A outer s H E hr tk po => show PSs _ _ (tS _ _ b_need_texts) from
    (sv_cons (sv_expr (ev_call (ok_need_text g _) (hr.mono (by decide)) g.m_need_text g.F_need_text.kp (bn_need_text g) tk (oa_cons (on 0) oa_nil)))
      (sv_one (sv_expr (ev_call (ok_need_text g _) (hr.mono (by decide)) g.m_need_text g.F_need_text.kp (bn_need_text g) tk (oa_cons (on 1) oa_nil)))))
theorem bn_need_texts {K : PySem.W.Frag} {mg : Str → Option Value} (g : Gd K mg) : Binds K g.d_need_texts ["text", "other"] [] := g.F_need_texts.binds fun _ _ _ _ _ _ us hl => match us, hl with | [_, _], _ => rfl

/-! ### shared -/
def b_shared : Ev → SRes := sSeq (sDrop (eCall f_need_texts [.n 0, .n 1])) (sRet (eRO [.e (eFrz (eCall f_shared_row [.n 0, .n 1])), .e (eRO [.e (eC (.int 1))] gNeg)] gIx))
def f_shared : List D → FRes := fBody 2 2 b_shared
theorem sc_shared : FnScope ["text", "other"] ["text", "other"] (defScope s_shared) := ⟨rfl, rfl, rfl, by decide +kernel, rfl, by decide +kernel, by decide +kernel⟩
theorem ok_shared {P : Program} {w : World} {K : PySem.W.Frag} {mg : Str → Option Value} (g : Gd K mg) (base : Heap) : FnOkG P w K mg base 4 g.f_shared g.d_shared ["text", "other"] (spV mg 2 f_shared) :=
  fun_ok (N := ["text", "other"]) (n := 2) b_shared g.F_shared sc_shared rfl fun cdv A outer s H E hr tk po => show PSs _ _ (tS _ _ b_shared) from
    (sv_cons (sv_expr (ev_call (ok_need_texts g _) (hr.mono (by decide)) g.m_need_texts g.F_need_texts.kp (bn_need_texts g) tk (oa_cons (on 0) (oa_cons (on 1) oa_nil))))
      (sv_one (sv_ret (e_ix (oe (ev_frz (ev_call (ok_shared_row g _) (hr.mono (by decide)) g.m_shared_row g.F_shared_row.kp (bn_shared_row g) tk (oa_cons (on 0) (oa_cons (on 1) oa_nil))))) (oe (e_neg (oe ev_int)))))))
theorem bn_shared {K : PySem.W.Frag} {mg : Str → Option Value} (g : Gd K mg) : Binds K g.d_shared ["text", "other"] [] := g.F_shared.binds fun _ _ _ _ _ _ us hl => match us, hl with | [_, _], _ => rfl

/-! ### shared_window -/
def b_shared_window : Ev → SRes := sSeq (sDrop (eCall f_need_texts [.n 0, .n 1])) (sSeq (sDrop (eCall f_need_index [.n 2, .e (eRO [.e (eRO [.n 1] gLen), .e (eC (.int 1))] gAdd)])) (sSeq (sDrop (eCall f_need_index_from [.n 3, .n 2, .e (eRO [.e (eRO [.n 1] gLen), .e (eC (.int 1))] gAdd)])) (sRet (eRO [.e (eRO [.e (eFrz (eCall f_windows_of [.n 0, .n 1])), .n 2] gIx), .e (eRO [.n 3, .n 2] gSubI)] gIx))))
def f_shared_window : List D → FRes := fBody 4 4 b_shared_window
theorem sc_shared_window : FnScope ["text", "other", "start", "end"] ["text", "other", "start", "end"] (defScope s_shared_window) := ⟨rfl, rfl, rfl, by decide +kernel, rfl, by decide +kernel, by decide +kernel⟩
theorem ok_shared_window {P : Program} {w : World} {K : PySem.W.Frag} {mg : Str → Option Value} (g : Gd K mg) (base : Heap) : FnOkG P w K mg base 4 g.f_shared_window g.d_shared_window ["text", "other", "start", "end"] (spV mg 4 f_shared_window) :=
  fun_ok (N := ["text", "other", "start", "end"]) (n := 4) b_shared_window g.F_shared_window sc_shared_window rfl fun cdv A outer s H E hr tk po => show PSs _ _ (tS _ _ b_shared_window) from
    (sv_cons (sv_expr (ev_call (ok_need_texts g _) (hr.mono (by decide)) g.m_need_texts g.F_need_texts.kp (bn_need_texts g) tk (oa_cons (on 0) (oa_cons (on 1) oa_nil))))
      (sv_cons (sv_expr (ev_call (ok_need_index g _) (hr.mono (by decide)) g.m_need_index g.F_need_index.kp (bn_need_index g) tk (oa_cons (on 2) (oa_cons (oe (e_add (oe (b_len g.z_len (on 1))) (oe ev_int))) oa_nil))))
      (sv_cons (sv_expr (ev_call (ok_need_index_from g _) (hr.mono (by decide)) g.m_need_index_from g.F_need_index_from.kp (bn_need_index_from g) tk (oa_cons (on 3) (oa_cons (on 2) (oa_cons (oe (e_add (oe (b_len g.z_len (on 1))) (oe ev_int))) oa_nil)))))
      (sv_one (sv_ret (e_ix (oe (e_ix (oe (ev_frz (ev_call (ok_windows_of g _) (hr.mono (by decide)) g.m_windows_of g.F_windows_of.kp (bn_windows_of g) tk (oa_cons (on 0) (oa_cons (on 1) oa_nil))))) (on 2))) (oe (e_sub (on 3) (on 2)))))))))
theorem bn_shared_window {K : PySem.W.Frag} {mg : Str → Option Value} (g : Gd K mg) : Binds K g.d_shared_window ["text", "other", "start", "end"] [] := g.F_shared_window.binds fun _ _ _ _ _ _ us hl => match us, hl with | [_, _, _, _], _ => rfl

/-! ### window_table -/
def b_window_table : Ev → SRes := sSeq (sDrop (eCall f_need_texts [.n 0, .n 1])) (sRet (eCall f_windows_of [.n 0, .n 1]))
def f_window_table : List D → FRes := fBody 2 2 b_window_table
theorem sc_window_table : FnScope ["text", "other"] ["text", "other"] (defScope s_window_table) := ⟨rfl, rfl, rfl, by decide +kernel, rfl, by decide +kernel, by decide +kernel⟩
theorem ok_window_table {P : Program} {w : World} {K : PySem.W.Frag} {mg : Str → Option Value} (g : Gd K mg) (base : Heap) : FnOkG P w K mg base 4 g.f_window_table g.d_window_table ["text", "other"] (spV mg 2 f_window_table) :=
  fun_ok (N := ["text", "other"]) (n := 2) b_window_table g.F_window_table sc_window_table rfl fun cdv A outer s H E hr tk po => show PSs _ _ (tS _ _ b_window_table) from
    (sv_cons (sv_expr (ev_call (ok_need_texts g _) (hr.mono (by decide)) g.m_need_texts g.F_need_texts.kp (bn_need_texts g) tk (oa_cons (on 0) (oa_cons (on 1) oa_nil))))
      (sv_one (sv_ret (ev_call (ok_windows_of g _) (hr.mono (by decide)) g.m_windows_of g.F_windows_of.kp (bn_windows_of g) tk (oa_cons (on 0) (oa_cons (on 1) oa_nil))))))
theorem bn_window_table {K : PySem.W.Frag} {mg : Str → Option Value} (g : Gd K mg) : Binds K g.d_window_table ["text", "other"] [] := g.F_window_table.binds fun _ _ _ _ _ _ us hl => match us, hl with | [_, _], _ => rfl

/-! ### windows -/
def b_windows_E1 : Ev → Res D := eRO [.e (eRO [.n 3, .n 4] gIx), .n 2] gIx
def b_windows : Ev → SRes := sSeq (sDrop (eCall f_need_texts [.n 0, .n 1])) (sSeq (sDrop (eCall f_need_number [.n 2, .e (eC (.int 1)), .e (eRO [.n 1] gLen)])) (sSeq (sAsg (eFrz (eCall f_windows_of [.n 0, .n 1])) (bName 3)) (sRet (eLc (srcR1 (eRO [.e (eRO [.e (eRO [.n 1] gLen), .n 2] gSubI), .e (eC (.int 1))] gAdd)) (bName 4) (fun env => .ok true env) b_windows_E1 [4]))))
def f_windows : List D → FRes := fBody 3 5 b_windows
theorem sc_windows : FnScope ["text", "other", "count", "rows", "start"] ["text", "other", "count"] (defScope s_windows) := ⟨rfl, rfl, rfl, by decide +kernel, rfl, by decide +kernel, by decide +kernel⟩
theorem ok_windows {P : Program} {w : World} {K : PySem.W.Frag} {mg : Str → Option Value} (g : Gd K mg) (base : Heap) : FnOkG P w K mg base 4 g.f_windows g.d_windows ["text", "other", "count"] (spV mg 3 f_windows) :=
  fun_ok (N := ["text", "other", "count", "rows", "start"]) (n := 3) b_windows g.F_windows sc_windows rfl fun cdv A outer s H E hr tk po => show PSs _ _ (tS _ _ b_windows) from
    (sv_cons (sv_expr (ev_call (ok_need_texts g _) (hr.mono (by decide)) g.m_need_texts g.F_need_texts.kp (bn_need_texts g) tk (oa_cons (on 0) (oa_cons (on 1) oa_nil))))
      (sv_cons (sv_expr (ev_call (ok_need_number g _) (hr.mono (by decide)) g.m_need_number g.F_need_number.kp (bn_need_number g) tk (oa_cons (on 2) (oa_cons (oe ev_int) (oa_cons (oe (b_len g.z_len (on 1))) oa_nil)))))
      (sv_cons (sv_set (i := 3) sc_windows.nd (ev_frz (ev_call (ok_windows_of g _) (hr.mono (by decide)) g.m_windows_of g.F_windows_of.kp (bn_windows_of g) tk (oa_cons (on 0) (oa_cons (on 1) oa_nil)))))
      (sv_one (sv_ret (ev_lc (own := [("start", 4)]) rfl sc_windows.nd (iv_r1 g.z_range (e_add (oe (e_sub (oe (b_len g.z_len (on 1))) (on 2))) (oe ev_int))) (blkOk_by (by rfl)) (fun _ _ _ _ _ => (gv_name (i := 4) sc_windows.nd)) (fun _ _ _ _ _ => cv_nil) (fun _ _ _ _ _ => (e_ix (oe (e_ix (on 3) (on 4))) (on 2)))))))))
theorem bn_windows {K : PySem.W.Frag} {mg : Str → Option Value} (g : Gd K mg) : Binds K g.d_windows ["text", "other", "count"] [] := g.F_windows.binds fun _ _ _ _ _ _ us hl => match us, hl with | [_, _, _], _ => rfl

/-! ### law_feed -/
def b_law_feed : Ev → SRes := sSeq (sAsg (eRO [.e (eRO [.e (eC (.int 977)), .n 1] gMul), .e (eRO [.e (eRO [.n 0, .e (eInt (eC (.int 1)))] gSlHi)] gSum)] gAdd) (bName 2)) (sSeq (sIf (asB (eRO [.n 1, .e (eRO [.n 0] gLen)] gLt)) (sAsg (eRO [.n 0, .n 1] gIx) (bName 2)) (sSkip)) (sRet (eLst (aCons (eRO [.e (eC (.int 0)), .e (eRO [.n 2, .e (eRO [.e (eC (.int 10)), .e (eC (.int 18))] gPowI)] gSubI)] gMax2) (aCons (eRO [.e (eRO [.e (eRO [.e (eRO [.n 2, .e (eC (.int 19))] gMul), .e (eRO [.e (eC (.int 7)), .n 1] gMul)] gAdd)] gInt), .e (eRO [.e (eRO [.e (eC (.int 10)), .e (eC (.int 39))] gPowI), .e (eC (.int 23))] gAdd)] gModI) (aCons (eC (.int 0)) (aNil)))))))
def f_law_feed : List D → FRes := fBody 2 3 b_law_feed
theorem sc_law_feed : FnScope ["script", "k", "cell"] ["script", "k"] (defScope s_law_feed) := ⟨rfl, rfl, rfl, by decide +kernel, rfl, by decide +kernel, by decide +kernel⟩
theorem ok_law_feed {P : Program} {w : World} {K : PySem.W.Frag} {mg : Str → Option Value} (g : Gd K mg) (base : Heap) : FnOkG P w K mg base 1 g.f_law_feed g.d_law_feed ["script", "k"] (spV mg 2 f_law_feed) :=
  fun_ok (N := ["script", "k", "cell"]) (n := 2) b_law_feed g.F_law_feed sc_law_feed rfl fun cdv A outer s H E hr tk po => show PSs _ _ (tS _ _ b_law_feed) from
    (sv_cons (sv_set (i := 2) sc_law_feed.nd (e_add (oe (e_mul (oe ev_int) (on 1))) (oe (b_sum rfl g.z_sum (oe (e_slHi (on 0) ev_int))))))
      (sv_cons (sv_if (t_lt (on 1) (oe (b_len g.z_len (on 0)))) (sv_one (sv_set (i := 2) sc_law_feed.nd (e_ix (on 0) (on 1)))) sv_nil)
      (sv_one (sv_ret (ev_lst (av_cons (b_max2 rfl g.z_max (oe ev_int) (oe (e_sub (on 2) (oe (e_pow (oe ev_int) (oe ev_int)))))) (av_cons (e_mod (oe (b_int g.z_int (oe (e_add (oe (e_mul (on 2) (oe ev_int))) (oe (e_mul (oe ev_int) (on 1))))))) (oe (e_add (oe (e_pow (oe ev_int) (oe ev_int))) (oe ev_int)))) (av_cons ev_int av_nil))))))))
theorem bn_law_feed {K : PySem.W.Frag} {mg : Str → Option Value} (g : Gd K mg) : Binds K g.d_law_feed ["script", "k"] [] := g.F_law_feed.binds fun _ _ _ _ _ _ us hl => match us, hl with | [_, _], _ => rfl

/-! ### law_draw -/
def b_law_draw : Ev → SRes := sSeq (sIf (asB (eRO [.e (eRO [.n 0, .e (eC (.int 0))] gIx), .e (eC (.int 0))] gGt)) (sSeq (sAsg (eRO [.e (eRO [.n 0, .e (eC (.int 0))] gIx), .n 1] gDivI) (bName 2)) (sSeq (sAsg (eRO [.e (eRO [.n 0, .e (eC (.int 0))] gIx), .e (eRO [.n 2, .n 1] gMul)] gSubI) (bName 3)) (sSeq (sAsg (eVar 2) (bSub 0 (eC (.int 0)))) (sRet (eMov 3))))) (sSkip)) (sSeq (sAsg (eRO [.e (eRO [.n 0, .e (eC (.int 2))] gIx), .e (eC (.int 1))] gAdd) (bSub 0 (eC (.int 2)))) (sSeq (sAsg (eRO [.e (eRO [.n 0, .e (eC (.int 1))] gIx), .e (eRO [.e (eC (.int 6700417)), .e (eRO [.n 0, .e (eC (.int 2))] gIx)] gMul)] gAdd) (bName 4)) (sSeq (sAsg (eRO [.e (eRO [.e (eRO [.e (eRO [.e (eRO [.n 4, .n 4] gMul), .n 4] gMul), .e (eRO [.e (eC (.int 15485863)), .e (eRO [.n 0, .e (eC (.int 2))] gIx)] gMul)] gAdd)] gInt), .e (eRO [.e (eRO [.e (eC (.int 10)), .e (eC (.int 43))] gPowI), .e (eC (.int 57))] gAdd)] gModI) (bName 4)) (sSeq (sAsg (eRO [.e (eRO [.e (eRO [.e (eRO [.n 4, .n 4] gMul), .e (eC (.int 32452843))] gAdd)] gInt), .e (eRO [.e (eRO [.e (eC (.int 10)), .e (eC (.int 38))] gPowI), .e (eC (.int 133))] gAdd)] gModI) (bName 4)) (sRet (eRO [.e (eRO [.e (eRO [.n 4, .e (eRO [.e (eC (.int 10)), .e (eC (.int 9))] gPowI)] gDivI)] gInt), .n 1] gModI))))))
def f_law_draw : List D → FRes := fBody 2 5 b_law_draw
theorem sc_law_draw : FnScope ["feed", "many", "rest", "got", "stir"] ["feed", "many"] (defScope s_law_draw) := ⟨rfl, rfl, rfl, by decide +kernel, rfl, by decide +kernel, by decide +kernel⟩
theorem ok_law_draw {P : Program} {w : World} {K : PySem.W.Frag} {mg : Str → Option Value} (g : Gd K mg) (base : Heap) : FnOkG P w K mg base 1 g.f_law_draw g.d_law_draw ["feed", "many"] (spV mg 2 f_law_draw) :=
  fun_ok (N := ["feed", "many", "rest", "got", "stir"]) (n := 2) b_law_draw g.F_law_draw sc_law_draw rfl fun cdv A outer s H E hr tk po => show PSs _ _ (tS _ _ b_law_draw) from
    (sv_cons (sv_if (t_gt (oe (e_ix (on 0) (oe ev_int))) (oe ev_int)) (sv_cons (sv_set (i := 2) sc_law_draw.nd (e_div (oe (e_ix (on 0) (oe ev_int))) (on 1)))
      (sv_cons (sv_set (i := 3) sc_law_draw.nd (e_sub (oe (e_ix (on 0) (oe ev_int))) (oe (e_mul (on 2) (on 1)))))
      (sv_cons (sv_asg (ev_var 2) (gv_sub 0 ev_int))
      (sv_one (sv_ret (ev_mov 3)))))) sv_nil)
      (sv_cons (sv_asg (e_add (oe (e_ix (on 0) (oe ev_int))) (oe ev_int)) (gv_sub 0 ev_int))
      (sv_cons (sv_set (i := 4) sc_law_draw.nd (e_add (oe (e_ix (on 0) (oe ev_int))) (oe (e_mul (oe ev_int) (oe (e_ix (on 0) (oe ev_int)))))))
      (sv_cons (sv_set (i := 4) sc_law_draw.nd (e_mod (oe (b_int g.z_int (oe (e_add (oe (e_mul (oe (e_mul (on 4) (on 4))) (on 4))) (oe (e_mul (oe ev_int) (oe (e_ix (on 0) (oe ev_int))))))))) (oe (e_add (oe (e_pow (oe ev_int) (oe ev_int))) (oe ev_int)))))
      (sv_cons (sv_set (i := 4) sc_law_draw.nd (e_mod (oe (b_int g.z_int (oe (e_add (oe (e_mul (on 4) (on 4))) (oe ev_int))))) (oe (e_add (oe (e_pow (oe ev_int) (oe ev_int))) (oe ev_int)))))
      (sv_one (sv_ret (e_mod (oe (b_int g.z_int (oe (e_div (on 4) (oe (e_pow (oe ev_int) (oe ev_int))))))) (on 1)))))))))
theorem bn_law_draw {K : PySem.W.Frag} {mg : Str → Option Value} (g : Gd K mg) : Binds K g.d_law_draw ["feed", "many"] [] := g.F_law_draw.binds fun _ _ _ _ _ _ us hl => match us, hl with | [_, _], _ => rfl

/-! ### law_one -/
def b_law_one : Ev → SRes := sRet (eRO [.n 1, .e (eCall f_law_draw [.n 0, .e (eRO [.n 1] gLen)])] gIx)
def f_law_one : List D → FRes := fBody 2 2 b_law_one
theorem sc_law_one : FnScope ["feed", "things"] ["feed", "things"] (defScope s_law_one) := ⟨rfl, rfl, rfl, by decide +kernel, rfl, by decide +kernel, by decide +kernel⟩
theorem ok_law_one {P : Program} {w : World} {K : PySem.W.Frag} {mg : Str → Option Value} (g : Gd K mg) (base : Heap) : FnOkG P w K mg base 2 g.f_law_one g.d_law_one ["feed", "things"] (spV mg 2 f_law_one) :=
  fun_ok (N := ["feed", "things"]) (n := 2) b_law_one g.F_law_one sc_law_one rfl fun cdv A outer s H E hr tk po => show PSs _ _ (tS _ _ b_law_one) from
    (sv_one (sv_ret (e_ix (on 1) (oe (ev_call (ok_law_draw g _) (hr.mono (by decide)) g.m_law_draw g.F_law_draw.kp (bn_law_draw g) tk (oa_cons (on 0) (oa_cons (oe (b_len g.z_len (on 1))) oa_nil)))))))
theorem bn_law_one {K : PySem.W.Frag} {mg : Str → Option Value} (g : Gd K mg) : Binds K g.d_law_one ["feed", "things"] [] := g.F_law_one.binds fun _ _ _ _ _ _ us hl => match us, hl with | [_, _], _ => rfl

/-! ### law_letters -/
def b_law_letters_E1 : Ev → Res D := eCall f_law_one [.n 0, .e (eC (.str "abcdefghijklmnopqrstuvwxyz"))]
def b_law_letters_E2 : Ev → Res D := eCall f_law_one [.n 0, .n 2]
def b_law_letters : Ev → SRes := sSeq (sAsg (eFrz (eCall f_law_one [.n 0, .e (eLst (aCons (eC (.str "ab")) (aCons (eC (.str "abc")) (aCons (eC (.str "aab")) (aCons (eC (.str "xyza")) (aCons (eC (.str "")) (aNil)))))))])) (bName 2)) (sSeq (sIf (asB (eRO [.n 2, .e (eC (.str ""))] gEqA)) (sAsg (eRO [.e (eLc (srcR1 (eC (.int 3))) (bName 3) (fun env => .ok true env) b_law_letters_E1 [3])] (gJoin "")) (bName 2)) (sSkip)) (sRet (eRO [.e (eLc (srcR1 (eCall f_law_draw [.n 0, .e (eRO [.n 1, .e (eC (.int 1))] gAdd)])) (bName 3) (fun env => .ok true env) b_law_letters_E2 [3])] (gJoin ""))))
def f_law_letters : List D → FRes := fBody 2 4 b_law_letters
theorem sc_law_letters : FnScope ["feed", "most", "signs", "turn"] ["feed", "most"] (defScope s_law_letters) := ⟨rfl, rfl, rfl, by decide +kernel, rfl, by decide +kernel, by decide +kernel⟩
theorem ok_law_letters {P : Program} {w : World} {K : PySem.W.Frag} {mg : Str → Option Value} (g : Gd K mg) (base : Heap) : FnOkG P w K mg base 3 g.f_law_letters g.d_law_letters ["feed", "most"] (spV mg 2 f_law_letters) :=
  fun_ok (N := ["feed", "most", "signs", "turn"]) (n := 2) b_law_letters g.F_law_letters sc_law_letters rfl fun cdv A outer s H E hr tk po => show PSs _ _ (tS _ _ b_law_letters) from
    (sv_cons (sv_set (i := 2) sc_law_letters.nd (ev_frz (ev_call (ok_law_one g _) (hr.mono (by decide)) g.m_law_one g.F_law_one.kp (bn_law_one g) tk (oa_cons (on 0) (oa_cons (oe (ev_lst (av_cons ev_str (av_cons ev_str (av_cons ev_str (av_cons ev_str (av_cons ev_str av_nil))))))) oa_nil)))))
      (sv_cons (sv_if (t_eq hr (on 2) (oe ev_str)) (sv_one (sv_set (i := 2) sc_law_letters.nd (ev_join (oe (ev_lc (own := [("turn", 3)]) rfl sc_law_letters.nd (iv_r1 g.z_range ev_int) (blkOk_by (by rfl)) (fun _ _ _ _ _ => (gv_name (i := 3) sc_law_letters.nd)) (fun _ _ _ _ _ => cv_nil) (fun _ _ _ _ _ => (ev_call (ok_law_one g _) (hr.mono (by decide)) g.m_law_one g.F_law_one.kp (bn_law_one g) takes0 (oa_cons (on 0) (oa_cons (oe ev_str) oa_nil))))))))) sv_nil)
      (sv_one (sv_ret (ev_join (oe (ev_lc (own := [("turn", 3)]) rfl sc_law_letters.nd (iv_r1 g.z_range (ev_call (ok_law_draw g _) (hr.mono (by decide)) g.m_law_draw g.F_law_draw.kp (bn_law_draw g) tk (oa_cons (on 0) (oa_cons (oe (e_add (on 1) (oe ev_int))) oa_nil)))) (blkOk_by (by rfl)) (fun _ _ _ _ _ => (gv_name (i := 3) sc_law_letters.nd)) (fun _ _ _ _ _ => cv_nil) (fun _ _ _ _ _ => (ev_call (ok_law_one g _) (hr.mono (by decide)) g.m_law_one g.F_law_one.kp (bn_law_one g) takes0 (oa_cons (on 0) (oa_cons (on 2) oa_nil)))))))))))
theorem bn_law_letters {K : PySem.W.Frag} {mg : Str → Option Value} (g : Gd K mg) : Binds K g.d_law_letters ["feed", "most"] [] := g.F_law_letters.binds fun _ _ _ _ _ _ us hl => match us, hl with | [_, _], _ => rfl

/-! ### law_shared -/
def b_law_shared_L1 : Ev → SRes := sDrop (eAppend 4 (eIf (asB (eRO [.n 3, .n 6] gEqA)) (eRO [.e (eRO [.n 2, .n 5] gIx), .e (eC (.int 1))] gAdd) (eRO [.e (eRO [.n 2, .e (eRO [.n 5, .e (eC (.int 1))] gAdd)] gIx), .e (eRO [.n 4, .n 5] gIx)] gMax2)))
def b_law_shared_L2 : Ev → SRes := sSeq (sAsg (eLst (aCons (eC (.int 0)) (aNil))) (bName 4)) (sSeq (sFor (srcN itemsEn 1) (bTup [bName 5, bName 6]) b_law_shared_L1) (sAsg (eVar 4) (bName 2)))
def b_law_shared : Ev → SRes := sSeq (sAsg (eRO [.e (eLst (aCons (eC (.int 0)) (aNil))), .e (eRO [.e (eRO [.n 1] gLen), .e (eC (.int 1))] gAdd)] gMul) (bName 2)) (sSeq (sFor (srcN itemsD 0) (bName 3) b_law_shared_L2) (sRet (eRO [.n 2, .e (eRO [.e (eC (.int 1))] gNeg)] gIx)))
def f_law_shared : List D → FRes := fBody 2 7 b_law_shared
theorem sc_law_shared : FnScope ["one", "other", "row", "sign", "more", "at", "letter"] ["one", "other"] (defScope s_law_shared) := ⟨rfl, rfl, rfl, by decide +kernel, rfl, by decide +kernel, by decide +kernel⟩
theorem ok_law_shared {P : Program} {w : World} {K : PySem.W.Frag} {mg : Str → Option Value} (g : Gd K mg) (base : Heap) : FnOkG P w K mg base 1 g.f_law_shared g.d_law_shared ["one", "other"] (spV mg 2 f_law_shared) :=
  fun_ok (N := ["one", "other", "row", "sign", "more", "at", "letter"]) (n := 2) b_law_shared g.F_law_shared sc_law_shared rfl fun cdv A outer s H E hr tk po => show PSs _ _ (tS _ _ b_law_shared) from
    (sv_cons (sv_set (i := 2) sc_law_shared.nd (e_mul (oe (ev_lst (av_cons ev_int av_nil))) (oe (e_add (oe (b_len g.z_len (on 1))) (oe ev_int)))))
      (sv_cons (sv_for po rfl (iv_n 0) (gv_name (i := 3) sc_law_shared.nd) (show PSs _ _ (tS _ _ b_law_shared_L2) from (sv_cons (sv_set (i := 4) sc_law_shared.nd (ev_lst (av_cons ev_int av_nil)))
      (sv_cons (sv_for po rfl (iv_enN 1 g.z_enumerate) (gv_tup rfl (gvs_cons (gv_name (i := 5) sc_law_shared.nd) (gvs_cons (gv_name (i := 6) sc_law_shared.nd) gvs_nil))) (show PSs _ _ (tS _ _ b_law_shared_L1) from (sv_one (sv_expr (ev_append 4 (ev_if (t_eq hr (on 3) (on 6)) (e_add (oe (e_ix (on 2) (on 5))) (oe ev_int)) (b_max2 rfl g.z_max (oe (e_ix (on 2) (oe (e_add (on 5) (oe ev_int))))) (oe (e_ix (on 4) (on 5))))))))))
      (sv_one (sv_set (i := 2) sc_law_shared.nd (ev_var 4)))))))
      (sv_one (sv_ret (e_ix (on 2) (oe (e_neg (oe ev_int))))))))
theorem bn_law_shared {K : PySem.W.Frag} {mg : Str → Option Value} (g : Gd K mg) : Binds K g.d_law_shared ["one", "other"] [] := g.F_law_shared.binds fun _ _ _ _ _ _ us hl => match us, hl with | [_, _], _ => rfl

/-! ### law_bad_texts -/
def b_law_bad_texts : Ev → SRes := sRet (eLst (aCons (eC .non) (aCons (eC (.int 5)) (aCons (eC (.str "abcdefg")) (aCons (eC (.str "aaaaaaa")) (aCons (eC (.str "A")) (aCons (eC (.str "aB")) (aCons (eC (.str "a b")) (aCons (eC (.str " a")) (aCons (eC (.str "a1")) (aCons (eC (.str "a-")) (aCons (eC (.str "`")) (aCons (eC (.str "a{")) (aCons (eC (.str "@")) (aCons (eC (.str "[")) (aCons (eC (.str "Z")) (aCons (eC (.str "zA")) (aCons (eTup (aCons (eC (.str "a")) (aNil))) (aCons (eLst (aCons (eC (.str "a")) (aNil))) (aCons (eDict0) (aCons (eC (.bl true)) (aCons (eTup (aCons (eC (.str "a")) (aCons (eC (.str "b")) (aNil)))) (aCons (eC (.str "a\n")) (aCons (eLst (aNil)) (aCons (eTup (aNil)) (aCons (eC (.int 0)) (aCons (eTup (aNil)) (aCons (eRO [.e (eC (.int 10)), .e (eC (.int 20))] gPowI) (aNil)))))))))))))))))))))))))))))
def f_law_bad_texts : List D → FRes := fBody 0 0 b_law_bad_texts
theorem sc_law_bad_texts : FnScope [] [] (defScope s_law_bad_texts) := ⟨rfl, rfl, rfl, by decide +kernel, rfl, by decide +kernel, by decide +kernel⟩
theorem ok_law_bad_texts {P : Program} {w : World} {K : PySem.W.Frag} {mg : Str → Option Value} (g : Gd K mg) (base : Heap) : FnOkG P w K mg base 1 g.f_law_bad_texts g.d_law_bad_texts [] (spV mg 0 f_law_bad_texts) :=
  fun_ok (N := []) (n := 0) b_law_bad_texts g.F_law_bad_texts sc_law_bad_texts rfl fun cdv A outer s H E hr tk po => show PSs _ _ (tS _ _ b_law_bad_texts) from
    (sv_one (sv_ret (ev_lst (av_cons ev_non (av_cons ev_int (av_cons ev_str (av_cons ev_str (av_cons ev_str (av_cons ev_str (av_cons ev_str (av_cons ev_str (av_cons ev_str (av_cons ev_str (av_cons ev_str (av_cons ev_str (av_cons ev_str (av_cons ev_str (av_cons ev_str (av_cons ev_str (av_cons (ev_tup (av_cons ev_str av_nil)) (av_cons (ev_lst (av_cons ev_str av_nil)) (av_cons ev_dict0 (av_cons ev_bl (av_cons (ev_tup (av_cons ev_str (av_cons ev_str av_nil))) (av_cons ev_str (av_cons (ev_lst av_nil) (av_cons (ev_tup av_nil) (av_cons ev_int (av_cons (ev_tup av_nil) (av_cons (e_pow (oe ev_int) (oe ev_int)) av_nil))))))))))))))))))))))))))))))
theorem bn_law_bad_texts {K : PySem.W.Frag} {mg : Str → Option Value} (g : Gd K mg) : Binds K g.d_law_bad_texts [] [] := g.F_law_bad_texts.binds fun _ _ _ _ _ _ us hl => match us, hl with | [], _ => rfl

/-! ### law_word_of -/
def b_law_word_of_T1 : Ev → SRes := sIf (asB (eRO [.n 0, .e (eC (.int 0))] gEqA)) (sDrop (eCallK f_shared_window [3, 2, 1, 0] (aCons (eVar 4) (aCons (eVar 3) (aCons (eVar 2) (aCons (eVar 1) (aNil))))))) (sIf (asB (eRO [.n 0, .e (eC (.int 1))] gEqA)) (sDrop (eCallK f_window_table [1, 0] (aCons (eVar 2) (aCons (eVar 1) (aNil))))) (sDrop (eCallK f_windows [2, 1, 0] (aCons (eVar 3) (aCons (eVar 2) (aCons (eVar 1) (aNil)))))))
def sel_law_word_of : List (Str × Str) := [("BadIndex", "index"), ("BadNumber", "number"), ("BadText", "text")]
def b_law_word_of : Ev → SRes := sSeq (sAsg (eC (.str "")) (bName 5)) (sSeq (sTry b_law_word_of_T1 sel_law_word_of 6 5) (sRet (eMov 5)))
def f_law_word_of : List D → FRes := fBody 5 7 b_law_word_of
theorem sc_law_word_of : FnScope ["way", "text", "other", "one", "two", "found", "e"] ["way", "text", "other", "one", "two"] (defScope s_law_word_of) := ⟨rfl, rfl, rfl, by decide +kernel, rfl, by decide +kernel, by decide +kernel⟩
theorem ok_law_word_of {P : Program} {w : World} {K : PySem.W.Frag} {mg : Str → Option Value} (g : Gd K mg) (base : Heap) : FnOkG P w K mg base 5 g.f_law_word_of g.d_law_word_of ["way", "text", "other", "one", "two"] (spV mg 5 f_law_word_of) :=
  fun_ok (N := ["way", "text", "other", "one", "two", "found", "e"]) (n := 5) b_law_word_of g.F_law_word_of sc_law_word_of rfl fun cdv A outer s H E hr tk po => show PSs _ _ (tS _ _ b_law_word_of) from
    (sv_cons (sv_set (i := 5) sc_law_word_of.nd ev_str)
      (sv_cons (sv_try (i := 6) (j := 5) rfl rfl sc_law_word_of.nd (cc := .ref g.A_LeastError) ⟨rfl, by decide, .inl g.m_LeastError⟩ tk (fun W pn xe tk po => show PSs _ _ (tS _ _ b_law_word_of_T1) from (sv_one (sv_if (t_eq hr (on 0) (oe ev_int)) (sv_one (sv_expr (ev_callK (pm := [3, 2, 1, 0]) (ok_shared_window g _) (hr.mono (by decide)) g.m_shared_window g.F_shared_window.kp (bindsK g.F_shared_window (n := 4) (ks := ["end", "start", "other", "text"]) (bs := fun ws => (["text", "other", "start", "end"] : List Str).zip (([3, 2, 1, 0] : List Nat).map fun k => ws.getD k .none)) fun _ _ _ _ _ _ ws hl => match ws, hl with | [_, _, _, _], _ => rfl) tk (kv_cons (ev_var 4) (kv_cons (ev_var 3) (kv_cons (ev_var 2) (kv_cons (ev_var 1) kv_nil))))))) (sv_one (sv_if (t_eq hr (on 0) (oe ev_int)) (sv_one (sv_expr (ev_callK (pm := [1, 0]) (ok_window_table g _) (hr.mono (by decide)) g.m_window_table g.F_window_table.kp (bindsK g.F_window_table (n := 2) (ks := ["other", "text"]) (bs := fun ws => (["text", "other"] : List Str).zip (([1, 0] : List Nat).map fun k => ws.getD k .none)) fun _ _ _ _ _ _ ws hl => match ws, hl with | [_, _], _ => rfl) tk (kv_cons (ev_var 2) (kv_cons (ev_var 1) kv_nil))))) (sv_one (sv_expr (ev_callK (pm := [2, 1, 0]) (ok_windows g _) (hr.mono (by decide)) g.m_windows g.F_windows.kp (bindsK g.F_windows (n := 3) (ks := ["count", "other", "text"]) (bs := fun ws => (["text", "other", "count"] : List Str).zip (([2, 1, 0] : List Nat).map fun k => ws.getD k .none)) fun _ _ _ _ _ _ ws hl => match ws, hl with | [_, _, _], _ => rfl) tk (kv_cons (ev_var 3) (kv_cons (ev_var 2) (kv_cons (ev_var 1) kv_nil)))))))))))
      (by
        intro c z hl
        unfold sel_law_word_of at hl
        rw [List.lookup_cons] at hl
        split at hl
        · rename_i e
          obtain rfl := beq_iff_eq.mp e
          show PySem.W.exmOne K (.ref (cadr mg "BadIndex")) _ = _
          rw [show cadr mg "BadIndex" = g.A_BadIndex from by unfold cadr; rw [g.m_BadIndex]]
          exact PySem.W.exm_ref g.sb_LeastError g.hd_LeastError g.ty_LeastError g.su_BadIndex_LeastError
        rw [List.lookup_cons] at hl
        split at hl
        · rename_i e
          obtain rfl := beq_iff_eq.mp e
          show PySem.W.exmOne K (.ref (cadr mg "BadNumber")) _ = _
          rw [show cadr mg "BadNumber" = g.A_BadNumber from by unfold cadr; rw [g.m_BadNumber]]
          exact PySem.W.exm_ref g.sb_LeastError g.hd_LeastError g.ty_LeastError g.su_BadNumber_LeastError
        rw [List.lookup_cons] at hl
        split at hl
        · rename_i e
          obtain rfl := beq_iff_eq.mp e
          show PySem.W.exmOne K (.ref (cadr mg "BadText")) _ = _
          rw [show cadr mg "BadText" = g.A_BadText from by unfold cadr; rw [g.m_BadText]]
          exact PySem.W.exm_ref g.sb_LeastError g.hd_LeastError g.ty_LeastError g.su_BadText_LeastError
        cases hl)
      (by
        intro c z hl
        unfold sel_law_word_of at hl
        rw [List.lookup_cons] at hl
        split at hl
        · rename_i e
          obtain rfl := beq_iff_eq.mp e
          cases hl
          intro a oe pn hz hf
          replace hz : Zc (.ref g.A_BadIndex) none oe := by rw [← show cadr mg "BadIndex" = g.A_BadIndex from by unfold cadr; rw [g.m_BadIndex]]; exact hz
          exact (sel_if g.x_BadIndex hz hf (kit_ref g.hd_BadText g.ty_BadText g.su_BadIndex_BadText g.se_BadIndex) rfl g.z_isinstance rfl g.m_BadText sel_one (sel_if g.x_BadIndex hz hf (kit_ref g.hd_BadIndex g.ty_BadIndex g.su_BadIndex_BadIndex g.se_BadIndex) rfl g.z_isinstance rfl g.m_BadIndex sel_one (sel_if g.x_BadIndex hz hf (kit_ref g.hd_BadNumber g.ty_BadNumber g.su_BadIndex_BadNumber g.se_BadIndex) rfl g.z_isinstance rfl g.m_BadNumber sel_one sel_one)))
        rw [List.lookup_cons] at hl
        split at hl
        · rename_i e
          obtain rfl := beq_iff_eq.mp e
          cases hl
          intro a oe pn hz hf
          replace hz : Zc (.ref g.A_BadNumber) none oe := by rw [← show cadr mg "BadNumber" = g.A_BadNumber from by unfold cadr; rw [g.m_BadNumber]]; exact hz
          exact (sel_if g.x_BadNumber hz hf (kit_ref g.hd_BadText g.ty_BadText g.su_BadNumber_BadText g.se_BadNumber) rfl g.z_isinstance rfl g.m_BadText sel_one (sel_if g.x_BadNumber hz hf (kit_ref g.hd_BadIndex g.ty_BadIndex g.su_BadNumber_BadIndex g.se_BadNumber) rfl g.z_isinstance rfl g.m_BadIndex sel_one (sel_if g.x_BadNumber hz hf (kit_ref g.hd_BadNumber g.ty_BadNumber g.su_BadNumber_BadNumber g.se_BadNumber) rfl g.z_isinstance rfl g.m_BadNumber sel_one sel_one)))
        rw [List.lookup_cons] at hl
        split at hl
        · rename_i e
          obtain rfl := beq_iff_eq.mp e
          cases hl
          intro a oe pn hz hf
          replace hz : Zc (.ref g.A_BadText) none oe := by rw [← show cadr mg "BadText" = g.A_BadText from by unfold cadr; rw [g.m_BadText]]; exact hz
          exact (sel_if g.x_BadText hz hf (kit_ref g.hd_BadText g.ty_BadText g.su_BadText_BadText g.se_BadText) rfl g.z_isinstance rfl g.m_BadText sel_one (sel_if g.x_BadText hz hf (kit_ref g.hd_BadIndex g.ty_BadIndex g.su_BadText_BadIndex g.se_BadText) rfl g.z_isinstance rfl g.m_BadIndex sel_one (sel_if g.x_BadText hz hf (kit_ref g.hd_BadNumber g.ty_BadNumber g.su_BadText_BadNumber g.se_BadText) rfl g.z_isinstance rfl g.m_BadNumber sel_one sel_one)))
        cases hl))
      (sv_one (sv_ret (ev_mov 5)))))
theorem bn_law_word_of {K : PySem.W.Frag} {mg : Str → Option Value} (g : Gd K mg) : Binds K g.d_law_word_of ["way", "text", "other", "one", "two"] [] := g.F_law_word_of.binds fun _ _ _ _ _ _ us hl => match us, hl with | [_, _, _, _, _], _ => rfl

/-! ### law_due -/
def b_law_due_E1 : Ev → Res D := eCall f_law_shared [.n 0, .e (eRO [.n 1, .e (eInt (eVar 3)), .e (eInt (eVar 4))] gSl2)]
def b_law_due_L2 : Ev → SRes := sDrop (eAppend 2 (eLc (srcR2 (eVar 3) (eRO [.e (eRO [.n 1] gLen), .e (eC (.int 1))] gAdd)) (bName 4) (fun env => .ok true env) b_law_due_E1 [4]))
def b_law_due : Ev → SRes := sSeq (sAsg (eLst (aNil)) (bName 2)) (sSeq (sFor (srcR1 (eRO [.e (eRO [.n 1] gLen), .e (eC (.int 1))] gAdd)) (bName 3) b_law_due_L2) (sRet (eMov 2)))
def f_law_due : List D → FRes := fBody 2 5 b_law_due
theorem sc_law_due : FnScope ["one", "two", "rows", "at", "to"] ["one", "two"] (defScope s_law_due) := ⟨rfl, rfl, rfl, by decide +kernel, rfl, by decide +kernel, by decide +kernel⟩
theorem ok_law_due {P : Program} {w : World} {K : PySem.W.Frag} {mg : Str → Option Value} (g : Gd K mg) (base : Heap) : FnOkG P w K mg base 2 g.f_law_due g.d_law_due ["one", "two"] (spV mg 2 f_law_due) :=
  fun_ok (N := ["one", "two", "rows", "at", "to"]) (n := 2) b_law_due g.F_law_due sc_law_due rfl fun cdv A outer s H E hr tk po => show PSs _ _ (tS _ _ b_law_due) from
    (sv_cons (sv_set (i := 2) sc_law_due.nd (ev_lst av_nil))
      (sv_cons (sv_for po rfl (iv_r1 g.z_range (e_add (oe (b_len g.z_len (on 1))) (oe ev_int))) (gv_name (i := 3) sc_law_due.nd) (show PSs _ _ (tS _ _ b_law_due_L2) from (sv_one (sv_expr (ev_append 2 (ev_lc (own := [("to", 4)]) rfl sc_law_due.nd (iv_r2 g.z_range (ev_var 3) (e_add (oe (b_len g.z_len (on 1))) (oe ev_int))) (blkOk_by (by rfl)) (fun _ _ _ _ _ => (gv_name (i := 4) sc_law_due.nd)) (fun _ _ _ _ _ => cv_nil) (fun _ _ _ _ _ => (ev_call (ok_law_shared g _) (hr.mono (by decide)) g.m_law_shared g.F_law_shared.kp (bn_law_shared g) takes0 (oa_cons (on 0) (oa_cons (oe (e_sl2 (on 1) (ev_var 3) (ev_var 4))) oa_nil))))))))))
      (sv_one (sv_ret (ev_mov 2)))))
theorem bn_law_due {K : PySem.W.Frag} {mg : Str → Option Value} (g : Gd K mg) : Binds K g.d_law_due ["one", "two"] [] := g.F_law_due.binds fun _ _ _ _ _ _ us hl => match us, hl with | [_, _], _ => rfl

/-! ### law_right -/
def b_law_right_L1 : Ev → SRes := sIf (asB (eRO [.e (eRO [.e (eCall f_shared_window [.n 1, .n 2, .n 5, .n 6])] gRepr), .e (eRO [.e (eRO [.e (eRO [.n 3, .n 5] gIx), .e (eRO [.n 6, .n 5] gSubI)] gIx)] gRepr)] gNeA)) (sRet (eC (.bl false))) (sSkip)
def b_law_right_L2 : Ev → SRes := sFor (srcR2 (eVar 5) (eRO [.e (eRO [.n 2] gLen), .e (eC (.int 1))] gAdd)) (bName 6) b_law_right_L1
def b_law_right_E3 : Ev → Res D := eRO [.e (eRO [.n 3, .n 5] gIx), .n 7] gIx
def b_law_right_L4 : Ev → SRes := sSeq (sAsg (eLc (srcR1 (eRO [.e (eRO [.e (eRO [.n 2] gLen), .n 7] gSubI), .e (eC (.int 1))] gAdd)) (bName 5) (fun env => .ok true env) b_law_right_E3 [5]) (bName 8)) (sSeq (sAsg (eCall f_windows [.n 1, .n 2, .n 7]) (bName 9)) (sSeq (sIf (asB (eRO [.e (eRO [.n 9] gRepr), .e (eRO [.n 8] gRepr)] gNeA)) (sRet (eC (.bl false))) (sSkip)) (sSeq (sDrop (eAppend 9 (eC (.str "spoilt")))) (sIf (asB (eRO [.e (eRO [.e (eCallK f_windows [1, 2, 0] (aCons (eVar 7) (aCons (eVar 1) (aCons (eVar 2) (aNil)))))] gRepr), .e (eRO [.n 8] gRepr)] gNeA)) (sRet (eC (.bl false))) (sSkip)))))
def b_law_right_C5 : Ev → Res Bool := bNot (asB (eChain (fun i j => decide (i ≤ j)) (fun i j => decide (i ≤ j)) (eC (.int 0)) (eRO [.n 12, .n 11] gSubI) (eC (.int 1))))
def b_law_right_E6 : Ev → Res D := eC (.int 1)
def b_law_right_L7 : Ev → SRes := sIf (asB (eRO [.e (eLc (srcZip (aCons (eVar 10) (aCons (eRO [.n 10, .e (eInt (eC (.int 1)))] gSlLo) aNil))) (bTup [bName 11, bName 12]) b_law_right_C5 b_law_right_E6 [11, 12]), .e (eLst (aNil))] gNeA)) (sRet (eC (.bl false))) (sSkip)
def b_law_right : Ev → SRes := sSeq (sAsg (eTup (aCons (eFrz (eCall f_law_due [.n 1, .n 2])) (aCons (eCall f_window_table [.n 1, .n 2]) (aNil)))) (bTup [bName 3, bName 4])) (sSeq (sIf (bOr (asB (eRO [.e (eRO [.n 4] gRepr), .e (eRO [.n 3] gRepr)] gNeA)) (asB (eRO [.e (eIx2 4 0 (-1)), .e (eCall f_shared [.n 1, .n 2])] gNeA))) (sRet (eC (.bl false))) (sSkip)) (sSeq (sDrop (eAppIn 4 0 "spoilt")) (sSeq (sIf (bOr (asB (eRO [.e (eRO [.e (eVar 4), .e (eInt (eC (.int 1)))] gSlLo), .e (eRO [.n 3, .e (eInt (eC (.int 1)))] gSlLo)] gNeA)) (asB (eRO [.e (eRO [.e (eCallK f_window_table [1, 0] (aCons (eVar 2) (aCons (eVar 1) (aNil))))] gRepr), .e (eRO [.n 3] gRepr)] gNeA))) (sRet (eC (.bl false))) (sSkip)) (sSeq (sFor (srcR1 (eRO [.e (eRO [.n 2] gLen), .e (eC (.int 1))] gAdd)) (bName 5) b_law_right_L2) (sSeq (sFor (srcR2 (eC (.int 1)) (eRO [.e (eRO [.n 2] gLen), .e (eC (.int 1))] gAdd)) (bName 7) b_law_right_L4) (sSeq (sFor (srcN itemsD 3) (bName 10) b_law_right_L7) (sRet (eC (.bl true)))))))))
def f_law_right : List D → FRes := fBody 3 13 b_law_right
theorem sc_law_right : FnScope ["feed", "one", "two", "due", "told", "at", "to", "count", "rows", "some", "row", "first", "second"] ["feed", "one", "two"] (defScope s_law_right) := ⟨rfl, rfl, rfl, by decide +kernel, rfl, by decide +kernel, by decide +kernel⟩
theorem ok_law_right {P : Program} {w : World} {K : PySem.W.Frag} {mg : Str → Option Value} (g : Gd K mg) (base : Heap) : FnOkG P w K mg base 5 g.f_law_right g.d_law_right ["feed", "one", "two"] (spV mg 3 f_law_right) :=
  fun_ok (N := ["feed", "one", "two", "due", "told", "at", "to", "count", "rows", "some", "row", "first", "second"]) (n := 3) b_law_right g.F_law_right sc_law_right rfl fun cdv A outer s H E hr tk po => show PSs _ _ (tS _ _ b_law_right) from
    (sv_cons (sv_asg (ev_tup (av_cons (ev_frz (ev_call (ok_law_due g _) (hr.mono (by decide)) g.m_law_due g.F_law_due.kp (bn_law_due g) tk (oa_cons (on 1) (oa_cons (on 2) oa_nil)))) (av_cons (ev_call (ok_window_table g _) (hr.mono (by decide)) g.m_window_table g.F_window_table.kp (bn_window_table g) tk (oa_cons (on 1) (oa_cons (on 2) oa_nil))) av_nil))) (gv_tup rfl (gvs_cons (gv_name (i := 3) sc_law_right.nd) (gvs_cons (gv_name (i := 4) sc_law_right.nd) gvs_nil))))
      (sv_cons (sv_if (wv_or (t_ne hr (oe (b_repr hr g.z_repr (on 4))) (oe (b_repr hr g.z_repr (on 3)))) (wv_or1 (t_ne hr (oe (e_ix2 4 k_int k_neg)) (oe (ev_call (ok_shared g _) (hr.mono (by decide)) g.m_shared g.F_shared.kp (bn_shared g) tk (oa_cons (on 1) (oa_cons (on 2) oa_nil))))))).pt (sv_one (sv_ret ev_bl)) sv_nil)
      (sv_cons (sv_expr (ev_appIn (j := 0) 4))
      (sv_cons (sv_if (wv_or (t_ne hr (oe (e_slLo (oe (ev_var 4)) ev_int)) (oe (e_slLo (on 3) ev_int))) (wv_or1 (t_ne hr (oe (b_repr hr g.z_repr (oe (ev_callK (pm := [1, 0]) (ok_window_table g _) (hr.mono (by decide)) g.m_window_table g.F_window_table.kp (bindsK g.F_window_table (n := 2) (ks := ["other", "text"]) (bs := fun ws => (["text", "other"] : List Str).zip (([1, 0] : List Nat).map fun k => ws.getD k .none)) fun _ _ _ _ _ _ ws hl => match ws, hl with | [_, _], _ => rfl) tk (kv_cons (ev_var 2) (kv_cons (ev_var 1) kv_nil)))))) (oe (b_repr hr g.z_repr (on 3)))))).pt (sv_one (sv_ret ev_bl)) sv_nil)
      (sv_cons (sv_for po rfl (iv_r1 g.z_range (e_add (oe (b_len g.z_len (on 2))) (oe ev_int))) (gv_name (i := 5) sc_law_right.nd) (show PSs _ _ (tS _ _ b_law_right_L2) from (sv_one (sv_for po rfl (iv_r2 g.z_range (ev_var 5) (e_add (oe (b_len g.z_len (on 2))) (oe ev_int))) (gv_name (i := 6) sc_law_right.nd) (show PSs _ _ (tS _ _ b_law_right_L1) from (sv_one (sv_if (t_ne hr (oe (b_repr hr g.z_repr (oe (ev_call (ok_shared_window g _) (hr.mono (by decide)) g.m_shared_window g.F_shared_window.kp (bn_shared_window g) tk (oa_cons (on 1) (oa_cons (on 2) (oa_cons (on 5) (oa_cons (on 6) oa_nil)))))))) (oe (b_repr hr g.z_repr (oe (e_ix (oe (e_ix (on 3) (on 5))) (oe (e_sub (on 6) (on 5)))))))) (sv_one (sv_ret ev_bl)) sv_nil)))))))
      (sv_cons (sv_for po rfl (iv_r2 g.z_range ev_int (e_add (oe (b_len g.z_len (on 2))) (oe ev_int))) (gv_name (i := 7) sc_law_right.nd) (show PSs _ _ (tS _ _ b_law_right_L4) from (sv_cons (sv_setLc (i := 8) (own := [("at", 5)]) rfl sc_law_right.nd (iv_r1 g.z_range (e_add (oe (e_sub (oe (b_len g.z_len (on 2))) (on 7))) (oe ev_int))) (blkOk_by (by rfl)) (fun _ _ _ _ _ => (gv_name (i := 5) sc_law_right.nd)) (fun _ _ _ _ _ => cv_nil) (fun _ _ _ _ _ => (e_ix (oe (e_ix (on 3) (on 5))) (on 7))))
      (sv_cons (sv_set (i := 9) sc_law_right.nd (ev_call (ok_windows g _) (hr.mono (by decide)) g.m_windows g.F_windows.kp (bn_windows g) tk (oa_cons (on 1) (oa_cons (on 2) (oa_cons (on 7) oa_nil)))))
      (sv_cons (sv_if (t_ne hr (oe (b_repr hr g.z_repr (on 9))) (oe (b_repr hr g.z_repr (on 8)))) (sv_one (sv_ret ev_bl)) sv_nil)
      (sv_cons (sv_expr (ev_append 9 ev_str))
      (sv_one (sv_if (t_ne hr (oe (b_repr hr g.z_repr (oe (ev_callK (pm := [1, 2, 0]) (ok_windows g _) (hr.mono (by decide)) g.m_windows g.F_windows.kp (bindsK g.F_windows (n := 3) (ks := ["count", "text", "other"]) (bs := fun ws => (["text", "other", "count"] : List Str).zip (([1, 2, 0] : List Nat).map fun k => ws.getD k .none)) fun _ _ _ _ _ _ ws hl => match ws, hl with | [_, _, _], _ => rfl) tk (kv_cons (ev_var 7) (kv_cons (ev_var 1) (kv_cons (ev_var 2) kv_nil))))))) (oe (b_repr hr g.z_repr (on 8)))) (sv_one (sv_ret ev_bl)) sv_nil))))))))
      (sv_cons (sv_for po rfl (iv_n 3) (gv_name (i := 10) sc_law_right.nd) (show PSs _ _ (tS _ _ b_law_right_L7) from (sv_one (sv_if (t_ne hr (oe (ev_lc (own := [("first", 11), ("second", 12)]) rfl sc_law_right.nd (iv_zip g.z_zip (ev_var 10) (e_slLo (on 10) ev_int)) (blkOk_by (by rfl)) (fun _ _ _ _ _ => (gv_tup rfl (gvs_cons (gv_name (i := 11) sc_law_right.nd) (gvs_cons (gv_name (i := 12) sc_law_right.nd) gvs_nil)))) (fun _ _ _ _ _ => (cv_one (tv_not (tv_chain op_le op_le ev_int (e_sub (on 12) (on 11)) ev_int)))) (fun _ _ _ _ _ => ev_int))) (oe (ev_lst av_nil))) (sv_one (sv_ret ev_bl)) sv_nil))))
      (sv_one (sv_ret ev_bl)))))))))
theorem bn_law_right {K : PySem.W.Frag} {mg : Str → Option Value} (g : Gd K mg) : Binds K g.d_law_right ["feed", "one", "two"] [] := g.F_law_right.binds fun _ _ _ _ _ _ us hl => match us, hl with | [_, _, _], _ => rfl

/-! ### law_refused_right -/
def b_law_refused_right_L1 : Ev → SRes := sSeq (sAsg (eFrz (eLst (aCons (eCall f_law_word_of [.n 7, .n 3, .n 4, .e (eRO [.n 6, .e (eC (.int 0))] gIx), .e (eRO [.n 6, .e (eC (.int 1))] gIx)]) (aCons (eCall f_law_word_of [.n 7, .n 3, .n 2, .e (eC (.int 0)), .e (eC (.int 0))]) (aCons (eCall f_law_word_of [.n 7, .n 1, .n 4, .e (eRO [.n 6, .e (eC (.int 0))] gIx), .e (eRO [.n 6, .e (eC (.int 1))] gIx)]) (aNil)))))) (bName 8)) (sIf (asB (eRO [.n 8, .e (eLst (aCons (eC (.str "text")) (aCons (eC (.str "text")) (aCons (eC (.str "text")) (aNil)))))] gNeA)) (sRet (eC (.bl false))) (sSkip))
def b_law_refused_right_L2 : Ev → SRes := sSeq (sIf (asB (eRO [.e (eLst (aCons (eCall f_law_word_of [.e (eC (.int 0)), .n 1, .n 2, .n 10, .n 5]) (aCons (eCall f_law_word_of [.e (eC (.int 0)), .n 1, .n 2, .n 10, .n 10]) (aCons (eCall f_law_word_of [.e (eC (.int 0)), .n 1, .n 2, .n 9, .n 10]) (aNil))))), .e (eRO [.e (eLst (aCons (eC (.str "index")) (aNil))), .e (eC (.int 3))] gMul)] gNeA)) (sRet (eC (.bl false))) (sSkip)) (sIf (asB (eRO [.e (eCall f_law_word_of [.e (eC (.int 2)), .n 1, .n 2, .n 10, .e (eC .non)]), .e (eC (.str "number"))] gNeA)) (sRet (eC (.bl false))) (sSkip))
def b_law_refused_right_C3 : Ev → Res Bool := asB (eRO [.e (eCall f_law_word_of [.e (eC (.int 0)), .n 1, .n 2, .n 11, .n 12]), .e (eC (.str "index"))] gNeA)
def b_law_refused_right_E4 : Ev → Res D := eVar 12
def b_law_refused_right_L5 : Ev → SRes := sIf (asB (eRO [.e (eLc (srcR1 (eVar 11)) (bName 12) b_law_refused_right_C3 b_law_refused_right_E4 [12]), .e (eLst (aNil))] gNeA)) (sRet (eC (.bl false))) (sSkip)
def b_law_refused_right : Ev → SRes := sSeq (sPar3 3 4 5 (aCons (eFrz (eCall f_law_one [.n 0, .e (eFrz (eCall f_law_bad_texts []))])) (aCons (eFrz (eCall f_law_one [.n 0, .e (eFrz (eCall f_law_bad_texts []))])) (aCons (eRO [.n 2] gLen) (aNil))))) (sSeq (sAsg (eFrz (eLst (aCons (eRO [.e (eC (.int 1))] gNeg) (aCons (eRO [.n 5, .e (eC (.int 1))] gAdd) (aCons (eC (.bl true)) (aCons (eC (.bl false)) (aCons (eC .non) (aCons (eC (.str "0")) (aCons (eTup (aCons (eC (.int 0)) (aNil))) (aCons (eLst (aCons (eC (.int 0)) (aNil))) (aCons (eRO [.e (eC (.int 10)), .e (eC (.int 20))] gPowI) (aNil)))))))))))) (bName 6)) (sSeq (sFor (srcR1 (eC (.int 3))) (bName 7) b_law_refused_right_L1) (sSeq (sAsg (eFrz (eCall f_law_draw [.n 0, .e (eRO [.n 5, .e (eC (.int 1))] gAdd)])) (bName 9)) (sSeq (sFor (srcN itemsD 6) (bName 10) b_law_refused_right_L2) (sSeq (sFor (srcR1 (eRO [.n 5, .e (eC (.int 1))] gAdd)) (bName 11) b_law_refused_right_L5) (sRet (eAnd (eRO [.e (eCall f_law_word_of [.e (eC (.int 2)), .n 1, .n 2, .e (eC (.int 0)), .e (eC .non)]), .e (eC (.str "number"))] gEqA) (eRO [.e (eCall f_law_word_of [.e (eC (.int 0)), .n 1, .n 2, .n 9, .n 9]), .e (eC (.str ""))] gEqA))))))))
def f_law_refused_right : List D → FRes := fBody 3 13 b_law_refused_right
theorem sc_law_refused_right : FnScope ["feed", "one", "two", "bad", "worse", "last", "odd", "way", "told", "at", "number", "start", "end"] ["feed", "one", "two"] (defScope s_law_refused_right) := ⟨rfl, rfl, rfl, by decide +kernel, rfl, by decide +kernel, by decide +kernel⟩
theorem ok_law_refused_right {P : Program} {w : World} {K : PySem.W.Frag} {mg : Str → Option Value} (g : Gd K mg) (base : Heap) : FnOkG P w K mg base 6 g.f_law_refused_right g.d_law_refused_right ["feed", "one", "two"] (spV mg 3 f_law_refused_right) :=
  fun_ok (N := ["feed", "one", "two", "bad", "worse", "last", "odd", "way", "told", "at", "number", "start", "end"]) (n := 3) b_law_refused_right g.F_law_refused_right sc_law_refused_right rfl fun cdv A outer s H E hr tk po => show PSs _ _ (tS _ _ b_law_refused_right) from
    (sv_cons (sv_par3 (i := 3) (j := 4) (k := 5) rfl sc_law_refused_right.nd (av_cons (ev_frz (ev_call (ok_law_one g _) (hr.mono (by decide)) g.m_law_one g.F_law_one.kp (bn_law_one g) tk (oa_cons (on 0) (oa_cons (oe (ev_frz (ev_call0 (ok_law_bad_texts g _) (hr.mono (by decide)) g.m_law_bad_texts g.F_law_bad_texts.kp (bn_law_bad_texts g) tk))) oa_nil)))) (av_cons (ev_frz (ev_call (ok_law_one g _) (hr.mono (by decide)) g.m_law_one g.F_law_one.kp (bn_law_one g) tk (oa_cons (on 0) (oa_cons (oe (ev_frz (ev_call0 (ok_law_bad_texts g _) (hr.mono (by decide)) g.m_law_bad_texts g.F_law_bad_texts.kp (bn_law_bad_texts g) tk))) oa_nil)))) (av_cons (b_len g.z_len (on 2)) av_nil))))
      (sv_cons (sv_set (i := 6) sc_law_refused_right.nd (ev_frz (ev_lst (av_cons (e_neg (oe ev_int)) (av_cons (e_add (on 5) (oe ev_int)) (av_cons ev_bl (av_cons ev_bl (av_cons ev_non (av_cons ev_str (av_cons (ev_tup (av_cons ev_int av_nil)) (av_cons (ev_lst (av_cons ev_int av_nil)) (av_cons (e_pow (oe ev_int) (oe ev_int)) av_nil))))))))))))
      (sv_cons (sv_for po rfl (iv_r1 g.z_range ev_int) (gv_name (i := 7) sc_law_refused_right.nd) (show PSs _ _ (tS _ _ b_law_refused_right_L1) from (sv_cons (sv_set (i := 8) sc_law_refused_right.nd (ev_frz (ev_lst (av_cons (ev_call (ok_law_word_of g _) (hr.mono (by decide)) g.m_law_word_of g.F_law_word_of.kp (bn_law_word_of g) tk (oa_cons (on 7) (oa_cons (on 3) (oa_cons (on 4) (oa_cons (oe (e_ix (on 6) (oe ev_int))) (oa_cons (oe (e_ix (on 6) (oe ev_int))) oa_nil)))))) (av_cons (ev_call (ok_law_word_of g _) (hr.mono (by decide)) g.m_law_word_of g.F_law_word_of.kp (bn_law_word_of g) tk (oa_cons (on 7) (oa_cons (on 3) (oa_cons (on 2) (oa_cons (oe ev_int) (oa_cons (oe ev_int) oa_nil)))))) (av_cons (ev_call (ok_law_word_of g _) (hr.mono (by decide)) g.m_law_word_of g.F_law_word_of.kp (bn_law_word_of g) tk (oa_cons (on 7) (oa_cons (on 1) (oa_cons (on 4) (oa_cons (oe (e_ix (on 6) (oe ev_int))) (oa_cons (oe (e_ix (on 6) (oe ev_int))) oa_nil)))))) av_nil))))))
      (sv_one (sv_if (t_ne hr (on 8) (oe (ev_lst (av_cons ev_str (av_cons ev_str (av_cons ev_str av_nil)))))) (sv_one (sv_ret ev_bl)) sv_nil)))))
      (sv_cons (sv_set (i := 9) sc_law_refused_right.nd (ev_frz (ev_call (ok_law_draw g _) (hr.mono (by decide)) g.m_law_draw g.F_law_draw.kp (bn_law_draw g) tk (oa_cons (on 0) (oa_cons (oe (e_add (on 5) (oe ev_int))) oa_nil)))))
      (sv_cons (sv_for po rfl (iv_n 6) (gv_name (i := 10) sc_law_refused_right.nd) (show PSs _ _ (tS _ _ b_law_refused_right_L2) from (sv_cons (sv_if (t_ne hr (oe (ev_lst (av_cons (ev_call (ok_law_word_of g _) (hr.mono (by decide)) g.m_law_word_of g.F_law_word_of.kp (bn_law_word_of g) tk (oa_cons (oe ev_int) (oa_cons (on 1) (oa_cons (on 2) (oa_cons (on 10) (oa_cons (on 5) oa_nil)))))) (av_cons (ev_call (ok_law_word_of g _) (hr.mono (by decide)) g.m_law_word_of g.F_law_word_of.kp (bn_law_word_of g) tk (oa_cons (oe ev_int) (oa_cons (on 1) (oa_cons (on 2) (oa_cons (on 10) (oa_cons (on 10) oa_nil)))))) (av_cons (ev_call (ok_law_word_of g _) (hr.mono (by decide)) g.m_law_word_of g.F_law_word_of.kp (bn_law_word_of g) tk (oa_cons (oe ev_int) (oa_cons (on 1) (oa_cons (on 2) (oa_cons (on 9) (oa_cons (on 10) oa_nil)))))) av_nil))))) (oe (e_mul (oe (ev_lst (av_cons ev_str av_nil))) (oe ev_int)))) (sv_one (sv_ret ev_bl)) sv_nil)
      (sv_one (sv_if (t_ne hr (oe (ev_call (ok_law_word_of g _) (hr.mono (by decide)) g.m_law_word_of g.F_law_word_of.kp (bn_law_word_of g) tk (oa_cons (oe ev_int) (oa_cons (on 1) (oa_cons (on 2) (oa_cons (on 10) (oa_cons (oe ev_non) oa_nil))))))) (oe ev_str)) (sv_one (sv_ret ev_bl)) sv_nil)))))
      (sv_cons (sv_for po rfl (iv_r1 g.z_range (e_add (on 5) (oe ev_int))) (gv_name (i := 11) sc_law_refused_right.nd) (show PSs _ _ (tS _ _ b_law_refused_right_L5) from (sv_one (sv_if (t_ne hr (oe (ev_lc (own := [("end", 12)]) rfl sc_law_refused_right.nd (iv_r1 g.z_range (ev_var 11)) (blkOk_by (by rfl)) (fun _ _ _ _ _ => (gv_name (i := 12) sc_law_refused_right.nd)) (fun _ _ _ _ _ => (cv_one (t_ne hr (oe (ev_call (ok_law_word_of g _) (hr.mono (by decide)) g.m_law_word_of g.F_law_word_of.kp (bn_law_word_of g) takes0 (oa_cons (oe ev_int) (oa_cons (on 1) (oa_cons (on 2) (oa_cons (on 11) (oa_cons (on 12) oa_nil))))))) (oe ev_str)))) (fun _ _ _ _ _ => (ev_var 12)))) (oe (ev_lst av_nil))) (sv_one (sv_ret ev_bl)) sv_nil))))
      (sv_one (sv_ret (ev_and (e_eq hr (oe (ev_call (ok_law_word_of g _) (hr.mono (by decide)) g.m_law_word_of g.F_law_word_of.kp (bn_law_word_of g) tk (oa_cons (oe ev_int) (oa_cons (on 1) (oa_cons (on 2) (oa_cons (oe ev_int) (oa_cons (oe ev_non) oa_nil))))))) (oe ev_str)) (ev_one (e_eq hr (oe (ev_call (ok_law_word_of g _) (hr.mono (by decide)) g.m_law_word_of g.F_law_word_of.kp (bn_law_word_of g) tk (oa_cons (oe ev_int) (oa_cons (on 1) (oa_cons (on 2) (oa_cons (on 9) (oa_cons (on 9) oa_nil))))))) (oe ev_str))))))))))))
theorem bn_law_refused_right {K : PySem.W.Frag} {mg : Str → Option Value} (g : Gd K mg) : Binds K g.d_law_refused_right ["feed", "one", "two"] [] := g.F_law_refused_right.binds fun _ _ _ _ _ _ us hl => match us, hl with | [_, _, _], _ => rfl

/-! ### law -/
def b_law_L1 : Ev → SRes := sSeq (sPar 4 5 (aCons (eFrz (eCall f_law_letters [.n 2, .e (eC (.int 6))])) (aCons (eFrz (eCall f_law_letters [.n 2, .e (eC (.int 6))])) (aNil)))) (sIf (bNot (asB (eCall f_law_right [.n 2, .n 4, .n 5]))) (sRet (eC (.bl false))) (sSkip))
def b_law_L2 : Ev → SRes := sSeq (sAsg (eCall f_law_feed [.n 0, .n 1]) (bName 2)) (sSeq (sFor (srcR1 (eC (.int 2))) (bName 3) b_law_L1) (sIf (bNot (asB (eCall f_law_refused_right [.n 2, .n 4, .n 5]))) (sRet (eC (.bl false))) (sSkip)))
def b_law : Ev → SRes := sSeq (sFor (srcR1 (eRO [.e (eC (.int 1)), .e (eRO [.e (eRO [.n 0] gLen), .e (eC (.int 4))] gMin2)] gMax2)) (bName 1) b_law_L2) (sRet (eC (.bl true)))
def f_law : List D → FRes := fBody 1 6 b_law
theorem sc_law : FnScope ["script", "k", "feed", "turn", "one", "two"] ["script"] (defScope s_law) := ⟨rfl, rfl, rfl, by decide +kernel, rfl, by decide +kernel, by decide +kernel⟩
theorem ok_law {P : Program} {w : World} {K : PySem.W.Frag} {mg : Str → Option Value} (g : Gd K mg) (base : Heap) : FnOkG P w K mg base 7 g.f_law g.d_law ["script"] (spV mg 1 f_law) :=
  fun_ok (N := ["script", "k", "feed", "turn", "one", "two"]) (n := 1) b_law g.F_law sc_law rfl fun cdv A outer s H E hr tk po => show PSs _ _ (tS _ _ b_law) from
    (sv_cons (sv_for po rfl (iv_r1 g.z_range (b_max2 rfl g.z_max (oe ev_int) (oe (b_min2 rfl g.z_min (oe (b_len g.z_len (on 0))) (oe ev_int))))) (gv_name (i := 1) sc_law.nd) (show PSs _ _ (tS _ _ b_law_L2) from (sv_cons (sv_set (i := 2) sc_law.nd (ev_call (ok_law_feed g _) (hr.mono (by decide)) g.m_law_feed g.F_law_feed.kp (bn_law_feed g) tk (oa_cons (on 0) (oa_cons (on 1) oa_nil))))
      (sv_cons (sv_for po rfl (iv_r1 g.z_range ev_int) (gv_name (i := 3) sc_law.nd) (show PSs _ _ (tS _ _ b_law_L1) from (sv_cons (sv_par (i := 4) (j := 5) rfl sc_law.nd (av_cons (ev_frz (ev_call (ok_law_letters g _) (hr.mono (by decide)) g.m_law_letters g.F_law_letters.kp (bn_law_letters g) tk (oa_cons (on 2) (oa_cons (oe ev_int) oa_nil)))) (av_cons (ev_frz (ev_call (ok_law_letters g _) (hr.mono (by decide)) g.m_law_letters g.F_law_letters.kp (bn_law_letters g) tk (oa_cons (on 2) (oa_cons (oe ev_int) oa_nil)))) av_nil)))
      (sv_one (sv_if (tv_not (tv_val (ev_call (ok_law_right g _) (hr.mono (by decide)) g.m_law_right g.F_law_right.kp (bn_law_right g) tk (oa_cons (on 2) (oa_cons (on 4) (oa_cons (on 5) oa_nil)))))) (sv_one (sv_ret ev_bl)) sv_nil)))))
      (sv_one (sv_if (tv_not (tv_val (ev_call (ok_law_refused_right g _) (hr.mono (by decide)) g.m_law_refused_right g.F_law_refused_right.kp (bn_law_refused_right g) tk (oa_cons (on 2) (oa_cons (on 4) (oa_cons (on 5) oa_nil)))))) (sv_one (sv_ret ev_bl)) sv_nil))))))
      (sv_one (sv_ret ev_bl)))
theorem bn_law {K : PySem.W.Frag} {mg : Str → Option Value} (g : Gd K mg) : Binds K g.d_law ["script"] [] := g.F_law.binds fun _ _ _ _ _ _ us hl => match us, hl with | [_], _ => rfl
def gd_mk {K : PySem.W.Frag} {h : Heap} {mg : Str → Option Value} (X : K.In h) (G : h.Ns mainGlobals mg)
    {f_is_integer : Addr} {od_is_integer an_is_integer : Option Addr} {sl_is_integer : Array (Option Value)} {oc_is_integer kV_is_integer dc_is_integer pm_is_integer cd_is_integer ct_is_integer : Value}
    (a_is_integer : PySem.W.nsIn K mainGlobals "is_integer" = some (some (.ref f_is_integer)))
    (l_is_integer : K.lookup f_is_integer = some ⟨oc_is_integer, od_is_integer, .func (PySem.W.fnOf "is_integer" "is_integer" (defArgs s_is_integer) (defBody s_is_integer) (defScope s_is_integer) .none kV_is_integer dc_is_integer pm_is_integer an_is_integer cd_is_integer ct_is_integer), sl_is_integer⟩)
    (c_is_integer : PySem.W.codeIn K cd_is_integer "is_integer" = true) (k_is_integer : PySem.W.keepIn K (.ref f_is_integer) = true)
    {f_is_within : Addr} {od_is_within an_is_within : Option Addr} {sl_is_within : Array (Option Value)} {oc_is_within kV_is_within dc_is_within pm_is_within cd_is_within ct_is_within : Value}
    (a_is_within : PySem.W.nsIn K mainGlobals "is_within" = some (some (.ref f_is_within)))
    (l_is_within : K.lookup f_is_within = some ⟨oc_is_within, od_is_within, .func (PySem.W.fnOf "is_within" "is_within" (defArgs s_is_within) (defBody s_is_within) (defScope s_is_within) .none kV_is_within dc_is_within pm_is_within an_is_within cd_is_within ct_is_within), sl_is_within⟩)
    (c_is_within : PySem.W.codeIn K cd_is_within "is_within" = true) (k_is_within : PySem.W.keepIn K (.ref f_is_within) = true)
    {f_need_number : Addr} {od_need_number an_need_number : Option Addr} {sl_need_number : Array (Option Value)} {oc_need_number kV_need_number dc_need_number pm_need_number cd_need_number ct_need_number : Value}
    (a_need_number : PySem.W.nsIn K mainGlobals "need_number" = some (some (.ref f_need_number)))
    (l_need_number : K.lookup f_need_number = some ⟨oc_need_number, od_need_number, .func (PySem.W.fnOf "need_number" "need_number" (defArgs s_need_number) (defBody s_need_number) (defScope s_need_number) .none kV_need_number dc_need_number pm_need_number an_need_number cd_need_number ct_need_number), sl_need_number⟩)
    (c_need_number : PySem.W.codeIn K cd_need_number "need_number" = true) (k_need_number : PySem.W.keepIn K (.ref f_need_number) = true)
    {f_ends_from : Addr} {od_ends_from an_ends_from : Option Addr} {sl_ends_from : Array (Option Value)} {oc_ends_from kV_ends_from dc_ends_from pm_ends_from cd_ends_from ct_ends_from : Value}
    (a_ends_from : PySem.W.nsIn K mainGlobals "ends_from" = some (some (.ref f_ends_from)))
    (l_ends_from : K.lookup f_ends_from = some ⟨oc_ends_from, od_ends_from, .func (PySem.W.fnOf "ends_from" "ends_from" (defArgs s_ends_from) (defBody s_ends_from) (defScope s_ends_from) .none kV_ends_from dc_ends_from pm_ends_from an_ends_from cd_ends_from ct_ends_from), sl_ends_from⟩)
    (c_ends_from : PySem.W.codeIn K cd_ends_from "ends_from" = true) (k_ends_from : PySem.W.keepIn K (.ref f_ends_from) = true)
    {f_is_text : Addr} {od_is_text an_is_text : Option Addr} {sl_is_text : Array (Option Value)} {oc_is_text kV_is_text dc_is_text pm_is_text cd_is_text ct_is_text : Value}
    (a_is_text : PySem.W.nsIn K mainGlobals "is_text" = some (some (.ref f_is_text)))
    (l_is_text : K.lookup f_is_text = some ⟨oc_is_text, od_is_text, .func (PySem.W.fnOf "is_text" "is_text" (defArgs s_is_text) (defBody s_is_text) (defScope s_is_text) .none kV_is_text dc_is_text pm_is_text an_is_text cd_is_text ct_is_text), sl_is_text⟩)
    (c_is_text : PySem.W.codeIn K cd_is_text "is_text" = true) (k_is_text : PySem.W.keepIn K (.ref f_is_text) = true)
    {f_shared_row : Addr} {od_shared_row an_shared_row : Option Addr} {sl_shared_row : Array (Option Value)} {oc_shared_row kV_shared_row dc_shared_row pm_shared_row cd_shared_row ct_shared_row : Value}
    (a_shared_row : PySem.W.nsIn K mainGlobals "shared_row" = some (some (.ref f_shared_row)))
    (l_shared_row : K.lookup f_shared_row = some ⟨oc_shared_row, od_shared_row, .func (PySem.W.fnOf "shared_row" "shared_row" (defArgs s_shared_row) (defBody s_shared_row) (defScope s_shared_row) .none kV_shared_row dc_shared_row pm_shared_row an_shared_row cd_shared_row ct_shared_row), sl_shared_row⟩)
    (c_shared_row : PySem.W.codeIn K cd_shared_row "shared_row" = true) (k_shared_row : PySem.W.keepIn K (.ref f_shared_row) = true)
    {f_text_strands : Addr} {od_text_strands an_text_strands : Option Addr} {sl_text_strands : Array (Option Value)} {oc_text_strands kV_text_strands dc_text_strands pm_text_strands cd_text_strands ct_text_strands : Value}
    (a_text_strands : PySem.W.nsIn K mainGlobals "text_strands" = some (some (.ref f_text_strands)))
    (l_text_strands : K.lookup f_text_strands = some ⟨oc_text_strands, od_text_strands, .func (PySem.W.fnOf "text_strands" "text_strands" (defArgs s_text_strands) (defBody s_text_strands) (defScope s_text_strands) .none kV_text_strands dc_text_strands pm_text_strands an_text_strands cd_text_strands ct_text_strands), sl_text_strands⟩)
    (c_text_strands : PySem.W.codeIn K cd_text_strands "text_strands" = true) (k_text_strands : PySem.W.keepIn K (.ref f_text_strands) = true)
    {f_window_by : Addr} {od_window_by an_window_by : Option Addr} {sl_window_by : Array (Option Value)} {oc_window_by kV_window_by dc_window_by pm_window_by cd_window_by ct_window_by : Value}
    (a_window_by : PySem.W.nsIn K mainGlobals "window_by" = some (some (.ref f_window_by)))
    (l_window_by : K.lookup f_window_by = some ⟨oc_window_by, od_window_by, .func (PySem.W.fnOf "window_by" "window_by" (defArgs s_window_by) (defBody s_window_by) (defScope s_window_by) .none kV_window_by dc_window_by pm_window_by an_window_by cd_window_by ct_window_by), sl_window_by⟩)
    (c_window_by : PySem.W.codeIn K cd_window_by "window_by" = true) (k_window_by : PySem.W.keepIn K (.ref f_window_by) = true)
    {f_windows_of : Addr} {od_windows_of an_windows_of : Option Addr} {sl_windows_of : Array (Option Value)} {oc_windows_of kV_windows_of dc_windows_of pm_windows_of cd_windows_of ct_windows_of : Value}
    (a_windows_of : PySem.W.nsIn K mainGlobals "windows_of" = some (some (.ref f_windows_of)))
    (l_windows_of : K.lookup f_windows_of = some ⟨oc_windows_of, od_windows_of, .func (PySem.W.fnOf "windows_of" "windows_of" (defArgs s_windows_of) (defBody s_windows_of) (defScope s_windows_of) .none kV_windows_of dc_windows_of pm_windows_of an_windows_of cd_windows_of ct_windows_of), sl_windows_of⟩)
    (c_windows_of : PySem.W.codeIn K cd_windows_of "windows_of" = true) (k_windows_of : PySem.W.keepIn K (.ref f_windows_of) = true)
    {f_need_index : Addr} {od_need_index an_need_index : Option Addr} {sl_need_index : Array (Option Value)} {oc_need_index kV_need_index dc_need_index pm_need_index cd_need_index ct_need_index : Value}
    (a_need_index : PySem.W.nsIn K mainGlobals "need_index" = some (some (.ref f_need_index)))
    (l_need_index : K.lookup f_need_index = some ⟨oc_need_index, od_need_index, .func (PySem.W.fnOf "need_index" "need_index" (defArgs s_need_index) (defBody s_need_index) (defScope s_need_index) .none kV_need_index dc_need_index pm_need_index an_need_index cd_need_index ct_need_index), sl_need_index⟩)
    (c_need_index : PySem.W.codeIn K cd_need_index "need_index" = true) (k_need_index : PySem.W.keepIn K (.ref f_need_index) = true)
    {f_need_index_from : Addr} {od_need_index_from an_need_index_from : Option Addr} {sl_need_index_from : Array (Option Value)} {oc_need_index_from kV_need_index_from dc_need_index_from pm_need_index_from cd_need_index_from ct_need_index_from : Value}
    (a_need_index_from : PySem.W.nsIn K mainGlobals "need_index_from" = some (some (.ref f_need_index_from)))
    (l_need_index_from : K.lookup f_need_index_from = some ⟨oc_need_index_from, od_need_index_from, .func (PySem.W.fnOf "need_index_from" "need_index_from" (defArgs s_need_index_from) (defBody s_need_index_from) (defScope s_need_index_from) .none kV_need_index_from dc_need_index_from pm_need_index_from an_need_index_from cd_need_index_from ct_need_index_from), sl_need_index_from⟩)
    (c_need_index_from : PySem.W.codeIn K cd_need_index_from "need_index_from" = true) (k_need_index_from : PySem.W.keepIn K (.ref f_need_index_from) = true)
    {f_need_text : Addr} {od_need_text an_need_text : Option Addr} {sl_need_text : Array (Option Value)} {oc_need_text kV_need_text dc_need_text pm_need_text cd_need_text ct_need_text : Value}
    (a_need_text : PySem.W.nsIn K mainGlobals "need_text" = some (some (.ref f_need_text)))
    (l_need_text : K.lookup f_need_text = some ⟨oc_need_text, od_need_text, .func (PySem.W.fnOf "need_text" "need_text" (defArgs s_need_text) (defBody s_need_text) (defScope s_need_text) .none kV_need_text dc_need_text pm_need_text an_need_text cd_need_text ct_need_text), sl_need_text⟩)
    (c_need_text : PySem.W.codeIn K cd_need_text "need_text" = true) (k_need_text : PySem.W.keepIn K (.ref f_need_text) = true)
    {f_need_texts : Addr} {od_need_texts an_need_texts : Option Addr} {sl_need_texts : Array (Option Value)} {oc_need_texts kV_need_texts dc_need_texts pm_need_texts cd_need_texts ct_need_texts : Value}
    (a_need_texts : PySem.W.nsIn K mainGlobals "need_texts" = some (some (.ref f_need_texts)))
    (l_need_texts : K.lookup f_need_texts = some ⟨oc_need_texts, od_need_texts, .func (PySem.W.fnOf "need_texts" "need_texts" (defArgs s_need_texts) (defBody s_need_texts) (defScope s_need_texts) .none kV_need_texts dc_need_texts pm_need_texts an_need_texts cd_need_texts ct_need_texts), sl_need_texts⟩)
    (c_need_texts : PySem.W.codeIn K cd_need_texts "need_texts" = true) (k_need_texts : PySem.W.keepIn K (.ref f_need_texts) = true)
    {f_shared : Addr} {od_shared an_shared : Option Addr} {sl_shared : Array (Option Value)} {oc_shared kV_shared dc_shared pm_shared cd_shared ct_shared : Value}
    (a_shared : PySem.W.nsIn K mainGlobals "shared" = some (some (.ref f_shared)))
    (l_shared : K.lookup f_shared = some ⟨oc_shared, od_shared, .func (PySem.W.fnOf "shared" "shared" (defArgs s_shared) (defBody s_shared) (defScope s_shared) .none kV_shared dc_shared pm_shared an_shared cd_shared ct_shared), sl_shared⟩)
    (c_shared : PySem.W.codeIn K cd_shared "shared" = true) (k_shared : PySem.W.keepIn K (.ref f_shared) = true)
    {f_shared_window : Addr} {od_shared_window an_shared_window : Option Addr} {sl_shared_window : Array (Option Value)} {oc_shared_window kV_shared_window dc_shared_window pm_shared_window cd_shared_window ct_shared_window : Value}
    (a_shared_window : PySem.W.nsIn K mainGlobals "shared_window" = some (some (.ref f_shared_window)))
    (l_shared_window : K.lookup f_shared_window = some ⟨oc_shared_window, od_shared_window, .func (PySem.W.fnOf "shared_window" "shared_window" (defArgs s_shared_window) (defBody s_shared_window) (defScope s_shared_window) .none kV_shared_window dc_shared_window pm_shared_window an_shared_window cd_shared_window ct_shared_window), sl_shared_window⟩)
    (c_shared_window : PySem.W.codeIn K cd_shared_window "shared_window" = true) (k_shared_window : PySem.W.keepIn K (.ref f_shared_window) = true)
    {f_window_table : Addr} {od_window_table an_window_table : Option Addr} {sl_window_table : Array (Option Value)} {oc_window_table kV_window_table dc_window_table pm_window_table cd_window_table ct_window_table : Value}
    (a_window_table : PySem.W.nsIn K mainGlobals "window_table" = some (some (.ref f_window_table)))
    (l_window_table : K.lookup f_window_table = some ⟨oc_window_table, od_window_table, .func (PySem.W.fnOf "window_table" "window_table" (defArgs s_window_table) (defBody s_window_table) (defScope s_window_table) .none kV_window_table dc_window_table pm_window_table an_window_table cd_window_table ct_window_table), sl_window_table⟩)
    (c_window_table : PySem.W.codeIn K cd_window_table "window_table" = true) (k_window_table : PySem.W.keepIn K (.ref f_window_table) = true)
    {f_windows : Addr} {od_windows an_windows : Option Addr} {sl_windows : Array (Option Value)} {oc_windows kV_windows dc_windows pm_windows cd_windows ct_windows : Value}
    (a_windows : PySem.W.nsIn K mainGlobals "windows" = some (some (.ref f_windows)))
    (l_windows : K.lookup f_windows = some ⟨oc_windows, od_windows, .func (PySem.W.fnOf "windows" "windows" (defArgs s_windows) (defBody s_windows) (defScope s_windows) .none kV_windows dc_windows pm_windows an_windows cd_windows ct_windows), sl_windows⟩)
    (c_windows : PySem.W.codeIn K cd_windows "windows" = true) (k_windows : PySem.W.keepIn K (.ref f_windows) = true)
    {f_law_feed : Addr} {od_law_feed an_law_feed : Option Addr} {sl_law_feed : Array (Option Value)} {oc_law_feed kV_law_feed dc_law_feed pm_law_feed cd_law_feed ct_law_feed : Value}
    (a_law_feed : PySem.W.nsIn K mainGlobals "_law_feed" = some (some (.ref f_law_feed)))
    (l_law_feed : K.lookup f_law_feed = some ⟨oc_law_feed, od_law_feed, .func (PySem.W.fnOf "_law_feed" "_law_feed" (defArgs s_law_feed) (defBody s_law_feed) (defScope s_law_feed) .none kV_law_feed dc_law_feed pm_law_feed an_law_feed cd_law_feed ct_law_feed), sl_law_feed⟩)
    (c_law_feed : PySem.W.codeIn K cd_law_feed "_law_feed" = true) (k_law_feed : PySem.W.keepIn K (.ref f_law_feed) = true)
    {f_law_draw : Addr} {od_law_draw an_law_draw : Option Addr} {sl_law_draw : Array (Option Value)} {oc_law_draw kV_law_draw dc_law_draw pm_law_draw cd_law_draw ct_law_draw : Value}
    (a_law_draw : PySem.W.nsIn K mainGlobals "_law_draw" = some (some (.ref f_law_draw)))
    (l_law_draw : K.lookup f_law_draw = some ⟨oc_law_draw, od_law_draw, .func (PySem.W.fnOf "_law_draw" "_law_draw" (defArgs s_law_draw) (defBody s_law_draw) (defScope s_law_draw) .none kV_law_draw dc_law_draw pm_law_draw an_law_draw cd_law_draw ct_law_draw), sl_law_draw⟩)
    (c_law_draw : PySem.W.codeIn K cd_law_draw "_law_draw" = true) (k_law_draw : PySem.W.keepIn K (.ref f_law_draw) = true)
    {f_law_one : Addr} {od_law_one an_law_one : Option Addr} {sl_law_one : Array (Option Value)} {oc_law_one kV_law_one dc_law_one pm_law_one cd_law_one ct_law_one : Value}
    (a_law_one : PySem.W.nsIn K mainGlobals "_law_one" = some (some (.ref f_law_one)))
    (l_law_one : K.lookup f_law_one = some ⟨oc_law_one, od_law_one, .func (PySem.W.fnOf "_law_one" "_law_one" (defArgs s_law_one) (defBody s_law_one) (defScope s_law_one) .none kV_law_one dc_law_one pm_law_one an_law_one cd_law_one ct_law_one), sl_law_one⟩)
    (c_law_one : PySem.W.codeIn K cd_law_one "_law_one" = true) (k_law_one : PySem.W.keepIn K (.ref f_law_one) = true)
    {f_law_letters : Addr} {od_law_letters an_law_letters : Option Addr} {sl_law_letters : Array (Option Value)} {oc_law_letters kV_law_letters dc_law_letters pm_law_letters cd_law_letters ct_law_letters : Value}
    (a_law_letters : PySem.W.nsIn K mainGlobals "_law_letters" = some (some (.ref f_law_letters)))
    (l_law_letters : K.lookup f_law_letters = some ⟨oc_law_letters, od_law_letters, .func (PySem.W.fnOf "_law_letters" "_law_letters" (defArgs s_law_letters) (defBody s_law_letters) (defScope s_law_letters) .none kV_law_letters dc_law_letters pm_law_letters an_law_letters cd_law_letters ct_law_letters), sl_law_letters⟩)
    (c_law_letters : PySem.W.codeIn K cd_law_letters "_law_letters" = true) (k_law_letters : PySem.W.keepIn K (.ref f_law_letters) = true)
    {f_law_shared : Addr} {od_law_shared an_law_shared : Option Addr} {sl_law_shared : Array (Option Value)} {oc_law_shared kV_law_shared dc_law_shared pm_law_shared cd_law_shared ct_law_shared : Value}
    (a_law_shared : PySem.W.nsIn K mainGlobals "_law_shared" = some (some (.ref f_law_shared)))
    (l_law_shared : K.lookup f_law_shared = some ⟨oc_law_shared, od_law_shared, .func (PySem.W.fnOf "_law_shared" "_law_shared" (defArgs s_law_shared) (defBody s_law_shared) (defScope s_law_shared) .none kV_law_shared dc_law_shared pm_law_shared an_law_shared cd_law_shared ct_law_shared), sl_law_shared⟩)
    (c_law_shared : PySem.W.codeIn K cd_law_shared "_law_shared" = true) (k_law_shared : PySem.W.keepIn K (.ref f_law_shared) = true)
    {f_law_bad_texts : Addr} {od_law_bad_texts an_law_bad_texts : Option Addr} {sl_law_bad_texts : Array (Option Value)} {oc_law_bad_texts kV_law_bad_texts dc_law_bad_texts pm_law_bad_texts cd_law_bad_texts ct_law_bad_texts : Value}
    (a_law_bad_texts : PySem.W.nsIn K mainGlobals "_law_bad_texts" = some (some (.ref f_law_bad_texts)))
    (l_law_bad_texts : K.lookup f_law_bad_texts = some ⟨oc_law_bad_texts, od_law_bad_texts, .func (PySem.W.fnOf "_law_bad_texts" "_law_bad_texts" (defArgs s_law_bad_texts) (defBody s_law_bad_texts) (defScope s_law_bad_texts) .none kV_law_bad_texts dc_law_bad_texts pm_law_bad_texts an_law_bad_texts cd_law_bad_texts ct_law_bad_texts), sl_law_bad_texts⟩)
    (c_law_bad_texts : PySem.W.codeIn K cd_law_bad_texts "_law_bad_texts" = true) (k_law_bad_texts : PySem.W.keepIn K (.ref f_law_bad_texts) = true)
    {f_law_word_of : Addr} {od_law_word_of an_law_word_of : Option Addr} {sl_law_word_of : Array (Option Value)} {oc_law_word_of kV_law_word_of dc_law_word_of pm_law_word_of cd_law_word_of ct_law_word_of : Value}
    (a_law_word_of : PySem.W.nsIn K mainGlobals "_law_word_of" = some (some (.ref f_law_word_of)))
    (l_law_word_of : K.lookup f_law_word_of = some ⟨oc_law_word_of, od_law_word_of, .func (PySem.W.fnOf "_law_word_of" "_law_word_of" (defArgs s_law_word_of) (defBody s_law_word_of) (defScope s_law_word_of) .none kV_law_word_of dc_law_word_of pm_law_word_of an_law_word_of cd_law_word_of ct_law_word_of), sl_law_word_of⟩)
    (c_law_word_of : PySem.W.codeIn K cd_law_word_of "_law_word_of" = true) (k_law_word_of : PySem.W.keepIn K (.ref f_law_word_of) = true)
    {f_law_due : Addr} {od_law_due an_law_due : Option Addr} {sl_law_due : Array (Option Value)} {oc_law_due kV_law_due dc_law_due pm_law_due cd_law_due ct_law_due : Value}
    (a_law_due : PySem.W.nsIn K mainGlobals "_law_due" = some (some (.ref f_law_due)))
    (l_law_due : K.lookup f_law_due = some ⟨oc_law_due, od_law_due, .func (PySem.W.fnOf "_law_due" "_law_due" (defArgs s_law_due) (defBody s_law_due) (defScope s_law_due) .none kV_law_due dc_law_due pm_law_due an_law_due cd_law_due ct_law_due), sl_law_due⟩)
    (c_law_due : PySem.W.codeIn K cd_law_due "_law_due" = true) (k_law_due : PySem.W.keepIn K (.ref f_law_due) = true)
    {f_law_right : Addr} {od_law_right an_law_right : Option Addr} {sl_law_right : Array (Option Value)} {oc_law_right kV_law_right dc_law_right pm_law_right cd_law_right ct_law_right : Value}
    (a_law_right : PySem.W.nsIn K mainGlobals "_law_right" = some (some (.ref f_law_right)))
    (l_law_right : K.lookup f_law_right = some ⟨oc_law_right, od_law_right, .func (PySem.W.fnOf "_law_right" "_law_right" (defArgs s_law_right) (defBody s_law_right) (defScope s_law_right) .none kV_law_right dc_law_right pm_law_right an_law_right cd_law_right ct_law_right), sl_law_right⟩)
    (c_law_right : PySem.W.codeIn K cd_law_right "_law_right" = true) (k_law_right : PySem.W.keepIn K (.ref f_law_right) = true)
    {f_law_refused_right : Addr} {od_law_refused_right an_law_refused_right : Option Addr} {sl_law_refused_right : Array (Option Value)} {oc_law_refused_right kV_law_refused_right dc_law_refused_right pm_law_refused_right cd_law_refused_right ct_law_refused_right : Value}
    (a_law_refused_right : PySem.W.nsIn K mainGlobals "_law_refused_right" = some (some (.ref f_law_refused_right)))
    (l_law_refused_right : K.lookup f_law_refused_right = some ⟨oc_law_refused_right, od_law_refused_right, .func (PySem.W.fnOf "_law_refused_right" "_law_refused_right" (defArgs s_law_refused_right) (defBody s_law_refused_right) (defScope s_law_refused_right) .none kV_law_refused_right dc_law_refused_right pm_law_refused_right an_law_refused_right cd_law_refused_right ct_law_refused_right), sl_law_refused_right⟩)
    (c_law_refused_right : PySem.W.codeIn K cd_law_refused_right "_law_refused_right" = true) (k_law_refused_right : PySem.W.keepIn K (.ref f_law_refused_right) = true)
    {f_law : Addr} {od_law an_law : Option Addr} {sl_law : Array (Option Value)} {oc_law kV_law dc_law pm_law cd_law ct_law : Value}
    (a_law : PySem.W.nsIn K mainGlobals "law" = some (some (.ref f_law)))
    (l_law : K.lookup f_law = some ⟨oc_law, od_law, .func (PySem.W.fnOf "law" "law" (defArgs s_law) (defBody s_law) (defScope s_law) .none kV_law dc_law pm_law an_law cd_law ct_law), sl_law⟩)
    (c_law : PySem.W.codeIn K cd_law "law" = true) (k_law : PySem.W.keepIn K (.ref f_law) = true)
    (z_all : PySem.W.nsIn K mainGlobals "all" = some none)
    (z_bool : PySem.W.nsIn K mainGlobals "bool" = some none)
    (z_enumerate : PySem.W.nsIn K mainGlobals "enumerate" = some none)
    (z_int : PySem.W.nsIn K mainGlobals "int" = some none)
    (z_isinstance : PySem.W.nsIn K mainGlobals "isinstance" = some none)
    (z_len : PySem.W.nsIn K mainGlobals "len" = some none)
    (z_max : PySem.W.nsIn K mainGlobals "max" = some none)
    (z_min : PySem.W.nsIn K mainGlobals "min" = some none)
    (z_range : PySem.W.nsIn K mainGlobals "range" = some none)
    (z_repr : PySem.W.nsIn K mainGlobals "repr" = some none)
    (z_str : PySem.W.nsIn K mainGlobals "str" = some none)
    (z_sum : PySem.W.nsIn K mainGlobals "sum" = some none)
    (z_tuple : PySem.W.nsIn K mainGlobals "tuple" = some none)
    (z_zip : PySem.W.nsIn K mainGlobals "zip" = some none)
    {tk_LETTERS : Tok} (cc_LETTERS : PySem.W.nsIn K mainGlobals "LETTERS" = some (some (.str "abcdefghijklmnopqrstuvwxyz" tk_LETTERS)))
    {tk_MOST_LETTERS : Tok} (cc_MOST_LETTERS : PySem.W.nsIn K mainGlobals "MOST_LETTERS" = some (some (.int 6 tk_MOST_LETTERS)))
    {A_BadIndex : Addr} (n_BadIndex : PySem.W.nsIn K mainGlobals "BadIndex" = some (some (.ref A_BadIndex))) (sb_BadIndex : PySem.W.subIn K (.ref A_BadIndex) (.type "BaseException") = some true) (ty_BadIndex : PySem.W.typeIn K (.ref A_BadIndex) = some (.type "type")) (hd_BadIndex : PySem.W.hasDictIn K A_BadIndex = true) (se_BadIndex : PySem.W.subIn K (.ref A_BadIndex) (.ref A_BadIndex) = some true)
    {A_BadNumber : Addr} (n_BadNumber : PySem.W.nsIn K mainGlobals "BadNumber" = some (some (.ref A_BadNumber))) (sb_BadNumber : PySem.W.subIn K (.ref A_BadNumber) (.type "BaseException") = some true) (ty_BadNumber : PySem.W.typeIn K (.ref A_BadNumber) = some (.type "type")) (hd_BadNumber : PySem.W.hasDictIn K A_BadNumber = true) (se_BadNumber : PySem.W.subIn K (.ref A_BadNumber) (.ref A_BadNumber) = some true)
    {A_BadText : Addr} (n_BadText : PySem.W.nsIn K mainGlobals "BadText" = some (some (.ref A_BadText))) (sb_BadText : PySem.W.subIn K (.ref A_BadText) (.type "BaseException") = some true) (ty_BadText : PySem.W.typeIn K (.ref A_BadText) = some (.type "type")) (hd_BadText : PySem.W.hasDictIn K A_BadText = true) (se_BadText : PySem.W.subIn K (.ref A_BadText) (.ref A_BadText) = some true)
    {A_LeastError : Addr} (n_LeastError : PySem.W.nsIn K mainGlobals "LeastError" = some (some (.ref A_LeastError))) (sb_LeastError : PySem.W.subIn K (.ref A_LeastError) (.type "BaseException") = some true) (ty_LeastError : PySem.W.typeIn K (.ref A_LeastError) = some (.type "type")) (hd_LeastError : PySem.W.hasDictIn K A_LeastError = true) (se_LeastError : PySem.W.subIn K (.ref A_LeastError) (.ref A_LeastError) = some true)
    (kp_BadIndex : PySem.W.keepIn K (.ref A_BadIndex) = true) (q_BadIndex : PySem.W.excIn K A_BadIndex [.type "ValueError", .type "Exception", .type "BaseException", .type "object"] "ValueError.__new__" = true)
    (kp_BadNumber : PySem.W.keepIn K (.ref A_BadNumber) = true) (q_BadNumber : PySem.W.excIn K A_BadNumber [.type "ValueError", .type "Exception", .type "BaseException", .type "object"] "ValueError.__new__" = true)
    (kp_BadText : PySem.W.keepIn K (.ref A_BadText) = true) (q_BadText : PySem.W.excIn K A_BadText [.type "ValueError", .type "Exception", .type "BaseException", .type "object"] "ValueError.__new__" = true)
    (gG : PySem.W.specialIn K (.builtin "object.__class__") "__get__" = some (some (.builtin "getset_descriptor.__get__"))) (gT : PySem.W.takesIn K (.builtin "object.__class__") = some true)
    (xg_BadIndex : PySem.W.findIn K (.ref A_BadIndex) "__getattribute__" = some (some (.builtin "BaseException.__getattribute__"))) (xk_BadIndex : PySem.W.findIn K (.ref A_BadIndex) "__getattr__" = some none) (xa_BadIndex : PySem.W.findIn K (.ref A_BadIndex) "__class__" = some (some (.builtin "object.__class__"))) (xm_BadIndex : PySem.W.mroIn K A_BadIndex (.type "object") = some true)
    (xg_BadNumber : PySem.W.findIn K (.ref A_BadNumber) "__getattribute__" = some (some (.builtin "BaseException.__getattribute__"))) (xk_BadNumber : PySem.W.findIn K (.ref A_BadNumber) "__getattr__" = some none) (xa_BadNumber : PySem.W.findIn K (.ref A_BadNumber) "__class__" = some (some (.builtin "object.__class__"))) (xm_BadNumber : PySem.W.mroIn K A_BadNumber (.type "object") = some true)
    (xg_BadText : PySem.W.findIn K (.ref A_BadText) "__getattribute__" = some (some (.builtin "BaseException.__getattribute__"))) (xk_BadText : PySem.W.findIn K (.ref A_BadText) "__getattr__" = some none) (xa_BadText : PySem.W.findIn K (.ref A_BadText) "__class__" = some (some (.builtin "object.__class__"))) (xm_BadText : PySem.W.mroIn K A_BadText (.type "object") = some true)
    (su_BadIndex_BadIndex : PySem.W.subIn K (.ref A_BadIndex) (.ref A_BadIndex) = some true)
    (su_BadIndex_BadNumber : PySem.W.subIn K (.ref A_BadIndex) (.ref A_BadNumber) = some false)
    (su_BadIndex_BadText : PySem.W.subIn K (.ref A_BadIndex) (.ref A_BadText) = some false)
    (su_BadIndex_LeastError : PySem.W.subIn K (.ref A_BadIndex) (.ref A_LeastError) = some true)
    (su_BadNumber_BadIndex : PySem.W.subIn K (.ref A_BadNumber) (.ref A_BadIndex) = some false)
    (su_BadNumber_BadNumber : PySem.W.subIn K (.ref A_BadNumber) (.ref A_BadNumber) = some true)
    (su_BadNumber_BadText : PySem.W.subIn K (.ref A_BadNumber) (.ref A_BadText) = some false)
    (su_BadNumber_LeastError : PySem.W.subIn K (.ref A_BadNumber) (.ref A_LeastError) = some true)
    (su_BadText_BadIndex : PySem.W.subIn K (.ref A_BadText) (.ref A_BadIndex) = some false)
    (su_BadText_BadNumber : PySem.W.subIn K (.ref A_BadText) (.ref A_BadNumber) = some false)
    (su_BadText_BadText : PySem.W.subIn K (.ref A_BadText) (.ref A_BadText) = some true)
    (su_BadText_LeastError : PySem.W.subIn K (.ref A_BadText) (.ref A_LeastError) = some true)
    : Gd K mg where
  f_is_integer := f_is_integer
  d_is_integer := _
  F_is_integer := fun_mk (st := s_is_integer) l_is_integer c_is_integer k_is_integer
  m_is_integer := PySem.W.mg_of X G a_is_integer
  f_is_within := f_is_within
  d_is_within := _
  F_is_within := fun_mk (st := s_is_within) l_is_within c_is_within k_is_within
  m_is_within := PySem.W.mg_of X G a_is_within
  f_need_number := f_need_number
  d_need_number := _
  F_need_number := fun_mk (st := s_need_number) l_need_number c_need_number k_need_number
  m_need_number := PySem.W.mg_of X G a_need_number
  f_ends_from := f_ends_from
  d_ends_from := _
  F_ends_from := fun_mk (st := s_ends_from) l_ends_from c_ends_from k_ends_from
  m_ends_from := PySem.W.mg_of X G a_ends_from
  f_is_text := f_is_text
  d_is_text := _
  F_is_text := fun_mk (st := s_is_text) l_is_text c_is_text k_is_text
  m_is_text := PySem.W.mg_of X G a_is_text
  f_shared_row := f_shared_row
  d_shared_row := _
  F_shared_row := fun_mk (st := s_shared_row) l_shared_row c_shared_row k_shared_row
  m_shared_row := PySem.W.mg_of X G a_shared_row
  f_text_strands := f_text_strands
  d_text_strands := _
  F_text_strands := fun_mk (st := s_text_strands) l_text_strands c_text_strands k_text_strands
  m_text_strands := PySem.W.mg_of X G a_text_strands
  f_window_by := f_window_by
  d_window_by := _
  F_window_by := fun_mk (st := s_window_by) l_window_by c_window_by k_window_by
  m_window_by := PySem.W.mg_of X G a_window_by
  f_windows_of := f_windows_of
  d_windows_of := _
  F_windows_of := fun_mk (st := s_windows_of) l_windows_of c_windows_of k_windows_of
  m_windows_of := PySem.W.mg_of X G a_windows_of
  f_need_index := f_need_index
  d_need_index := _
  F_need_index := fun_mk (st := s_need_index) l_need_index c_need_index k_need_index
  m_need_index := PySem.W.mg_of X G a_need_index
  f_need_index_from := f_need_index_from
  d_need_index_from := _
  F_need_index_from := fun_mk (st := s_need_index_from) l_need_index_from c_need_index_from k_need_index_from
  m_need_index_from := PySem.W.mg_of X G a_need_index_from
  f_need_text := f_need_text
  d_need_text := _
  F_need_text := fun_mk (st := s_need_text) l_need_text c_need_text k_need_text
  m_need_text := PySem.W.mg_of X G a_need_text
  f_need_texts := f_need_texts
  d_need_texts := _
  F_need_texts := fun_mk (st := s_need_texts) l_need_texts c_need_texts k_need_texts
  m_need_texts := PySem.W.mg_of X G a_need_texts
  f_shared := f_shared
  d_shared := _
  F_shared := fun_mk (st := s_shared) l_shared c_shared k_shared
  m_shared := PySem.W.mg_of X G a_shared
  f_shared_window := f_shared_window
  d_shared_window := _
  F_shared_window := fun_mk (st := s_shared_window) l_shared_window c_shared_window k_shared_window
  m_shared_window := PySem.W.mg_of X G a_shared_window
  f_window_table := f_window_table
  d_window_table := _
  F_window_table := fun_mk (st := s_window_table) l_window_table c_window_table k_window_table
  m_window_table := PySem.W.mg_of X G a_window_table
  f_windows := f_windows
  d_windows := _
  F_windows := fun_mk (st := s_windows) l_windows c_windows k_windows
  m_windows := PySem.W.mg_of X G a_windows
  f_law_feed := f_law_feed
  d_law_feed := _
  F_law_feed := fun_mk (st := s_law_feed) l_law_feed c_law_feed k_law_feed
  m_law_feed := PySem.W.mg_of X G a_law_feed
  f_law_draw := f_law_draw
  d_law_draw := _
  F_law_draw := fun_mk (st := s_law_draw) l_law_draw c_law_draw k_law_draw
  m_law_draw := PySem.W.mg_of X G a_law_draw
  f_law_one := f_law_one
  d_law_one := _
  F_law_one := fun_mk (st := s_law_one) l_law_one c_law_one k_law_one
  m_law_one := PySem.W.mg_of X G a_law_one
  f_law_letters := f_law_letters
  d_law_letters := _
  F_law_letters := fun_mk (st := s_law_letters) l_law_letters c_law_letters k_law_letters
  m_law_letters := PySem.W.mg_of X G a_law_letters
  f_law_shared := f_law_shared
  d_law_shared := _
  F_law_shared := fun_mk (st := s_law_shared) l_law_shared c_law_shared k_law_shared
  m_law_shared := PySem.W.mg_of X G a_law_shared
  f_law_bad_texts := f_law_bad_texts
  d_law_bad_texts := _
  F_law_bad_texts := fun_mk (st := s_law_bad_texts) l_law_bad_texts c_law_bad_texts k_law_bad_texts
  m_law_bad_texts := PySem.W.mg_of X G a_law_bad_texts
  f_law_word_of := f_law_word_of
  d_law_word_of := _
  F_law_word_of := fun_mk (st := s_law_word_of) l_law_word_of c_law_word_of k_law_word_of
  m_law_word_of := PySem.W.mg_of X G a_law_word_of
  f_law_due := f_law_due
  d_law_due := _
  F_law_due := fun_mk (st := s_law_due) l_law_due c_law_due k_law_due
  m_law_due := PySem.W.mg_of X G a_law_due
  f_law_right := f_law_right
  d_law_right := _
  F_law_right := fun_mk (st := s_law_right) l_law_right c_law_right k_law_right
  m_law_right := PySem.W.mg_of X G a_law_right
  f_law_refused_right := f_law_refused_right
  d_law_refused_right := _
  F_law_refused_right := fun_mk (st := s_law_refused_right) l_law_refused_right c_law_refused_right k_law_refused_right
  m_law_refused_right := PySem.W.mg_of X G a_law_refused_right
  f_law := f_law
  d_law := _
  F_law := fun_mk (st := s_law) l_law c_law k_law
  m_law := PySem.W.mg_of X G a_law
  z_all := PySem.W.mg_none_of X G z_all
  z_bool := PySem.W.mg_none_of X G z_bool
  z_enumerate := PySem.W.mg_none_of X G z_enumerate
  z_int := PySem.W.mg_none_of X G z_int
  z_isinstance := PySem.W.mg_none_of X G z_isinstance
  z_len := PySem.W.mg_none_of X G z_len
  z_max := PySem.W.mg_none_of X G z_max
  z_min := PySem.W.mg_none_of X G z_min
  z_range := PySem.W.mg_none_of X G z_range
  z_repr := PySem.W.mg_none_of X G z_repr
  z_str := PySem.W.mg_none_of X G z_str
  z_sum := PySem.W.mg_none_of X G z_sum
  z_tuple := PySem.W.mg_none_of X G z_tuple
  z_zip := PySem.W.mg_none_of X G z_zip
  c_LETTERS := ⟨_, PySem.W.mg_of X G cc_LETTERS⟩
  c_MOST_LETTERS := ⟨_, PySem.W.mg_of X G cc_MOST_LETTERS⟩
  A_BadIndex := A_BadIndex
  m_BadIndex := PySem.W.mg_of X G n_BadIndex
  sb_BadIndex := sb_BadIndex
  ty_BadIndex := ty_BadIndex
  hd_BadIndex := hd_BadIndex
  se_BadIndex := se_BadIndex
  A_BadNumber := A_BadNumber
  m_BadNumber := PySem.W.mg_of X G n_BadNumber
  sb_BadNumber := sb_BadNumber
  ty_BadNumber := ty_BadNumber
  hd_BadNumber := hd_BadNumber
  se_BadNumber := se_BadNumber
  A_BadText := A_BadText
  m_BadText := PySem.W.mg_of X G n_BadText
  sb_BadText := sb_BadText
  ty_BadText := ty_BadText
  hd_BadText := hd_BadText
  se_BadText := se_BadText
  A_LeastError := A_LeastError
  m_LeastError := PySem.W.mg_of X G n_LeastError
  sb_LeastError := sb_LeastError
  ty_LeastError := ty_LeastError
  hd_LeastError := hd_LeastError
  se_LeastError := se_LeastError
  kp_BadIndex := kp_BadIndex
  q_BadIndex := q_BadIndex
  kp_BadNumber := kp_BadNumber
  q_BadNumber := q_BadNumber
  kp_BadText := kp_BadText
  q_BadText := q_BadText
  x_BadIndex := ⟨xg_BadIndex, xk_BadIndex, sb_BadIndex, hd_BadIndex, xa_BadIndex, gG, gT, xm_BadIndex⟩
  x_BadNumber := ⟨xg_BadNumber, xk_BadNumber, sb_BadNumber, hd_BadNumber, xa_BadNumber, gG, gT, xm_BadNumber⟩
  x_BadText := ⟨xg_BadText, xk_BadText, sb_BadText, hd_BadText, xa_BadText, gG, gT, xm_BadText⟩
  su_BadIndex_BadIndex := su_BadIndex_BadIndex
  su_BadIndex_BadNumber := su_BadIndex_BadNumber
  su_BadIndex_BadText := su_BadIndex_BadText
  su_BadIndex_LeastError := su_BadIndex_LeastError
  su_BadNumber_BadIndex := su_BadNumber_BadIndex
  su_BadNumber_BadNumber := su_BadNumber_BadNumber
  su_BadNumber_BadText := su_BadNumber_BadText
  su_BadNumber_LeastError := su_BadNumber_LeastError
  su_BadText_BadIndex := su_BadText_BadIndex
  su_BadText_BadNumber := su_BadText_BadNumber
  su_BadText_BadText := su_BadText_BadText
  su_BadText_LeastError := su_BadText_LeastError
theorem all_mk {P : Program} {w : World} {K : PySem.W.Frag} {h : Heap} {mg : Str → Option Value} (X : K.In h) (G : h.Ns mainGlobals mg) {fl : Addr} (hfa : mg "law" = some (.ref fl))
    {f_is_integer : Addr} {od_is_integer an_is_integer : Option Addr} {sl_is_integer : Array (Option Value)} {oc_is_integer kV_is_integer dc_is_integer pm_is_integer cd_is_integer ct_is_integer : Value}
    (a_is_integer : PySem.W.nsIn K mainGlobals "is_integer" = some (some (.ref f_is_integer)))
    (l_is_integer : K.lookup f_is_integer = some ⟨oc_is_integer, od_is_integer, .func (PySem.W.fnOf "is_integer" "is_integer" (defArgs s_is_integer) (defBody s_is_integer) (defScope s_is_integer) .none kV_is_integer dc_is_integer pm_is_integer an_is_integer cd_is_integer ct_is_integer), sl_is_integer⟩)
    (c_is_integer : PySem.W.codeIn K cd_is_integer "is_integer" = true) (k_is_integer : PySem.W.keepIn K (.ref f_is_integer) = true)
    {f_is_within : Addr} {od_is_within an_is_within : Option Addr} {sl_is_within : Array (Option Value)} {oc_is_within kV_is_within dc_is_within pm_is_within cd_is_within ct_is_within : Value}
    (a_is_within : PySem.W.nsIn K mainGlobals "is_within" = some (some (.ref f_is_within)))
    (l_is_within : K.lookup f_is_within = some ⟨oc_is_within, od_is_within, .func (PySem.W.fnOf "is_within" "is_within" (defArgs s_is_within) (defBody s_is_within) (defScope s_is_within) .none kV_is_within dc_is_within pm_is_within an_is_within cd_is_within ct_is_within), sl_is_within⟩)
    (c_is_within : PySem.W.codeIn K cd_is_within "is_within" = true) (k_is_within : PySem.W.keepIn K (.ref f_is_within) = true)
    {f_need_number : Addr} {od_need_number an_need_number : Option Addr} {sl_need_number : Array (Option Value)} {oc_need_number kV_need_number dc_need_number pm_need_number cd_need_number ct_need_number : Value}
    (a_need_number : PySem.W.nsIn K mainGlobals "need_number" = some (some (.ref f_need_number)))
    (l_need_number : K.lookup f_need_number = some ⟨oc_need_number, od_need_number, .func (PySem.W.fnOf "need_number" "need_number" (defArgs s_need_number) (defBody s_need_number) (defScope s_need_number) .none kV_need_number dc_need_number pm_need_number an_need_number cd_need_number ct_need_number), sl_need_number⟩)
    (c_need_number : PySem.W.codeIn K cd_need_number "need_number" = true) (k_need_number : PySem.W.keepIn K (.ref f_need_number) = true)
    {f_ends_from : Addr} {od_ends_from an_ends_from : Option Addr} {sl_ends_from : Array (Option Value)} {oc_ends_from kV_ends_from dc_ends_from pm_ends_from cd_ends_from ct_ends_from : Value}
    (a_ends_from : PySem.W.nsIn K mainGlobals "ends_from" = some (some (.ref f_ends_from)))
    (l_ends_from : K.lookup f_ends_from = some ⟨oc_ends_from, od_ends_from, .func (PySem.W.fnOf "ends_from" "ends_from" (defArgs s_ends_from) (defBody s_ends_from) (defScope s_ends_from) .none kV_ends_from dc_ends_from pm_ends_from an_ends_from cd_ends_from ct_ends_from), sl_ends_from⟩)
    (c_ends_from : PySem.W.codeIn K cd_ends_from "ends_from" = true) (k_ends_from : PySem.W.keepIn K (.ref f_ends_from) = true)
    {f_is_text : Addr} {od_is_text an_is_text : Option Addr} {sl_is_text : Array (Option Value)} {oc_is_text kV_is_text dc_is_text pm_is_text cd_is_text ct_is_text : Value}
    (a_is_text : PySem.W.nsIn K mainGlobals "is_text" = some (some (.ref f_is_text)))
    (l_is_text : K.lookup f_is_text = some ⟨oc_is_text, od_is_text, .func (PySem.W.fnOf "is_text" "is_text" (defArgs s_is_text) (defBody s_is_text) (defScope s_is_text) .none kV_is_text dc_is_text pm_is_text an_is_text cd_is_text ct_is_text), sl_is_text⟩)
    (c_is_text : PySem.W.codeIn K cd_is_text "is_text" = true) (k_is_text : PySem.W.keepIn K (.ref f_is_text) = true)
    {f_shared_row : Addr} {od_shared_row an_shared_row : Option Addr} {sl_shared_row : Array (Option Value)} {oc_shared_row kV_shared_row dc_shared_row pm_shared_row cd_shared_row ct_shared_row : Value}
    (a_shared_row : PySem.W.nsIn K mainGlobals "shared_row" = some (some (.ref f_shared_row)))
    (l_shared_row : K.lookup f_shared_row = some ⟨oc_shared_row, od_shared_row, .func (PySem.W.fnOf "shared_row" "shared_row" (defArgs s_shared_row) (defBody s_shared_row) (defScope s_shared_row) .none kV_shared_row dc_shared_row pm_shared_row an_shared_row cd_shared_row ct_shared_row), sl_shared_row⟩)
    (c_shared_row : PySem.W.codeIn K cd_shared_row "shared_row" = true) (k_shared_row : PySem.W.keepIn K (.ref f_shared_row) = true)
    {f_text_strands : Addr} {od_text_strands an_text_strands : Option Addr} {sl_text_strands : Array (Option Value)} {oc_text_strands kV_text_strands dc_text_strands pm_text_strands cd_text_strands ct_text_strands : Value}
    (a_text_strands : PySem.W.nsIn K mainGlobals "text_strands" = some (some (.ref f_text_strands)))
    (l_text_strands : K.lookup f_text_strands = some ⟨oc_text_strands, od_text_strands, .func (PySem.W.fnOf "text_strands" "text_strands" (defArgs s_text_strands) (defBody s_text_strands) (defScope s_text_strands) .none kV_text_strands dc_text_strands pm_text_strands an_text_strands cd_text_strands ct_text_strands), sl_text_strands⟩)
    (c_text_strands : PySem.W.codeIn K cd_text_strands "text_strands" = true) (k_text_strands : PySem.W.keepIn K (.ref f_text_strands) = true)
    {f_window_by : Addr} {od_window_by an_window_by : Option Addr} {sl_window_by : Array (Option Value)} {oc_window_by kV_window_by dc_window_by pm_window_by cd_window_by ct_window_by : Value}
    (a_window_by : PySem.W.nsIn K mainGlobals "window_by" = some (some (.ref f_window_by)))
    (l_window_by : K.lookup f_window_by = some ⟨oc_window_by, od_window_by, .func (PySem.W.fnOf "window_by" "window_by" (defArgs s_window_by) (defBody s_window_by) (defScope s_window_by) .none kV_window_by dc_window_by pm_window_by an_window_by cd_window_by ct_window_by), sl_window_by⟩)
    (c_window_by : PySem.W.codeIn K cd_window_by "window_by" = true) (k_window_by : PySem.W.keepIn K (.ref f_window_by) = true)
    {f_windows_of : Addr} {od_windows_of an_windows_of : Option Addr} {sl_windows_of : Array (Option Value)} {oc_windows_of kV_windows_of dc_windows_of pm_windows_of cd_windows_of ct_windows_of : Value}
    (a_windows_of : PySem.W.nsIn K mainGlobals "windows_of" = some (some (.ref f_windows_of)))
    (l_windows_of : K.lookup f_windows_of = some ⟨oc_windows_of, od_windows_of, .func (PySem.W.fnOf "windows_of" "windows_of" (defArgs s_windows_of) (defBody s_windows_of) (defScope s_windows_of) .none kV_windows_of dc_windows_of pm_windows_of an_windows_of cd_windows_of ct_windows_of), sl_windows_of⟩)
    (c_windows_of : PySem.W.codeIn K cd_windows_of "windows_of" = true) (k_windows_of : PySem.W.keepIn K (.ref f_windows_of) = true)
    {f_need_index : Addr} {od_need_index an_need_index : Option Addr} {sl_need_index : Array (Option Value)} {oc_need_index kV_need_index dc_need_index pm_need_index cd_need_index ct_need_index : Value}
    (a_need_index : PySem.W.nsIn K mainGlobals "need_index" = some (some (.ref f_need_index)))
    (l_need_index : K.lookup f_need_index = some ⟨oc_need_index, od_need_index, .func (PySem.W.fnOf "need_index" "need_index" (defArgs s_need_index) (defBody s_need_index) (defScope s_need_index) .none kV_need_index dc_need_index pm_need_index an_need_index cd_need_index ct_need_index), sl_need_index⟩)
    (c_need_index : PySem.W.codeIn K cd_need_index "need_index" = true) (k_need_index : PySem.W.keepIn K (.ref f_need_index) = true)
    {f_need_index_from : Addr} {od_need_index_from an_need_index_from : Option Addr} {sl_need_index_from : Array (Option Value)} {oc_need_index_from kV_need_index_from dc_need_index_from pm_need_index_from cd_need_index_from ct_need_index_from : Value}
    (a_need_index_from : PySem.W.nsIn K mainGlobals "need_index_from" = some (some (.ref f_need_index_from)))
    (l_need_index_from : K.lookup f_need_index_from = some ⟨oc_need_index_from, od_need_index_from, .func (PySem.W.fnOf "need_index_from" "need_index_from" (defArgs s_need_index_from) (defBody s_need_index_from) (defScope s_need_index_from) .none kV_need_index_from dc_need_index_from pm_need_index_from an_need_index_from cd_need_index_from ct_need_index_from), sl_need_index_from⟩)
    (c_need_index_from : PySem.W.codeIn K cd_need_index_from "need_index_from" = true) (k_need_index_from : PySem.W.keepIn K (.ref f_need_index_from) = true)
    {f_need_text : Addr} {od_need_text an_need_text : Option Addr} {sl_need_text : Array (Option Value)} {oc_need_text kV_need_text dc_need_text pm_need_text cd_need_text ct_need_text : Value}
    (a_need_text : PySem.W.nsIn K mainGlobals "need_text" = some (some (.ref f_need_text)))
    (l_need_text : K.lookup f_need_text = some ⟨oc_need_text, od_need_text, .func (PySem.W.fnOf "need_text" "need_text" (defArgs s_need_text) (defBody s_need_text) (defScope s_need_text) .none kV_need_text dc_need_text pm_need_text an_need_text cd_need_text ct_need_text), sl_need_text⟩)
    (c_need_text : PySem.W.codeIn K cd_need_text "need_text" = true) (k_need_text : PySem.W.keepIn K (.ref f_need_text) = true)
    {f_need_texts : Addr} {od_need_texts an_need_texts : Option Addr} {sl_need_texts : Array (Option Value)} {oc_need_texts kV_need_texts dc_need_texts pm_need_texts cd_need_texts ct_need_texts : Value}
    (a_need_texts : PySem.W.nsIn K mainGlobals "need_texts" = some (some (.ref f_need_texts)))
    (l_need_texts : K.lookup f_need_texts = some ⟨oc_need_texts, od_need_texts, .func (PySem.W.fnOf "need_texts" "need_texts" (defArgs s_need_texts) (defBody s_need_texts) (defScope s_need_texts) .none kV_need_texts dc_need_texts pm_need_texts an_need_texts cd_need_texts ct_need_texts), sl_need_texts⟩)
    (c_need_texts : PySem.W.codeIn K cd_need_texts "need_texts" = true) (k_need_texts : PySem.W.keepIn K (.ref f_need_texts) = true)
    {f_shared : Addr} {od_shared an_shared : Option Addr} {sl_shared : Array (Option Value)} {oc_shared kV_shared dc_shared pm_shared cd_shared ct_shared : Value}
    (a_shared : PySem.W.nsIn K mainGlobals "shared" = some (some (.ref f_shared)))
    (l_shared : K.lookup f_shared = some ⟨oc_shared, od_shared, .func (PySem.W.fnOf "shared" "shared" (defArgs s_shared) (defBody s_shared) (defScope s_shared) .none kV_shared dc_shared pm_shared an_shared cd_shared ct_shared), sl_shared⟩)
    (c_shared : PySem.W.codeIn K cd_shared "shared" = true) (k_shared : PySem.W.keepIn K (.ref f_shared) = true)
    {f_shared_window : Addr} {od_shared_window an_shared_window : Option Addr} {sl_shared_window : Array (Option Value)} {oc_shared_window kV_shared_window dc_shared_window pm_shared_window cd_shared_window ct_shared_window : Value}
    (a_shared_window : PySem.W.nsIn K mainGlobals "shared_window" = some (some (.ref f_shared_window)))
    (l_shared_window : K.lookup f_shared_window = some ⟨oc_shared_window, od_shared_window, .func (PySem.W.fnOf "shared_window" "shared_window" (defArgs s_shared_window) (defBody s_shared_window) (defScope s_shared_window) .none kV_shared_window dc_shared_window pm_shared_window an_shared_window cd_shared_window ct_shared_window), sl_shared_window⟩)
    (c_shared_window : PySem.W.codeIn K cd_shared_window "shared_window" = true) (k_shared_window : PySem.W.keepIn K (.ref f_shared_window) = true)
    {f_window_table : Addr} {od_window_table an_window_table : Option Addr} {sl_window_table : Array (Option Value)} {oc_window_table kV_window_table dc_window_table pm_window_table cd_window_table ct_window_table : Value}
    (a_window_table : PySem.W.nsIn K mainGlobals "window_table" = some (some (.ref f_window_table)))
    (l_window_table : K.lookup f_window_table = some ⟨oc_window_table, od_window_table, .func (PySem.W.fnOf "window_table" "window_table" (defArgs s_window_table) (defBody s_window_table) (defScope s_window_table) .none kV_window_table dc_window_table pm_window_table an_window_table cd_window_table ct_window_table), sl_window_table⟩)
    (c_window_table : PySem.W.codeIn K cd_window_table "window_table" = true) (k_window_table : PySem.W.keepIn K (.ref f_window_table) = true)
    {f_windows : Addr} {od_windows an_windows : Option Addr} {sl_windows : Array (Option Value)} {oc_windows kV_windows dc_windows pm_windows cd_windows ct_windows : Value}
    (a_windows : PySem.W.nsIn K mainGlobals "windows" = some (some (.ref f_windows)))
    (l_windows : K.lookup f_windows = some ⟨oc_windows, od_windows, .func (PySem.W.fnOf "windows" "windows" (defArgs s_windows) (defBody s_windows) (defScope s_windows) .none kV_windows dc_windows pm_windows an_windows cd_windows ct_windows), sl_windows⟩)
    (c_windows : PySem.W.codeIn K cd_windows "windows" = true) (k_windows : PySem.W.keepIn K (.ref f_windows) = true)
    {f_law_feed : Addr} {od_law_feed an_law_feed : Option Addr} {sl_law_feed : Array (Option Value)} {oc_law_feed kV_law_feed dc_law_feed pm_law_feed cd_law_feed ct_law_feed : Value}
    (a_law_feed : PySem.W.nsIn K mainGlobals "_law_feed" = some (some (.ref f_law_feed)))
    (l_law_feed : K.lookup f_law_feed = some ⟨oc_law_feed, od_law_feed, .func (PySem.W.fnOf "_law_feed" "_law_feed" (defArgs s_law_feed) (defBody s_law_feed) (defScope s_law_feed) .none kV_law_feed dc_law_feed pm_law_feed an_law_feed cd_law_feed ct_law_feed), sl_law_feed⟩)
    (c_law_feed : PySem.W.codeIn K cd_law_feed "_law_feed" = true) (k_law_feed : PySem.W.keepIn K (.ref f_law_feed) = true)
    {f_law_draw : Addr} {od_law_draw an_law_draw : Option Addr} {sl_law_draw : Array (Option Value)} {oc_law_draw kV_law_draw dc_law_draw pm_law_draw cd_law_draw ct_law_draw : Value}
    (a_law_draw : PySem.W.nsIn K mainGlobals "_law_draw" = some (some (.ref f_law_draw)))
    (l_law_draw : K.lookup f_law_draw = some ⟨oc_law_draw, od_law_draw, .func (PySem.W.fnOf "_law_draw" "_law_draw" (defArgs s_law_draw) (defBody s_law_draw) (defScope s_law_draw) .none kV_law_draw dc_law_draw pm_law_draw an_law_draw cd_law_draw ct_law_draw), sl_law_draw⟩)
    (c_law_draw : PySem.W.codeIn K cd_law_draw "_law_draw" = true) (k_law_draw : PySem.W.keepIn K (.ref f_law_draw) = true)
    {f_law_one : Addr} {od_law_one an_law_one : Option Addr} {sl_law_one : Array (Option Value)} {oc_law_one kV_law_one dc_law_one pm_law_one cd_law_one ct_law_one : Value}
    (a_law_one : PySem.W.nsIn K mainGlobals "_law_one" = some (some (.ref f_law_one)))
    (l_law_one : K.lookup f_law_one = some ⟨oc_law_one, od_law_one, .func (PySem.W.fnOf "_law_one" "_law_one" (defArgs s_law_one) (defBody s_law_one) (defScope s_law_one) .none kV_law_one dc_law_one pm_law_one an_law_one cd_law_one ct_law_one), sl_law_one⟩)
    (c_law_one : PySem.W.codeIn K cd_law_one "_law_one" = true) (k_law_one : PySem.W.keepIn K (.ref f_law_one) = true)
    {f_law_letters : Addr} {od_law_letters an_law_letters : Option Addr} {sl_law_letters : Array (Option Value)} {oc_law_letters kV_law_letters dc_law_letters pm_law_letters cd_law_letters ct_law_letters : Value}
    (a_law_letters : PySem.W.nsIn K mainGlobals "_law_letters" = some (some (.ref f_law_letters)))
    (l_law_letters : K.lookup f_law_letters = some ⟨oc_law_letters, od_law_letters, .func (PySem.W.fnOf "_law_letters" "_law_letters" (defArgs s_law_letters) (defBody s_law_letters) (defScope s_law_letters) .none kV_law_letters dc_law_letters pm_law_letters an_law_letters cd_law_letters ct_law_letters), sl_law_letters⟩)
    (c_law_letters : PySem.W.codeIn K cd_law_letters "_law_letters" = true) (k_law_letters : PySem.W.keepIn K (.ref f_law_letters) = true)
    {f_law_shared : Addr} {od_law_shared an_law_shared : Option Addr} {sl_law_shared : Array (Option Value)} {oc_law_shared kV_law_shared dc_law_shared pm_law_shared cd_law_shared ct_law_shared : Value}
    (a_law_shared : PySem.W.nsIn K mainGlobals "_law_shared" = some (some (.ref f_law_shared)))
    (l_law_shared : K.lookup f_law_shared = some ⟨oc_law_shared, od_law_shared, .func (PySem.W.fnOf "_law_shared" "_law_shared" (defArgs s_law_shared) (defBody s_law_shared) (defScope s_law_shared) .none kV_law_shared dc_law_shared pm_law_shared an_law_shared cd_law_shared ct_law_shared), sl_law_shared⟩)
    (c_law_shared : PySem.W.codeIn K cd_law_shared "_law_shared" = true) (k_law_shared : PySem.W.keepIn K (.ref f_law_shared) = true)
    {f_law_bad_texts : Addr} {od_law_bad_texts an_law_bad_texts : Option Addr} {sl_law_bad_texts : Array (Option Value)} {oc_law_bad_texts kV_law_bad_texts dc_law_bad_texts pm_law_bad_texts cd_law_bad_texts ct_law_bad_texts : Value}
    (a_law_bad_texts : PySem.W.nsIn K mainGlobals "_law_bad_texts" = some (some (.ref f_law_bad_texts)))
    (l_law_bad_texts : K.lookup f_law_bad_texts = some ⟨oc_law_bad_texts, od_law_bad_texts, .func (PySem.W.fnOf "_law_bad_texts" "_law_bad_texts" (defArgs s_law_bad_texts) (defBody s_law_bad_texts) (defScope s_law_bad_texts) .none kV_law_bad_texts dc_law_bad_texts pm_law_bad_texts an_law_bad_texts cd_law_bad_texts ct_law_bad_texts), sl_law_bad_texts⟩)
    (c_law_bad_texts : PySem.W.codeIn K cd_law_bad_texts "_law_bad_texts" = true) (k_law_bad_texts : PySem.W.keepIn K (.ref f_law_bad_texts) = true)
    {f_law_word_of : Addr} {od_law_word_of an_law_word_of : Option Addr} {sl_law_word_of : Array (Option Value)} {oc_law_word_of kV_law_word_of dc_law_word_of pm_law_word_of cd_law_word_of ct_law_word_of : Value}
    (a_law_word_of : PySem.W.nsIn K mainGlobals "_law_word_of" = some (some (.ref f_law_word_of)))
    (l_law_word_of : K.lookup f_law_word_of = some ⟨oc_law_word_of, od_law_word_of, .func (PySem.W.fnOf "_law_word_of" "_law_word_of" (defArgs s_law_word_of) (defBody s_law_word_of) (defScope s_law_word_of) .none kV_law_word_of dc_law_word_of pm_law_word_of an_law_word_of cd_law_word_of ct_law_word_of), sl_law_word_of⟩)
    (c_law_word_of : PySem.W.codeIn K cd_law_word_of "_law_word_of" = true) (k_law_word_of : PySem.W.keepIn K (.ref f_law_word_of) = true)
    {f_law_due : Addr} {od_law_due an_law_due : Option Addr} {sl_law_due : Array (Option Value)} {oc_law_due kV_law_due dc_law_due pm_law_due cd_law_due ct_law_due : Value}
    (a_law_due : PySem.W.nsIn K mainGlobals "_law_due" = some (some (.ref f_law_due)))
    (l_law_due : K.lookup f_law_due = some ⟨oc_law_due, od_law_due, .func (PySem.W.fnOf "_law_due" "_law_due" (defArgs s_law_due) (defBody s_law_due) (defScope s_law_due) .none kV_law_due dc_law_due pm_law_due an_law_due cd_law_due ct_law_due), sl_law_due⟩)
    (c_law_due : PySem.W.codeIn K cd_law_due "_law_due" = true) (k_law_due : PySem.W.keepIn K (.ref f_law_due) = true)
    {f_law_right : Addr} {od_law_right an_law_right : Option Addr} {sl_law_right : Array (Option Value)} {oc_law_right kV_law_right dc_law_right pm_law_right cd_law_right ct_law_right : Value}
    (a_law_right : PySem.W.nsIn K mainGlobals "_law_right" = some (some (.ref f_law_right)))
    (l_law_right : K.lookup f_law_right = some ⟨oc_law_right, od_law_right, .func (PySem.W.fnOf "_law_right" "_law_right" (defArgs s_law_right) (defBody s_law_right) (defScope s_law_right) .none kV_law_right dc_law_right pm_law_right an_law_right cd_law_right ct_law_right), sl_law_right⟩)
    (c_law_right : PySem.W.codeIn K cd_law_right "_law_right" = true) (k_law_right : PySem.W.keepIn K (.ref f_law_right) = true)
    {f_law_refused_right : Addr} {od_law_refused_right an_law_refused_right : Option Addr} {sl_law_refused_right : Array (Option Value)} {oc_law_refused_right kV_law_refused_right dc_law_refused_right pm_law_refused_right cd_law_refused_right ct_law_refused_right : Value}
    (a_law_refused_right : PySem.W.nsIn K mainGlobals "_law_refused_right" = some (some (.ref f_law_refused_right)))
    (l_law_refused_right : K.lookup f_law_refused_right = some ⟨oc_law_refused_right, od_law_refused_right, .func (PySem.W.fnOf "_law_refused_right" "_law_refused_right" (defArgs s_law_refused_right) (defBody s_law_refused_right) (defScope s_law_refused_right) .none kV_law_refused_right dc_law_refused_right pm_law_refused_right an_law_refused_right cd_law_refused_right ct_law_refused_right), sl_law_refused_right⟩)
    (c_law_refused_right : PySem.W.codeIn K cd_law_refused_right "_law_refused_right" = true) (k_law_refused_right : PySem.W.keepIn K (.ref f_law_refused_right) = true)
    {f_law : Addr} {od_law an_law : Option Addr} {sl_law : Array (Option Value)} {oc_law kV_law dc_law pm_law cd_law ct_law : Value}
    (a_law : PySem.W.nsIn K mainGlobals "law" = some (some (.ref f_law)))
    (l_law : K.lookup f_law = some ⟨oc_law, od_law, .func (PySem.W.fnOf "law" "law" (defArgs s_law) (defBody s_law) (defScope s_law) .none kV_law dc_law pm_law an_law cd_law ct_law), sl_law⟩)
    (c_law : PySem.W.codeIn K cd_law "law" = true) (k_law : PySem.W.keepIn K (.ref f_law) = true)
    (z_all : PySem.W.nsIn K mainGlobals "all" = some none)
    (z_bool : PySem.W.nsIn K mainGlobals "bool" = some none)
    (z_enumerate : PySem.W.nsIn K mainGlobals "enumerate" = some none)
    (z_int : PySem.W.nsIn K mainGlobals "int" = some none)
    (z_isinstance : PySem.W.nsIn K mainGlobals "isinstance" = some none)
    (z_len : PySem.W.nsIn K mainGlobals "len" = some none)
    (z_max : PySem.W.nsIn K mainGlobals "max" = some none)
    (z_min : PySem.W.nsIn K mainGlobals "min" = some none)
    (z_range : PySem.W.nsIn K mainGlobals "range" = some none)
    (z_repr : PySem.W.nsIn K mainGlobals "repr" = some none)
    (z_str : PySem.W.nsIn K mainGlobals "str" = some none)
    (z_sum : PySem.W.nsIn K mainGlobals "sum" = some none)
    (z_tuple : PySem.W.nsIn K mainGlobals "tuple" = some none)
    (z_zip : PySem.W.nsIn K mainGlobals "zip" = some none)
    {tk_LETTERS : Tok} (cc_LETTERS : PySem.W.nsIn K mainGlobals "LETTERS" = some (some (.str "abcdefghijklmnopqrstuvwxyz" tk_LETTERS)))
    {tk_MOST_LETTERS : Tok} (cc_MOST_LETTERS : PySem.W.nsIn K mainGlobals "MOST_LETTERS" = some (some (.int 6 tk_MOST_LETTERS)))
    {A_BadIndex : Addr} (n_BadIndex : PySem.W.nsIn K mainGlobals "BadIndex" = some (some (.ref A_BadIndex))) (sb_BadIndex : PySem.W.subIn K (.ref A_BadIndex) (.type "BaseException") = some true) (ty_BadIndex : PySem.W.typeIn K (.ref A_BadIndex) = some (.type "type")) (hd_BadIndex : PySem.W.hasDictIn K A_BadIndex = true) (se_BadIndex : PySem.W.subIn K (.ref A_BadIndex) (.ref A_BadIndex) = some true)
    {A_BadNumber : Addr} (n_BadNumber : PySem.W.nsIn K mainGlobals "BadNumber" = some (some (.ref A_BadNumber))) (sb_BadNumber : PySem.W.subIn K (.ref A_BadNumber) (.type "BaseException") = some true) (ty_BadNumber : PySem.W.typeIn K (.ref A_BadNumber) = some (.type "type")) (hd_BadNumber : PySem.W.hasDictIn K A_BadNumber = true) (se_BadNumber : PySem.W.subIn K (.ref A_BadNumber) (.ref A_BadNumber) = some true)
    {A_BadText : Addr} (n_BadText : PySem.W.nsIn K mainGlobals "BadText" = some (some (.ref A_BadText))) (sb_BadText : PySem.W.subIn K (.ref A_BadText) (.type "BaseException") = some true) (ty_BadText : PySem.W.typeIn K (.ref A_BadText) = some (.type "type")) (hd_BadText : PySem.W.hasDictIn K A_BadText = true) (se_BadText : PySem.W.subIn K (.ref A_BadText) (.ref A_BadText) = some true)
    {A_LeastError : Addr} (n_LeastError : PySem.W.nsIn K mainGlobals "LeastError" = some (some (.ref A_LeastError))) (sb_LeastError : PySem.W.subIn K (.ref A_LeastError) (.type "BaseException") = some true) (ty_LeastError : PySem.W.typeIn K (.ref A_LeastError) = some (.type "type")) (hd_LeastError : PySem.W.hasDictIn K A_LeastError = true) (se_LeastError : PySem.W.subIn K (.ref A_LeastError) (.ref A_LeastError) = some true)
    (kp_BadIndex : PySem.W.keepIn K (.ref A_BadIndex) = true) (q_BadIndex : PySem.W.excIn K A_BadIndex [.type "ValueError", .type "Exception", .type "BaseException", .type "object"] "ValueError.__new__" = true)
    (kp_BadNumber : PySem.W.keepIn K (.ref A_BadNumber) = true) (q_BadNumber : PySem.W.excIn K A_BadNumber [.type "ValueError", .type "Exception", .type "BaseException", .type "object"] "ValueError.__new__" = true)
    (kp_BadText : PySem.W.keepIn K (.ref A_BadText) = true) (q_BadText : PySem.W.excIn K A_BadText [.type "ValueError", .type "Exception", .type "BaseException", .type "object"] "ValueError.__new__" = true)
    (gG : PySem.W.specialIn K (.builtin "object.__class__") "__get__" = some (some (.builtin "getset_descriptor.__get__"))) (gT : PySem.W.takesIn K (.builtin "object.__class__") = some true)
    (xg_BadIndex : PySem.W.findIn K (.ref A_BadIndex) "__getattribute__" = some (some (.builtin "BaseException.__getattribute__"))) (xk_BadIndex : PySem.W.findIn K (.ref A_BadIndex) "__getattr__" = some none) (xa_BadIndex : PySem.W.findIn K (.ref A_BadIndex) "__class__" = some (some (.builtin "object.__class__"))) (xm_BadIndex : PySem.W.mroIn K A_BadIndex (.type "object") = some true)
    (xg_BadNumber : PySem.W.findIn K (.ref A_BadNumber) "__getattribute__" = some (some (.builtin "BaseException.__getattribute__"))) (xk_BadNumber : PySem.W.findIn K (.ref A_BadNumber) "__getattr__" = some none) (xa_BadNumber : PySem.W.findIn K (.ref A_BadNumber) "__class__" = some (some (.builtin "object.__class__"))) (xm_BadNumber : PySem.W.mroIn K A_BadNumber (.type "object") = some true)
    (xg_BadText : PySem.W.findIn K (.ref A_BadText) "__getattribute__" = some (some (.builtin "BaseException.__getattribute__"))) (xk_BadText : PySem.W.findIn K (.ref A_BadText) "__getattr__" = some none) (xa_BadText : PySem.W.findIn K (.ref A_BadText) "__class__" = some (some (.builtin "object.__class__"))) (xm_BadText : PySem.W.mroIn K A_BadText (.type "object") = some true)
    (su_BadIndex_BadIndex : PySem.W.subIn K (.ref A_BadIndex) (.ref A_BadIndex) = some true)
    (su_BadIndex_BadNumber : PySem.W.subIn K (.ref A_BadIndex) (.ref A_BadNumber) = some false)
    (su_BadIndex_BadText : PySem.W.subIn K (.ref A_BadIndex) (.ref A_BadText) = some false)
    (su_BadIndex_LeastError : PySem.W.subIn K (.ref A_BadIndex) (.ref A_LeastError) = some true)
    (su_BadNumber_BadIndex : PySem.W.subIn K (.ref A_BadNumber) (.ref A_BadIndex) = some false)
    (su_BadNumber_BadNumber : PySem.W.subIn K (.ref A_BadNumber) (.ref A_BadNumber) = some true)
    (su_BadNumber_BadText : PySem.W.subIn K (.ref A_BadNumber) (.ref A_BadText) = some false)
    (su_BadNumber_LeastError : PySem.W.subIn K (.ref A_BadNumber) (.ref A_LeastError) = some true)
    (su_BadText_BadIndex : PySem.W.subIn K (.ref A_BadText) (.ref A_BadIndex) = some false)
    (su_BadText_BadNumber : PySem.W.subIn K (.ref A_BadText) (.ref A_BadNumber) = some false)
    (su_BadText_BadText : PySem.W.subIn K (.ref A_BadText) (.ref A_BadText) = some true)
    (su_BadText_LeastError : PySem.W.subIn K (.ref A_BadText) (.ref A_LeastError) = some true)
    : ∃ fd : FuncData, (∀ (s : Shared) (u : Value), BindsTo s fd ⟨[u], []⟩ [("script", u)]) ∧ ∀ base : Heap, K.In base → base.Ns mainGlobals mg → FnOkG P w K mg base 7 fl fd ["script"] (spV mg 1 K90.f_law) := by
  have e := hfa.symm.trans (PySem.W.mg_of X G a_law)
  cases e
  let g : Gd K mg := gd_mk X G a_is_integer l_is_integer c_is_integer k_is_integer a_is_within l_is_within c_is_within k_is_within a_need_number l_need_number c_need_number k_need_number a_ends_from l_ends_from c_ends_from k_ends_from a_is_text l_is_text c_is_text k_is_text a_shared_row l_shared_row c_shared_row k_shared_row a_text_strands l_text_strands c_text_strands k_text_strands a_window_by l_window_by c_window_by k_window_by a_windows_of l_windows_of c_windows_of k_windows_of a_need_index l_need_index c_need_index k_need_index a_need_index_from l_need_index_from c_need_index_from k_need_index_from a_need_text l_need_text c_need_text k_need_text a_need_texts l_need_texts c_need_texts k_need_texts a_shared l_shared c_shared k_shared a_shared_window l_shared_window c_shared_window k_shared_window a_window_table l_window_table c_window_table k_window_table a_windows l_windows c_windows k_windows a_law_feed l_law_feed c_law_feed k_law_feed a_law_draw l_law_draw c_law_draw k_law_draw a_law_one l_law_one c_law_one k_law_one a_law_letters l_law_letters c_law_letters k_law_letters a_law_shared l_law_shared c_law_shared k_law_shared a_law_bad_texts l_law_bad_texts c_law_bad_texts k_law_bad_texts a_law_word_of l_law_word_of c_law_word_of k_law_word_of a_law_due l_law_due c_law_due k_law_due a_law_right l_law_right c_law_right k_law_right a_law_refused_right l_law_refused_right c_law_refused_right k_law_refused_right a_law l_law c_law k_law z_all z_bool z_enumerate z_int z_isinstance z_len z_max z_min z_range z_repr z_str z_sum z_tuple z_zip cc_LETTERS cc_MOST_LETTERS n_BadIndex sb_BadIndex ty_BadIndex hd_BadIndex se_BadIndex n_BadNumber sb_BadNumber ty_BadNumber hd_BadNumber se_BadNumber n_BadText sb_BadText ty_BadText hd_BadText se_BadText n_LeastError sb_LeastError ty_LeastError hd_LeastError se_LeastError kp_BadIndex q_BadIndex kp_BadNumber q_BadNumber kp_BadText q_BadText gG gT xg_BadIndex xk_BadIndex xa_BadIndex xm_BadIndex xg_BadNumber xk_BadNumber xa_BadNumber xm_BadNumber xg_BadText xk_BadText xa_BadText xm_BadText su_BadIndex_BadIndex su_BadIndex_BadNumber su_BadIndex_BadText su_BadIndex_LeastError su_BadNumber_BadIndex su_BadNumber_BadNumber su_BadNumber_BadText su_BadNumber_LeastError su_BadText_BadIndex su_BadText_BadNumber su_BadText_BadText su_BadText_LeastError
  exact ⟨g.d_law, bind1 g.F_law fun _ _ _ _ _ _ u => rfl, fun base _ _ => ok_law g base⟩
-- facts: 180
end K90

namespace K90
open PySem VS
/-! ### kinds -/
def isInt : D → Bool
  | .int _ => true
  | _ => false
def isD : D → Bool
  | .obj _ => false
  | _ => true
def inR (d : D) (a b : Int) : Bool := match d with
  | .int i => decide (a ≤ i) && decide (i ≤ b)
  | _ => false
theorem is_integer_any (d : D) (h : isD d = true) (ho : own d = false) : f_is_integer [d] = .ok (.bl (isInt d)) [some d] := by
  cases d <;> first | rfl | cases h
theorem is_within_any (d : D) (a b : Int) (h : isD d = true) (ho : own d = false) : f_is_within [d, .int a, .int b] = .ok (.bl (inR d a b)) [some (frz d), some (.int a), some (.int b)] := by
  cases hi : isInt d with
  | false =>
    have e : inR d a b = false := by cases d <;> first | rfl | cases hi
    simp [f_is_within, b_is_within, is_integer_any d h ho, hi, ho, e, frz_imm d ho]
  | true =>
    obtain ⟨i, rfl⟩ : ∃ i, d = .int i := by cases d <;> first | exact ⟨_, rfl⟩ | cases hi
    have e0 : f_is_integer [.int i] = .ok (.bl true) [some (.int i)] := rfl
    simp [f_is_within, b_is_within, e0, eChain, inR]
    by_cases h : a ≤ i <;> simp [h]
theorem need_number_any (d : D) (a b : Int) (h : isD d = true) (ho : own d = false) : f_need_number [d, .int a, .int b] = if inR d a b then .ok .non [some d, some (.int a), some (.int b)] else .err "BadNumber" [some d, some (.int a), some (.int b)] := by
  cases hi : inR d a b <;> simp [f_need_number, b_need_number, is_within_any d a b h ho, hi, ho]
theorem need_index_any (d : D) (n : Int) (h : isD d = true) (ho : own d = false) : f_need_index [d, .int n] = if inR d 0 (n - 1) then .ok .non [some d, some (.int n)] else .err "BadIndex" [some d, some (.int n)] := by
  cases hi : inR d 0 (n - 1) <;> simp [f_need_index, b_need_index, is_within_any d 0 (n - 1) h ho, hi, ho]
theorem need_index_from_any (d : D) (a n : Int) (h : isD d = true) (ho : own d = false) : f_need_index_from [d, .int a, .int n] = if inR d a (n - 1) then .ok .non [some d, some (.int a), some (.int n)] else .err "BadIndex" [some d, some (.int a), some (.int n)] := by
  cases hi : inR d a (n - 1) <;> simp [f_need_index_from, b_need_index_from, is_within_any d a (n - 1) h ho, hi, ho]
/-! ### texts -/
def abc : Str := "abcdefghijklmnopqrstuvwxyz"
def isT (x : Str) : Bool := decide ((cs x).length ≤ 6) && (cs x).all fun c => decide (c ∈ cs abc)
def isTx : D → Bool
  | .str x => isT x
  | _ => false
theorem is_text_str (x : Str) (h : (cs x).length ≤ 10000000) : f_is_text [.str x] = .ok (.bl (isT x)) [some (.str x)] := by
  by_cases h6 : (cs x).length ≤ 6
  · have lc : lcRun (bName 1) (fun env => .ok true env) b_is_text_E1 [1] (chs x) [] [.val (.str x) true, .dead] = .ok ((cs x).map fun c => .bl (decide (c ∈ cs abc))) [.val (.str x) true, .dead] :=
      lc_all ch _ rfl h fun c hc => ⟨_, rfl, [.val (.str x) true, .val (ch c) false], by simp [b_is_text_E1, gIn_cs, ← abc.eq_1], rfl⟩
    have ga : gAll [.lst true ((cs x).map fun c => .bl (decide (c ∈ cs abc)))] = some (.bl ((cs x).all fun c => decide (c ∈ cs abc))) := by
      rw [gAll_lst _ _ ((cs x).map fun c => decide (c ∈ cs abc)) (by rw [List.map_map]; rfl), List.all_map]; rfl
    have e : isT x = (cs x).all fun c => decide (c ∈ cs abc) := by
      unfold isT
      rw [decide_eq_true h6, Bool.true_and]
    have h7 : ((cs x).length : Int) ≤ 6 := by omega
    simp [f_is_text, b_is_text, gIsi, tyD, isiB, len_cs, h, h7, lc, ga, e]
  · have e : isT x = false := by unfold isT; rw [decide_eq_false h6]; rfl
    have e2 : ¬ (((cs x).length : Int) ≤ 6) := by omega
    simp [f_is_text, b_is_text, gIsi, tyD, isiB, len_cs, h, e, e2]
theorem is_text_no (d : D) (h : isD d = true) (ho : own d = false) (hs : ∀ x, d ≠ .str x) : f_is_text [d] = .ok (.bl false) [some d] := by
  cases d <;> first | (cases h; done) | (exact absurd rfl (hs _)) | rfl
def okTx (d : D) : Bool := match d with
  | .str x => decide ((cs x).length ≤ 10000000)
  | .obj _ => false
  | d => !own d
theorem is_text_any (d : D) (h : okTx d = true) : f_is_text [d] = .ok (.bl (isTx d)) [some d] := by
  cases d with
  | str x => exact is_text_str x (of_decide_eq_true h)
  | obj a => cases h
  | non => rfl
  | bl b => rfl
  | int i => rfl
  | scr ns => rfl
  | tup l => exact is_text_no _ rfl (by simpa [okTx] using h) (by intro x z; cases z)
  | lst w l => exact is_text_no _ rfl (by simpa [okTx] using h) (by intro x z; cases z)
  | dk w ks l => exact is_text_no _ rfl (by simpa [okTx] using h) (by intro x z; cases z)
  | dt w ks l => exact is_text_no _ rfl (by simpa [okTx] using h) (by intro x z; cases z)
theorem okTx_own {d : D} (h : okTx d = true) : own d = false := by
  cases d <;> first | rfl | (simpa [okTx] using h)
theorem need_text_any (d : D) (h : okTx d = true) : f_need_text [d] = if isTx d then .ok .non [some d] else .err "BadText" [some d] := by
  cases hi : isTx d <;> simp [f_need_text, b_need_text, is_text_any d h, hi, okTx_own h]
theorem need_texts_any (d e : D) (h : okTx d = true) (h2 : okTx e = true) : f_need_texts [d, e] = if isTx d && isTx e then .ok .non [some d, some e] else .err "BadText" [some d, some e] := by
  cases hi : isTx d
  · simp [f_need_texts, b_need_texts, need_text_any d h, hi, okTx_own h, okTx_own h2]
  · cases hj : isTx e <;> simp [f_need_texts, b_need_texts, need_text_any d h, need_text_any e h2, hi, hj, okTx_own h, okTx_own h2]
end K90

namespace K90
open PySem VS
/-! ### rows of shared letters -/
def stp (c : Nat) : Int → List Int → List Nat → Int → List Int
  | r, r' :: rs, s :: v, left => (if s = c then r + 1 else max r' left) :: stp c r' rs v (if s = c then r + 1 else max r' left)
  | _, _, _, _ => []
def nextRow (c : Nat) (v : List Nat) : List Int → List Int
  | r :: rs => 0 :: stp c r rs v 0
  | [] => []
def rows (a v : List Nat) : List Int := a.foldl (fun row c => nextRow c v row) (List.replicate (v.length + 1) 0)
theorem stp_length (c : Nat) : ∀ (rs : List Int) (v : List Nat) (r left : Int), rs.length = v.length → (stp c r rs v left).length = v.length
  | [], [], _, _, _ => rfl
  | [], _ :: _, _, _, h => by simp at h
  | _ :: _, [], _, _, h => by simp at h
  | r' :: rs, s :: v, r, left, h => by simp [stp, stp_length c rs v _ _ (by simpa using h)]
theorem nextRow_length {c : Nat} {v : List Nat} {row : List Int} (h : row.length = v.length + 1) : (nextRow c v row).length = v.length + 1 := by
  cases row with
  | nil => simp at h
  | cons r rs => simp [nextRow, stp_length c rs v _ _ (by simpa using h)]
theorem stp_get (c : Nat) : ∀ (rs : List Int) (v : List Nat) (r left : Int) (i : Nat) (s : Nat), rs.length = v.length → v[i]? = some s →
    ∃ a b d, (r :: rs)[i]? = some a ∧ rs[i]? = some b ∧ (left :: stp c r rs v left)[i]? = some d ∧ (stp c r rs v left)[i]? = some (if s = c then a + 1 else max b d)
  | [], [], _, _, _, _, _, h => by simp at h
  | [], _ :: _, _, _, _, _, h, _ => by simp at h
  | _ :: _, [], _, _, _, _, h, _ => by simp at h
  | r' :: rs, s' :: v, r, left, 0, s, h, hs => by
    obtain rfl : s' = s := by simpa using hs
    exact ⟨r, r', left, rfl, rfl, rfl, rfl⟩
  | r' :: rs, s' :: v, r, left, i + 1, s, h, hs => by
    obtain ⟨a, b, d, h1, h2, h3, h4⟩ := stp_get c rs v r' (if s' = c then r + 1 else max r' left) i s (by simpa using h) (by simpa using hs)
    exact ⟨a, b, d, by simpa using h1, by simpa using h2, by simpa [stp] using h3, by simpa [stp] using h4⟩
theorem nextRow_get {c : Nat} {v : List Nat} {row : List Int} {i s : Nat} (h : row.length = v.length + 1) (hs : v[i]? = some s) :
    ∃ a b d, row[i]? = some a ∧ row[i + 1]? = some b ∧ (nextRow c v row)[i]? = some d ∧ (nextRow c v row)[i + 1]? = some (if s = c then a + 1 else max b d) := by
  cases row with
  | nil => simp at h
  | cons r rs =>
    obtain ⟨a, b, d, h1, h2, h3, h4⟩ := stp_get c rs v r 0 i s (by simpa using h) hs
    exact ⟨a, b, d, h1, by simpa using h2, by simpa [nextRow] using h3, by simpa [nextRow] using h4⟩
theorem nextRow_head {c : Nat} {v : List Nat} {row : List Int} (h : row.length = v.length + 1) : (nextRow c v row).take 1 = [0] := by
  cases row with
  | nil => simp at h
  | cons r rs => rfl
theorem rows_length (a v : List Nat) : (rows a v).length = v.length + 1 := by
  unfold rows
  suffices ∀ (a : List Nat) (r : List Int), r.length = v.length + 1 → (a.foldl (fun row c => nextRow c v row) r).length = v.length + 1 from this a _ (by simp)
  intro a
  induction a with
  | nil => intro r h; exact h
  | cons c a ih => intro r h; exact ih _ (nextRow_length h)
theorem gIx_ints {w : Bool} {l : List Int} {i : Nat} {x : Int} (h : l[i]? = some x) (k : Int) (hk : k = i) : gIx [.lst w (l.map .int), .int k] = some (.int x) := by
  subst hk
  have e : L2.atI (l.map D.int) (i : Int) = some (.int x) := L2.atI_nat (by rw [List.getElem?_map, h]; rfl)
  rw [gIx_lst, e]; rfl
theorem take_succ_get {l : List Int} {i : Nat} {x : Int} (h : l[i]? = some x) : l.take (i + 1) = l.take i ++ [x] := by
  rw [List.take_succ, h]; rfl
theorem en_chs {x : Str} {i : Nat} {d : D} (h : (enD (chs x))[i]? = some d) : ∃ s, (cs x)[i]? = some s ∧ d = .tup [.int (i : Nat), ch s] := by
  rw [enD_get?, chs_cs, List.getElem?_map] at h
  cases e : (cs x)[i]? with
  | none => rw [e] at h; cases h
  | some s => rw [e] at h; cases h; exact ⟨s, rfl, rfl⟩
theorem sr_L1 (tx ot : Str) (w fl : Bool) (row : List Int) (c : Nat) (hl : row.length = (cs ot).length + 1) (hb : (cs ot).length ≤ 1000) (c5 c6 : Cl) :
    ∃ c5' c6', forRun (bTup [bName 5, bName 6]) b_shared_row_L1 (enD (chs ot)) [.val (.str tx) true, .val (.str ot) true, .val (.lst w (row.map .int)) fl, .val (ch c) false, .val (.lst true [.int 0]) false, c5, c6] =
      .next [.val (.str tx) true, .val (.str ot) true, .val (.lst w (row.map .int)) fl, .val (ch c) false, .val (.lst true ((nextRow c (cs ot) row).map .int)) false, c5', c6'] := by
  have hn := nextRow_length (c := c) hl
  obtain ⟨e', h1, c5', c6', h2⟩ := for_inv (b := bTup [bName 5, bName 6]) (body := b_shared_row_L1) (ds := enD (chs ot)) (fun i e => ∃ c5 c6, e = [.val (.str tx) true, .val (.str ot) true, .val (.lst w (row.map .int)) fl, .val (ch c) false, .val (.lst true (((nextRow c (cs ot) row).take (i + 1)).map .int)) false, c5, c6]) (e := [.val (.str tx) true, .val (.str ot) true, .val (.lst w (row.map .int)) fl, .val (ch c) false, .val (.lst true [.int 0]) false, c5, c6])
    ⟨c5, c6, by rw [nextRow_head hl]; rfl⟩ fun i d e hd ⟨x5, x6, he⟩ => by
      subst he
      obtain ⟨s, hs, rfl⟩ := en_chs hd
      obtain ⟨a, b, m, g1, g2, g3, g4⟩ := nextRow_get (c := c) hl hs
      have i1 : gIx [.lst w (row.map .int), .int i] = some (.int a) := gIx_ints g1 _ rfl
      have i2 : gIx [.lst w (row.map .int), .int (i + 1)] = some (.int b) := gIx_ints g2 _ (by omega)
      have hi : i < (cs ot).length := (List.getElem?_eq_some_iff.mp hs).1
      have i3 : gIx [.lst true (((nextRow c (cs ot) row).take (i + 1)).map .int), .int i] = some (.int m) := gIx_ints (by rw [List.getElem?_take_of_lt (by omega)]; exact g3) _ rfl
      refine ⟨_, rfl, _, .inl ?_, .val (.int i) false, .val (ch s) false, rfl⟩
      rw [take_succ_get g4, List.map_append]
      have hl2 : ((nextRow c (cs ot) row).take (i + 1)).length < 10000000 := by rw [List.length_take]; omega
      generalize (nextRow c (cs ot) row).take (i + 1) = T at i3 hl2
      by_cases hc : s = c
      · simp [b_shared_row_L1, eAppend, i1, i2, i3, hc, hl2]
      · simp [b_shared_row_L1, eAppend, i1, i2, i3, hc, hl2]
  refine ⟨c5', c6', ?_⟩
  rw [h1, h2]
  simp only [enD_length, chs_len]
  rw [List.take_of_length_le (by omega)]
theorem shared_row_ok (tx ot : Str) (hb : (cs ot).length ≤ 1000) : ∃ w, f_shared_row [.str tx, .str ot] = .ok (.lst w ((rows (cs tx) (cs ot)).map .int)) [some (.str tx), some (.str ot)] := by
  obtain ⟨e', h1, hr, w, fl, c3, c4, c5, c6, h2⟩ := for_fold (b := bName 3) (body := b_shared_row_L2) ch (fun row c => nextRow c (cs ot) row) (fun row e => row.length = (cs ot).length + 1 ∧ ∃ w fl c3 c4 c5 c6, e = [.val (.str tx) true, .val (.str ot) true, .val (.lst w (row.map .int)) fl, c3, c4, c5, c6]) (cs tx) (List.replicate ((cs ot).length + 1) 0)
    [.val (.str tx) true, .val (.str ot) true, .val (.lst true ((List.replicate ((cs ot).length + 1) (0 : Int)).map .int)) false, .dead, .dead, .dead, .dead] ⟨by simp, true, false, .dead, .dead, .dead, .dead, rfl⟩ fun row c e _ ⟨hr, w, fl, c3, c4, c5, c6, he⟩ => by
      subst he
      obtain ⟨x5, x6, h3⟩ := sr_L1 tx ot w fl row c hr hb c5 c6
      refine ⟨_, rfl, _, .inl ?_, nextRow_length hr, false, false, .val (ch c) false, .val (.lst false ((nextRow c (cs ot) row).map .int)) false, x5, x6, rfl⟩
      simp [b_shared_row_L2, h3]
  refine ⟨w, ?_⟩
  subst h2
  have hm : gMul [.lst true [.int 0], .int ((cs ot).length + 1)] = some (.lst true ((List.replicate ((cs ot).length + 1) (0 : Int)).map .int)) := by
    have e1 : (((cs ot).length : Int) + 1).toNat = (cs ot).length + 1 := by omega
    rw [gMul_lst, e1, if_pos ⟨by simp; omega, by simp, rngOk_small (by omega) (by omega)⟩]
    congr 2
    rw [List.map_replicate]
    simp
  have hlen : (cs ot).length ≤ 10000000 := by omega
  simp [f_shared_row, b_shared_row, len_cs, hlen, hm, ← chs_cs] at h1 ⊢
  rw [h1]
  simp [rows]
def lastR (a v : List Nat) : Int := (rows a v).getLast?.getD 0
theorem atI_last {α : Type} {l : List α} {x : α} (h : l.getLast? = some x) : L2.atI l (-1) = some x := by
  obtain ⟨ys, rfl⟩ : ∃ ys, l = ys ++ [x] := by
    refine ⟨l.dropLast, ?_⟩
    have hne : l ≠ [] := by intro z; rw [z] at h; cases h
    rw [List.getLast?_eq_getLast hne] at h
    cases h
    exact (List.dropLast_concat_getLast hne).symm
  exact L2.atI_last ys x
theorem gIx_last {w : Bool} {a v : List Nat} : gIx [.lst w ((rows a v).map .int), .int (-1)] = some (.int (lastR a v)) := by
  have hl := rows_length a v
  have h1 : (rows a v).getLast? = some (lastR a v) := by
    unfold lastR
    cases e : rows a v with
    | nil => rw [e] at hl; simp at hl
    | cons x l => simp [List.getLast?_cons]
  have e : L2.atI ((rows a v).map D.int) (-1) = some (.int (lastR a v)) := atI_last (by rw [List.getLast?_map, h1]; rfl)
  rw [gIx_lst, e]; rfl
theorem ls_L1 (tx ot : Str) (w fl : Bool) (row : List Int) (c : Nat) (hl : row.length = (cs ot).length + 1) (hb : (cs ot).length ≤ 1000) (c5 c6 : Cl) :
    ∃ c5' c6', forRun (bTup [bName 5, bName 6]) b_law_shared_L1 (enD (chs ot)) [.val (.str tx) true, .val (.str ot) true, .val (.lst w (row.map .int)) fl, .val (ch c) false, .val (.lst true [.int 0]) false, c5, c6] =
      .next [.val (.str tx) true, .val (.str ot) true, .val (.lst w (row.map .int)) fl, .val (ch c) false, .val (.lst true ((nextRow c (cs ot) row).map .int)) false, c5', c6'] := by
  have hn := nextRow_length (c := c) hl
  obtain ⟨e', h1, c5', c6', h2⟩ := for_inv (b := bTup [bName 5, bName 6]) (body := b_law_shared_L1) (ds := enD (chs ot)) (fun i e => ∃ c5 c6, e = [.val (.str tx) true, .val (.str ot) true, .val (.lst w (row.map .int)) fl, .val (ch c) false, .val (.lst true (((nextRow c (cs ot) row).take (i + 1)).map .int)) false, c5, c6]) (e := [.val (.str tx) true, .val (.str ot) true, .val (.lst w (row.map .int)) fl, .val (ch c) false, .val (.lst true [.int 0]) false, c5, c6])
    ⟨c5, c6, by rw [nextRow_head hl]; rfl⟩ fun i d e hd ⟨x5, x6, he⟩ => by
      subst he
      obtain ⟨s, hs, rfl⟩ := en_chs hd
      obtain ⟨a, b, m, g1, g2, g3, g4⟩ := nextRow_get (c := c) hl hs
      have i1 : gIx [.lst w (row.map .int), .int i] = some (.int a) := gIx_ints g1 _ rfl
      have i2 : gIx [.lst w (row.map .int), .int (i + 1)] = some (.int b) := gIx_ints g2 _ (by omega)
      have hi : i < (cs ot).length := (List.getElem?_eq_some_iff.mp hs).1
      have i3 : gIx [.lst true (((nextRow c (cs ot) row).take (i + 1)).map .int), .int i] = some (.int m) := gIx_ints (by rw [List.getElem?_take_of_lt (by omega)]; exact g3) _ rfl
      refine ⟨_, rfl, _, .inl ?_, .val (.int i) false, .val (ch s) false, rfl⟩
      rw [take_succ_get g4, List.map_append]
      have hl2 : ((nextRow c (cs ot) row).take (i + 1)).length < 10000000 := by rw [List.length_take]; omega
      generalize (nextRow c (cs ot) row).take (i + 1) = T at i3 hl2
      by_cases hc : s = c
      · simp [b_law_shared_L1, eAppend, i1, i2, i3, hc, hl2]
      · have hc' : ¬ c = s := fun h => hc h.symm
        simp [b_law_shared_L1, eAppend, i1, i2, i3, hc, hc', hl2]
  refine ⟨c5', c6', ?_⟩
  rw [h1, h2]
  simp only [enD_length, chs_len]
  rw [List.take_of_length_le (by omega)]
theorem law_shared_rows (tx ot : Str) (hb : (cs ot).length ≤ 1000) : f_law_shared [.str tx, .str ot] = .ok (.int (lastR (cs tx) (cs ot))) [some (.str tx), some (.str ot)] := by
  obtain ⟨e', h1, hr, w, fl, c3, c4, c5, c6, h2⟩ := for_fold (b := bName 3) (body := b_law_shared_L2) ch (fun row c => nextRow c (cs ot) row) (fun row e => row.length = (cs ot).length + 1 ∧ ∃ w fl c3 c4 c5 c6, e = [.val (.str tx) true, .val (.str ot) true, .val (.lst w (row.map .int)) fl, c3, c4, c5, c6]) (cs tx) (List.replicate ((cs ot).length + 1) 0)
    [.val (.str tx) true, .val (.str ot) true, .val (.lst true ((List.replicate ((cs ot).length + 1) (0 : Int)).map .int)) false, .dead, .dead, .dead, .dead] ⟨by simp, true, false, .dead, .dead, .dead, .dead, rfl⟩ fun row c e _ ⟨hr, w, fl, c3, c4, c5, c6, he⟩ => by
      subst he
      obtain ⟨x5, x6, h3⟩ := ls_L1 tx ot w fl row c hr hb c5 c6
      refine ⟨_, rfl, _, .inl ?_, nextRow_length hr, false, false, .val (ch c) false, .val (.lst false ((nextRow c (cs ot) row).map .int)) false, x5, x6, rfl⟩
      simp [b_law_shared_L2, h3]
  subst h2
  have hm : gMul [.lst true [.int 0], .int ((cs ot).length + 1)] = some (.lst true ((List.replicate ((cs ot).length + 1) (0 : Int)).map .int)) := by
    have e1 : (((cs ot).length : Int) + 1).toNat = (cs ot).length + 1 := by omega
    rw [gMul_lst, e1, if_pos ⟨by simp; omega, by simp, rngOk_small (by omega) (by omega)⟩]
    congr 2
    rw [List.map_replicate]
    simp
  have hlen : (cs ot).length ≤ 10000000 := by omega
  simp [f_law_shared, b_law_shared, len_cs, hlen, hm, ← chs_cs] at h1 ⊢
  rw [h1]
  have hq := gIx_last (w := w) (a := cs tx) (v := cs ot)
  unfold rows at hq
  simp at hq
  simp [hq]
end K90

namespace K90
open PySem VS
/-! ### strands -/
def sw (c s : Nat) (d al : Int) : Int × Int := if c = s ∨ d < al then (al, d) else (d, al)
def srow (c : Nat) : List Int → List Nat → Int → List Int × Int
  | d :: ds, s :: bs, al => ((sw c s d al).1 :: (srow c ds bs (sw c s d al).2).1, (srow c ds bs (sw c s d al).2).2)
  | ds, _, al => (ds, al)
def enI (k : Nat) (l : List Nat) : List D := (l.zipIdx k).map fun q => .tup [.int (q.2 : Nat), ch q.1]
theorem enD_chs (x : Str) : enD (chs x) = enI 0 (cs x) := by
  apply List.ext_getElem?
  intro i
  rw [enD_get?, chs_cs, List.getElem?_map]
  unfold enI
  rw [List.getElem?_map, List.getElem?_zipIdx]
  cases (cs x)[i]? <;> simp
theorem ixN_nat {n k : Nat} (h : k < n) : L2.ixN n (k : Int) = some k := by unfold L2.ixN; rw [if_pos (by omega), if_pos (by omega)]; rfl
theorem set_mid (P : List Int) (d x : Int) (ds : List Int) : ((P ++ d :: ds).map D.int).set P.length (.int x) = (P ++ x :: ds).map D.int := by
  rw [List.map_append, List.set_append_right _ _ (by simp)]
  simp
theorem ts_L2 (c : Nat) (c0 c1 c2 c4 c5 : Cl) : ∀ (bs : List Nat) (P ds : List Int) (al : Int) (x8 x9 : Cl), ds.length = bs.length →
    ∃ x8' x9', forRun (bTup [bName 8, bName 9]) b_text_strands_L2 (enI P.length bs) [c0, c1, c2, .val (.lst true ((P ++ ds).map .int)) false, c4, c5, .val (ch c) false, .val (.int al) false, x8, x9] =
      .next [c0, c1, c2, .val (.lst true ((P ++ (srow c ds bs al).1).map .int)) false, c4, c5, .val (ch c) false, .val (.int (srow c ds bs al).2) false, x8', x9']
  | [], P, [], al, x8, x9, _ => ⟨x8, x9, rfl⟩
  | [], P, _ :: _, al, x8, x9, h => by simp at h
  | _ :: _, P, [], al, x8, x9, h => by simp at h
  | s :: bs, P, d :: ds, al, x8, x9, h => by
    have hd : ds.length = bs.length := by simpa using h
    obtain ⟨y8, y9, ih⟩ := ts_L2 c c0 c1 c2 c4 c5 bs (P ++ [(sw c s d al).1]) ds (sw c s d al).2 (.val (.int (P.length : Nat)) false) (.val (ch s) false) hd
    refine ⟨y8, y9, ?_⟩
    have i1 : gIx [.lst true ((P ++ d :: ds).map .int), .int (P.length : Nat)] = some (.int d) := gIx_ints (by simp) _ rfl
    have i2 : L2.ixN ((P ++ d :: ds).map D.int).length (P.length : Nat) = some P.length := ixN_nat (by simp)
    have i3 := set_mid P d al ds
    have e1 : enI P.length (s :: bs) = .tup [.int (P.length : Nat), ch s] :: enI (P ++ [(sw c s d al).1]).length bs := by unfold enI; simp
    have e2 : P ++ (srow c (d :: ds) (s :: bs) al).1 = (P ++ [(sw c s d al).1]) ++ (srow c ds bs (sw c s d al).2).1 := by simp [srow]
    have e3 : (srow c (d :: ds) (s :: bs) al).2 = (srow c ds bs (sw c s d al).2).2 := rfl
    rw [e1, e2, e3, ← ih, forRun]
    have e4 : P ++ [(sw c s d al).1] ++ ds = P ++ (sw c s d al).1 :: ds := by simp
    rw [e4]
    generalize hL : (P ++ d :: ds).map D.int = L at i1 i2 i3
    by_cases hc : c = s
    · have e5 : sw c s d al = (al, d) := by unfold sw; rw [if_pos (.inl hc)]
      rw [e5]
      simp only [bTup_tup]
      simp [b_text_strands_L2, bSub, i1, i2, i3, hc]
    · by_cases hd : d < al
      · have e5 : sw c s d al = (al, d) := by unfold sw; rw [if_pos (.inr hd)]
        rw [e5]
        simp [b_text_strands_L2, bSub, i1, i2, i3, hc, hd]
      · have e5 : sw c s d al = (d, al) := by unfold sw; rw [if_neg (by simp [hc, hd])]
        rw [e5]
        simp [b_text_strands_L2, bSub, i1, i2, i3, hc, hd]
        rw [← hL]
        simp
/-- all rows: the strands below, the ends, the next strand from the left -/
def srows (b : List Nat) : List Nat → List Int → List Int → Int → List Int × List Int
  | [], down, ends, _ => (down, ends)
  | c :: a, down, ends, al => srows b a (srow c down b al).1 (ends ++ [(srow c down b al).2]) (al - 1)
theorem srow_length (c : Nat) : ∀ (ds : List Int) (bs : List Nat) (al : Int), (srow c ds bs al).1.length = ds.length
  | [], _, _ => by cases ‹List Nat› <;> rfl
  | _ :: _, [], _ => rfl
  | d :: ds, s :: bs, al => by simp [srow, srow_length c ds bs]
theorem ts_L3 (tx ot : Str) (m : Int) (hb : (cs ot).length ≤ 1000) : ∀ (a : List Nat) (k : Nat) (down ends : List Int) (c5 c6 c7 c8 c9 : Cl), down.length = (cs ot).length → ends.length + a.length ≤ 1000 →
    ∃ c5' c6' c7' c8' c9', forRun (bTup [bName 5, bName 6]) b_text_strands_L3 (enI k a) [.val (.str tx) true, .val (.str ot) true, .val (.int m) false, .val (.lst true (down.map .int)) false, .val (.lst true (ends.map .int)) false, c5, c6, c7, c8, c9] =
      .next [.val (.str tx) true, .val (.str ot) true, .val (.int m) false, .val (.lst true ((srows (cs ot) a down ends (m - 1 - k)).1.map .int)) false, .val (.lst true ((srows (cs ot) a down ends (m - 1 - k)).2.map .int)) false, c5', c6', c7', c8', c9']
  | [], k, down, ends, c5, c6, c7, c8, c9, _, _ => ⟨c5, c6, c7, c8, c9, rfl⟩
  | c :: a, k, down, ends, c5, c6, c7, c8, c9, hd, he => by
    obtain ⟨x8, x9, h1⟩ := ts_L2 c (.val (.str tx) true) (.val (.str ot) true) (.val (.int m) false) (.val (.lst true (ends.map .int)) false) (.val (.int (k : Nat)) false) (cs ot) [] down (m - 1 - k) c8 c9 hd
    obtain ⟨y5, y6, y7, y8, y9, ih⟩ := ts_L3 tx ot m hb a (k + 1) (srow c down (cs ot) (m - 1 - k)).1 (ends ++ [(srow c down (cs ot) (m - 1 - k)).2]) (.val (.int (k : Nat)) false) (.val (ch c) false) (.val (.int (srow c down (cs ot) (m - 1 - k)).2) false) x8 x9 (by rw [srow_length]; exact hd) (by simp at he ⊢; omega)
    refine ⟨y5, y6, y7, y8, y9, ?_⟩
    have e1 : enI k (c :: a) = .tup [.int (k : Nat), ch c] :: enI (k + 1) a := by unfold enI; simp
    have e2 : m - 1 - ((k + 1 : Nat) : Int) = m - 1 - k - 1 := by omega
    rw [e2] at ih
    rw [e1, forRun]
    show _ = SRes.next [_, _, _, .val (.lst true ((srows (cs ot) a _ _ _).1.map .int)) false, .val (.lst true ((srows (cs ot) a _ _ _).2.map .int)) false, _, _, _, _, _]
    rw [← ih]
    have hl : ends.length < 10000000 := by simp at he; omega
    simp only [List.nil_append, List.length_nil] at h1
    have hbody : b_text_strands_L3 [.val (.str tx) true, .val (.str ot) true, .val (.int m) false, .val (.lst true (down.map .int)) false, .val (.lst true (ends.map .int)) false, .val (.int (k : Nat)) false, .val (ch c) false, c7, c8, c9] = .next [.val (.str tx) true, .val (.str ot) true, .val (.int m) false, .val (.lst true ((srow c down (cs ot) (m - 1 - k)).1.map .int)) false, .val (.lst true ((ends ++ [(srow c down (cs ot) (m - 1 - k)).2]).map .int)) false, .val (.int (k : Nat)) false, .val (ch c) false, .val (.int (srow c down (cs ot) (m - 1 - k)).2) false, x8, x9] := by
      simp [b_text_strands_L3, enD_chs, h1, eAppend, hl]
    simp [hbody]
end K90

namespace K90
open PySem VS
/-! ### where each strand ends -/
def invN : List Nat → Nat → List Int → List Int
  | [], _, acc => acc
  | s :: l, k, acc => invN l (k + 1) (acc.set s (k : Int))
theorem invN_length : ∀ (l : List Nat) (k : Nat) (acc : List Int), (invN l k acc).length = acc.length
  | [], _, _ => rfl
  | s :: l, k, acc => by rw [invN, invN_length]; simp
theorem ef_L1 (h : Cl) : ∀ (l : List Nat) (k : Nat) (acc : List Int) (c2 c3 : Cl), (∀ s ∈ l, s < acc.length) →
    ∃ c2' c3', forRun (bTup [bName 2, bName 3]) b_ends_from_L1 ((l.zipIdx k).map fun q => .tup [.int (q.2 : Nat), .int (q.1 : Nat)]) [h, .val (.lst true (acc.map .int)) false, c2, c3] = .next [h, .val (.lst true ((invN l k acc).map .int)) false, c2', c3']
  | [], k, acc, c2, c3, _ => ⟨c2, c3, rfl⟩
  | s :: l, k, acc, c2, c3, hs => by
    have h1 : s < acc.length := hs s List.mem_cons_self
    obtain ⟨y2, y3, ih⟩ := ef_L1 h l (k + 1) (acc.set s (k : Int)) (.val (.int (k : Nat)) false) (.val (.int (s : Nat)) false) fun t ht => by rw [List.length_set]; exact hs t (List.mem_cons_of_mem _ ht)
    refine ⟨y2, y3, ?_⟩
    have i2 : L2.ixN (acc.map D.int).length (s : Nat) = some s := ixN_nat (by simpa using h1)
    have i3 : (acc.map D.int).set s (.int (k : Nat)) = (acc.set s (k : Int)).map .int := by rw [List.map_set]
    rw [List.zipIdx_cons, List.map_cons, forRun, invN, ← ih, ← i3]
    generalize acc.map D.int = L at i2 i3
    have hbody : b_ends_from_L1 [h, .val (.lst true L) false, .val (.int (k : Nat)) false, .val (.int (s : Nat)) false] = .next [h, .val (.lst true (L.set s (.int (k : Nat)))) false, .val (.int (k : Nat)) false, .val (.int (s : Nat)) false] := by
      simp [b_ends_from_L1, bSub, i2]
    simp [hbody]
theorem ends_from_ok (l : List Nat) (hl : l.length ≤ 1000) (hs : ∀ s ∈ l, s < l.length) (w : Bool) : f_ends_from [.lst w (l.map fun s => .int (s : Nat))] = .ok (.tup ((invN l 0 (List.replicate l.length 0)).map .int)) [some (.lst w (l.map fun s => .int (s : Nat)))] := by
  obtain ⟨c2, c3, h1⟩ := ef_L1 (if w then .hole else .val (.lst w (l.map fun s => .int (s : Nat))) true) l 0 (List.replicate l.length 0) .dead .dead (by simpa using hs)
  have hm : gMul [.lst true [.int 0], .int l.length] = some (.lst true ((List.replicate l.length (0 : Int)).map .int)) := by
    rw [gMul_lst, if_pos ⟨by simp; omega, by simp, rngOk_small (by omega) (by omega)⟩]
    congr 2
    rw [List.map_replicate]
    simp
  have he : itemsEn (.lst w (l.map fun s => .int (s : Nat))) = some ((l.zipIdx 0).map fun q => .tup [.int (q.2 : Nat), .int (q.1 : Nat)]) := by
    have ho : ownL (l.map fun s => D.int (s : Nat)) = false := by rw [ownL_mem]; intro d hd; obtain ⟨s, _, rfl⟩ := List.mem_map.mp hd; rfl
    rw [itemsEn_lst ho]
    unfold enD
    rw [List.zipIdx_map, List.map_map]
    rfl
  have ho : ownL (l.map fun s => D.int (s : Nat)) = false := by rw [ownL_mem]; intro d hd; obtain ⟨s, _, rfl⟩ := List.mem_map.mp hd; rfl
  generalize hq : (l.zipIdx 0).map (fun q => D.tup [.int (q.2 : Nat), .int (q.1 : Nat)]) = q at h1 he
  have hlen : (l.map fun s => D.int (s : Nat)).length = l.length := by simp
  generalize hh : (l.map fun s => D.int (s : Nat)) = L at *
  generalize hz : (List.replicate l.length (0 : Int)).map D.int = z at h1 hm
  cases w with
  | true =>
    simp [f_ends_from, b_ends_from, hlen, hm, he]
    simp at h1
    rw [h1]
    simp [back]
  | false =>
    simp [f_ends_from, b_ends_from, hlen, hm, he, ho]
    simp at h1
    rw [h1]
    simp
end K90

namespace K90
open PySem VS
theorem sw_perm (c s : Nat) (d al : Int) (l : List Int) : ((sw c s d al).1 :: (sw c s d al).2 :: l).Perm (al :: d :: l) := by
  unfold sw
  split
  · exact .refl _
  · exact .swap ..
theorem srow_perm (c : Nat) : ∀ (ds : List Int) (bs : List Nat) (al : Int), ((srow c ds bs al).2 :: (srow c ds bs al).1).Perm (al :: ds)
  | [], bs, al => by cases bs <;> exact .refl _
  | d :: ds, [], al => .refl _
  | d :: ds, s :: bs, al => by
    have ih := srow_perm c ds bs (sw c s d al).2
    show ((srow c ds bs (sw c s d al).2).2 :: (sw c s d al).1 :: (srow c ds bs (sw c s d al).2).1).Perm (al :: d :: ds)
    exact ((List.Perm.swap ..).trans (ih.cons _)).trans (sw_perm ..)
def cd (al : Int) : Nat → List Int
  | 0 => []
  | k + 1 => al :: cd (al - 1) k
theorem srows_perm (b : List Nat) : ∀ (a : List Nat) (down ends : List Int) (al : Int), ((srows b a down ends al).1 ++ (srows b a down ends al).2).Perm (down ++ ends ++ cd al a.length)
  | [], down, ends, al => by simp [srows, cd]
  | c :: a, down, ends, al => by
    have ih := srows_perm b a (srow c down b al).1 (ends ++ [(srow c down b al).2]) (al - 1)
    refine ih.trans ?_
    have p := srow_perm c down b al
    have e1 : ((srow c down b al).1 ++ (ends ++ [(srow c down b al).2]) ++ cd (al - 1) a.length).Perm (((srow c down b al).2 :: (srow c down b al).1) ++ (ends ++ cd (al - 1) a.length)) := by
      rw [List.cons_append]
      have e2 : (srow c down b al).1 ++ (ends ++ [(srow c down b al).2]) ++ cd (al - 1) a.length = ((srow c down b al).1 ++ ends) ++ (srow c down b al).2 :: cd (al - 1) a.length := by simp
      rw [e2]
      refine List.perm_middle.trans ?_
      rw [List.append_assoc]
    refine e1.trans ((p.append_right _).trans ?_)
    have e3 : down ++ ends ++ cd al (c :: a).length = (down ++ ends) ++ al :: cd (al - 1) a.length := by simp [cd]
    rw [e3]
    refine List.Perm.trans ?_ List.perm_middle.symm
    rw [List.cons_append, List.append_assoc]
theorem cd_range : ∀ m : Nat, cd ((m : Int) - 1) m = ((List.range m).map fun k => ((k : Nat) : Int)).reverse
  | 0 => rfl
  | m + 1 => by
    rw [cd, List.range_succ, List.map_append, List.reverse_append]
    have e : ((m + 1 : Nat) : Int) - 1 - 1 = (m : Int) - 1 := by omega
    have e2 : ((m + 1 : Nat) : Int) - 1 = (m : Int) := by omega
    rw [e, e2, cd_range m]
    rfl
/-- where the strands end, in the order of the ends -/
def fin (a b : List Nat) : List Int × List Int := srows b a ((List.range b.length).map fun k => ((a.length + k : Nat) : Int)) [] ((a.length : Int) - 1)
def here (a b : List Nat) : List Nat := ((fin a b).1 ++ (fin a b).2.reverse).map Int.toNat
theorem fin_perm (a b : List Nat) : ((fin a b).1 ++ (fin a b).2.reverse).Perm ((List.range (a.length + b.length)).map fun k => ((k : Nat) : Int)) := by
  refine ((List.reverse_perm _).append_left _).trans ((srows_perm b a _ _ _).trans ?_)
  rw [List.append_nil, cd_range, List.range_add, List.map_append, List.map_map]
  refine List.perm_append_comm.trans ?_
  exact (List.reverse_perm _).append_right _
theorem here_perm (a b : List Nat) : (here a b).Perm (List.range (a.length + b.length)) := by
  have := (fin_perm a b).map Int.toNat
  rw [List.map_map] at this
  have e : (List.range (a.length + b.length)).map (Int.toNat ∘ fun k => ((k : Nat) : Int)) = List.range (a.length + b.length) := by
    conv => rhs; rw [← List.map_id (List.range (a.length + b.length))]
    exact List.map_congr_left fun x _ => by simp
  rw [e] at this
  exact this
theorem here_cast (a b : List Nat) : (fin a b).1 ++ (fin a b).2.reverse = (here a b).map fun s => ((s : Nat) : Int) := by
  unfold here
  rw [List.map_map]
  conv => lhs; rw [← List.map_id ((fin a b).1 ++ (fin a b).2.reverse)]
  refine List.map_congr_left fun x hx => ?_
  obtain ⟨k, _, rfl⟩ := List.mem_map.mp ((fin_perm a b).mem_iff.mp hx)
  simp
theorem here_length (a b : List Nat) : (here a b).length = a.length + b.length := by rw [(here_perm a b).length_eq, List.length_range]
theorem here_lt (a b : List Nat) : ∀ s ∈ here a b, s < (here a b).length := fun s hs => by
  rw [here_length]
  exact List.mem_range.mp ((here_perm a b).mem_iff.mp hs)
def strands (a b : List Nat) : List Int := invN (here a b) 0 (List.replicate (here a b).length 0)
theorem srows_len (b : List Nat) : ∀ (a : List Nat) (down ends : List Int) (al : Int), (srows b a down ends al).1.length = down.length ∧ (srows b a down ends al).2.length = ends.length + a.length
  | [], down, ends, al => ⟨rfl, rfl⟩
  | c :: a, down, ends, al => by
    obtain ⟨h1, h2⟩ := srows_len b a (srow c down b al).1 (ends ++ [(srow c down b al).2]) (al - 1)
    exact ⟨by rw [srows, h1, srow_length], by rw [srows, h2]; simp; omega⟩
theorem enI_chs (x : Str) : enD (chs x) = enI 0 (cs x) := enD_chs x
theorem text_strands_ok (tx ot : Str) (hb : (cs ot).length ≤ 400) (ht : (cs tx).length ≤ 400) : f_text_strands [.str tx, .str ot] = .ok (.tup ((strands (cs tx) (cs ot)).map .int)) [some (.str tx), some (.str ot)] := by
  have lc : lcRun (bName 5) (fun env => .ok true env) b_text_strands_E1 [5] (rngD 0 (cs ot).length) [] [.val (.str tx) true, .val (.str ot) true, .val (.int (cs tx).length) false, .dead, .dead, .dead, .dead, .dead, .dead, .dead] =
      .ok ((List.range (cs ot).length).map fun k => .int (((cs tx).length + k : Nat) : Int)) [.val (.str tx) true, .val (.str ot) true, .val (.int (cs tx).length) false, .dead, .dead, .dead, .dead, .dead, .dead, .dead] := by
    have e : rngD 0 (cs ot).length = (List.range (cs ot).length).map fun (k : Nat) => .int (k : Int) := by unfold rngD; simp
    rw [e]
    exact lc_all _ _ rfl (by simp; omega) fun k hk => ⟨_, rfl, [.val (.str tx) true, .val (.str ot) true, .val (.int (cs tx).length) false, .dead, .dead, .val (.int k) false, .dead, .dead, .dead, .dead], by simp [b_text_strands_E1], rfl⟩
  obtain ⟨c5, c6, c7, c8, c9, h3⟩ := ts_L3 tx ot (cs tx).length (by omega) (cs tx) 0 ((List.range (cs ot).length).map fun k => (((cs tx).length + k : Nat) : Int)) [] .dead .dead .dead .dead .dead (by simp) (by simp; omega)
  have e0 : ((cs tx).length : Int) - 1 - ((0 : Nat) : Int) = (cs tx).length - 1 := by omega
  rw [e0] at h3
  rw [show srows (cs ot) (cs tx) ((List.range (cs ot).length).map fun k => (((cs tx).length + k : Nat) : Int)) [] (((cs tx).length : Int) - 1) = fin (cs tx) (cs ot) from rfl] at h3
  have hc := here_cast (cs tx) (cs ot)
  have hl1 : (fin (cs tx) (cs ot)).1.length = (cs ot).length := by unfold fin; rw [(srows_len _ _ _ _ _).1]; simp
  have hl2 : (fin (cs tx) (cs ot)).2.length = (cs tx).length := by unfold fin; rw [(srows_len _ _ _ _ _).2]; simp
  have ef := ends_from_ok (here (cs tx) (cs ot)) (by rw [here_length]; omega) (here_lt _ _) true
  have ga : gAdd [.lst true ((fin (cs tx) (cs ot)).1.map .int), .lst true ((fin (cs tx) (cs ot)).2.reverse.map .int)] = some (.lst true ((here (cs tx) (cs ot)).map fun s => .int (s : Nat))) := by
    rw [gAdd_lst, if_pos ⟨by simp; omega, ownL_intsS _, ownL_intsS _⟩, ← List.map_append, hc, List.map_map]
    rfl
  have gr : gRevL [.lst true ((fin (cs tx) (cs ot)).2.map .int)] = some (.lst true ((fin (cs tx) (cs ot)).2.reverse.map .int)) := by
    rw [gRevL_lst, if_pos (ownL_intsS _), List.map_reverse]
  rw [show invN (here (cs tx) (cs ot)) 0 (List.replicate (here (cs tx) (cs ot)).length 0) = strands (cs tx) (cs ot) from rfl] at ef
  generalize (fin (cs tx) (cs ot)).1.map D.int = F1 at *
  generalize (fin (cs tx) (cs ot)).2.reverse.map D.int = F3 at *
  generalize (fin (cs tx) (cs ot)).2.map D.int = F2 at *
  generalize (here (cs tx) (cs ot)).map (fun s => D.int (s : Nat)) = F4 at *
  have hlt : (cs tx).length ≤ 10000000 := by omega
  have hlo : (cs ot).length ≤ 10000000 := by omega
  have h62 : rngOk ((cs ot).length : Int) = true := rngOk_small (by omega) (by omega)
  rw [List.map_map] at h3
  generalize hz : (List.range (cs ot).length).map (D.int ∘ fun k => (((cs tx).length + k : Nat) : Int)) = z at h3
  have hz2 : (List.range (cs ot).length).map (fun k => D.int (((cs tx).length + k : Nat) : Int)) = z := hz
  rw [hz2] at lc
  simp only [List.map_nil] at h3
  have s1 : sAsg (eRO [.n 0] gLen) (bName 2) [.val (.str tx) true, .val (.str ot) true, .dead, .dead, .dead, .dead, .dead, .dead, .dead, .dead] = .next [.val (.str tx) true, .val (.str ot) true, .val (.int (cs tx).length) false, .dead, .dead, .dead, .dead, .dead, .dead, .dead] := by simp [len_cs, hlt]
  have s2 : sAsg (eLc (srcR1 (eRO [.n 1] gLen)) (bName 5) (fun env => .ok true env) b_text_strands_E1 [5]) (bName 3) [.val (.str tx) true, .val (.str ot) true, .val (.int (cs tx).length) false, .dead, .dead, .dead, .dead, .dead, .dead, .dead] = .next [.val (.str tx) true, .val (.str ot) true, .val (.int (cs tx).length) false, .val (.lst true z) false, .dead, .dead, .dead, .dead, .dead, .dead] := by simp [len_cs, hlo, h62, lc]
  have s3 : sAsg (eLst (aNil)) (bName 4) [.val (.str tx) true, .val (.str ot) true, .val (.int (cs tx).length) false, .val (.lst true z) false, .dead, .dead, .dead, .dead, .dead, .dead] = .next [.val (.str tx) true, .val (.str ot) true, .val (.int (cs tx).length) false, .val (.lst true z) false, .val (.lst true []) false, .dead, .dead, .dead, .dead, .dead] := by simp
  have s4 : sFor (srcN itemsEn 0) (bTup [bName 5, bName 6]) b_text_strands_L3 [.val (.str tx) true, .val (.str ot) true, .val (.int (cs tx).length) false, .val (.lst true z) false, .val (.lst true []) false, .dead, .dead, .dead, .dead, .dead] = .next [.val (.str tx) true, .val (.str ot) true, .val (.int (cs tx).length) false, .val (.lst true F1) false, .val (.lst true F2) false, c5, c6, c7, c8, c9] := by simp [enD_chs, h3]
  have s5 : sRet (eCall f_ends_from [.e (eRO [.n 3, .e (eRO [.n 4] gRevL)] gAdd)]) [.val (.str tx) true, .val (.str ot) true, .val (.int (cs tx).length) false, .val (.lst true F1) false, .val (.lst true F2) false, c5, c6, c7, c8, c9] = .ret (.tup ((strands (cs tx) (cs ot)).map .int)) [.val (.str tx) true, .val (.str ot) true, .val (.int (cs tx).length) false, .val (.lst true F1) false, .val (.lst true F2) false, c5, c6, c7, c8, c9] := by simp [gr, ga, ef]
  have h0 : b_text_strands [.val (.str tx) true, .val (.str ot) true, .dead, .dead, .dead, .dead, .dead, .dead, .dead, .dead] = .ret (.tup ((strands (cs tx) (cs ot)).map .int)) [.val (.str tx) true, .val (.str ot) true, .val (.int (cs tx).length) false, .val (.lst true F1) false, .val (.lst true F2) false, c5, c6, c7, c8, c9] := by
    unfold b_text_strands
    rw [sSeq_def, s1, seq_next, sSeq_def, s2, seq_next, sSeq_def, s3, seq_next, sSeq_def, s4, seq_next, s5]
  unfold f_text_strands fBody
  show (match b_text_strands [.val (.str tx) true, .val (.str ot) true, .dead, .dead, .dead, .dead, .dead, .dead, .dead, .dead] with
    | .next e => FRes.ok .non ((e.take 2).map clB)
    | .ret d e => FRes.ok d ((e.take 2).map clB)
    | .err c e => FRes.err c ((e.take 2).map clB)
    | _ => FRes.bad) = _
  rw [h0]
  rfl
end K90

namespace K90
open PySem VS
theorem cutD_lo (l : List D) (k : Nat) : cutD l (some (k : Int)) none = l.drop k := by
  unfold cutD
  rw [show HT.sIx l.length 0 (some (k : Int)) = min k l.length from HT.sIx_nat l.length 0 k, HT.sIx_none]
  by_cases h : k ≤ l.length
  · rw [Nat.min_eq_left h, List.take_of_length_le (by rw [List.length_drop]; omega)]
  · rw [Nat.min_eq_right (by omega), List.drop_of_length_le (by omega), List.drop_of_length_le (by omega)]
    simp
def win (S : List Int) (m st en : Nat) : Int := (en : Int) - st - ((S.drop (m + st)).countP fun p => decide (p < (en : Int)))
theorem window_by_ok (S : List Int) (m st en : Nat) (hS : S.length ≤ 10000) : f_window_by [.tup (S.map .int), .int m, .int st, .int en] = .ok (.int (win S m st en)) [some (.tup (S.map .int)), some (.int m), some (.int st), some (.int en)] := by
  have hs : gSlLo [.tup (S.map .int), .int ((m : Int) + st)] = some (.tup ((S.drop (m + st)).map .int)) := by
    show gSl (.tup (S.map .int)) (some ((m : Int) + st)) none = _
    show (if ownL (S.map D.int) = false then some (D.tup (cutD (S.map .int) (some ((m : Int) + st)) none)) else none) = _
    have e : ((m : Int) + st) = ((m + st : Nat) : Int) := by omega
    rw [if_pos (ownL_intsS _), e, cutD_lo, List.map_drop]
  have hi : itemsD (.tup ((S.drop (m + st)).map .int)) = some ((S.drop (m + st)).map .int) := itemsD_tup (ownL_intsS _)
  have lc : lcRun (bName 4) b_window_by_C1 b_window_by_E2 [4] ((S.drop (m + st)).map .int) [] [.val (.tup (S.map .int)) true, .val (.int m) true, .val (.int st) true, .val (.int en) true, .dead] =
      .ok (((S.drop (m + st)).filter fun p => decide (p < (en : Int))).map .int) [.val (.tup (S.map .int)) true, .val (.int m) true, .val (.int st) true, .val (.int en) true, .dead] := by
    have := lc_over (cond := b_window_by_C1) (elt := b_window_by_E2) (b := bName 4) (vs := [4]) (K0 := [.val (.tup (S.map .int)) true, .val (.int m) true, .val (.int st) true, .val (.int en) true, .dead]) D.int D.int (fun p => decide (p < (en : Int))) (S.drop (m + st)) [] [.val (.tup (S.map .int)) true, .val (.int m) true, .val (.int st) true, .val (.int en) true, .dead] rfl (by simp; omega) fun x _ =>
      ⟨_, rfl, [.val (.tup (S.map .int)) true, .val (.int m) true, .val (.int st) true, .val (.int en) true, .val (.int x) false], by simp [b_window_by_C1], fun _ => rfl, fun _ => ⟨[.val (.tup (S.map .int)) true, .val (.int m) true, .val (.int st) true, .val (.int en) true, .val (.int x) false], by simp [b_window_by_E2], rfl⟩⟩
    simpa using this
  generalize hT : (S.drop (m + st)).map D.int = T at *
  generalize hU : S.map D.int = U at *
  have hw : win S m st en = (en : Int) - st - (((S.drop (m + st)).filter fun p => decide (p < (en : Int))).map D.int).length := by unfold win; rw [List.length_map, List.countP_eq_length_filter]
  rw [hw]
  generalize (((S.drop (m + st)).filter fun p => decide (p < (en : Int))).map D.int) = F at *
  simp [f_window_by, b_window_by, hs, hi, lc]
theorem rng0 (n : Nat) : rngD 0 n = (List.range n).map fun k => .int (k : Nat) := by unfold rngD; simp
theorem rngF (a b : Nat) : rngD a b = (List.range (b - a)).map fun k => .int ((a + k : Nat) : Int) := by
  unfold rngD
  have e : ((b : Int) - a).toNat = b - a := by omega
  rw [e]
  exact List.map_congr_left fun x _ => by simp
def wrow (S : List Int) (m n st : Nat) : List Int := (List.range (n + 1 - st)).map fun j => win S m st (st + j)
theorem wo_E1 (tx ot : Str) (S : List Int) (n st : Nat) (hS : S.length ≤ 10000) (hn : n ≤ 1000) (ht : (cs tx).length ≤ 1000) (c4 : Cl) (x6 : Cl) : lcRun (bName 6) (fun env => .ok true env) b_windows_of_E1 [6] (rngD st ((n + 1 : Nat) : Int)) [] [.val (.str tx) true, .val (.str ot) true, .val (.tup (S.map .int)) false, .val (.int n) false, c4, .val (.int st) false, x6] =
    .ok ((wrow S (cs tx).length n st).map .int) [.val (.str tx) true, .val (.str ot) true, .val (.tup (S.map .int)) false, .val (.int n) false, c4, .val (.int st) false, .dead] := by
  rw [rngF]
  unfold wrow
  rw [List.map_map]
  have hlt : (cs tx).length ≤ 10000000 := by omega
  refine lc_all _ _ rfl (by simp; omega) fun j _ => ⟨_, rfl, [.val (.str tx) true, .val (.str ot) true, .val (.tup (S.map .int)) false, .val (.int n) false, c4, .val (.int st) false, .val (.int ((st + j : Nat) : Int)) false], ?_, rfl⟩
  have h := window_by_ok S (cs tx).length st (st + j) hS
  have ho : ownL (S.map D.int) = false := ownL_intsS _
  generalize S.map D.int = U at *
  simp only [Int.natCast_add] at h
  simp only [Function.comp]
  simp [b_windows_of_E1, len_cs, hlt, h, ho]
def wrows (S : List Int) (m n : Nat) (k : Nat) : List D := (List.range k).map fun st => .lst true ((wrow S m n st).map .int)
theorem wo_L2 (tx ot : Str) (S : List Int) (n : Nat) (hS : S.length ≤ 10000) (hn : n ≤ 1000) (ht : (cs tx).length ≤ 1000) (c5 c6 : Cl) : ∃ c5' c6', forRun (bName 5) b_windows_of_L2 (rngD 0 ((n + 1 : Nat) : Int)) [.val (.str tx) true, .val (.str ot) true, .val (.tup (S.map .int)) false, .val (.int n) false, .val (.lst true []) false, c5, c6] =
    .next [.val (.str tx) true, .val (.str ot) true, .val (.tup (S.map .int)) false, .val (.int n) false, .val (.lst true (wrows S (cs tx).length n (n + 1))) false, c5', c6'] := by
  rw [rng0]
  obtain ⟨e', h1, c5', c6', h2⟩ := for_inv (b := bName 5) (body := b_windows_of_L2) (ds := (List.range (n + 1)).map fun k => .int (k : Nat)) (fun i e => ∃ c5 c6, e = [.val (.str tx) true, .val (.str ot) true, .val (.tup (S.map .int)) false, .val (.int n) false, .val (.lst true (wrows S (cs tx).length n i)) false, c5, c6])
    ⟨c5, c6, rfl⟩ fun i d e hd ⟨x5, x6, he⟩ => by
      subst he
      rw [List.getElem?_map] at hd
      obtain ⟨k, hk, rfl⟩ := Option.map_eq_some_iff.mp hd
      have hk2 : k = i ∧ i < n + 1 := by
        have := List.getElem?_eq_some_iff.mp hk
        obtain ⟨hlt, e⟩ := this
        rw [List.getElem_range] at e
        rw [List.length_range] at hlt
        exact ⟨e.symm, hlt⟩
      obtain ⟨rfl, hlt⟩ := hk2
      refine ⟨_, rfl, _, .inl ?_, .val (.int k) false, .dead, rfl⟩
      have lc := wo_E1 tx ot S n k hS hn ht (.val (.lst true (wrows S (cs tx).length n k)) false) x6
      have e1 : wrows S (cs tx).length n (k + 1) = wrows S (cs tx).length n k ++ [.lst true ((wrow S (cs tx).length n k).map .int)] := by unfold wrows; rw [List.range_succ, List.map_append]; rfl
      have hl : (wrows S (cs tx).length n k).length < 10000000 := by unfold wrows; simp; omega
      rw [e1]
      generalize S.map D.int = U at *
      generalize wrows S (cs tx).length n k = R at *
      generalize (wrow S (cs tx).length n k).map D.int = Q at *
      have o1 : rngOk (k : Int) = true := rngOk_small (by omega) (by omega)
      have o2 : rngOk ((n : Int) + 1) = true := rngOk_small (by omega) (by omega)
      simp only [Int.natCast_add, Int.cast_ofNat_Int] at lc
      simp [b_windows_of_L2, eAppend, o1, o2, lc, hl]
  rw [List.length_map, List.length_range] at h2
  rw [h2] at h1
  exact ⟨c5', c6', h1⟩
/-- the table of windows, by the strands -/
def wtab (a b : List Nat) : List (List Int) := if a = [] ∧ b = [] then [[0]] else (List.range (b.length + 1)).map fun st => wrow (strands a b) a.length b.length st
def tabD (T : List (List Int)) : D := .lst true (T.map fun r => .lst true (r.map .int))
theorem cs_nil {x : Str} : x = "" ↔ cs x = [] := by
  constructor
  · rintro rfl; rfl
  · intro h
    obtain ⟨⟨l⟩⟩ := x
    have : l = [] := h
    subst this
    rfl
theorem windows_of_ok (tx ot : Str) (hb : (cs ot).length ≤ 400) (ht : (cs tx).length ≤ 400) : f_windows_of [.str tx, .str ot] = .ok (tabD (wtab (cs tx) (cs ot))) [some (.str tx), some (.str ot)] := by
  by_cases h0 : tx = "" ∧ ot = ""
  · obtain ⟨rfl, rfl⟩ := h0
    rfl
  · have h1 := text_strands_ok tx ot hb ht
    have hS : (strands (cs tx) (cs ot)).length ≤ 10000 := by unfold strands; rw [invN_length, List.length_replicate, here_length]; omega
    obtain ⟨c5, c6, h2⟩ := wo_L2 tx ot (strands (cs tx) (cs ot)) (cs ot).length hS (by omega) (by omega) .dead .dead
    have e : tabD (wtab (cs tx) (cs ot)) = .lst true (wrows (strands (cs tx) (cs ot)) (cs tx).length (cs ot).length ((cs ot).length + 1)) := by
      have h3 : ¬ (cs tx = [] ∧ cs ot = []) := fun h => h0 ⟨cs_nil.mpr h.1, cs_nil.mpr h.2⟩
      unfold tabD wtab wrows
      rw [if_neg h3, List.map_map]
      rfl
    rw [e]
    have ho : ownL ((strands (cs tx) (cs ot)).map D.int) = false := ownL_intsS _
    have hf : frzL ((strands (cs tx) (cs ot)).map D.int) = (strands (cs tx) (cs ot)).map D.int := frzL_ints _
    generalize (strands (cs tx) (cs ot)).map D.int = U at *
    generalize wrows (strands (cs tx) (cs ot)) (cs tx).length (cs ot).length ((cs ot).length + 1) = R at *
    have hlo : (cs ot).length ≤ 10000000 := by omega
    have o2 : rngOk (((cs ot).length : Int) + 1) = true := rngOk_small (by omega) (by omega)
    simp only [Int.natCast_add, Int.cast_ofNat_Int] at h2
    by_cases h3 : tx = ""
    · have h4 : ¬ ot = "" := fun h => h0 ⟨h3, h⟩
      subst h3
      simp [f_windows_of, b_windows_of, h4, h1, hf, len_cs, hlo, o2, h2]
    · simp [f_windows_of, b_windows_of, h3, h1, hf, len_cs, hlo, o2, h2]
end K90

namespace K90
open PySem VS
/-! ### why the strands tell the windows -/
def bit (th x : Int) : Int := if th ≤ x then 1 else 0
def tailOf (th r : Int) : List Int → List Int
  | [] => []
  | d :: ds => (r + 1 - bit th d) :: tailOf th (r + 1 - bit th d) ds
theorem stp_srow (th : Int) (c : Nat) : ∀ (W : List Int) (v : List Nat) (r al : Int), W.length = v.length → stp c r (tailOf th r W) v (r + bit th al) = tailOf th (r + bit th al) (srow c W v al).1
  | [], [], _, _, _ => rfl
  | [], _ :: _, _, _, h => by simp at h
  | _ :: _, [], _, _, h => by simp at h
  | d :: ds, s :: v, r, al, h => by
    have key : (if s = c then r + 1 else max (r + 1 - bit th d) (r + bit th al)) = r + bit th al + 1 - bit th (sw c s d al).1 ∧ (if s = c then r + 1 else max (r + 1 - bit th d) (r + bit th al)) = r + 1 - bit th d + bit th (sw c s d al).2 := by
      unfold sw
      by_cases hc : c = s
      · rw [if_pos hc.symm, if_pos (.inl hc)]
        constructor <;> dsimp only <;> omega
      · rw [if_neg (fun e => hc e.symm)]
        by_cases hd : d < al
        · rw [if_pos (.inr hd)]
          unfold bit
          constructor <;> dsimp only <;> split <;> split <;> omega
        · rw [if_neg (by rintro (z | z); exact hc z; exact hd z)]
          unfold bit
          constructor <;> dsimp only <;> split <;> split <;> omega
    obtain ⟨k1, k2⟩ := key
    have ih := stp_srow th c ds v (r + 1 - bit th d) (sw c s d al).2 (by simpa using h)
    show (if s = c then r + 1 else max (r + 1 - bit th d) (r + bit th al)) :: stp c (r + 1 - bit th d) (tailOf th (r + 1 - bit th d) ds) v (if s = c then r + 1 else max (r + 1 - bit th d) (r + bit th al)) =
      (r + bit th al + 1 - bit th (sw c s d al).1) :: tailOf th (r + bit th al + 1 - bit th (sw c s d al).1) (srow c ds v (sw c s d al).2).1
    rw [← k1, k2, ih]
def rowOf (th : Int) (W : List Int) : List Int := 0 :: tailOf th 0 W
theorem nextRow_rowOf {th : Int} {c : Nat} {W : List Int} {v : List Nat} {al : Int} (h : W.length = v.length) (ha : al < th) : nextRow c v (rowOf th W) = rowOf th (srow c W v al).1 := by
  have hb : bit th al = 0 := by unfold bit; rw [if_neg (by omega)]
  have := stp_srow th c W v 0 al h
  rw [hb] at this
  show 0 :: stp c 0 (tailOf th 0 W) v 0 = 0 :: tailOf th 0 (srow c W v al).1
  rw [show (0 : Int) + 0 = 0 from rfl] at this
  rw [this]
theorem srow_append (c : Nat) : ∀ (X : List Int) (bX : List Nat) (Y : List Int) (bY : List Nat) (al : Int), X.length = bX.length → srow c (X ++ Y) (bX ++ bY) al = ((srow c X bX al).1 ++ (srow c Y bY (srow c X bX al).2).1, (srow c Y bY (srow c X bX al).2).2)
  | [], [], Y, bY, al, _ => by simp [srow]
  | [], _ :: _, _, _, _, h => by simp at h
  | _ :: _, [], _, _, _, h => by simp at h
  | d :: X, s :: bX, Y, bY, al, h => by
    have ih := srow_append c X bX Y bY (sw c s d al).2 (by simpa using h)
    rw [List.cons_append, List.cons_append, srow, ih]
    rfl
theorem srow_low {th : Int} {c : Nat} {A : List Int} {bA : List Nat} {al : Int} (hA : ∀ x ∈ A, x < th) (ha : al < th) : (∀ x ∈ (srow c A bA al).1, x < th) ∧ (srow c A bA al).2 < th := by
  have p := srow_perm c A bA al
  have all : ∀ x ∈ (srow c A bA al).2 :: (srow c A bA al).1, x < th := fun x hx => by
    rcases List.mem_cons.mp (p.mem_iff.mp hx) with e | e
    · rw [e]; exact ha
    · exact hA x e
  exact ⟨fun x hx => all x (List.mem_cons_of_mem _ hx), all _ List.mem_cons_self⟩
theorem srows_window {th : Int} (bA v bC : List Nat) : ∀ (a : List Nat) (A W C ends : List Int) (al : Int), A.length = bA.length → W.length = v.length → (∀ x ∈ A, x < th) → al < th →
    ∃ A' W' C', (srows (bA ++ (v ++ bC)) a (A ++ (W ++ C)) ends al).1 = A' ++ (W' ++ C') ∧ A'.length = A.length ∧ W'.length = W.length ∧ (∀ x ∈ A', x < th) ∧ a.foldl (fun row c => nextRow c v row) (rowOf th W) = rowOf th W'
  | [], A, W, C, ends, al, h1, h2, h3, h4 => ⟨A, W, C, rfl, rfl, rfl, h3, rfl⟩
  | c :: a, A, W, C, ends, al, h1, h2, h3, h4 => by
    have e1 := srow_append c A bA (W ++ C) (v ++ bC) al h1
    obtain ⟨l1, l2⟩ := srow_low (c := c) (bA := bA) h3 h4
    have e2 := srow_append c W v C bC (srow c A bA al).2 h2
    have hn := nextRow_rowOf (c := c) h2 l2
    obtain ⟨A', W', C', g1, g2, g3, g4, g5⟩ := srows_window bA v bC a (srow c A bA al).1 (srow c W v (srow c A bA al).2).1 (srow c C bC (srow c W v (srow c A bA al).2).2).1 (ends ++ [(srow c (A ++ (W ++ C)) (bA ++ (v ++ bC)) al).2]) (al - 1) (by rw [srow_length, h1]) (by rw [srow_length, h2]) l1 (by omega)
    refine ⟨A', W', C', ?_, by rw [g2, srow_length], by rw [g3, srow_length], g4, ?_⟩
    · rw [srows, ← g1]
      congr 2
      rw [e1, e2]
    · rw [List.foldl_cons, hn, g5]
theorem tailOf_last (th : Int) : ∀ (W : List Int) (r : Int), (r :: tailOf th r W).getLast?.getD 0 = r + W.length - (W.countP fun x => decide (th ≤ x))
  | [], r => by simp [tailOf]
  | d :: W, r => by
    have ih := tailOf_last th W (r + 1 - bit th d)
    rw [tailOf]
    have e : (r :: (r + 1 - bit th d) :: tailOf th (r + 1 - bit th d) W).getLast?.getD 0 = ((r + 1 - bit th d) :: tailOf th (r + 1 - bit th d) W).getLast?.getD 0 := by
      rw [List.getLast?_cons_cons]
    rw [e, ih, List.countP_cons]
    unfold bit
    by_cases h : th ≤ d <;> simp [h] <;> omega
theorem tailOf_high {th : Int} : ∀ (W : List Int), (∀ x ∈ W, th ≤ x) → tailOf th 0 W = List.replicate W.length 0
  | [], _ => rfl
  | d :: W, h => by
    have hb : bit th d = 1 := by unfold bit; rw [if_pos (h d List.mem_cons_self)]
    rw [tailOf, hb, show (0 : Int) + 1 - 1 = 0 from rfl, tailOf_high W fun x hx => h x (List.mem_cons_of_mem _ hx)]
    rfl
/-- how many strands from m + st on end below e -/
theorem fin_window (a b : List Nat) (st j : Nat) (h : st + j ≤ b.length) : (j : Int) - (((fin a b).1.take (st + j)).countP fun x => decide (((a.length + st : Nat) : Int) ≤ x)) = lastR a ((b.drop st).take j) := by
  have eb : b = b.take st ++ ((b.drop st).take j ++ (b.drop st).drop j) := by rw [List.take_append_drop, List.take_append_drop]
  generalize hD : (List.range b.length).map (fun k => ((a.length + k : Nat) : Int)) = D0
  have hl : D0.length = b.length := by rw [← hD]; simp
  have eD : D0 = D0.take st ++ ((D0.drop st).take j ++ (D0.drop st).drop j) := by rw [List.take_append_drop, List.take_append_drop]
  have low : ∀ x ∈ D0.take st, x < ((a.length + st : Nat) : Int) := fun x hx => by
    obtain ⟨i, hi, rfl⟩ := List.mem_iff_getElem.mp hx
    rw [List.length_take] at hi
    simp only [List.getElem_take, ← hD, List.getElem_map, List.getElem_range]
    omega
  have high : ∀ x ∈ (D0.drop st).take j, ((a.length + st : Nat) : Int) ≤ x := fun x hx => by
    have hx := List.mem_of_mem_take hx
    obtain ⟨i, hi, rfl⟩ := List.mem_iff_getElem.mp hx
    simp only [List.getElem_drop, ← hD, List.getElem_map, List.getElem_range]
    omega
  have hv : ((D0.drop st).take j).length = ((b.drop st).take j).length := by simp [hl]
  have hvj : ((b.drop st).take j).length = j := by simp; omega
  obtain ⟨A', W', C', g1, g2, g3, g4, g5⟩ := srows_window (b.take st) ((b.drop st).take j) ((b.drop st).drop j) a (D0.take st) ((D0.drop st).take j) ((D0.drop st).drop j) [] ((a.length : Int) - 1) (by simp [hl]) hv low (by omega)
  rw [← eb, ← eD] at g1
  have ef : (fin a b).1 = A' ++ (W' ++ C') := by unfold fin; rw [hD]; exact g1
  have lA : A'.length = st := by rw [g2]; simp; omega
  have lW : W'.length = j := by rw [g3, hv, hvj]
  have er : rows a ((b.drop st).take j) = rowOf ((a.length + st : Nat) : Int) W' := by
    rw [← g5]
    unfold rows rowOf
    rw [tailOf_high _ high, hv]
    rfl
  unfold lastR
  rw [er]
  show _ = (0 :: tailOf _ 0 W').getLast?.getD 0
  rw [tailOf_last, ef, lW]
  have et : (A' ++ (W' ++ C')).take (st + j) = A' ++ W' := by
    rw [← List.append_assoc, List.take_append_of_le_length (by simp; omega), List.take_of_length_le (by simp; omega)]
  rw [et, List.countP_append]
  have e0 : A'.countP (fun x => decide (((a.length + st : Nat) : Int) ≤ x)) = 0 := by
    rw [List.countP_eq_zero]
    intro x hx
    have := g4 x hx
    simp only [decide_eq_true_eq]
    omega
  rw [e0]
  omega
end K90

namespace K90
open PySem VS
theorem invN_keep : ∀ (l : List Nat) (k : Nat) (acc : List Int) (s : Nat), s ∉ l → (invN l k acc)[s]? = acc[s]?
  | [], _, _, _, _ => rfl
  | t :: l, k, acc, s, h => by
    rw [invN, invN_keep l _ _ s fun z => h (List.mem_cons_of_mem _ z), List.getElem?_set_ne fun z => h (by rw [z]; exact List.mem_cons_self)]
theorem invN_get : ∀ (l : List Nat) (k : Nat) (acc : List Int) (i s : Nat), l.Nodup → (∀ t ∈ l, t < acc.length) → l[i]? = some s → (invN l k acc)[s]? = some (((k + i : Nat) : Int))
  | [], _, _, _, _, _, _, h => by simp at h
  | t :: l, k, acc, 0, s, nd, hl, h => by
    obtain rfl : t = s := by simpa using h
    rw [invN, invN_keep l _ _ t (List.nodup_cons.mp nd).1, List.getElem?_set_self (hl t List.mem_cons_self)]
    rfl
  | t :: l, k, acc, i + 1, s, nd, hl, h => by
    rw [invN, invN_get l (k + 1) (acc.set t (k : Int)) i s (List.nodup_cons.mp nd).2 (fun u hu => by rw [List.length_set]; exact hl u (List.mem_cons_of_mem _ hu)) (by simpa using h)]
    congr 2
    omega
theorem window_count {hn : List Nat} {N : Nat} (p : hn.Perm (List.range N)) (q e : Nat) : ((invN hn 0 (List.replicate hn.length 0)).drop q).countP (fun x => decide (x < (e : Int))) = (hn.take e).countP fun x => decide (q ≤ x) := by
  have nd : hn.Nodup := p.nodup_iff.mpr List.nodup_range
  have hN : hn.length = N := by rw [p.length_eq, List.length_range]
  have hlt : ∀ t ∈ hn, t < (List.replicate hn.length (0 : Int)).length := fun t ht => by
    rw [List.length_replicate, hN]
    exact List.mem_range.mp (p.mem_iff.mp ht)
  have get : ∀ i s, hn[i]? = some s → (invN hn 0 (List.replicate hn.length 0))[s]? = some ((i : Nat) : Int) := fun i s h => by
    have := invN_get hn 0 _ i s nd hlt h
    rw [this]
    congr 2
    omega
  generalize hS : invN hn 0 (List.replicate hn.length 0) = S at get
  have lS : S.length = N := by rw [← hS, invN_length, List.length_replicate, hN]
  have eS : S = (List.range N).map fun s => S[s]?.getD 0 := by
    apply List.ext_getElem
    · simp [lS]
    · intro i h1 h2
      simp [List.getElem?_eq_getElem h1]
  have c1 : (S.drop q).countP (fun x => decide (x < (e : Int))) = ((List.range N).drop q).countP fun s => decide (S[s]?.getD 0 < (e : Int)) := by
    conv => lhs; rw [eS, ← List.map_drop, List.countP_map]
    rfl
  have c2 : ((List.range N).drop q).countP (fun s => decide (S[s]?.getD 0 < (e : Int))) = (List.range N).countP fun s => decide (q ≤ s) && decide (S[s]?.getD 0 < (e : Int)) := by
    conv => rhs; rw [← List.take_append_drop q (List.range N), List.countP_append]
    have z : ((List.range N).take q).countP (fun s => decide (q ≤ s) && decide (S[s]?.getD 0 < (e : Int))) = 0 := by
      rw [List.countP_eq_zero]
      intro x hx
      obtain ⟨i, hi, rfl⟩ := List.mem_iff_getElem.mp hx
      rw [List.length_take] at hi
      have : ¬ q ≤ i := by omega
      simp [this]
    rw [z, Nat.zero_add]
    refine List.countP_congr fun x hx => ?_
    obtain ⟨i, hi, rfl⟩ := List.mem_iff_getElem.mp hx
    simp
  have c3 := (p.countP_eq fun s => decide (q ≤ s) && decide (S[s]?.getD 0 < (e : Int))).symm
  have c4 : hn.countP (fun s => decide (q ≤ s) && decide (S[s]?.getD 0 < (e : Int))) = (hn.take e).countP fun x => decide (q ≤ x) := by
    conv => lhs; rw [← List.take_append_drop e hn, List.countP_append]
    have z : (hn.drop e).countP (fun s => decide (q ≤ s) && decide (S[s]?.getD 0 < (e : Int))) = 0 := by
      rw [List.countP_eq_zero]
      intro x hx
      obtain ⟨i, hi, rfl⟩ := List.mem_iff_getElem.mp hx
      rw [List.length_drop] at hi
      have g := get (e + i) _ (List.getElem?_eq_getElem (by omega))
      rw [List.getElem_drop, g]
      have : ¬ (((e + i : Nat) : Int) < (e : Int)) := by omega
      simp
      omega
    rw [z, Nat.add_zero]
    refine List.countP_congr fun x hx => ?_
    obtain ⟨i, hi, rfl⟩ := List.mem_iff_getElem.mp hx
    rw [List.length_take] at hi
    have g := get i _ (List.getElem?_eq_getElem (by omega))
    rw [List.getElem_take, g]
    have : ((i : Nat) : Int) < (e : Int) := by omega
    simp [this]
  rw [c1, c2, c3, c4]
theorem win_is (a b : List Nat) (st j : Nat) (h : st + j ≤ b.length) : win (strands a b) a.length st (st + j) = lastR a ((b.drop st).take j) := by
  have p := here_perm a b
  have hw := window_count p (a.length + st) (st + j)
  have hl1 : (fin a b).1.length = b.length := by unfold fin; rw [(srows_len _ _ _ _ _).1]; simp
  have hh : (here a b).take (st + j) = ((fin a b).1.take (st + j)).map Int.toNat := by
    unfold here
    rw [List.map_append, List.take_append_of_le_length (by simp; omega), List.map_take]
  have hc : ((here a b).take (st + j)).countP (fun x => decide (a.length + st ≤ x)) = ((fin a b).1.take (st + j)).countP fun x => decide (((a.length + st : Nat) : Int) ≤ x) := by
    rw [hh, List.countP_map]
    refine List.countP_congr fun x hx => ?_
    have hx2 : x ∈ (fin a b).1 ++ (fin a b).2.reverse := List.mem_append_left _ (List.mem_of_mem_take hx)
    obtain ⟨k, _, rfl⟩ := List.mem_map.mp ((fin_perm a b).mem_iff.mp hx2)
    simp
    omega
  have := fin_window a b st j h
  unfold win strands
  rw [hw, hc, ← this]
  omega
/-- the table of windows -/
def T (a b : List Nat) : List (List Int) := (List.range (b.length + 1)).map fun st => (List.range (b.length + 1 - st)).map fun j => lastR a ((b.drop st).take j)
theorem wtab_T (a b : List Nat) : wtab a b = T a b := by
  unfold wtab
  by_cases h0 : a = [] ∧ b = []
  · rw [if_pos h0]
    obtain ⟨rfl, rfl⟩ := h0
    rfl
  · rw [if_neg h0]
    unfold T
    refine List.map_congr_left fun st hst => ?_
    unfold wrow
    refine List.map_congr_left fun j hj => ?_
    have h1 := List.mem_range.mp hst
    have h2 := List.mem_range.mp hj
    exact win_is a b st j (by omega)
end K90

namespace K90
open PySem VS
/-! ### what is asked from outside -/
def isDs (d : D) : Bool := okTx d
theorem isT_len {x : Str} (h : isT x = true) : (cs x).length ≤ 6 := by
  unfold isT at h
  rw [Bool.and_eq_true] at h
  exact of_decide_eq_true h.1
theorem isT_ok {x : Str} (h : isT x = true) : okTx (.str x) = true := by
  have := isT_len h
  exact decide_eq_true (by omega)
theorem shared_ok (tx ot : Str) (h1 : isT tx = true) (h2 : isT ot = true) : f_shared [.str tx, .str ot] = .ok (.int (lastR (cs tx) (cs ot))) [some (.str tx), some (.str ot)] := by
  have l2 := isT_len h2
  obtain ⟨w, hr⟩ := shared_row_ok tx ot (by omega)
  have hn := need_texts_any (.str tx) (.str ot) (isT_ok h1) (isT_ok h2)
  rw [show isTx (.str tx) = true from h1, show isTx (.str ot) = true from h2] at hn
  have hx := gIx_last (w := false) (a := cs tx) (v := cs ot)
  have hf : frzL ((rows (cs tx) (cs ot)).map D.int) = (rows (cs tx) (cs ot)).map D.int := frzL_ints _
  generalize (rows (cs tx) (cs ot)).map D.int = R at *
  simp at hn
  simp [f_shared, b_shared, hn, hr, hf, hx]
theorem T_length (a b : List Nat) : (T a b).length = b.length + 1 := by unfold T; simp
theorem T_get {a b : List Nat} {st j : Nat} (h : st + j ≤ b.length) : ∃ r, (T a b)[st]? = some r ∧ r[j]? = some (lastR a ((b.drop st).take j)) := by
  refine ⟨(List.range (b.length + 1 - st)).map fun j => lastR a ((b.drop st).take j), ?_, ?_⟩
  · unfold T
    rw [List.getElem?_map, List.getElem?_range (by omega)]; rfl
  · rw [List.getElem?_map, List.getElem?_range (by omega)]; rfl
def tabF (t : List (List Int)) : D := .lst false (t.map fun r => .lst false (r.map .int))
theorem frz_tab (t : List (List Int)) : frz (tabD t) = tabF t := by
  unfold tabD tabF
  simp
theorem own_tabF (t : List (List Int)) : own (tabF t) = false := by rw [← frz_tab]; exact own_frz _
theorem ownL_tabF (t : List (List Int)) : ownL (t.map fun r => D.lst false (r.map .int)) = false := by
  have := own_tabF t
  unfold tabF at this
  simpa using this
theorem gIx_tab {t : List (List Int)} {i : Nat} {r : List Int} (h : t[i]? = some r) (k : Int) (hk : k = i) : gIx [tabF t, .int k] = some (.lst false (r.map .int)) := by
  subst hk
  have e : L2.atI (t.map fun r => D.lst false (r.map .int)) (i : Int) = some (.lst false (r.map .int)) := L2.atI_nat (by rw [List.getElem?_map, h]; rfl)
  show gIx [.lst false (t.map fun r => D.lst false (r.map .int)), .int (i : Int)] = _
  rw [gIx_lst, e]
  have ho : own (D.lst false (r.map .int)) = false := by simp
  simp [ho]
/-- shared_window on values of any kind -/
def rightIx (d : D) (a b : Int) : Bool := inR d a b
theorem sw_text (d e s t : D) (h1 : okTx d = true) (h2 : okTx e = true) (h3 : own s = false) (h4 : own t = false) (hbad : (isTx d && isTx e) = false) : ∃ bs, f_shared_window [d, e, s, t] = .err "BadText" bs := by
  have hn := need_texts_any d e h1 h2
  rw [hbad] at hn
  have o1 := okTx_own h1
  have o2 := okTx_own h2
  refine ⟨[some d, some e, some s, some t], ?_⟩
  simp at hn
  simp [f_shared_window, b_shared_window, hn, o1, o2]
theorem sw_start (tx ot : Str) (s t : D) (h1 : isT tx = true) (h2 : isT ot = true) (hs : isD s = true) (h3 : own s = false) (h4 : own t = false) (hbad : inR s 0 (cs ot).length = false) : ∃ bs, f_shared_window [.str tx, .str ot, s, t] = .err "BadIndex" bs := by
  have hn := need_texts_any (.str tx) (.str ot) (isT_ok h1) (isT_ok h2)
  rw [show isTx (.str tx) = true from h1, show isTx (.str ot) = true from h2] at hn
  have l2 := isT_len h2
  have hi := need_index_any s ((cs ot).length + 1) hs h3
  have e : ((cs ot).length : Int) + 1 - 1 = (cs ot).length := by omega
  rw [e, hbad] at hi
  have hl : (cs ot).length ≤ 10000000 := by omega
  refine ⟨[some (.str tx), some (.str ot), some s, some t], ?_⟩
  simp at hn hi
  simp [f_shared_window, b_shared_window, hn, hi, len_cs, hl, h3]
theorem sw_end (tx ot : Str) (i : Int) (t : D) (h1 : isT tx = true) (h2 : isT ot = true) (hi0 : inR (.int i) 0 (cs ot).length = true) (ht : isD t = true) (h4 : own t = false) (hbad : inR t i (cs ot).length = false) : ∃ bs, f_shared_window [.str tx, .str ot, .int i, t] = .err "BadIndex" bs := by
  have hn := need_texts_any (.str tx) (.str ot) (isT_ok h1) (isT_ok h2)
  rw [show isTx (.str tx) = true from h1, show isTx (.str ot) = true from h2] at hn
  have l2 := isT_len h2
  have hi := need_index_any (.int i) ((cs ot).length + 1) rfl rfl
  have hj := need_index_from_any t i ((cs ot).length + 1) ht h4
  have e : ((cs ot).length : Int) + 1 - 1 = (cs ot).length := by omega
  rw [e] at hi hj
  rw [hi0] at hi
  rw [hbad] at hj
  have hl : (cs ot).length ≤ 10000000 := by omega
  refine ⟨[some (.str tx), some (.str ot), some (.int i), some t], ?_⟩
  simp at hn hi hj
  simp [f_shared_window, b_shared_window, hn, hi, hj, len_cs, hl, h4]
theorem sw_ok (tx ot : Str) (st j : Nat) (h1 : isT tx = true) (h2 : isT ot = true) (h : st + j ≤ (cs ot).length) : ∃ bs, f_shared_window [.str tx, .str ot, .int st, .int ((st + j : Nat) : Int)] = .ok (.int (lastR (cs tx) (((cs ot).drop st).take j))) bs := by
  have hn := need_texts_any (.str tx) (.str ot) (isT_ok h1) (isT_ok h2)
  rw [show isTx (.str tx) = true from h1, show isTx (.str ot) = true from h2] at hn
  have l1 := isT_len h1
  have l2 := isT_len h2
  have hi := need_index_any (.int st) ((cs ot).length + 1) rfl rfl
  have hj := need_index_from_any (.int ((st + j : Nat) : Int)) st ((cs ot).length + 1) rfl rfl
  have e : ((cs ot).length : Int) + 1 - 1 = (cs ot).length := by omega
  have i0 : inR (.int st) 0 (cs ot).length = true := by unfold inR; simp; omega
  have j0 : inR (.int ((st + j : Nat) : Int)) st (cs ot).length = true := by unfold inR; simp; omega
  rw [e, i0] at hi
  rw [e, j0] at hj
  have hl : (cs ot).length ≤ 10000000 := by omega
  have hw := windows_of_ok tx ot (by omega) (by omega)
  rw [wtab_T] at hw
  obtain ⟨r, r1, r2⟩ := T_get (a := cs tx) h
  have x1 := gIx_tab r1 st rfl
  have x2 : gIx [.lst false (r.map .int), .int (((st + j : Nat) : Int) - st)] = some (.int (lastR (cs tx) (((cs ot).drop st).take j))) := gIx_ints r2 _ (by omega)
  have hf := frz_tab (T (cs tx) (cs ot))
  refine ⟨[some (.str tx), some (.str ot), some (.int st), some (.int ((st + j : Nat) : Int))], ?_⟩
  generalize tabD (T (cs tx) (cs ot)) = U at *
  generalize tabF (T (cs tx) (cs ot)) = U' at *
  generalize r.map D.int = R at *
  generalize (((st + j : Nat) : Int)) = k at *
  simp at hn hi hj
  simp [f_shared_window, b_shared_window, hn, hi, hj, len_cs, hl, hw, hf, x1, x2]
theorem wt_text (d e : D) (h1 : okTx d = true) (h2 : okTx e = true) (hbad : (isTx d && isTx e) = false) : ∃ bs, f_window_table [d, e] = .err "BadText" bs := by
  have hn := need_texts_any d e h1 h2
  rw [hbad] at hn
  have o1 := okTx_own h1
  have o2 := okTx_own h2
  refine ⟨[some d, some e], ?_⟩
  simp at hn
  simp [f_window_table, b_window_table, hn, o1, o2]
theorem wt_ok (tx ot : Str) (h1 : isT tx = true) (h2 : isT ot = true) : ∃ bs, f_window_table [.str tx, .str ot] = .ok (tabD (T (cs tx) (cs ot))) bs := by
  have hn := need_texts_any (.str tx) (.str ot) (isT_ok h1) (isT_ok h2)
  rw [show isTx (.str tx) = true from h1, show isTx (.str ot) = true from h2] at hn
  have l1 := isT_len h1
  have l2 := isT_len h2
  have hw := windows_of_ok tx ot (by omega) (by omega)
  rw [wtab_T] at hw
  refine ⟨[some (.str tx), some (.str ot)], ?_⟩
  simp at hn
  simp [f_window_table, b_window_table, hn, hw]
theorem ws_text (d e s : D) (h1 : okTx d = true) (h2 : okTx e = true) (h3 : own s = false) (hbad : (isTx d && isTx e) = false) : ∃ bs, f_windows [d, e, s] = .err "BadText" bs := by
  have hn := need_texts_any d e h1 h2
  rw [hbad] at hn
  have o1 := okTx_own h1
  have o2 := okTx_own h2
  refine ⟨[some d, some e, some s], ?_⟩
  simp at hn
  simp [f_windows, b_windows, hn, o1, o2]
theorem ws_number (tx ot : Str) (s : D) (h1 : isT tx = true) (h2 : isT ot = true) (hs : isD s = true) (h3 : own s = false) (hbad : inR s 1 (cs ot).length = false) : ∃ bs, f_windows [.str tx, .str ot, s] = .err "BadNumber" bs := by
  have hn := need_texts_any (.str tx) (.str ot) (isT_ok h1) (isT_ok h2)
  rw [show isTx (.str tx) = true from h1, show isTx (.str ot) = true from h2] at hn
  have l2 := isT_len h2
  have hi := need_number_any s 1 (cs ot).length hs h3
  rw [hbad] at hi
  have hl : (cs ot).length ≤ 10000000 := by omega
  refine ⟨[some (.str tx), some (.str ot), some s], ?_⟩
  simp at hn hi
  simp [f_windows, b_windows, hn, hi, len_cs, hl, h3]
end K90

namespace K90
open PySem VS
def winRow (a b : List Nat) (k : Nat) : List Int := (List.range (b.length - k + 1)).map fun st => lastR a ((b.drop st).take k)
theorem ws_ok (tx ot : Str) (k : Nat) (h1 : isT tx = true) (h2 : isT ot = true) (hk : 1 ≤ k) (hk2 : k ≤ (cs ot).length) : ∃ bs, f_windows [.str tx, .str ot, .int k] = .ok (.lst true ((winRow (cs tx) (cs ot) k).map .int)) bs := by
  have hn := need_texts_any (.str tx) (.str ot) (isT_ok h1) (isT_ok h2)
  rw [show isTx (.str tx) = true from h1, show isTx (.str ot) = true from h2] at hn
  have l1 := isT_len h1
  have l2 := isT_len h2
  have hi := need_number_any (.int k) 1 (cs ot).length rfl rfl
  have i0 : inR (.int k) 1 (cs ot).length = true := by unfold inR; simp; omega
  rw [i0] at hi
  have hl : (cs ot).length ≤ 10000000 := by omega
  have hw := windows_of_ok tx ot (by omega) (by omega)
  rw [wtab_T] at hw
  have hf := frz_tab (T (cs tx) (cs ot))
  have ho := own_tabF (T (cs tx) (cs ot))
  have lc : lcRun (bName 4) (fun env => .ok true env) b_windows_E1 [4] (rngD 0 (((cs ot).length - k + 1 : Nat) : Int)) [] [.val (.str tx) true, .val (.str ot) true, .val (.int k) true, .val (tabF (T (cs tx) (cs ot))) false, .dead] = .ok ((winRow (cs tx) (cs ot) k).map .int) [.val (.str tx) true, .val (.str ot) true, .val (.int k) true, .val (tabF (T (cs tx) (cs ot))) false, .dead] := by
    rw [rng0]
    unfold winRow
    rw [List.map_map]
    refine lc_all _ _ rfl (by simp; omega) fun st hst => ⟨_, rfl, [.val (.str tx) true, .val (.str ot) true, .val (.int k) true, .val (tabF (T (cs tx) (cs ot))) false, .val (.int st) false], ?_, rfl⟩
    have hst := List.mem_range.mp hst
    obtain ⟨r, r1, r2⟩ := T_get (a := cs tx) (b := cs ot) (st := st) (j := k) (by omega)
    have x1 := gIx_tab r1 st rfl
    have x2 : gIx [.lst false (r.map .int), .int k] = some (.int (lastR (cs tx) (((cs ot).drop st).take k))) := gIx_ints r2 _ rfl
    generalize tabF (T (cs tx) (cs ot)) = U' at *
    generalize r.map D.int = R at *
    simp [b_windows_E1, x1, x2]
  have e : (((cs ot).length : Int) - k + 1) = (((cs ot).length - k + 1 : Nat) : Int) := by omega
  have o1 : rngOk (((cs ot).length - k + 1 : Nat) : Int) = true := rngOk_small (by omega) (by omega)
  refine ⟨[some (.str tx), some (.str ot), some (.int k)], ?_⟩
  generalize tabD (T (cs tx) (cs ot)) = U at *
  generalize tabF (T (cs tx) (cs ot)) = U' at *
  generalize (((cs ot).length - k + 1 : Nat) : Int) = m at *
  generalize (winRow (cs tx) (cs ot) k).map D.int = R at *
  simp at hn hi
  simp [f_windows, b_windows, hn, hi, len_cs, hl, hw, hf, e, o1, lc]
/-! ### draws -/
def Feed (K : Nat) (d : D) : Prop := ∃ a b c : Int, d = .lst true [.int a, .int b, .int c] ∧ 0 ≤ a ∧ 0 ≤ b ∧ b < 10 ^ 39 + 23 ∧ 0 ≤ c ∧ c ≤ K
theorem mulB_l {i j : Int} (h : i.natAbs < 2 ^ 64) : mulB i j = true := by unfold mulB; rw [decide_eq_true h]; rfl
theorem mulB_r {i j : Int} (h : j.natAbs < 2 ^ 64) : mulB i j = true := by unfold mulB; rw [decide_eq_true h]; simp
theorem big : (2 : Nat) ^ 150 * 2 ^ 150 ≤ 2 ^ 9000 := by rw [← Nat.pow_add]; exact Nat.pow_le_pow_right (by decide) (by decide)
theorem mulB_b {i j : Int} (h : i.natAbs < 2 ^ 150 * 2 ^ 150) (h2 : j.natAbs < 2 ^ 150 * 2 ^ 150) : mulB i j = true := by
  unfold mulB
  rw [decide_eq_true (Nat.lt_of_lt_of_le h big), decide_eq_true (Nat.lt_of_lt_of_le h2 big)]; simp
theorem draw_hi {a b c many : Int} (ha : 0 < a) (h1 : 1 ≤ many) (h2 : many ≤ 100000) : f_law_draw [.lst true [.int a, .int b, .int c], .int many] = .ok (.int (a - a / many * many)) [some (.lst true [.int (a / many), .int b, .int c]), some (.int many)] := by
  have h3 : many.natAbs < 2 ^ 150 * 2 ^ 150 := by omega
  have h4 : many.natAbs < 2 ^ 9000 := Nat.lt_of_lt_of_le h3 big
  have h5 : 0 < many := by omega
  have g2 : mulB (a / many) many = true := mulB_r (by omega)
  have x0 : L2.atI [D.int a, D.int b, D.int c] 0 = some (.int a) := rfl
  have i0 : L2.ixN 3 (0 : Int) = some 0 := rfl
  simp [f_law_draw, b_law_draw, x0, ha, h4, h5, g2, bSub, i0]
theorem draw_lo {a b c many : Int} (ha : ¬ 0 < a) (hb : 0 ≤ b) (hb2 : b < 10 ^ 39 + 23) (hc : 0 ≤ c) (hc2 : c ≤ 100000) (h1 : 1 ≤ many) (h2 : many ≤ 100000) : ∃ n, 0 ≤ n ∧ n < many ∧ f_law_draw [.lst true [.int a, .int b, .int c], .int many] = .ok (.int n) [some (.lst true [.int a, .int b, .int (c + 1)]), some (.int many)] := by
  have x0 : ∀ z : Int, L2.atI [D.int a, D.int b, D.int z] 0 = some (.int a) := fun _ => rfl
  have x1 : ∀ z : Int, L2.atI [D.int a, D.int b, D.int z] 1 = some (.int b) := fun _ => rfl
  have x2 : ∀ z : Int, L2.atI [D.int a, D.int b, D.int z] 2 = some (.int z) := fun _ => rfl
  have i2 : L2.ixN 3 (2 : Int) = some 2 := rfl
  have m1 : mulB 6700417 (c + 1) = true := mulB_l (by decide)
  have m2 : mulB 15485863 (c + 1) = true := mulB_l (by decide)
  have hs : 0 ≤ b + 6700417 * (c + 1) ∧ b + 6700417 * (c + 1) < 2 ^ 149 := by omega
  generalize hst : b + 6700417 * (c + 1) = s at hs
  have m3 : mulB s s = true := mulB_b (by omega) (by omega)
  have hss : (s * s).natAbs < 2 ^ 150 * 2 ^ 150 := by
    rw [Int.natAbs_mul]
    have h0 : s.natAbs < 2 ^ 150 := by omega
    exact Nat.mul_lt_mul'' h0 h0
  have m4 : mulB (s * s) s = true := mulB_b hss (by omega)
  have ht : 0 ≤ (s * s * s + 15485863 * (c + 1)) % (10000000000000000000000000000000000000000057) ∧ (s * s * s + 15485863 * (c + 1)) % (10000000000000000000000000000000000000000057) < 2 ^ 149 := ⟨Int.emod_nonneg _ (by omega), Int.lt_trans (Int.emod_lt_of_pos _ (by decide)) (by decide)⟩
  generalize htt : (s * s * s + 15485863 * (c + 1)) % (10000000000000000000000000000000000000000057) = t at ht
  have m5 : mulB t t = true := mulB_b (by omega) (by omega)
  generalize hu : (t * t + 32452843) % (100000000000000000000000000000000000133) = u
  have h9 : (1000000000 : Nat) < 2 ^ 9000 := Nat.lt_of_lt_of_le (show (1000000000 : Nat) < 2 ^ 150 * 2 ^ 150 by decide) big
  generalize hw : u / 1000000000 = w
  have h5 : 0 < many := by omega
  refine ⟨w % many, Int.emod_nonneg _ (by omega), Int.emod_lt_of_pos _ (by omega), ?_⟩
  simp [f_law_draw, b_law_draw, x0, x1, x2, ha, bSub, i2, m1, m2, m3, m4, m5, hst, htt, hu, hw, h9, h5]
theorem draw_ok {K : Nat} {d : D} (h : Feed K d) (hK : K ≤ 100000) {many : Int} (h1 : 1 ≤ many) (h2 : many ≤ 100000) : ∃ n d', f_law_draw [d, .int many] = .ok (.int n) [some d', some (.int many)] ∧ 0 ≤ n ∧ n < many ∧ Feed (K + 1) d' := by
  obtain ⟨a, b, c, rfl, ha, hb, hb2, hc, hc2⟩ := h
  by_cases h0 : 0 < a
  · refine ⟨_, _, draw_hi h0 h1 h2, ?_, ?_, a / many, b, c, rfl, Int.ediv_nonneg ha (by omega), hb, hb2, hc, by omega⟩
    · have := Int.emod_nonneg a (show many ≠ 0 by omega)
      rw [Int.emod_def, Int.mul_comm] at this
      exact this
    · have := Int.emod_lt_of_pos a (show 0 < many by omega)
      rw [Int.emod_def, Int.mul_comm] at this
      exact this
  · obtain ⟨n, n1, n2, e⟩ := draw_lo h0 hb hb2 hc (by omega) h1 h2
    exact ⟨n, _, e, n1, n2, a, b, c + 1, rfl, ha, hb, hb2, by omega, by omega⟩
theorem Feed.own {K : Nat} {d : D} (h : Feed K d) : own d = true := by obtain ⟨a, b, c, rfl, _⟩ := h; rfl
theorem Feed.mono {K L : Nat} {d : D} (h : Feed K d) (hl : K ≤ L) : Feed L d := by obtain ⟨a, b, c, e, h1, h2, h3, h4, h5⟩ := h; exact ⟨a, b, c, e, h1, h2, h3, h4, by omega⟩
/-- one of a list's things -/
theorem one_ok {K : Nat} {d : D} (h : Feed K d) (hK : K ≤ 100000) (w : Bool) (l : List D) (ho : ownL l = false) (hl : 1 ≤ l.length) (hl2 : l.length ≤ 100000) : ∃ x d' b, x ∈ l ∧ f_law_one [d, .lst w l] = .ok x [some d', b] ∧ Feed (K + 1) d' := by
  obtain ⟨n, d', e, n1, n2, h'⟩ := draw_ok h hK (many := l.length) (by omega) (by omega)
  have ow := h.own
  have ow' := h'.own
  have hx : ∃ x, l[n.toNat]? = some x := ⟨_, List.getElem?_eq_getElem (by omega)⟩
  obtain ⟨x, hx⟩ := hx
  have hi : L2.atI l n = some x := by
    have : n = ((n.toNat : Nat) : Int) := by omega
    rw [this]
    exact L2.atI_nat hx
  have hm := List.mem_of_getElem? hx
  have hox := (ownL_mem.mp ho) x hm
  cases w with
  | true =>
    refine ⟨x, d', some (.lst true l), hm, ?_, h'⟩
    simp [f_law_one, b_law_one, ow, e, hi, hox]
  | false =>
    refine ⟨x, d', some (.lst false l), hm, ?_, h'⟩
    simp [f_law_one, b_law_one, ow, e, hi, hox]
/-- one of a text's signs -/
theorem oneS_ok {K : Nat} {d : D} (h : Feed K d) (hK : K ≤ 100000) (x : Str) (hl : 1 ≤ (cs x).length) (hl2 : (cs x).length ≤ 100000) : ∃ c d' b, c ∈ cs x ∧ f_law_one [d, .str x] = .ok (ch c) [some d', b] ∧ Feed (K + 1) d' := by
  obtain ⟨n, d', e, n1, n2, h'⟩ := draw_ok h hK (many := (cs x).length) (by omega) (by omega)
  have ow := h.own
  have ow' := h'.own
  have hx : ∃ c, (cs x)[n.toNat]? = some c := ⟨_, List.getElem?_eq_getElem (by omega)⟩
  obtain ⟨c, hx⟩ := hx
  have hi : L2.atI (cs x) n = some c := by
    have : n = ((n.toNat : Nat) : Int) := by omega
    rw [this]
    exact L2.atI_nat hx
  have hle : (cs x).length ≤ 10000000 := by omega
  have hg : gIx [.str x, .int n] = some (ch c) := by
    show (if x.length ≤ 10000000 then (L2.atI (cs x) n).map ch else none) = _
    rw [len_cs, if_pos hle, hi]; rfl
  refine ⟨c, d', some (.str x), List.mem_of_getElem? hx, ?_, h'⟩
  simp [f_law_one, b_law_one, ow, e, len_cs, hle, hg]
end K90

namespace K90
open PySem VS
theorem cutD_hi (l : List D) (k : Nat) : cutD l none (some (k : Int)) = l.take k := by
  unfold cutD
  rw [show HT.sIx l.length l.length (some (k : Int)) = min k l.length from HT.sIx_nat l.length _ k, HT.sIx_none]
  simp
theorem feed_ok (ns : List Int) (k : Nat) (hk : k ≤ 100) : ∃ d bs, f_law_feed [.scr ns, .int k] = .ok d bs ∧ Feed 0 d := by
  have hs : gSlHi [.scr ns, .int 1] = some (.lst true ((ns.take 1).map .int)) := by
    show some (D.lst true (cutD (ns.map .int) none (some ((1 : Nat) : Int)))) = _
    rw [cutD_hi, List.map_take]
  have hsum := gSum_lst true (ns.take 1)
  have m1 : mulB 977 k = true := mulB_l (by decide)
  have m2 : mulB 7 k = true := mulB_l (by decide)
  have m3 : ∀ c : Int, mulB c 19 = true := fun c => mulB_r (by decide)
  have fin : ∀ c : Int, Feed 0 (.lst true [.int (max 0 (c - 1000000000000000000)), .int ((c * 19 + 7 * k) % 1000000000000000000000000000000000000023), .int 0]) := fun c =>
    ⟨_, _, _, rfl, by omega, Int.emod_nonneg _ (by decide), by
      have := Int.emod_lt_of_pos (c * 19 + 7 * k) (show (0 : Int) < 1000000000000000000000000000000000000023 by decide)
      omega, by decide, by decide⟩
  by_cases h : k < ns.length
  · have hx : L2.atI (ns.map D.int) k = some (.int ns[k]) := L2.atI_nat (by rw [List.getElem?_map, List.getElem?_eq_getElem h]; rfl)
    refine ⟨_, [some (.scr ns), some (.int k)], ?_, fin ns[k]⟩
    generalize (ns.take 1).map D.int = R at *
    generalize (ns.take 1).sum = S at *
    simp [f_law_feed, b_law_feed, hs, hsum, m1, m2, m3, h, hx]
  · refine ⟨_, [some (.scr ns), some (.int k)], ?_, fin (977 * k + (ns.take 1).sum)⟩
    generalize (ns.take 1).map D.int = R at *
    generalize (ns.take 1).sum = S at *
    simp [f_law_feed, b_law_feed, hs, hsum, m1, m2, m3, h]
theorem joinL_one : ∀ l : List Nat, TL.joinL [] (l.map fun c => [c]) = l
  | [] => rfl
  | [c] => rfl
  | c :: d :: l => by
    show [c] ++ ([] ++ TL.joinL [] ((d :: l).map fun c => [c])) = _
    rw [joinL_one (d :: l)]; rfl
theorem cs_join (l : List Nat) : cs (Txt.join "" (l.map fun c => (⟨#[c]⟩ : Str))) = l := by
  rw [TL.join_eq]
  have := TL.tl_join "" (l.map fun c => (⟨#[c]⟩ : Str))
  rw [List.map_map] at this
  have e : (l.map (TL.tl ∘ fun c => (⟨#[c]⟩ : Str))) = l.map fun c => [c] := rfl
  rw [e] at this
  exact this.trans (joinL_one l)
theorem gJoin_ch (w : Bool) (l : List Nat) (hl : l.length ≤ 100000) : gJoin "" [.lst w (l.map ch)] = some (.str (Txt.join "" (l.map fun c => (⟨#[c]⟩ : Str)))) := by
  have e : strsD (.lst w (l.map ch)) = some (l.map fun c => (⟨#[c]⟩ : Str)) := by
    show allD strD (l.map ch) = _
    exact allD_map (g := strD) ch (fun c => (⟨#[c]⟩ : Str)) (fun _ => rfl) l
  have hs : (((l.map fun c => (⟨#[c]⟩ : Str)).map Str.length).sum) = l.length := by
    rw [List.map_map]
    clear hl e
    induction l with
    | nil => rfl
    | cons c l ih => rw [List.map_cons, List.sum_cons, ih]; show 1 + l.length = _; simp; omega
  show (match strsD (.lst w (l.map ch)) with
    | some ys => if (ys.map Str.length).sum + ys.length * ("" : Str).length ≤ 10000000 then some (D.str (Txt.join "" ys)) else none
    | none => none) = _
  rw [e]
  have h0 : ("" : Str).length = 0 := rfl
  have hle : ((l.map fun c => (⟨#[c]⟩ : Str)).map Str.length).sum + (l.map fun c => (⟨#[c]⟩ : Str)).length * ("" : Str).length ≤ 10000000 := by rw [hs, h0]; omega
  dsimp only
  rw [if_pos hle]
theorem letters_E {elt : Ev → Res D} {sg : Str} {m : Int} (K : Nat) (x2 : Cl) (n : Nat) (hn : n ≤ 1000)
    (step : ∀ (J : Nat) (d : D) (c3 : Cl), Feed J d → J ≤ 10000 → ∃ c d', c ∈ cs sg ∧ elt [.val d true, .val (.int m) true, x2, c3] = .ok (ch c) [.val d' true, .val (.int m) true, x2, c3] ∧ Feed (J + 1) d') (d : D) (h : Feed K d) (hK : K ≤ 1000) :
    ∃ (cl : List Nat) (d' : D), lcRun (bName 3) (fun env => .ok true env) elt [3] (rngD 0 n) [] [.val d true, .val (.int m) true, x2, .dead] = .ok (cl.map ch) [.val d' true, .val (.int m) true, x2, .dead] ∧ cl.length = n ∧ (∀ c ∈ cl, c ∈ cs sg) ∧ Feed (K + n) d' := by
  rw [rng0]
  obtain ⟨acc, e', h1, cl, d', h2, h3, h4, h5, h6⟩ := lc_inv (b := bName 3) (elt := elt) (vs := [3]) (fun i acc e => ∃ (cl : List Nat) (d' : D), acc = cl.map ch ∧ cl.length = i ∧ (∀ c ∈ cl, c ∈ cs sg) ∧ Feed (K + i) d' ∧ e = [.val d' true, .val (.int m) true, x2, .dead]) ((List.range n).map fun k => D.int (k : Nat)) 0 [] [.val d true, .val (.int m) true, x2, .dead] ⟨[], d, rfl, rfl, by simp, h, rfl⟩ (by simp; omega) fun i d0 acc e hd ⟨cl, d1, g1, g2, g3, g4, g5⟩ => by
    subst g1 g5
    have hi : i < n := by
      have := (List.getElem?_eq_some_iff.mp hd).1
      simpa using this
    rw [Nat.zero_add] at g2 g4
    obtain ⟨c, d2, k1, k2, k3⟩ := step (K + i) d1 (.val d0 false) g4 (by omega)
    refine ⟨_, rfl, ch c, _, k2, cl ++ [c], d2, by simp, by simp; omega, fun c' hc => ?_, ?_, rfl⟩
    · rcases List.mem_append.mp hc with h | h
      · exact g3 c' h
      · rw [List.mem_singleton.mp h]; exact k1
    · rw [Nat.zero_add]; exact k3
  subst h2 h6
  rw [List.length_map, List.length_range, Nat.zero_add] at h3 h5
  exact ⟨cl, d', h1, h3, h4, h5⟩
end K90

namespace K90
open PySem VS
theorem letters_fin {K : Nat} {d : D} (h : Feed K d) (hK : K ≤ 900) (sg : Str) (hn : 1 ≤ (cs sg).length) (hn2 : (cs sg).length ≤ 1000) (ha : ∀ c ∈ cs sg, c ∈ cs abc) (c3 : Cl) :
    ∃ y d', sRet (eRO [.e (eLc (srcR1 (eCall f_law_draw [.n 0, .e (eRO [.n 1, .e (eC (.int 1))] gAdd)])) (bName 3) (fun env => .ok true env) b_law_letters_E2 [3])] (gJoin "")) [.val d true, .val (.int 6) true, .val (.str sg) false, .dead] = .ret (.str y) [.val d' true, .val (.int 6) true, .val (.str sg) false, .dead] ∧ isT y = true ∧ Feed (K + 10) d' := by
  obtain ⟨n, d1, e1, n1, n2, f1⟩ := draw_ok h (by omega) (many := 7) (by decide) (by decide)
  have en : n = ((n.toNat : Nat) : Int) := by omega
  obtain ⟨cl, d2, e2, l2, a2, f2⟩ := letters_E (elt := b_law_letters_E2) (sg := sg) (m := 6) (K + 1) (.val (.str sg) false) n.toNat (by omega) (fun J d c3 hJ hJ2 => by
    obtain ⟨c, d', b, hc, e, f⟩ := oneS_ok hJ (by omega) sg hn (by omega)
    have ow := hJ.own
    have ow' := f.own
    refine ⟨c, d', hc, ?_, f⟩
    simp [b_law_letters_E2, ow, e]) d1 f1 (by omega)
  have hj := gJoin_ch true cl (by omega)
  have hc := cs_join cl
  rw [← en] at e2
  have o1 : rngOk n = true := rngOk_small (by omega) (by omega)
  have ow := h.own
  refine ⟨Txt.join "" (cl.map fun c => (⟨#[c]⟩ : Str)), d2, ?_, ?_, f2.mono (by omega)⟩
  · generalize Txt.join "" (cl.map fun c => (⟨#[c]⟩ : Str)) = y at *
    generalize cl.map ch = R at *
    simp [ow, e1, o1, e2, hj]
  · unfold isT
    rw [hc, decide_eq_true (by omega), Bool.true_and, List.all_eq_true]
    intro c hcl
    exact decide_eq_true (ha c (a2 c hcl))
theorem abc_len : (cs abc).length = 26 := by rfl
theorem letters_ok {K : Nat} {d : D} (h : Feed K d) (hK : K ≤ 800) : ∃ y d' b, f_law_letters [d, .int 6] = .ok (.str y) [some d', b] ∧ isT y = true ∧ Feed (K + 20) d' := by
  obtain ⟨x, d1, b1, hm, e1, f1⟩ := one_ok h (by omega) true [.str "ab", .str "abc", .str "aab", .str "xyza", .str ""] (by rfl) (by decide) (by decide)
  have ow := h.own
  have ow1 := f1.own
  have hx : ∃ s0 : Str, x = .str s0 ∧ (s0 = "" ∨ (s0 ≠ "" ∧ 1 ≤ (cs s0).length ∧ (cs s0).length ≤ 1000 ∧ ∀ c ∈ cs s0, c ∈ cs abc)) := by
    simp only [List.mem_cons, List.not_mem_nil, or_false] at hm
    rcases hm with rfl | rfl | rfl | rfl | rfl
    · exact ⟨_, rfl, .inr ⟨by decide, by decide, by decide, by decide⟩⟩
    · exact ⟨_, rfl, .inr ⟨by decide, by decide, by decide, by decide⟩⟩
    · exact ⟨_, rfl, .inr ⟨by decide, by decide, by decide, by decide⟩⟩
    · exact ⟨_, rfl, .inr ⟨by decide, by decide, by decide, by decide⟩⟩
    · exact ⟨_, rfl, .inl rfl⟩
  obtain ⟨s0, rfl, hs⟩ := hx
  rcases hs with rfl | ⟨h0, h1, h2, h3⟩
  · obtain ⟨cl, d2, e2, l2, a2, f2⟩ := letters_E (elt := b_law_letters_E1) (sg := abc) (m := 6) (K + 1) (.val (.str "") false) 3 (by decide) (fun J d c3 hJ hJ2 => by
      obtain ⟨c, d', b, hc, e, f⟩ := oneS_ok hJ (by omega) abc (by rw [abc_len]; decide) (by rw [abc_len]; decide)
      have ow := hJ.own
      have ow' := f.own
      refine ⟨c, d', hc, ?_, f⟩
      unfold abc at e
      simp [b_law_letters_E1, ow, e]) d1 f1 (by omega)
    have hj := gJoin_ch true cl (by omega)
    have hc := cs_join cl
    have ow2 := f2.own
    obtain ⟨y, d3, e3, t3, f3⟩ := letters_fin f2 (by omega) (Txt.join "" (cl.map fun c => (⟨#[c]⟩ : Str))) (by rw [hc]; omega) (by rw [hc]; omega) (by rw [hc]; exact a2) .dead
    have o1 : rngOk 3 = true := by decide
    refine ⟨y, d3, some (.int 6), ?_, t3, f3.mono (by omega)⟩
    generalize Txt.join "" (cl.map fun c => (⟨#[c]⟩ : Str)) = y0 at *
    generalize cl.map ch = R at *
    have e2' : lcRun (bName 3) (fun env => Res.ok true env) b_law_letters_E1 [3] (rngD 0 3) [] [Cl.val d1 true, Cl.val (D.int 6) true, Cl.val (D.str "") false, Cl.dead] = Res.ok R [Cl.val d2 true, Cl.val (D.int 6) true, Cl.val (D.str "") false, Cl.dead] := e2
    unfold f_law_letters b_law_letters
    rw [fBody_def, sSeq_def]
    have s1 : sAsg (eFrz (eCall f_law_one [.n 0, .e (eLst (aCons (eC (.str "ab")) (aCons (eC (.str "abc")) (aCons (eC (.str "aab")) (aCons (eC (.str "xyza")) (aCons (eC (.str "")) (aNil)))))))])) (bName 2) [.val d true, .val (.int 6) true, .dead, .dead] = .next [.val d1 true, .val (.int 6) true, .val (.str "") false, .dead] := by
      simp [ow, e1]
    have s2 : sIf (asB (eRO [.n 2, .e (eC (.str ""))] gEqA)) (sAsg (eRO [.e (eLc (srcR1 (eC (.int 3))) (bName 3) (fun env => .ok true env) b_law_letters_E1 [3])] (gJoin "")) (bName 2)) (sSkip) [.val d1 true, .val (.int 6) true, .val (.str "") false, .dead] = .next [.val d2 true, .val (.int 6) true, .val (.str y0) false, .dead] := by
      simp [o1, e2', hj]
    have ee : ([d, .int 6].map fun d => Cl.val d true) ++ List.replicate (4 - 2) .dead = [.val d true, .val (.int 6) true, .dead, .dead] := rfl
    rw [ee, s1, seq_next, sSeq_def, s2, seq_next, e3]
    rfl
  · obtain ⟨y, d3, e3, t3, f3⟩ := letters_fin f1 (by omega) s0 h1 h2 h3 .dead
    refine ⟨y, d3, some (.int 6), ?_, t3, f3.mono (by omega)⟩
    unfold f_law_letters b_law_letters
    rw [fBody_def, sSeq_def]
    have s1 : sAsg (eFrz (eCall f_law_one [.n 0, .e (eLst (aCons (eC (.str "ab")) (aCons (eC (.str "abc")) (aCons (eC (.str "aab")) (aCons (eC (.str "xyza")) (aCons (eC (.str "")) (aNil)))))))])) (bName 2) [.val d true, .val (.int 6) true, .dead, .dead] = .next [.val d1 true, .val (.int 6) true, .val (.str s0) false, .dead] := by
      simp [ow, e1]
    have s2 : sIf (asB (eRO [.n 2, .e (eC (.str ""))] gEqA)) (sAsg (eRO [.e (eLc (srcR1 (eC (.int 3))) (bName 3) (fun env => .ok true env) b_law_letters_E1 [3])] (gJoin "")) (bName 2)) (sSkip) [.val d1 true, .val (.int 6) true, .val (.str s0) false, .dead] = .next [.val d1 true, .val (.int 6) true, .val (.str s0) false, .dead] := by
      simp [h0]
    have ee : ([d, .int 6].map fun d => Cl.val d true) ++ List.replicate (4 - 2) .dead = [.val d true, .val (.int 6) true, .dead, .dead] := rfl
    rw [ee, s1, seq_next, sSeq_def, s2, seq_next, e3]
    rfl
end K90

namespace K90
open PySem VS
theorem eCallK_def (F : List D → FRes) (pm : List Nat) (g : Ev → Res (List D)) (env : Ev) : eCallK F pm g env = (g env).bind fun ds e1 => if ownL ds = false ∧ ds.length = pm.length then (match F (pm.map fun k => ds.getD k .non) with
  | .ok d _ => .ok d e1
  | .err c _ => .err c e1
  | .bad => .bad) else .bad := rfl
def badL : List D := [.non, .int 5, .str "abcdefg", .str "aaaaaaa", .str "A", .str "aB", .str "a b", .str " a", .str "a1", .str "a-", .str "`", .str "a{", .str "@", .str "[", .str "Z", .str "zA", .tup [.str "a"], .lst false [.str "a"], .dk false [] [], .bl true, .tup [.str "a", .str "b"], .str "a\n", .lst false [], .tup [], .int 0, .tup [], .int 100000000000000000000]
theorem bad_ok : ∃ l, f_law_bad_texts [] = .ok l [] ∧ frz l = .lst false badL := ⟨_, rfl, rfl⟩
theorem bad_all : ∀ x ∈ badL, okTx x = true ∧ isTx x = false := by
  have h : (badL.all fun x => okTx x && !isTx x) = true := by decide +kernel
  intro x hx
  have := List.all_eq_true.mp h x hx
  simpa using this
theorem badL_own : ownL badL = false := rfl
theorem w0_err {t o a b : D} {c z : Str} {bs : List (Option D)} (h : f_shared_window [t, o, a, b] = .err c bs) (hz : sel_law_word_of.lookup c = some z) (o1 : own t = false) (o2 : own o = false) (o3 : own a = false) (o4 : own b = false) : ∃ bs', f_law_word_of [.int 0, t, o, a, b] = .ok (.str z) bs' := by
  refine ⟨[some (.int 0), some t, some o, some a, some b], ?_⟩
  have hT : b_law_word_of_T1 [.val (.int 0) true, .val t true, .val o true, .val a true, .val b true, .val (.str "") false, .dead] = .err c [.val (.int 0) true, .val t true, .val o true, .val a true, .val b true, .val (.str "") false, .dead] := by
      simp [b_law_word_of_T1, eCallK_def, frz_imm _ o1, frz_imm _ o2, frz_imm _ o3, frz_imm _ o4, o1, o2, o3, o4, h]
  simp [f_law_word_of, b_law_word_of, sTry, hT, hz]
theorem w0_ok {t o a b d : D} {bs : List (Option D)} (h : f_shared_window [t, o, a, b] = .ok d bs) (o1 : own t = false) (o2 : own o = false) (o3 : own a = false) (o4 : own b = false) : ∃ bs', f_law_word_of [.int 0, t, o, a, b] = .ok (.str "") bs' := by
  refine ⟨[some (.int 0), some t, some o, some a, some b], ?_⟩
  have hT : b_law_word_of_T1 [.val (.int 0) true, .val t true, .val o true, .val a true, .val b true, .val (.str "") false, .dead] = .next [.val (.int 0) true, .val t true, .val o true, .val a true, .val b true, .val (.str "") false, .dead] := by
      simp [b_law_word_of_T1, eCallK_def, frz_imm _ o1, frz_imm _ o2, frz_imm _ o3, frz_imm _ o4, o1, o2, o3, o4, h]
  simp [f_law_word_of, b_law_word_of, sTry, hT]
theorem w1_err {t o a b : D} {c z : Str} {bs : List (Option D)} (h : f_window_table [t, o] = .err c bs) (hz : sel_law_word_of.lookup c = some z) (o1 : own t = false) (o2 : own o = false) : ∃ bs', f_law_word_of [.int 1, t, o, a, b] = .ok (.str z) bs' := by
  refine ⟨[some (.int 1), some t, some o, some a, some b], ?_⟩
  have hT : b_law_word_of_T1 [.val (.int 1) true, .val t true, .val o true, .val a true, .val b true, .val (.str "") false, .dead] = .err c [.val (.int 1) true, .val t true, .val o true, .val a true, .val b true, .val (.str "") false, .dead] := by
      simp [b_law_word_of_T1, eCallK_def, frz_imm _ o1, frz_imm _ o2, o1, o2, h]
  simp [f_law_word_of, b_law_word_of, sTry, hT, hz]
theorem w2_err {t o a b : D} {c z : Str} {bs : List (Option D)} (h : f_windows [t, o, a] = .err c bs) (hz : sel_law_word_of.lookup c = some z) (o1 : own t = false) (o2 : own o = false) (o3 : own a = false) : ∃ bs', f_law_word_of [.int 2, t, o, a, b] = .ok (.str z) bs' := by
  refine ⟨[some (.int 2), some t, some o, some a, some b], ?_⟩
  have hT : b_law_word_of_T1 [.val (.int 2) true, .val t true, .val o true, .val a true, .val b true, .val (.str "") false, .dead] = .err c [.val (.int 2) true, .val t true, .val o true, .val a true, .val b true, .val (.str "") false, .dead] := by
      simp [b_law_word_of_T1, eCallK_def, frz_imm _ o1, frz_imm _ o2, frz_imm _ o3, o1, o2, o3, h]
  simp [f_law_word_of, b_law_word_of, sTry, hT, hz]
theorem selT : sel_law_word_of.lookup ("BadText" : Str) = some "text" := by rfl
theorem selI : sel_law_word_of.lookup ("BadIndex" : Str) = some "index" := by rfl
theorem selN : sel_law_word_of.lookup ("BadNumber" : Str) = some "number" := by rfl
end K90

namespace K90
open PySem VS
theorem sl_str (z : Str) (st j : Nat) (hz : (cs z).length ≤ 10000000) (h : st + j ≤ (cs z).length) : ∃ y, gSl2 [.str z, .int st, .int ((st + j : Nat) : Int)] = some (.str y) ∧ cs y = ((cs z).drop st).take j := by
  refine ⟨L2.cutS z (some (st : Int)) (some (((st + j : Nat) : Int))), ?_, ?_⟩
  · show gSl (.str z) (some (st : Int)) (some (((st + j : Nat) : Int))) = _
    show (if z.length ≤ 10000000 then some (D.str (L2.cutS z _ _)) else none) = _
    rw [len_cs, if_pos hz]
  · show (L2.cutS z (some (st : Int)) (some (((st + j : Nat) : Int)))).cps.toList = _
    unfold L2.cutS
    rw [len_cs, show HT.sIx (cs z).length 0 (some (st : Int)) = min st (cs z).length from HT.sIx_nat _ 0 st, show HT.sIx (cs z).length (cs z).length (some (((st + j : Nat) : Int))) = min (st + j) (cs z).length from HT.sIx_nat _ _ _, Nat.min_eq_left (by omega), Nat.min_eq_left (by omega)]
    have e : st + j - st = j := by omega
    rw [e]
    rfl
theorem du_E1 (tx ot : Str) (st : Nat) (hb : (cs ot).length ≤ 900) (hst : st ≤ (cs ot).length) (c2 x4 : Cl) : lcRun (bName 4) (fun env => .ok true env) b_law_due_E1 [4] (rngD st (((cs ot).length + 1 : Nat) : Int)) [] [.val (.str tx) true, .val (.str ot) true, c2, .val (.int st) false, x4] =
    .ok (((List.range ((cs ot).length + 1 - st)).map fun j => lastR (cs tx) (((cs ot).drop st).take j)).map .int) [.val (.str tx) true, .val (.str ot) true, c2, .val (.int st) false, .dead] := by
  rw [rngF, List.map_map]
  refine lc_all _ _ rfl (by simp; omega) fun j hj => ⟨_, rfl, [.val (.str tx) true, .val (.str ot) true, c2, .val (.int st) false, .val (.int ((st + j : Nat) : Int)) false], ?_, rfl⟩
  have hj := List.mem_range.mp hj
  obtain ⟨y, h1, h2⟩ := sl_str ot st j (by omega) (by omega)
  have h3 := law_shared_rows tx y (by rw [h2]; simp; omega)
  rw [h2] at h3
  simp only [Function.comp]
  generalize (((st + j : Nat) : Int)) = q at *
  simp [b_law_due_E1, h1, h3]
def Tup (a b : List Nat) (k : Nat) : List D := (List.range k).map fun st => .lst true (((List.range (b.length + 1 - st)).map fun j => lastR a ((b.drop st).take j)).map .int)
theorem du_L2 (tx ot : Str) (hb : (cs ot).length ≤ 900) (c3 c4 : Cl) : ∃ c3' c4', forRun (bName 3) b_law_due_L2 (rngD 0 (((cs ot).length + 1 : Nat) : Int)) [.val (.str tx) true, .val (.str ot) true, .val (.lst true []) false, c3, c4] =
    .next [.val (.str tx) true, .val (.str ot) true, .val (tabD (T (cs tx) (cs ot))) false, c3', c4'] := by
  rw [rng0]
  obtain ⟨e', h1, c3', c4', h2⟩ := for_inv (b := bName 3) (body := b_law_due_L2) (ds := (List.range ((cs ot).length + 1)).map fun k => .int (k : Nat)) (fun i e => ∃ c3 c4, e = [.val (.str tx) true, .val (.str ot) true, .val (.lst true (Tup (cs tx) (cs ot) i)) false, c3, c4])
    ⟨c3, c4, rfl⟩ fun i d e hd ⟨x3, x4, he⟩ => by
      subst he
      rw [List.getElem?_map] at hd
      obtain ⟨k, hk, rfl⟩ := Option.map_eq_some_iff.mp hd
      have hk2 : k = i ∧ i < (cs ot).length + 1 := by
        obtain ⟨hlt, e⟩ := List.getElem?_eq_some_iff.mp hk
        rw [List.getElem_range] at e
        rw [List.length_range] at hlt
        exact ⟨e.symm, hlt⟩
      obtain ⟨rfl, hlt⟩ := hk2
      refine ⟨_, rfl, _, .inl ?_, .val (.int k) false, .dead, rfl⟩
      have lc := du_E1 tx ot k hb (by omega) (.val (.lst true (Tup (cs tx) (cs ot) k)) false) x4
      have e1 : Tup (cs tx) (cs ot) (k + 1) = Tup (cs tx) (cs ot) k ++ [.lst true (((List.range ((cs ot).length + 1 - k)).map fun j => lastR (cs tx) (((cs ot).drop k).take j)).map .int)] := by unfold Tup; rw [List.range_succ, List.map_append]; rfl
      have hl : (Tup (cs tx) (cs ot) k).length < 10000000 := by unfold Tup; simp; omega
      rw [e1]
      generalize Tup (cs tx) (cs ot) k = R at *
      generalize ((List.range ((cs ot).length + 1 - k)).map fun j => lastR (cs tx) (((cs ot).drop k).take j)).map D.int = Q at *
      have o1 : rngOk (k : Int) = true := rngOk_small (by omega) (by omega)
      have o2 : rngOk (((cs ot).length : Int) + 1) = true := rngOk_small (by omega) (by omega)
      have hlo : (cs ot).length ≤ 10000000 := by omega
      simp only [Int.natCast_add, Int.cast_ofNat_Int] at lc
      simp [b_law_due_L2, eAppend, o1, o2, len_cs, hlo, lc, hl]
  rw [List.length_map, List.length_range] at h2
  rw [h2] at h1
  have e : D.lst true (Tup (cs tx) (cs ot) ((cs ot).length + 1)) = tabD (T (cs tx) (cs ot)) := by
    unfold tabD T Tup
    rw [List.map_map]
    rfl
  rw [e] at h1
  exact ⟨c3', c4', h1⟩
theorem due_ok (tx ot : Str) (hb : (cs ot).length ≤ 900) : ∃ bs, f_law_due [.str tx, .str ot] = .ok (tabD (T (cs tx) (cs ot))) bs := by
  obtain ⟨c3, c4, h2⟩ := du_L2 tx ot hb .dead .dead
  refine ⟨[some (.str tx), some (.str ot)], ?_⟩
  generalize tabD (T (cs tx) (cs ot)) = U at *
  have hlo : (cs ot).length ≤ 10000000 := by omega
  have o2 : rngOk (((cs ot).length : Int) + 1) = true := rngOk_small (by omega) (by omega)
  simp only [Int.natCast_add, Int.cast_ofNat_Int] at h2
  simp [f_law_due, b_law_due, len_cs, hlo, o2, h2]
end K90

namespace K90
open PySem VS
theorem lastR_bd (a v : List Nat) : 0 ≤ lastR a v ∧ lastR a v ≤ v.length := by
  have h := fin_window a v 0 v.length (by omega)
  rw [List.drop_zero, List.take_length] at h
  have hc := List.countP_le_length (p := fun x => decide (((a.length + 0 : Nat) : Int) ≤ x)) (l := (fin a v).1.take (0 + v.length))
  rw [List.length_take] at hc
  omega
theorem lastR_step (a b : List Nat) (st j : Nat) (h : st + j + 1 ≤ b.length) : 0 ≤ lastR a ((b.drop st).take (j + 1)) - lastR a ((b.drop st).take j) ∧ lastR a ((b.drop st).take (j + 1)) - lastR a ((b.drop st).take j) ≤ 1 := by
  have h1 := fin_window a b st j (by omega)
  have h2 := fin_window a b st (j + 1) (by omega)
  rw [← h1, ← h2]
  have hl : (fin a b).1.length = b.length := by unfold fin; rw [(srows_len _ _ _ _ _).1]; simp
  have e : (fin a b).1.take (st + (j + 1)) = (fin a b).1.take (st + j) ++ [(fin a b).1[st + j]] := by
    rw [show st + (j + 1) = st + j + 1 by omega, List.take_succ_eq_append_getElem (by omega)]
  rw [e, List.countP_append]
  have h3 := List.countP_le_length (p := fun x => decide (((a.length + st : Nat) : Int) ≤ x)) (l := [(fin a b).1[st + j]])
  simp only [List.length_singleton] at h3
  omega
theorem pyL_map {α : Type} (f : α → D) (g : α → PyData) (h : ∀ x, pyD (f x) = some (g x)) : ∀ l : List α, pyL (l.map f) = some (l.map g)
  | [] => rfl
  | x :: l => by rw [List.map_cons, pyL, h x, pyL_map f g h l]; rfl
def pI (l : List Int) : PyData := .list (l.map .int)
theorem pyD_ints (w : Bool) (l : List Int) : pyD (.lst w (l.map .int)) = some (pI l) := by
  rw [pyD, pyL_map D.int PyData.int (fun _ => rfl)]; rfl
theorem pyD_tab (w v : Bool) (t : List (List Int)) : pyD (.lst w (t.map fun r => .lst v (r.map .int))) = some (.list (t.map pI)) := by
  rw [pyD, pyL_map _ pI (fun r => pyD_ints v r)]; rfl
theorem shownAll_map {α : Type} (g : α → PyData) : ∀ l : List α, PyData.shownAll (l.map g) = l.map fun x => (g x).shown
  | [] => by simp [PyData.shownAll]
  | x :: l => by rw [List.map_cons, PyData.shownAll, shownAll_map g l]; rfl
theorem showableAll_map {α : Type} (g : α → PyData) : ∀ l : List α, (∀ x ∈ l, (g x).showable = true) → PyData.showableAll (l.map g) = true
  | [], _ => by simp [PyData.showableAll]
  | x :: l, h => by rw [List.map_cons, PyData.showableAll, h x List.mem_cons_self, showableAll_map g l fun y hy => h y (List.mem_cons_of_mem _ hy)]; rfl
theorem hasDictAll_map {α : Type} (g : α → PyData) : ∀ l : List α, (∀ x ∈ l, (g x).hasDict = false) → PyData.hasDictAll (l.map g) = false
  | [], _ => by simp [PyData.hasDictAll]
  | x :: l, h => by rw [List.map_cons, PyData.hasDictAll, h x List.mem_cons_self, hasDictAll_map g l fun y hy => h y (List.mem_cons_of_mem _ hy)]; rfl
theorem depthAll_map {α : Type} (g : α → PyData) (n : Nat) : ∀ l : List α, (∀ x ∈ l, (g x).depth ≤ n) → PyData.depthAll (l.map g) ≤ n
  | [], _ => by simp [PyData.depthAll]
  | x :: l, h => by
    have h1 := h x List.mem_cons_self
    have h2 := depthAll_map g n l fun y hy => h y (List.mem_cons_of_mem _ hy)
    rw [List.map_cons, PyData.depthAll]; omega
theorem canLayAll_map {α : Type} (g : α → PyData) : ∀ l : List α, (∀ x ∈ l, (g x).canLay0 = true) → PyData.canLayAll0 (l.map g) = true
  | [], _ => by simp [PyData.canLayAll0]
  | x :: l, h => by rw [List.map_cons, PyData.canLayAll0, h x List.mem_cons_self, canLayAll_map g l fun y hy => h y (List.mem_cons_of_mem _ hy)]; rfl
theorem eqvAll_self {α : Type} (g : α → PyData) : ∀ l : List α, (∀ x ∈ l, PyData.eqv (g x) (g x) = true) → PyData.eqvAll (l.map g) (l.map g) = true
  | [], _ => by simp [PyData.eqvAll]
  | x :: l, h => by rw [List.map_cons, PyData.eqvAll, h x List.mem_cons_self, eqvAll_self g l fun y hy => h y (List.mem_cons_of_mem _ hy)]; rfl
def okI (l : List Int) : Prop := l.length ≤ 100 ∧ ∀ x ∈ l, 0 ≤ x ∧ x < 10
end K90

namespace K90
open PySem VS PyProof
theorem strLen_app (a b : Str) : (a ++ b).length = a.length + b.length := by
  show (a.cps ++ b.cps).size = _
  rw [Array.size_append]; rfl
theorem tf_le (c : Nat) : ∀ (ts : List Str) (k : Nat) (acc : Str), (∀ t ∈ ts, t.length ≤ c) → (textFrom k acc ts).length ≤ acc.length + ts.length * (c + 2)
  | [], k, acc, _ => by show acc.length ≤ _; omega
  | t :: ts, k, acc, h => by
    have ih := tf_le c ts (k + 1) (acc ++ (if k > 0 then ", " else "" : String) ++ t) fun u hu => h u (List.mem_cons_of_mem _ hu)
    have ht := h t List.mem_cons_self
    have e : (acc ++ (if k > 0 then ", " else "" : String) ++ t).length ≤ acc.length + 2 + t.length := by
      rw [strLen_app, strLen_app]
      have e2 : (((if k > 0 then ", " else "" : String) : Str)).length ≤ 2 := by split <;> decide
      omega
    show (textFrom (k + 1) _ ts).length ≤ _
    rw [List.length_cons, Nat.add_mul]
    omega
theorem listText_le (c : Nat) (ts : List Str) (h : ∀ t ∈ ts, t.length ≤ c) : (listText ts).length ≤ 2 + ts.length * (c + 2) := by
  unfold listText
  rw [strLen_app]
  have := tf_le c ts 0 "[" h
  have e1 : (("[" : String) : Str).length = 1 := by decide
  have e2 : (("]" : String) : Str).length = 1 := by decide
  omega
theorem okI_shown {l : List Int} (h : okI l) : (pI l).shown.length ≤ 302 := by
  unfold pI
  rw [PyData.shown, shownAll_map]
  have := listText_le 1 (l.map fun x => (PyData.int x).shown) fun t ht => by
    obtain ⟨x, hx, rfl⟩ := List.mem_map.mp ht
    have hx := h.2 x hx
    rw [PyData.shown]
    exact PyProof.Rows.toString_length_le hx.1 (k := 1) (by decide) (by omega)
  rw [List.length_map] at this
  have := h.1
  omega
theorem okI_showable {l : List Int} (h : okI l) : (pI l).showable = true := by
  unfold pI
  rw [PyData.showable]
  refine showableAll_map _ _ fun x hx => ?_
  have hx := h.2 x hx
  rw [PyData.showable]
  refine decide_eq_true ?_
  have : x.natAbs.log2 ≤ x.natAbs := Nat.log2_le_self _
  omega
theorem okI_noDict (l : List Int) : (pI l).hasDict = false := by
  unfold pI
  rw [PyData.hasDict]
  exact hasDictAll_map _ _ fun x _ => by rw [PyData.hasDict]
theorem okI_depth (l : List Int) : (pI l).depth ≤ 1 := by
  unfold pI
  rw [PyData.depth]
  have := depthAll_map PyData.int 0 l fun x _ => by rw [PyData.depth]; exact Nat.le_refl _
  omega
theorem okI_lay (l : List Int) : (pI l).canLay0 = true := by
  unfold pI
  rw [PyData.canLay0]
  exact canLayAll_map _ _ fun x _ => by rw [PyData.canLay0]
theorem okI_eqv (l : List Int) : PyData.eqv (pI l) (pI l) = true := by
  unfold pI
  rw [PyData.eqv]
  exact eqvAll_self _ _ fun x _ => by rw [PyData.eqv]; simp
theorem gRepr_of {d : D} {a : PyData} (e : pyD d = some a) (h1 : a.showable = true) (h2 : a.hasDict = false) (h3 : a.depth ≤ 60) (h4 : a.shown.length ≤ 10000000) : gRepr [d] = some (.str a.shown) := by
  show (match pyD d with
    | some a => if a.showable = true ∧ a.hasDict = false ∧ a.depth ≤ 60 ∧ a.shown.length ≤ 10000000 then some (D.str a.shown) else none
    | none => none) = _
  rw [e]
  dsimp only
  rw [if_pos ⟨h1, h2, h3, h4⟩]
theorem gRepr_ints (w : Bool) {l : List Int} (h : okI l) : gRepr [.lst w (l.map .int)] = some (.str (pI l).shown) :=
  gRepr_of (pyD_ints w l) (okI_showable h) (okI_noDict l) (by have := okI_depth l; omega) (by have := okI_shown h; omega)
def okT (t : List (List Int)) : Prop := t.length ≤ 100 ∧ ∀ r ∈ t, okI r
theorem gRepr_tab (w v : Bool) {t : List (List Int)} (h : okT t) : gRepr [.lst w (t.map fun r => .lst v (r.map .int))] = some (.str (PyData.list (t.map pI)).shown) := by
  refine gRepr_of (pyD_tab w v t) ?_ ?_ ?_ ?_
  · rw [PyData.showable]; exact showableAll_map _ _ fun r hr => okI_showable (h.2 r hr)
  · rw [PyData.hasDict]; exact hasDictAll_map _ _ fun r _ => okI_noDict r
  · rw [PyData.depth]
    have := depthAll_map pI 1 t fun r _ => okI_depth r
    omega
  · rw [PyData.shown, shownAll_map]
    have := listText_le 302 (t.map fun r => (pI r).shown) fun x hx => by
      obtain ⟨r, hr, rfl⟩ := List.mem_map.mp hx
      exact okI_shown (h.2 r hr)
    rw [List.length_map] at this
    have := h.1
    omega
theorem gNe_tab (w w2 v v2 : Bool) (t : List (List Int)) : gNeA [.lst w (t.map fun r => .lst v (r.map .int)), .lst w2 (t.map fun r => .lst v2 (r.map .int))] = some (.bl false) := by
  show (eqD2 _ _).map _ = _
  have e : eqD2 (.lst w (t.map fun r => .lst v (r.map .int))) (.lst w2 (t.map fun r => .lst v2 (r.map .int))) = some true := by
    unfold eqD2
    rw [pyD_tab, pyD_tab]
    dsimp only
    have sh : SeqAt.shaped (PyData.list (t.map pI)) = true := by
      unfold SeqAt.shaped
      rw [Bool.and_eq_true]
      refine ⟨?_, decide_eq_true ?_⟩
      · rw [PyData.canLay0]; exact canLayAll_map _ _ fun r _ => okI_lay r
      · rw [PyData.depth]
        have := depthAll_map pI 1 t fun r _ => okI_depth r
        omega
    rw [if_pos ⟨sh, sh⟩]
    congr 1
    rw [PyData.eqv]
    exact eqvAll_self _ _ fun r _ => okI_eqv r
  rw [e]; rfl
theorem T_ok {a b : List Nat} (h : b.length ≤ 6) : okT (T a b) := by
  refine ⟨by rw [T_length]; omega, fun r hr => ?_⟩
  unfold T at hr
  obtain ⟨st, hst, rfl⟩ := List.mem_map.mp hr
  refine ⟨by simp; omega, fun x hx => ?_⟩
  obtain ⟨j, hj, rfl⟩ := List.mem_map.mp hx
  have := lastR_bd a ((b.drop st).take j)
  have hj := List.mem_range.mp hj
  simp at this
  omega
theorem winRow_ok {a b : List Nat} {k : Nat} (h : b.length ≤ 6) : okI (winRow a b k) := by
  refine ⟨by unfold winRow; simp; omega, fun x hx => ?_⟩
  unfold winRow at hx
  obtain ⟨st, hst, rfl⟩ := List.mem_map.mp hx
  have := lastR_bd a ((b.drop st).take k)
  simp at this
  omega
end K90

namespace K90
open PySem VS PyProof
theorem gRepr_int {v : Int} (h : 0 ≤ v) (h2 : v < 10) : gRepr [.int v] = some (.str (PyData.int v).shown) := by
  refine gRepr_of rfl ?_ ?_ ?_ ?_
  · rw [PyData.showable]
    refine decide_eq_true ?_
    have : v.natAbs.log2 ≤ v.natAbs := Nat.log2_le_self _
    omega
  · rw [PyData.hasDict]
  · rw [PyData.depth]; omega
  · rw [PyData.shown]
    have := PyProof.Rows.toString_length_le h (k := 1) (by decide) (by omega)
    omega
section
variable {x y : Str} (h1 : isT x = true) (h2 : isT y = true)
include h1 h2
theorem lr_L1 (d : D) (st j : Nat) (h : st + j ≤ (cs y).length) (c4 c7 c8 c9 c10 c11 c12 : Cl) : b_law_right_L1 [.val d true, .val (.str x) true, .val (.str y) true, .val (tabF (T (cs x) (cs y))) false, c4, .val (.int st) false, .val (.int ((st + j : Nat) : Int)) false, c7, c8, c9, c10, c11, c12] =
    .next [.val d true, .val (.str x) true, .val (.str y) true, .val (tabF (T (cs x) (cs y))) false, c4, .val (.int st) false, .val (.int ((st + j : Nat) : Int)) false, c7, c8, c9, c10, c11, c12] := by
  obtain ⟨bs, e1⟩ := sw_ok x y st j h1 h2 h
  obtain ⟨r, r1, r2⟩ := T_get (a := cs x) h
  have x1 := gIx_tab r1 st rfl
  have x2 : gIx [.lst false (r.map .int), .int (((st + j : Nat) : Int) - st)] = some (.int (lastR (cs x) (((cs y).drop st).take j))) := gIx_ints r2 _ (by omega)
  have l2 := isT_len h2
  have bd := lastR_bd (cs x) (((cs y).drop st).take j)
  have hl : (((cs y).drop st).take j).length ≤ 6 := by simp; omega
  have g := gRepr_int bd.1 (by omega)
  generalize tabF (T (cs x) (cs y)) = F at *
  generalize (((st + j : Nat) : Int)) = q at *
  generalize r.map D.int = R at *
  generalize (PyData.int (lastR (cs x) (((cs y).drop st).take j))).shown = S at *
  simp [b_law_right_L1, e1, x1, x2, g]
theorem lr_L2 (d : D) (st : Nat) (h : st ≤ (cs y).length) (c4 c6 c7 c8 c9 c10 c11 c12 : Cl) : ∃ c6', b_law_right_L2 [.val d true, .val (.str x) true, .val (.str y) true, .val (tabF (T (cs x) (cs y))) false, c4, .val (.int st) false, c6, c7, c8, c9, c10, c11, c12] =
    .next [.val d true, .val (.str x) true, .val (.str y) true, .val (tabF (T (cs x) (cs y))) false, c4, .val (.int st) false, c6', c7, c8, c9, c10, c11, c12] := by
  have l2 := isT_len h2
  obtain ⟨e', g1, c6', g2⟩ := for_inv (b := bName 6) (body := b_law_right_L1) (ds := (List.range ((cs y).length + 1 - st)).map fun k => D.int ((st + k : Nat) : Int)) (fun i e => ∃ c6, e = [.val d true, .val (.str x) true, .val (.str y) true, .val (tabF (T (cs x) (cs y))) false, c4, .val (.int st) false, c6, c7, c8, c9, c10, c11, c12])
    ⟨c6, rfl⟩ fun i d0 e hd ⟨x6, he⟩ => by
      subst he
      rw [List.getElem?_map] at hd
      obtain ⟨k, hk, rfl⟩ := Option.map_eq_some_iff.mp hd
      obtain ⟨hlt, ek⟩ := List.getElem?_eq_some_iff.mp hk
      rw [List.getElem_range] at ek
      rw [List.length_range] at hlt
      subst ek
      exact ⟨_, rfl, _, .inl (lr_L1 h1 h2 d st i (by omega) c4 c7 c8 c9 c10 c11 c12), _, rfl⟩
  refine ⟨c6', ?_⟩
  rw [g2] at g1
  rw [← rngF] at g1
  have o1 : rngOk (st : Int) = true := rngOk_small (by omega) (by omega)
  have o2 : rngOk (((cs y).length : Int) + 1) = true := rngOk_small (by omega) (by omega)
  have hlo : (cs y).length ≤ 10000000 := by omega
  generalize tabF (T (cs x) (cs y)) = F at *
  simp only [Int.natCast_add, Int.cast_ofNat_Int] at g1
  simp [b_law_right_L2, o1, o2, len_cs, hlo, g1]
theorem lr_F5 (d : D) (c4 c5 c6 c7 c8 c9 c10 c11 c12 : Cl) : ∃ c5' c6', sFor (srcR1 (eRO [.e (eRO [.n 2] gLen), .e (eC (.int 1))] gAdd)) (bName 5) b_law_right_L2 [.val d true, .val (.str x) true, .val (.str y) true, .val (tabF (T (cs x) (cs y))) false, c4, c5, c6, c7, c8, c9, c10, c11, c12] =
    .next [.val d true, .val (.str x) true, .val (.str y) true, .val (tabF (T (cs x) (cs y))) false, c4, c5', c6', c7, c8, c9, c10, c11, c12] := by
  have l2 := isT_len h2
  obtain ⟨e', g1, c5', c6', g2⟩ := for_inv (b := bName 5) (body := b_law_right_L2) (ds := (List.range ((cs y).length + 1)).map fun k => D.int (k : Nat)) (fun i e => ∃ c5 c6, e = [.val d true, .val (.str x) true, .val (.str y) true, .val (tabF (T (cs x) (cs y))) false, c4, c5, c6, c7, c8, c9, c10, c11, c12])
    ⟨c5, c6, rfl⟩ fun i d0 e hd ⟨x5, x6, he⟩ => by
      subst he
      rw [List.getElem?_map] at hd
      obtain ⟨k, hk, rfl⟩ := Option.map_eq_some_iff.mp hd
      obtain ⟨hlt, ek⟩ := List.getElem?_eq_some_iff.mp hk
      rw [List.getElem_range] at ek
      rw [List.length_range] at hlt
      subst ek
      obtain ⟨y6, hh⟩ := lr_L2 h1 h2 d i (by omega) c4 x6 c7 c8 c9 c10 c11 c12
      exact ⟨_, rfl, _, .inl hh, _, _, rfl⟩
  refine ⟨c5', c6', ?_⟩
  rw [g2] at g1
  rw [← rng0] at g1
  have o2 : rngOk (((cs y).length : Int) + 1) = true := rngOk_small (by omega) (by omega)
  have hlo : (cs y).length ≤ 10000000 := by omega
  generalize tabF (T (cs x) (cs y)) = F at *
  simp only [Int.natCast_add, Int.cast_ofNat_Int] at g1
  simp [o2, len_cs, hlo, g1]
theorem lr_L4 (d : D) (k : Nat) (hk : 1 ≤ k) (hk2 : k ≤ (cs y).length) (c4 c5 c6 c8 c9 c10 c11 c12 : Cl) : ∃ c8' c9', b_law_right_L4 [.val d true, .val (.str x) true, .val (.str y) true, .val (tabF (T (cs x) (cs y))) false, c4, c5, c6, .val (.int k) false, c8, c9, c10, c11, c12] =
    .next [.val d true, .val (.str x) true, .val (.str y) true, .val (tabF (T (cs x) (cs y))) false, c4, .dead, c6, .val (.int k) false, c8', c9', c10, c11, c12] := by
  have l2 := isT_len h2
  have lc : lcRun (bName 5) (fun env => .ok true env) b_law_right_E3 [5] (rngD 0 (((cs y).length - k + 1 : Nat) : Int)) [] [.val d true, .val (.str x) true, .val (.str y) true, .val (tabF (T (cs x) (cs y))) false, c4, c5, c6, .val (.int k) false, c8, c9, c10, c11, c12] = .ok ((winRow (cs x) (cs y) k).map .int) [.val d true, .val (.str x) true, .val (.str y) true, .val (tabF (T (cs x) (cs y))) false, c4, .dead, c6, .val (.int k) false, c8, c9, c10, c11, c12] := by
    rw [rng0]
    unfold winRow
    rw [List.map_map]
    refine lc_all _ _ rfl (by simp; omega) fun st hst => ⟨_, rfl, [.val d true, .val (.str x) true, .val (.str y) true, .val (tabF (T (cs x) (cs y))) false, c4, .val (.int st) false, c6, .val (.int k) false, c8, c9, c10, c11, c12], ?_, rfl⟩
    have hst := List.mem_range.mp hst
    obtain ⟨r, r1, r2⟩ := T_get (a := cs x) (b := cs y) (st := st) (j := k) (by omega)
    have x1 := gIx_tab r1 st rfl
    have x2 : gIx [.lst false (r.map .int), .int k] = some (.int (lastR (cs x) (((cs y).drop st).take k))) := gIx_ints r2 _ rfl
    generalize tabF (T (cs x) (cs y)) = U' at *
    generalize r.map D.int = R at *
    simp [b_law_right_E3, x1, x2]
  obtain ⟨bs, hw⟩ := ws_ok x y k h1 h2 hk hk2
  have hr := gRepr_ints true (winRow_ok (a := cs x) (k := k) l2)
  have hwl : (winRow (cs x) (cs y) k).length < 10000000 := by unfold winRow; simp; omega
  have hlw : ((winRow (cs x) (cs y) k).map D.int).length < 10000000 := by rw [List.length_map]; exact hwl
  have ho : ownL ((winRow (cs x) (cs y) k).map D.int) = false := ownL_intsS _
  have e : (((cs y).length : Int) - k + 1) = (((cs y).length - k + 1 : Nat) : Int) := by omega
  have o1 : rngOk (((cs y).length - k + 1 : Nat) : Int) = true := rngOk_small (by omega) (by omega)
  have hlo : (cs y).length ≤ 10000000 := by omega
  refine ⟨.val (.lst true ((winRow (cs x) (cs y) k).map .int)) false, .val (.lst true ((winRow (cs x) (cs y) k).map .int ++ [.str "spoilt"])) false, ?_⟩
  generalize tabF (T (cs x) (cs y)) = F at *
  generalize (((cs y).length - k + 1 : Nat) : Int) = m at *
  generalize (winRow (cs x) (cs y) k).map D.int = R at *
  generalize (pI (winRow (cs x) (cs y) k)).shown = S at *
  simp [b_law_right_L4, len_cs, hlo, e, o1, lc, hw, hr, eAppend, hlw, eCallK_def]
end
end K90

namespace K90
open PySem VS PyProof
section
variable {x y : Str} (h1 : isT x = true) (h2 : isT y = true)
include h1 h2
theorem lr_F7 (d : D) (c4 c5 c6 c7 c8 c9 c10 c11 c12 : Cl) : ∃ c5' c7' c8' c9', sFor (srcR2 (eC (.int 1)) (eRO [.e (eRO [.n 2] gLen), .e (eC (.int 1))] gAdd)) (bName 7) b_law_right_L4 [.val d true, .val (.str x) true, .val (.str y) true, .val (tabF (T (cs x) (cs y))) false, c4, c5, c6, c7, c8, c9, c10, c11, c12] =
    .next [.val d true, .val (.str x) true, .val (.str y) true, .val (tabF (T (cs x) (cs y))) false, c4, c5', c6, c7', c8', c9', c10, c11, c12] := by
  have l2 := isT_len h2
  obtain ⟨e', g1, c5', c7', c8', c9', g2⟩ := for_inv (b := bName 7) (body := b_law_right_L4) (ds := (List.range ((cs y).length + 1 - 1)).map fun k => D.int ((1 + k : Nat) : Int)) (fun i e => ∃ c5 c7 c8 c9, e = [.val d true, .val (.str x) true, .val (.str y) true, .val (tabF (T (cs x) (cs y))) false, c4, c5, c6, c7, c8, c9, c10, c11, c12])
    ⟨c5, c7, c8, c9, rfl⟩ fun i d0 e hd ⟨x5, x7, x8, x9, he⟩ => by
      subst he
      rw [List.getElem?_map] at hd
      obtain ⟨k, hk, rfl⟩ := Option.map_eq_some_iff.mp hd
      obtain ⟨hlt, ek⟩ := List.getElem?_eq_some_iff.mp hk
      rw [List.getElem_range] at ek
      rw [List.length_range] at hlt
      subst ek
      obtain ⟨y8, y9, hh⟩ := lr_L4 h1 h2 d (1 + i) (by omega) (by omega) c4 x5 c6 x8 x9 c10 c11 c12
      exact ⟨_, rfl, _, .inl hh, _, _, _, _, rfl⟩
  refine ⟨c5', c7', c8', c9', ?_⟩
  rw [g2] at g1
  rw [← rngF] at g1
  have o1 : rngOk 1 = true := by decide
  have o2 : rngOk (((cs y).length : Int) + 1) = true := rngOk_small (by omega) (by omega)
  have hlo : (cs y).length ≤ 10000000 := by omega
  generalize tabF (T (cs x) (cs y)) = F at *
  simp only [Int.natCast_add, Int.cast_ofNat_Int] at g1
  simp [o1, o2, len_cs, hlo, g1]
theorem lr_L7 (d : D) (st : Nat) (hst : st ≤ (cs y).length) (c3 c4 c5 c6 c7 c8 c9 c11 c12 : Cl) : ∃ c10', b_law_right_L7 [.val d true, .val (.str x) true, .val (.str y) true, c3, c4, c5, c6, c7, c8, c9, .val (.lst false (((List.range ((cs y).length + 1 - st)).map fun j => lastR (cs x) (((cs y).drop st).take j)).map .int)) false, c11, c12] =
    .next [.val d true, .val (.str x) true, .val (.str y) true, c3, c4, c5, c6, c7, c8, c9, c10', .dead, .dead] := by
  have l2 := isT_len h2
  generalize hrow : (List.range ((cs y).length + 1 - st)).map (fun j => lastR (cs x) (((cs y).drop st).take j)) = row
  have hrl : row.length = (cs y).length + 1 - st := by rw [← hrow]; simp
  have hpair : ∀ p ∈ row.zip (row.drop 1), 0 ≤ p.2 - p.1 ∧ p.2 - p.1 ≤ 1 := fun p hp => by
    obtain ⟨i, hi, rfl⟩ := List.mem_iff_getElem.mp hp
    rw [List.length_zip, List.length_drop] at hi
    have hs := lastR_step (cs x) (cs y) st i (by omega)
    simp only [List.getElem_zip, List.getElem_drop, ← hrow, List.getElem_map, List.getElem_range]
    rw [show 1 + i = i + 1 by omega]
    exact hs
  have hz : zipD (row.map .int) ((row.drop 1).map .int) = (row.zip (row.drop 1)).map fun p => .tup [.int p.1, .int p.2] := by
    unfold zipD
    rw [List.zip_map, List.map_map]
    rfl
  have hs : gSlLo [.lst false (row.map .int), .int 1] = some (.lst true ((row.drop 1).map .int)) := by
    show (if ownL (row.map D.int) = false then some (D.lst true (cutD (row.map .int) (some ((1 : Nat) : Int)) none)) else none) = _
    rw [if_pos (ownL_intsS _), cutD_lo, List.map_drop]
  have lc : lcRun (bTup [bName 11, bName 12]) b_law_right_C5 b_law_right_E6 [11, 12] (zipD (row.map .int) ((row.drop 1).map .int)) [] [.val d true, .val (.str x) true, .val (.str y) true, c3, c4, c5, c6, c7, c8, c9, .val (.lst false (row.map .int)) false, c11, c12] = .ok [] [.val d true, .val (.str x) true, .val (.str y) true, c3, c4, c5, c6, c7, c8, c9, .val (.lst false (row.map .int)) false, .dead, .dead] := by
    rw [hz]
    have := lc_over (b := bTup [bName 11, bName 12]) (cond := b_law_right_C5) (elt := b_law_right_E6) (vs := [11, 12]) (K0 := [.val d true, .val (.str x) true, .val (.str y) true, c3, c4, c5, c6, c7, c8, c9, .val (.lst false (row.map .int)) false, .dead, .dead]) (fun p : Int × Int => D.tup [.int p.1, .int p.2]) (fun _ => .non) (fun _ => false) (row.zip (row.drop 1)) [] [.val d true, .val (.str x) true, .val (.str y) true, c3, c4, c5, c6, c7, c8, c9, .val (.lst false (row.map .int)) false, c11, c12] rfl (by simp; omega) fun p hp => by
        obtain ⟨p1, p2⟩ := hpair p hp
        refine ⟨_, rfl, [.val d true, .val (.str x) true, .val (.str y) true, c3, c4, c5, c6, c7, c8, c9, .val (.lst false (row.map .int)) false, .val (.int p.1) false, .val (.int p.2) false], ?_, fun _ => rfl, fun z => by cases z⟩
        generalize row.map D.int = R at *
        have p3 : p.1 ≤ p.2 := by omega
        simp [b_law_right_C5, eChain, p3, p2]
    rw [this]
    simp
  have ho : ownL (row.map D.int) = false := ownL_intsS _
  have ho2 : ownL ((row.drop 1).map D.int) = false := ownL_intsS _
  have hf : frzL (row.map D.int) = row.map D.int := frzL_ints _
  have hne : gNeA [.lst true [], .lst true []] = some (.bl false) := gNe_tab true true true true []
  refine ⟨.val (.lst false (row.map .int)) false, ?_⟩
  generalize row.map D.int = R at *
  generalize (row.drop 1).map D.int = R1 at *
  simp [b_law_right_L7, srcZip, hf, hs, ho, ho2, lc, hne]
theorem lr_F10 (d : D) (c4 c5 c6 c7 c8 c9 c10 c11 c12 : Cl) : ∃ c10' c11' c12', sFor (srcN itemsD 3) (bName 10) b_law_right_L7 [.val d true, .val (.str x) true, .val (.str y) true, .val (tabF (T (cs x) (cs y))) false, c4, c5, c6, c7, c8, c9, c10, c11, c12] =
    .next [.val d true, .val (.str x) true, .val (.str y) true, .val (tabF (T (cs x) (cs y))) false, c4, c5, c6, c7, c8, c9, c10', c11', c12'] := by
  obtain ⟨e', g1, c10', c11', c12', g2⟩ := for_inv (b := bName 10) (body := b_law_right_L7) (ds := (T (cs x) (cs y)).map fun r => D.lst false (r.map .int)) (fun i e => ∃ c10 c11 c12, e = [.val d true, .val (.str x) true, .val (.str y) true, .val (tabF (T (cs x) (cs y))) false, c4, c5, c6, c7, c8, c9, c10, c11, c12])
    ⟨c10, c11, c12, rfl⟩ fun i d0 e hd ⟨x10, x11, x12, he⟩ => by
      subst he
      rw [List.getElem?_map] at hd
      obtain ⟨r, hr, rfl⟩ := Option.map_eq_some_iff.mp hd
      unfold T at hr
      rw [List.getElem?_map] at hr
      obtain ⟨st, hst, rfl⟩ := Option.map_eq_some_iff.mp hr
      have hst2 : st < (cs y).length + 1 := List.mem_range.mp (List.mem_of_getElem? hst)
      obtain ⟨y10, hh⟩ := lr_L7 h1 h2 d st (by omega) (.val (tabF (T (cs x) (cs y))) false) c4 c5 c6 c7 c8 c9 x11 x12
      exact ⟨_, rfl, _, .inl hh, _, _, _, rfl⟩
  refine ⟨c10', c11', c12', ?_⟩
  rw [g2] at g1
  have hi : itemsD (tabF (T (cs x) (cs y))) = some ((T (cs x) (cs y)).map fun r => D.lst false (r.map .int)) := itemsD_lst (ownL_tabF _)
  have ho := own_tabF (T (cs x) (cs y))
  generalize tabF (T (cs x) (cs y)) = F at *
  generalize (T (cs x) (cs y)).map (fun r => D.lst false (r.map .int)) = L at *
  simp [hi, ho, g1]
theorem T_split : ∃ T', T (cs x) (cs y) = ((List.range ((cs y).length + 1)).map fun j => lastR (cs x) ((cs y).take j)) :: T' := by
  exact ⟨((List.range (cs y).length).map Nat.succ).map fun st => (List.range ((cs y).length + 1 - st)).map fun j => lastR (cs x) (((cs y).drop st).take j), congrArg (List.map fun st => (List.range ((cs y).length + 1 - st)).map fun j => lastR (cs x) (((cs y).drop st).take j)) List.range_succ_eq_map⟩
theorem law_right_ok (d : D) : ∃ bs, f_law_right [d, .str x, .str y] = .ok (.bl true) (some d :: bs) := by
  have l2 := isT_len h2
  obtain ⟨b1, e1⟩ := due_ok x y (by omega)
  obtain ⟨b2, e2⟩ := wt_ok x y h1 h2
  have hf := frz_tab (T (cs x) (cs y))
  have r1 : gRepr [tabD (T (cs x) (cs y))] = some (.str (PyData.list ((T (cs x) (cs y)).map pI)).shown) := gRepr_tab true true (T_ok l2)
  have r2 : gRepr [tabF (T (cs x) (cs y))] = some (.str (PyData.list ((T (cs x) (cs y)).map pI)).shown) := gRepr_tab false false (T_ok l2)
  have e3 := shared_ok x y h1 h2
  obtain ⟨T', hT⟩ := T_split h1 h2
  have hrow : ((List.range ((cs y).length + 1)).map fun j => lastR (cs x) ((cs y).take j)).getLast? = some (lastR (cs x) (cs y)) := by
    rw [List.range_succ, List.map_append, List.map_singleton, List.getLast?_append]
    simp
  generalize hR0 : (List.range ((cs y).length + 1)).map (fun j => lastR (cs x) ((cs y).take j)) = R0 at hT hrow
  have hrl : R0.length = (cs y).length + 1 := by rw [← hR0]; simp
  have ix : L2.atI (R0.map D.int) (-1) = some (.int (lastR (cs x) (cs y))) := atI_last (by rw [List.getLast?_map, hrow]; rfl)
  have ht : tabD (T (cs x) (cs y)) = .lst true (.lst true (R0.map .int) :: T'.map fun r => .lst true (r.map .int)) := by unfold tabD; rw [hT]; rfl
  have sl1 : gSlLo [.lst false (.lst false (R0.map .int ++ [.str "spoilt"]) :: T'.map fun r => .lst false (r.map .int)), .int 1] = some (.lst true (T'.map fun r => .lst false (r.map .int))) := by
    have ho : ownL (D.lst false (R0.map .int ++ [.str "spoilt"]) :: T'.map fun r => .lst false (r.map .int)) = false := by
      rw [ownL_cons, ownL_tabF]
      simp [ownL_append]
    show (if ownL _ = false then some (D.lst true (cutD _ (some ((1 : Nat) : Int)) none)) else none) = _
    rw [if_pos ho, cutD_lo]
    rfl
  have sl2 : gSlLo [tabF (T (cs x) (cs y)), .int 1] = some (.lst true (T'.map fun r => .lst false (r.map .int))) := by
    show (if ownL _ = false then some (D.lst true (cutD _ (some ((1 : Nat) : Int)) none)) else none) = _
    rw [if_pos (ownL_tabF _), cutD_lo, hT]
    rfl
  have ne := gNe_tab true true false false T'
  have fr : frzL (D.lst true (R0.map .int ++ [.str "spoilt"]) :: T'.map fun r => .lst true (r.map .int)) = D.lst false (R0.map .int ++ [.str "spoilt"]) :: T'.map fun r => .lst false (r.map .int) := by
    rw [frzL_cons, frzL_map, frz_lst, frzL_eq, List.map_append]
    simp
  obtain ⟨c5, c6, g5⟩ := lr_F5 h1 h2 d (.val (.lst false (.lst false (R0.map .int ++ [.str "spoilt"]) :: T'.map fun r => .lst false (r.map .int))) false) .dead .dead .dead .dead .dead .dead .dead .dead
  obtain ⟨c5', c7, c8, c9, g7⟩ := lr_F7 h1 h2 d (.val (.lst false (.lst false (R0.map .int ++ [.str "spoilt"]) :: T'.map fun r => .lst false (r.map .int))) false) c5 c6 .dead .dead .dead .dead .dead .dead
  obtain ⟨c10, c11, c12, g10⟩ := lr_F10 h1 h2 d (.val (.lst false (.lst false (R0.map .int ++ [.str "spoilt"]) :: T'.map fun r => .lst false (r.map .int))) false) c5' c6 c7 c8 c9 .dead .dead .dead
  have hlen : (R0.map D.int).length < 10000000 := by rw [List.length_map]; omega
  refine ⟨[some (.str x), some (.str y)], ?_⟩
  generalize (PyData.list ((T (cs x) (cs y)).map pI)).shown = S at *
  generalize tabF (T (cs x) (cs y)) = F at *
  generalize hTD : tabD (T (cs x) (cs y)) = TD at *
  generalize (T'.map fun r => D.lst false (r.map .int)) = TF at *
  generalize (T'.map fun r => D.lst true (r.map .int)) = TT at *
  generalize R0.map D.int = R at *
  have s1 : sAsg (eTup (aCons (eFrz (eCall f_law_due [.n 1, .n 2])) (aCons (eCall f_window_table [.n 1, .n 2]) (aNil)))) (bTup [bName 3, bName 4]) [.val d true, .val (.str x) true, .val (.str y) true, .dead, .dead, .dead, .dead, .dead, .dead, .dead, .dead, .dead, .dead] = .next [.val d true, .val (.str x) true, .val (.str y) true, .val F false, .val TD false, .dead, .dead, .dead, .dead, .dead, .dead, .dead, .dead] := by
    simp [e1, e2, hf]
  have s2 : sIf (bOr (asB (eRO [.e (eRO [.n 4] gRepr), .e (eRO [.n 3] gRepr)] gNeA)) (asB (eRO [.e (eIx2 4 0 (-1)), .e (eCall f_shared [.n 1, .n 2])] gNeA))) (sRet (eC (.bl false))) (sSkip) [.val d true, .val (.str x) true, .val (.str y) true, .val F false, .val TD false, .dead, .dead, .dead, .dead, .dead, .dead, .dead, .dead] = .next [.val d true, .val (.str x) true, .val (.str y) true, .val F false, .val TD false, .dead, .dead, .dead, .dead, .dead, .dead, .dead, .dead] := by
    have hx : eIx2 4 0 (-1) [.val d true, .val (.str x) true, .val (.str y) true, .val F false, .val TD false, .dead, .dead, .dead, .dead, .dead, .dead, .dead, .dead] = .ok (.int (lastR (cs x) (cs y))) [.val d true, .val (.str x) true, .val (.str y) true, .val F false, .val TD false, .dead, .dead, .dead, .dead, .dead, .dead, .dead, .dead] := by
      rw [ht]
      have a0 : L2.atI (D.lst true R :: TT) 0 = some (.lst true R) := by
        have := L2.atI_nat (xs := D.lst true R :: TT) (j := 0) (v := .lst true R) rfl
        exact this
      simp [eIx2, a0, ix]
    simp [r1, r2, hx, e3]
  have s3 : sDrop (eAppIn 4 0 "spoilt") [.val d true, .val (.str x) true, .val (.str y) true, .val F false, .val TD false, .dead, .dead, .dead, .dead, .dead, .dead, .dead, .dead] = .next [.val d true, .val (.str x) true, .val (.str y) true, .val F false, .val (.lst true (.lst true (R ++ [.str "spoilt"]) :: TT)) false, .dead, .dead, .dead, .dead, .dead, .dead, .dead, .dead] := by
    rw [ht]
    simp [eAppIn, hlen]
  have s4 : sIf (bOr (asB (eRO [.e (eRO [.e (eVar 4), .e (eInt (eC (.int 1)))] gSlLo), .e (eRO [.n 3, .e (eInt (eC (.int 1)))] gSlLo)] gNeA)) (asB (eRO [.e (eRO [.e (eCallK f_window_table [1, 0] (aCons (eVar 2) (aCons (eVar 1) (aNil))))] gRepr), .e (eRO [.n 3] gRepr)] gNeA))) (sRet (eC (.bl false))) (sSkip) [.val d true, .val (.str x) true, .val (.str y) true, .val F false, .val (.lst true (.lst true (R ++ [.str "spoilt"]) :: TT)) false, .dead, .dead, .dead, .dead, .dead, .dead, .dead, .dead] = .next [.val d true, .val (.str x) true, .val (.str y) true, .val F false, .val (.lst false (.lst false (R ++ [.str "spoilt"]) :: TF)) false, .dead, .dead, .dead, .dead, .dead, .dead, .dead, .dead] := by
    generalize D.lst true (R ++ [.str "spoilt"]) :: TT = U at *
    generalize D.lst false (R ++ [.str "spoilt"]) :: TF = U' at *
    simp [fr, sl1, sl2, ne, eCallK_def, e2, r1, r2]
  have h0 : b_law_right [.val d true, .val (.str x) true, .val (.str y) true, .dead, .dead, .dead, .dead, .dead, .dead, .dead, .dead, .dead, .dead] = .ret (.bl true) [.val d true, .val (.str x) true, .val (.str y) true, .val F false, .val (.lst false (.lst false (R ++ [.str "spoilt"]) :: TF)) false, c5', c6, c7, c8, c9, c10, c11, c12] := by
    unfold b_law_right
    rw [sSeq_def, s1, seq_next, sSeq_def, s2, seq_next, sSeq_def, s3, seq_next, sSeq_def, s4, seq_next, sSeq_def, g5, seq_next, sSeq_def, g7, seq_next, sSeq_def, g10, seq_next]
    rfl
  unfold f_law_right fBody
  have ee : ([d, .str x, .str y].map fun d => Cl.val d true) ++ List.replicate (13 - 3) .dead = [.val d true, .val (.str x) true, .val (.str y) true, .dead, .dead, .dead, .dead, .dead, .dead, .dead, .dead, .dead, .dead] := rfl
  rw [ee, h0]
  rfl
end
end K90

namespace K90
open PySem VS PyProof
theorem word_text (w : Nat) (hw : w < 3) {t o a b : D} (h1 : okTx t = true) (h2 : okTx o = true) (h3 : own a = false) (h4 : own b = false) (hb : (isTx t && isTx o) = false) : ∃ bs, f_law_word_of [.int w, t, o, a, b] = .ok (.str "text") bs := by
  match w, hw with
  | 0, _ =>
    obtain ⟨bs, e⟩ := sw_text t o a b h1 h2 h3 h4 hb
    exact w0_err e selT (okTx_own h1) (okTx_own h2) h3 h4
  | 1, _ =>
    obtain ⟨bs, e⟩ := wt_text t o h1 h2 hb
    exact w1_err e selT (okTx_own h1) (okTx_own h2)
  | 2, _ =>
    obtain ⟨bs, e⟩ := ws_text t o a h1 h2 h3 hb
    exact w2_err e selT (okTx_own h1) (okTx_own h2) h3
def oddL (n : Int) : List D := [.int (-1), .int (n + 1), .bl true, .bl false, .non, .str "0", .tup [.int 0], .lst false [.int 0], .int 100000000000000000000]
theorem odd_all (n : Int) (hn : 0 ≤ n) (hn2 : n ≤ 1000) : ∀ d ∈ oddL n, isD d = true ∧ own d = false ∧ ∀ a : Int, 0 ≤ a → inR d a n = false := by
  intro d hd
  unfold oddL at hd
  simp only [List.mem_cons, List.not_mem_nil, or_false] at hd
  rcases hd with rfl | rfl | rfl | rfl | rfl | rfl | rfl | rfl | rfl
  · exact ⟨rfl, rfl, fun a ha => by unfold inR; simp; omega⟩
  · exact ⟨rfl, rfl, fun a ha => by unfold inR; simp; omega⟩
  · exact ⟨rfl, rfl, fun _ _ => rfl⟩
  · exact ⟨rfl, rfl, fun _ _ => rfl⟩
  · exact ⟨rfl, rfl, fun _ _ => rfl⟩
  · exact ⟨rfl, rfl, fun _ _ => rfl⟩
  · exact ⟨rfl, rfl, fun _ _ => rfl⟩
  · exact ⟨rfl, rfl, fun _ _ => rfl⟩
  · exact ⟨rfl, rfl, fun a ha => by unfold inR; simp; omega⟩
theorem ne3 (w v : Bool) (s : Str) (hs : s = "text" ∨ s = "index") : gNeA [.lst w [.str s, .str s, .str s], .lst v [.str s, .str s, .str s]] = some (.bl false) := by
  have e : eqD2 (.lst w [.str s, .str s, .str s]) (.lst v [.str s, .str s, .str s]) = some true := by rcases hs with rfl | rfl <;> cases w <;> cases v <;> decide +kernel
  show (eqD2 _ _).map _ = _
  rw [e]; rfl
theorem rep3 : gMul [.lst true [.str "index"], .int 3] = some (.lst true [.str "index", .str "index", .str "index"]) := by rfl
section
variable {x y : Str} (h1 : isT x = true) (h2 : isT y = true)
include h1 h2
theorem rr_L1 (d bad worse : D) (w : Nat) (hw : w < 3) (b1 : okTx bad = true) (b2 : isTx bad = false) (w1 : okTx worse = true) (w2 : isTx worse = false) (c8 c9 c10 c11 c12 : Cl) : b_law_refused_right_L1 [.val d true, .val (.str x) true, .val (.str y) true, .val bad false, .val worse false, .val (.int (cs y).length) false, .val (.lst false (oddL (cs y).length)) false, .val (.int w) false, c8, c9, c10, c11, c12] =
    .next [.val d true, .val (.str x) true, .val (.str y) true, .val bad false, .val worse false, .val (.int (cs y).length) false, .val (.lst false (oddL (cs y).length)) false, .val (.int w) false, .val (.lst false [.str "text", .str "text", .str "text"]) false, c9, c10, c11, c12] := by
  obtain ⟨g1, e1⟩ := word_text w hw (a := .int (-1)) (b := .int ((cs y).length + 1)) b1 w1 rfl rfl (by rw [b2]; rfl)
  obtain ⟨g2, e2⟩ := word_text w hw (a := .int 0) (b := .int 0) b1 (isT_ok h2) rfl rfl (by rw [b2]; rfl)
  obtain ⟨g3, e3⟩ := word_text w hw (a := .int (-1)) (b := .int ((cs y).length + 1)) (isT_ok h1) w1 rfl rfl (by rw [w2]; simp)
  have x0 : gIx [.lst false (oddL (cs y).length), .int 0] = some (.int (-1)) := rfl
  have x1 : gIx [.lst false (oddL (cs y).length), .int 1] = some (.int ((cs y).length + 1)) := rfl
  have o1 := okTx_own b1
  have o2 := okTx_own w1
  have n3 := ne3 false true "text" (.inl rfl)
  generalize oddL (cs y).length = L at *
  simp [b_law_refused_right_L1, e1, e2, e3, x0, x1, o1, o2, n3]
theorem rr_F7 (d bad worse : D) (b1 : okTx bad = true) (b2 : isTx bad = false) (w1 : okTx worse = true) (w2 : isTx worse = false) (c7 c8 c9 c10 c11 c12 : Cl) : ∃ c7' c8', sFor (srcR1 (eC (.int 3))) (bName 7) b_law_refused_right_L1 [.val d true, .val (.str x) true, .val (.str y) true, .val bad false, .val worse false, .val (.int (cs y).length) false, .val (.lst false (oddL (cs y).length)) false, c7, c8, c9, c10, c11, c12] =
    .next [.val d true, .val (.str x) true, .val (.str y) true, .val bad false, .val worse false, .val (.int (cs y).length) false, .val (.lst false (oddL (cs y).length)) false, c7', c8', c9, c10, c11, c12] := by
  obtain ⟨e', g1, c7', c8', g2⟩ := for_inv (b := bName 7) (body := b_law_refused_right_L1) (ds := (List.range 3).map fun k => D.int (k : Nat)) (fun i e => ∃ c7 c8, e = [.val d true, .val (.str x) true, .val (.str y) true, .val bad false, .val worse false, .val (.int (cs y).length) false, .val (.lst false (oddL (cs y).length)) false, c7, c8, c9, c10, c11, c12])
    ⟨c7, c8, rfl⟩ fun i d0 e hd ⟨x7, x8, he⟩ => by
      subst he
      rw [List.getElem?_map] at hd
      obtain ⟨k, hk, rfl⟩ := Option.map_eq_some_iff.mp hd
      have hk3 : k < 3 := List.mem_range.mp (List.mem_of_getElem? hk)
      exact ⟨_, rfl, _, .inl (rr_L1 h1 h2 d bad worse k hk3 b1 b2 w1 w2 x8 c9 c10 c11 c12), _, _, rfl⟩
  refine ⟨c7', c8', ?_⟩
  rw [g2] at g1
  rw [← rng0] at g1
  have g1' : forRun (bName 7) b_law_refused_right_L1 (rngD 0 3) [.val d true, .val (.str x) true, .val (.str y) true, .val bad false, .val worse false, .val (.int (cs y).length) false, .val (.lst false (oddL (cs y).length)) false, c7, c8, c9, c10, c11, c12] = _ := g1
  have o1 : rngOk 3 = true := by decide
  generalize oddL (cs y).length = L at *
  simp [o1, g1']
theorem word_index0 {s t : D} (hs : isD s = true) (h3 : own s = false) (h4 : own t = false) (hb : inR s 0 (cs y).length = false) : ∃ bs, f_law_word_of [.int 0, .str x, .str y, s, t] = .ok (.str "index") bs := by
  obtain ⟨bs, e⟩ := sw_start x y s t h1 h2 hs h3 h4 hb
  exact w0_err e selI rfl rfl h3 h4
theorem word_index1 {i : Int} {t : D} (hi : inR (.int i) 0 (cs y).length = true) (ht : isD t = true) (h4 : own t = false) (hb : inR t i (cs y).length = false) : ∃ bs, f_law_word_of [.int 0, .str x, .str y, .int i, t] = .ok (.str "index") bs := by
  obtain ⟨bs, e⟩ := sw_end x y i t h1 h2 hi ht h4 hb
  exact w0_err e selI rfl rfl rfl h4
theorem word_number {s b : D} (hs : isD s = true) (h3 : own s = false) (hb : inR s 1 (cs y).length = false) : ∃ bs, f_law_word_of [.int 2, .str x, .str y, s, b] = .ok (.str "number") bs := by
  obtain ⟨bs, e⟩ := ws_number x y s h1 h2 hs h3 hb
  exact w2_err e selN rfl rfl h3
theorem word_good {at' : Nat} (h : at' ≤ (cs y).length) : ∃ bs, f_law_word_of [.int 0, .str x, .str y, .int at', .int at'] = .ok (.str "") bs := by
  obtain ⟨bs, e⟩ := sw_ok x y at' 0 h1 h2 (by omega)
  exact w0_ok e rfl rfl rfl rfl
theorem rr_L2 (d bad worse num : D) (at' : Nat) (hat : at' ≤ (cs y).length) (hnum : num ∈ oddL (cs y).length) (c7 c8 c11 c12 : Cl) : b_law_refused_right_L2 [.val d true, .val (.str x) true, .val (.str y) true, .val bad false, .val worse false, .val (.int (cs y).length) false, .val (.lst false (oddL (cs y).length)) false, c7, c8, .val (.int at') false, .val num false, c11, c12] =
    .next [.val d true, .val (.str x) true, .val (.str y) true, .val bad false, .val worse false, .val (.int (cs y).length) false, .val (.lst false (oddL (cs y).length)) false, c7, c8, .val (.int at') false, .val num false, c11, c12] := by
  have l2 := isT_len h2
  obtain ⟨n1, n2, n3⟩ := odd_all (cs y).length (by omega) (by omega) num hnum
  obtain ⟨g1, e1⟩ := word_index0 h1 h2 (t := .int (cs y).length) n1 n2 rfl (n3 0 (by omega))
  obtain ⟨g2, e2⟩ := word_index0 h1 h2 (t := num) n1 n2 n2 (n3 0 (by omega))
  obtain ⟨g3, e3⟩ := word_index1 h1 h2 (i := at') (t := num) (by unfold inR; simp; omega) n1 n2 (n3 at' (by omega))
  obtain ⟨g4, e4⟩ := word_number h1 h2 (b := .non) n1 n2 (n3 1 (by omega))
  have hne := ne3 true true "index" (.inr rfl)
  have r3 := rep3
  generalize oddL (cs y).length = L at *
  simp [b_law_refused_right_L2, e1, e2, e3, e4, n2, r3, hne]
theorem rr_F10 (d bad worse : D) (at' : Nat) (hat : at' ≤ (cs y).length) (c7 c8 c10 c11 c12 : Cl) : ∃ c10', sFor (srcN itemsD 6) (bName 10) b_law_refused_right_L2 [.val d true, .val (.str x) true, .val (.str y) true, .val bad false, .val worse false, .val (.int (cs y).length) false, .val (.lst false (oddL (cs y).length)) false, c7, c8, .val (.int at') false, c10, c11, c12] =
    .next [.val d true, .val (.str x) true, .val (.str y) true, .val bad false, .val worse false, .val (.int (cs y).length) false, .val (.lst false (oddL (cs y).length)) false, c7, c8, .val (.int at') false, c10', c11, c12] := by
  obtain ⟨e', g1, c10', g2⟩ := for_inv (b := bName 10) (body := b_law_refused_right_L2) (ds := oddL (cs y).length) (fun i e => ∃ c10, e = [.val d true, .val (.str x) true, .val (.str y) true, .val bad false, .val worse false, .val (.int (cs y).length) false, .val (.lst false (oddL (cs y).length)) false, c7, c8, .val (.int at') false, c10, c11, c12])
    ⟨c10, rfl⟩ fun i d0 e hd ⟨x10, he⟩ => by
      subst he
      exact ⟨_, rfl, _, .inl (rr_L2 h1 h2 d bad worse d0 at' hat (List.mem_of_getElem? hd) c7 c8 c11 c12), _, rfl⟩
  refine ⟨c10', ?_⟩
  rw [g2] at g1
  have ho : ownL (oddL (cs y).length) = false := rfl
  have hi : itemsD (.lst false (oddL (cs y).length)) = some (oddL (cs y).length) := itemsD_lst ho
  generalize oddL (cs y).length = L at *
  simp [hi, ho, g1]
theorem rr_L5 (d bad worse : D) (c9 : Cl) (st : Nat) (hst : st ≤ (cs y).length) (c6 c7 c8 c10 c12 : Cl) : b_law_refused_right_L5 [.val d true, .val (.str x) true, .val (.str y) true, .val bad false, .val worse false, .val (.int (cs y).length) false, c6, c7, c8, c9, c10, .val (.int st) false, c12] =
    .next [.val d true, .val (.str x) true, .val (.str y) true, .val bad false, .val worse false, .val (.int (cs y).length) false, c6, c7, c8, c9, c10, .val (.int st) false, .dead] := by
  have l2 := isT_len h2
  have lc : lcRun (bName 12) b_law_refused_right_C3 b_law_refused_right_E4 [12] (rngD 0 st) [] [.val d true, .val (.str x) true, .val (.str y) true, .val bad false, .val worse false, .val (.int (cs y).length) false, c6, c7, c8, c9, c10, .val (.int st) false, c12] = .ok [] [.val d true, .val (.str x) true, .val (.str y) true, .val bad false, .val worse false, .val (.int (cs y).length) false, c6, c7, c8, c9, c10, .val (.int st) false, .dead] := by
    rw [rng0]
    have := lc_over (b := bName 12) (cond := b_law_refused_right_C3) (elt := b_law_refused_right_E4) (vs := [12]) (K0 := [.val d true, .val (.str x) true, .val (.str y) true, .val bad false, .val worse false, .val (.int (cs y).length) false, c6, c7, c8, c9, c10, .val (.int st) false, .dead]) (fun k : Nat => D.int k) (fun _ => .non) (fun _ => false) (List.range st) [] [.val d true, .val (.str x) true, .val (.str y) true, .val bad false, .val worse false, .val (.int (cs y).length) false, c6, c7, c8, c9, c10, .val (.int st) false, c12] rfl (by simp; omega) fun k hk => by
      have hk := List.mem_range.mp hk
      obtain ⟨g, e⟩ := word_index1 h1 h2 (i := st) (t := .int k) (by unfold inR; simp; omega) rfl rfl (by unfold inR; simp; omega)
      refine ⟨_, rfl, [.val d true, .val (.str x) true, .val (.str y) true, .val bad false, .val worse false, .val (.int (cs y).length) false, c6, c7, c8, c9, c10, .val (.int st) false, .val (.int k) false], ?_, fun _ => rfl, fun z => by cases z⟩
      simp [b_law_refused_right_C3, e]
    rw [this]
    simp
  have hne : gNeA [.lst true [], .lst true []] = some (.bl false) := gNe_tab true true true true []
  have o1 : rngOk (st : Int) = true := rngOk_small (by omega) (by omega)
  simp [b_law_refused_right_L5, o1, lc, hne]
theorem rr_F11 (d bad worse : D) (c6 c7 c8 c9 c10 c11 c12 : Cl) : ∃ c11' c12', sFor (srcR1 (eRO [.n 5, .e (eC (.int 1))] gAdd)) (bName 11) b_law_refused_right_L5 [.val d true, .val (.str x) true, .val (.str y) true, .val bad false, .val worse false, .val (.int (cs y).length) false, c6, c7, c8, c9, c10, c11, c12] =
    .next [.val d true, .val (.str x) true, .val (.str y) true, .val bad false, .val worse false, .val (.int (cs y).length) false, c6, c7, c8, c9, c10, c11', c12'] := by
  have l2 := isT_len h2
  obtain ⟨e', g1, c11', c12', g2⟩ := for_inv (b := bName 11) (body := b_law_refused_right_L5) (ds := (List.range ((cs y).length + 1)).map fun k => D.int (k : Nat)) (fun i e => ∃ c11 c12, e = [.val d true, .val (.str x) true, .val (.str y) true, .val bad false, .val worse false, .val (.int (cs y).length) false, c6, c7, c8, c9, c10, c11, c12])
    ⟨c11, c12, rfl⟩ fun i d0 e hd ⟨x11, x12, he⟩ => by
      subst he
      rw [List.getElem?_map] at hd
      obtain ⟨k, hk, rfl⟩ := Option.map_eq_some_iff.mp hd
      have hk3 := List.mem_range.mp (List.mem_of_getElem? hk)
      exact ⟨_, rfl, _, .inl (rr_L5 h1 h2 d bad worse c9 k (by omega) c6 c7 c8 c10 x12), _, _, rfl⟩
  refine ⟨c11', c12', ?_⟩
  rw [g2] at g1
  rw [← rng0] at g1
  have o2 : rngOk (((cs y).length : Int) + 1) = true := rngOk_small (by omega) (by omega)
  simp only [Int.natCast_add, Int.cast_ofNat_Int] at g1
  simp [o2, g1]
end
end K90

namespace K90
open PySem VS PyProof
theorem p20 : (10 : Int) ^ 20 = 100000000000000000000 := by rfl
theorem refused_ok {x y : Str} (h1 : isT x = true) (h2 : isT y = true) {K : Nat} {d : D} (h : Feed K d) (hK : K ≤ 900) : ∃ d' bs, f_law_refused_right [d, .str x, .str y] = .ok (.bl true) (some d' :: bs) ∧ Feed (K + 3) d' := by
  have l2 := isT_len h2
  obtain ⟨bl, hb, hbf⟩ := bad_ok
  obtain ⟨bad, d1, q1, m1, e1, f1⟩ := one_ok h (by omega) false badL badL_own (by decide) (by decide)
  obtain ⟨worse, d2, q2, m2, e2, f2⟩ := one_ok f1 (by omega) false badL badL_own (by decide) (by decide)
  obtain ⟨n, d3, e3, n1, n2, f3⟩ := draw_ok f2 (by omega) (many := (cs y).length + 1) (by omega) (by omega)
  have ow := h.own
  have ow1 := f1.own
  have ow2 := f2.own
  obtain ⟨b1, b2⟩ := bad_all bad m1
  obtain ⟨w1, w2⟩ := bad_all worse m2
  have bo := okTx_own b1
  have wo := okTx_own w1
  have fb := frz_imm bad bo
  have fw := frz_imm worse wo
  have en : n = ((n.toNat : Nat) : Int) := by omega
  have hlo : (cs y).length ≤ 10000000 := by omega
  obtain ⟨c7, c8, g7⟩ := rr_F7 h1 h2 d2 bad worse b1 b2 w1 w2 .dead .dead .dead .dead .dead .dead
  obtain ⟨c10, g10⟩ := rr_F10 h1 h2 d3 bad worse n.toNat (by omega) c7 c8 .dead .dead .dead
  obtain ⟨c11, c12, g11⟩ := rr_F11 h1 h2 d3 bad worse (.val (.lst false (oddL (cs y).length)) false) c7 c8 (.val (.int n) false) c10 .dead .dead
  rw [← en] at g10
  obtain ⟨q4, e4⟩ := word_number h1 h2 (s := .int 0) (b := .non) rfl rfl (by unfold inR; simp)
  obtain ⟨q5, e5⟩ := word_good h1 h2 (at' := n.toNat) (by omega)
  rw [← en] at e5
  have s1 : sPar3 3 4 5 (aCons (eFrz (eCall f_law_one [.n 0, .e (eFrz (eCall f_law_bad_texts []))])) (aCons (eFrz (eCall f_law_one [.n 0, .e (eFrz (eCall f_law_bad_texts []))])) (aCons (eRO [.n 2] gLen) (aNil)))) [.val d true, .val (.str x) true, .val (.str y) true, .dead, .dead, .dead, .dead, .dead, .dead, .dead, .dead, .dead, .dead] = .next [.val d2 true, .val (.str x) true, .val (.str y) true, .val bad false, .val worse false, .val (.int (cs y).length) false, .dead, .dead, .dead, .dead, .dead, .dead, .dead] := by
    generalize badL = B at *
    simp [sPar3, hb, hbf, ow, ow1, e1, e2, fb, fw, len_cs, hlo]
  have s2 : sAsg (eFrz (eLst (aCons (eRO [.e (eC (.int 1))] gNeg) (aCons (eRO [.n 5, .e (eC (.int 1))] gAdd) (aCons (eC (.bl true)) (aCons (eC (.bl false)) (aCons (eC .non) (aCons (eC (.str "0")) (aCons (eTup (aCons (eC (.int 0)) (aNil))) (aCons (eLst (aCons (eC (.int 0)) (aNil))) (aCons (eRO [.e (eC (.int 10)), .e (eC (.int 20))] gPowI) (aNil)))))))))))) (bName 6) [.val d2 true, .val (.str x) true, .val (.str y) true, .val bad false, .val worse false, .val (.int (cs y).length) false, .dead, .dead, .dead, .dead, .dead, .dead, .dead] = .next [.val d2 true, .val (.str x) true, .val (.str y) true, .val bad false, .val worse false, .val (.int (cs y).length) false, .val (.lst false (oddL (cs y).length)) false, .dead, .dead, .dead, .dead, .dead, .dead] := by
    simp [oddL]
  have ho : own (D.lst false (oddL (cs y).length)) = false := rfl
  generalize oddL (cs y).length = L at *
  have s4 : sAsg (eFrz (eCall f_law_draw [.n 0, .e (eRO [.n 5, .e (eC (.int 1))] gAdd)])) (bName 9) [.val d2 true, .val (.str x) true, .val (.str y) true, .val bad false, .val worse false, .val (.int (cs y).length) false, .val (.lst false L) false, c7, c8, .dead, .dead, .dead, .dead] = .next [.val d3 true, .val (.str x) true, .val (.str y) true, .val bad false, .val worse false, .val (.int (cs y).length) false, .val (.lst false L) false, c7, c8, .val (.int n) false, .dead, .dead, .dead] := by
    simp [ow2, e3]
  have s7 : sRet (eAnd (eRO [.e (eCall f_law_word_of [.e (eC (.int 2)), .n 1, .n 2, .e (eC (.int 0)), .e (eC .non)]), .e (eC (.str "number"))] gEqA) (eRO [.e (eCall f_law_word_of [.e (eC (.int 0)), .n 1, .n 2, .n 9, .n 9]), .e (eC (.str ""))] gEqA)) [.val d3 true, .val (.str x) true, .val (.str y) true, .val bad false, .val worse false, .val (.int (cs y).length) false, .val (.lst false L) false, c7, c8, .val (.int n) false, c10, c11, c12] = .ret (.bl true) [.val d3 true, .val (.str x) true, .val (.str y) true, .val bad false, .val worse false, .val (.int (cs y).length) false, .val (.lst false L) false, c7, c8, .val (.int n) false, c10, c11, c12] := by
    simp [e4, e5]
  have h0 : b_law_refused_right [.val d true, .val (.str x) true, .val (.str y) true, .dead, .dead, .dead, .dead, .dead, .dead, .dead, .dead, .dead, .dead] = .ret (.bl true) [.val d3 true, .val (.str x) true, .val (.str y) true, .val bad false, .val worse false, .val (.int (cs y).length) false, .val (.lst false L) false, c7, c8, .val (.int n) false, c10, c11, c12] := by
    unfold b_law_refused_right
    rw [sSeq_def, s1, seq_next, sSeq_def, s2, seq_next, sSeq_def, g7, seq_next, sSeq_def, s4, seq_next, sSeq_def, g10, seq_next, sSeq_def, g11, seq_next, s7]
  refine ⟨d3, [some (.str x), some (.str y)], ?_, f3⟩
  unfold f_law_refused_right fBody
  have ee : ([d, .str x, .str y].map fun d => Cl.val d true) ++ List.replicate (13 - 3) .dead = [.val d true, .val (.str x) true, .val (.str y) true, .dead, .dead, .dead, .dead, .dead, .dead, .dead, .dead, .dead, .dead] := rfl
  rw [ee, h0]
  rfl
theorem law_turn (ns : List Int) (k : Int) (c3 c4 c5 : Cl) {K : Nat} {d : D} (h : Feed K d) (hK : K ≤ 500) : ∃ x y d', b_law_L1 [.val (.scr ns) true, .val (.int k) false, .val d false, c3, c4, c5] = .next [.val (.scr ns) true, .val (.int k) false, .val d' false, c3, .val (.str x) false, .val (.str y) false] ∧ isT x = true ∧ isT y = true ∧ Feed (K + 40) d' := by
  obtain ⟨x, d1, q1, e1, t1, f1⟩ := letters_ok h (by omega)
  obtain ⟨y, d2, q2, e2, t2, f2⟩ := letters_ok f1 (by omega)
  obtain ⟨bs, e3⟩ := law_right_ok t1 t2 d2
  have ow := h.own
  have ow1 := f1.own
  have ow2 := f2.own
  refine ⟨x, y, d2, ?_, t1, t2, f2⟩
  simp [b_law_L1, sPar, ow, ow1, ow2, e1, e2, e3]
theorem law_turns (ns : List Int) (k : Int) (c3 c4 c5 : Cl) {d : D} (h : Feed 0 d) : ∃ x y d' c3', sFor (srcR1 (eC (.int 2))) (bName 3) b_law_L1 [.val (.scr ns) true, .val (.int k) false, .val d false, c3, c4, c5] = .next [.val (.scr ns) true, .val (.int k) false, .val d' false, c3', .val (.str x) false, .val (.str y) false] ∧ isT x = true ∧ isT y = true ∧ Feed 80 d' := by
  obtain ⟨x, y, d1, e1, _, _, f1⟩ := law_turn ns k (.val (.int 0) false) c4 c5 h (by omega)
  obtain ⟨x2, y2, d2, e2, t3, t4, f2⟩ := law_turn ns k (.val (.int 1) false) (.val (.str x) false) (.val (.str y) false) f1 (by omega)
  have er : rngD 0 2 = [.int 0, .int 1] := rfl
  have o1 : rngOk 2 = true := by decide
  refine ⟨x2, y2, d2, .val (.int 1) false, ?_, t3, t4, f2⟩
  simp [o1, er, forRun, e1, e2]
theorem law_round (ns : List Int) (k : Nat) (hk : k ≤ 100) (c2 c3 c4 c5 : Cl) : ∃ c2' c3' c4' c5', b_law_L2 [.val (.scr ns) true, .val (.int k) false, c2, c3, c4, c5] = .next [.val (.scr ns) true, .val (.int k) false, c2', c3', c4', c5'] := by
  obtain ⟨d, bs, e1, f1⟩ := feed_ok ns k hk
  obtain ⟨x, y, d2, c3', e2, t1, t2, f2⟩ := law_turns ns k c3 c4 c5 f1
  obtain ⟨d3, bs3, e3, f3⟩ := refused_ok t1 t2 f2 (by omega)
  have ow := f2.own
  refine ⟨.val d3 false, c3', .val (.str x) false, .val (.str y) false, ?_⟩
  have s1 : sAsg (eCall f_law_feed [.n 0, .n 1]) (bName 2) [.val (.scr ns) true, .val (.int k) false, c2, c3, c4, c5] = .next [.val (.scr ns) true, .val (.int k) false, .val d false, c3, c4, c5] := by
    simp [e1]
  have s3 : sIf (bNot (asB (eCall f_law_refused_right [.n 2, .n 4, .n 5]))) (sRet (eC (.bl false))) (sSkip) [.val (.scr ns) true, .val (.int k) false, .val d2 false, c3', .val (.str x) false, .val (.str y) false] = .next [.val (.scr ns) true, .val (.int k) false, .val d3 false, c3', .val (.str x) false, .val (.str y) false] := by
    simp [ow, e3]
  unfold b_law_L2
  rw [sSeq_def, s1, seq_next, sSeq_def, e2, seq_next, s3]
theorem law_all (ns : List Int) : ∃ bs, f_law [.scr ns] = .ok (.bl true) bs := by
  obtain ⟨m, hm, hm1⟩ : ∃ m : Nat, max 1 (min (ns.length : Int) 4) = (m : Int) ∧ m ≤ 4 := ⟨(max 1 (min (ns.length : Int) 4)).toNat, by omega, by omega⟩
  obtain ⟨e', g1, c1, c2, c3, c4, c5, g2⟩ := for_inv (b := bName 1) (body := b_law_L2) (ds := (List.range m).map fun k => D.int (k : Nat)) (fun i e => ∃ c1 c2 c3 c4 c5, e = [.val (.scr ns) true, c1, c2, c3, c4, c5]) (e := [.val (.scr ns) true, .dead, .dead, .dead, .dead, .dead])
    ⟨_, _, _, _, _, rfl⟩ fun i d0 e hd ⟨x1, x2, x3, x4, x5, he⟩ => by
      subst he
      rw [List.getElem?_map] at hd
      obtain ⟨k, hk, rfl⟩ := Option.map_eq_some_iff.mp hd
      have hk3 := List.mem_range.mp (List.mem_of_getElem? hk)
      obtain ⟨y2, y3, y4, y5, hh⟩ := law_round ns k (by omega) x2 x3 x4 x5
      exact ⟨_, rfl, _, .inl hh, _, _, _, _, _, rfl⟩
  rw [g2] at g1
  rw [← rng0] at g1
  have o1 : rngOk (m : Int) = true := rngOk_small (by omega) (by omega)
  refine ⟨[some (.scr ns)], ?_⟩
  simp [f_law, b_law, hm, o1, g1]
end K90

open PySem PySem.W PyProof.Rows
set_option maxHeartbeats 0 in
theorem PySem.Challenge.cw_straightall_k90_windows_of_letters_holds : PySem.Challenge.rw_straightall_k90_windows_of_letters.Holds := by
  w_on; o_law; k_head; (case hw => w_witness2)
  k_fill
  refine VS.end_walk (l := PySem.Challenge.rw_straightall_k90_windows_of_letters) (n := 63) (k := 7) (x := "script") (F := K90.f_law) rfl (by decide) rfl ⟨⟨rfl, by decide, by decide⟩, rfl⟩ (fun w h Y => PySem.W.kIn_of Y) ?nl ?F (fun ns _ => K90.law_all ns)
  case nl => intro w; exact rfl
  case F =>
    intro w mg fl h KX G hmg
    refine' K90.all_mk KX G hmg ?x0 ?x1 ?x2 ?x3 ?x4 ?x5 ?x6 ?x7 ?x8 ?x9 ?x10 ?x11 ?x12 ?x13 ?x14 ?x15 ?x16 ?x17 ?x18 ?x19 ?x20 ?x21 ?x22 ?x23 ?x24 ?x25 ?x26 ?x27 ?x28 ?x29 ?x30 ?x31 ?x32 ?x33 ?x34 ?x35 ?x36 ?x37 ?x38 ?x39 ?x40 ?x41 ?x42 ?x43 ?x44 ?x45 ?x46 ?x47 ?x48 ?x49 ?x50 ?x51 ?x52 ?x53 ?x54 ?x55 ?x56 ?x57 ?x58 ?x59 ?x60 ?x61 ?x62 ?x63 ?x64 ?x65 ?x66 ?x67 ?x68 ?x69 ?x70 ?x71 ?x72 ?x73 ?x74 ?x75 ?x76 ?x77 ?x78 ?x79 ?x80 ?x81 ?x82 ?x83 ?x84 ?x85 ?x86 ?x87 ?x88 ?x89 ?x90 ?x91 ?x92 ?x93 ?x94 ?x95 ?x96 ?x97 ?x98 ?x99 ?x100 ?x101 ?x102 ?x103 ?x104 ?x105 ?x106 ?x107 ?x108 ?x109 ?x110 ?x111 ?x112 ?x113 ?x114 ?x115 ?x116 ?x117 ?x118 ?x119 ?x120 ?x121 ?x122 ?x123 ?x124 ?x125 ?x126 ?x127 ?x128 ?x129 ?x130 ?x131 ?x132 ?x133 ?x134 ?x135 ?x136 ?x137 ?x138 ?x139 ?x140 ?x141 ?x142 ?x143 ?x144 ?x145 ?x146 ?x147 ?x148 ?x149 ?x150 ?x151 ?x152 ?x153 ?x154 ?x155 ?x156 ?x157 ?x158 ?x159 ?x160 ?x161 ?x162 ?x163 ?x164 ?x165 ?x166 ?x167 ?x168 ?x169 ?x170 ?x171 ?x172 ?x173 ?x174 ?x175 ?x176 ?x177 ?x178 ?x179
    (case x0 => first | k_is | k_exc); (case x1 => first | k_is | k_exc); (case x2 => first | k_is | k_exc); (case x3 => first | k_is | k_exc); (case x4 => first | k_is | k_exc); (case x5 => first | k_is | k_exc); (case x6 => first | k_is | k_exc); (case x7 => first | k_is | k_exc)
    (case x8 => first | k_is | k_exc); (case x9 => first | k_is | k_exc); (case x10 => first | k_is | k_exc); (case x11 => first | k_is | k_exc); (case x12 => first | k_is | k_exc); (case x13 => first | k_is | k_exc); (case x14 => first | k_is | k_exc); (case x15 => first | k_is | k_exc)
    (case x16 => first | k_is | k_exc); (case x17 => first | k_is | k_exc); (case x18 => first | k_is | k_exc); (case x19 => first | k_is | k_exc); (case x20 => first | k_is | k_exc); (case x21 => first | k_is | k_exc); (case x22 => first | k_is | k_exc); (case x23 => first | k_is | k_exc)
    (case x24 => first | k_is | k_exc); (case x25 => first | k_is | k_exc); (case x26 => first | k_is | k_exc); (case x27 => first | k_is | k_exc); (case x28 => first | k_is | k_exc); (case x29 => first | k_is | k_exc); (case x30 => first | k_is | k_exc); (case x31 => first | k_is | k_exc)
    (case x32 => first | k_is | k_exc); (case x33 => first | k_is | k_exc); (case x34 => first | k_is | k_exc); (case x35 => first | k_is | k_exc); (case x36 => first | k_is | k_exc); (case x37 => first | k_is | k_exc); (case x38 => first | k_is | k_exc); (case x39 => first | k_is | k_exc)
    (case x40 => first | k_is | k_exc); (case x41 => first | k_is | k_exc); (case x42 => first | k_is | k_exc); (case x43 => first | k_is | k_exc); (case x44 => first | k_is | k_exc); (case x45 => first | k_is | k_exc); (case x46 => first | k_is | k_exc); (case x47 => first | k_is | k_exc)
    (case x48 => first | k_is | k_exc); (case x49 => first | k_is | k_exc); (case x50 => first | k_is | k_exc); (case x51 => first | k_is | k_exc); (case x52 => first | k_is | k_exc); (case x53 => first | k_is | k_exc); (case x54 => first | k_is | k_exc); (case x55 => first | k_is | k_exc)
    (case x56 => first | k_is | k_exc); (case x57 => first | k_is | k_exc); (case x58 => first | k_is | k_exc); (case x59 => first | k_is | k_exc); (case x60 => first | k_is | k_exc); (case x61 => first | k_is | k_exc); (case x62 => first | k_is | k_exc); (case x63 => first | k_is | k_exc)
    (case x64 => first | k_is | k_exc); (case x65 => first | k_is | k_exc); (case x66 => first | k_is | k_exc); (case x67 => first | k_is | k_exc); (case x68 => first | k_is | k_exc); (case x69 => first | k_is | k_exc); (case x70 => first | k_is | k_exc); (case x71 => first | k_is | k_exc)
    (case x72 => first | k_is | k_exc); (case x73 => first | k_is | k_exc); (case x74 => first | k_is | k_exc); (case x75 => first | k_is | k_exc); (case x76 => first | k_is | k_exc); (case x77 => first | k_is | k_exc); (case x78 => first | k_is | k_exc); (case x79 => first | k_is | k_exc)
    (case x80 => first | k_is | k_exc); (case x81 => first | k_is | k_exc); (case x82 => first | k_is | k_exc); (case x83 => first | k_is | k_exc); (case x84 => first | k_is | k_exc); (case x85 => first | k_is | k_exc); (case x86 => first | k_is | k_exc); (case x87 => first | k_is | k_exc)
    (case x88 => first | k_is | k_exc); (case x89 => first | k_is | k_exc); (case x90 => first | k_is | k_exc); (case x91 => first | k_is | k_exc); (case x92 => first | k_is | k_exc); (case x93 => first | k_is | k_exc); (case x94 => first | k_is | k_exc); (case x95 => first | k_is | k_exc)
    (case x96 => first | k_is | k_exc); (case x97 => first | k_is | k_exc); (case x98 => first | k_is | k_exc); (case x99 => first | k_is | k_exc); (case x100 => first | k_is | k_exc); (case x101 => first | k_is | k_exc); (case x102 => first | k_is | k_exc); (case x103 => first | k_is | k_exc)
    (case x104 => first | k_is | k_exc); (case x105 => first | k_is | k_exc); (case x106 => first | k_is | k_exc); (case x107 => first | k_is | k_exc); (case x108 => first | k_is | k_exc); (case x109 => first | k_is | k_exc); (case x110 => first | k_is | k_exc); (case x111 => first | k_is | k_exc)
    (case x112 => first | k_is | k_exc); (case x113 => first | k_is | k_exc); (case x114 => first | k_is | k_exc); (case x115 => first | k_is | k_exc); (case x116 => first | k_is | k_exc); (case x117 => first | k_is | k_exc); (case x118 => first | k_is | k_exc); (case x119 => first | k_is | k_exc)
    (case x120 => first | k_is | k_exc); (case x121 => first | k_is | k_exc); (case x122 => first | k_is | k_exc); (case x123 => first | k_is | k_exc); (case x124 => first | k_is | k_exc); (case x125 => first | k_is | k_exc); (case x126 => first | k_is | k_exc); (case x127 => first | k_is | k_exc)
    (case x128 => first | k_is | k_exc); (case x129 => first | k_is | k_exc); (case x130 => first | k_is | k_exc); (case x131 => first | k_is | k_exc); (case x132 => first | k_is | k_exc); (case x133 => first | k_is | k_exc); (case x134 => first | k_is | k_exc); (case x135 => first | k_is | k_exc)
    (case x136 => first | k_is | k_exc); (case x137 => first | k_is | k_exc); (case x138 => first | k_is | k_exc); (case x139 => first | k_is | k_exc); (case x140 => first | k_is | k_exc); (case x141 => first | k_is | k_exc); (case x142 => first | k_is | k_exc); (case x143 => first | k_is | k_exc)
    (case x144 => first | k_is | k_exc); (case x145 => first | k_is | k_exc); (case x146 => first | k_is | k_exc); (case x147 => first | k_is | k_exc); (case x148 => first | k_is | k_exc); (case x149 => first | k_is | k_exc); (case x150 => first | k_is | k_exc); (case x151 => first | k_is | k_exc)
    (case x152 => first | k_is | k_exc); (case x153 => first | k_is | k_exc); (case x154 => first | k_is | k_exc); (case x155 => first | k_is | k_exc); (case x156 => first | k_is | k_exc); (case x157 => first | k_is | k_exc); (case x158 => first | k_is | k_exc); (case x159 => first | k_is | k_exc)
    (case x160 => first | k_is | k_exc); (case x161 => first | k_is | k_exc); (case x162 => first | k_is | k_exc); (case x163 => first | k_is | k_exc); (case x164 => first | k_is | k_exc); (case x165 => first | k_is | k_exc); (case x166 => first | k_is | k_exc); (case x167 => first | k_is | k_exc)
    (case x168 => first | k_is | k_exc); (case x169 => first | k_is | k_exc); (case x170 => first | k_is | k_exc); (case x171 => first | k_is | k_exc); (case x172 => first | k_is | k_exc); (case x173 => first | k_is | k_exc); (case x174 => first | k_is | k_exc); (case x175 => first | k_is | k_exc)
    (case x176 => first | k_is | k_exc); (case x177 => first | k_is | k_exc); (case x178 => first | k_is | k_exc); (case x179 => first | k_is | k_exc)
