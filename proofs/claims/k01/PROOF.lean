import PyProof.Rows.All
import Wide.All
import OpenK.AllK
import Wide.FinOn
import HandS.ForMost
import HandS.Finally
import HandS.DictComp
import HandS.Wide
import HandS.IsInst
import HandS.Style
import HandS.ListItems
import HandS.More
import KE.KSortRegAny
import HandS.WordsDict
import HandS.Codes
import HandS.Iter
import HandS.SlotsOwn
import HandS.Dict
import PySem.Challenge.RW_stepposts_k01_trees_told
set_option Elab.async false
set_option linter.all false
set_option maxRecDepth 100000
set_option maxHeartbeats 1000000
namespace Pv
open PySem L2

/-- own: this node may be written here; frz: never written again; bor: stands in the heap of the entry -/
inductive Fl where
  | own | frz | bor
  deriving DecidableEq

inductive D where
  | non
  | bl (b : Bool)
  | int (i : Int)
  | str (s : Str)
  | scr (ns : List Int)
  | tup (ds : List D)
  | lst (m : Fl) (ds : List D)
  | dct (m : Fl) (ks : List (Key × D))
  | ins (m : Fl) (c : Nat) (fs : List (Key × D))

abbrev e0 : Hp := fun _ => none
def fk (p : Str × V) : Key × V := (Sum.inr p.1, p.2)

section
variable (K : PySem.W.Frag) (CT : Nat → Addr)
mutual
def R (F : Hp) : (G H : Hp) → D → V → List Addr → Prop
  | _, _, .non, v, fp => v = .non ∧ fp = []
  | _, _, .bl b, v, fp => v = .bl b ∧ fp = []
  | _, _, .int i, v, fp => v = .int i ∧ fp = []
  | _, _, .str s, v, fp => v = .str s ∧ fp = []
  | G, _, .scr ns, v, fp => (∃ a, v = .ref a ∧ SqL K G a (ns.map V.int)) ∧ fp = []
  | _, H, .tup ds, v, fp => (∃ a vs, v = .ref a ∧ F a = some (.tup vs) ∧ Rs F e0 H ds vs []) ∧ fp = []
  | G, H, .lst m ds, v, fp => match m with
    | .own => ∃ a vs fp', v = .ref a ∧ H a = some (.lst vs) ∧ F a = none ∧ G a = none ∧ Rs F G H ds vs fp' ∧ fp = a :: fp'
    | .frz => (∃ a vs, v = .ref a ∧ F a = some (.lst vs) ∧ Rs F e0 H ds vs []) ∧ fp = []
    | .bor => (∃ a vs, v = .ref a ∧ G a = some (.lst vs) ∧ Rs F G H ds vs []) ∧ fp = []
  | G, H, .dct m ks, v, fp => (ks.map Prod.fst).Nodup ∧ match m with
    | .own => ∃ a vs fp', v = .ref a ∧ H a = some (.dK vs) ∧ F a = none ∧ G a = none ∧ Rk F G H ks vs fp' ∧ fp = a :: fp'
    | .frz => (∃ a vs, v = .ref a ∧ F a = some (.dK vs) ∧ Rk F e0 H ks vs []) ∧ fp = []
    | .bor => (∃ a vs, v = .ref a ∧ Rd G a (.dK vs) ∧ Rk F G H ks vs []) ∧ fp = []
  | G, H, .ins m c fs, v, fp => match m with
    | .own => ∃ a dx vs fp', v = .ref a ∧ H a = some (.ins (CT c) dx vs) ∧ F a = none ∧ G a = none ∧ Rk F G H fs (vs.map fk) fp' ∧ fp = a :: fp'
    | .frz => (∃ a dx vs, v = .ref a ∧ F a = some (.ins (CT c) dx vs) ∧ Rk F e0 H fs (vs.map fk) []) ∧ fp = []
    | .bor => (∃ a dx vs, v = .ref a ∧ G a = some (.ins (CT c) dx vs) ∧ Rk F G H fs (vs.map fk) []) ∧ fp = []
def Rs (F : Hp) : (G H : Hp) → List D → List V → List Addr → Prop
  | _, _, [], vs, fp => vs = [] ∧ fp = []
  | G, H, d :: ds, vs, fp => ∃ v vr f1 f2, vs = v :: vr ∧ R F G H d v f1 ∧ Rs F G H ds vr f2 ∧ fp = f1 ++ f2
def Rk (F : Hp) : (G H : Hp) → List (Key × D) → List (Key × V) → List Addr → Prop
  | _, _, [], vs, fp => vs = [] ∧ fp = []
  | G, H, (k, d) :: ds, vs, fp => ∃ v vr f1 f2, vs = (k, v) :: vr ∧ R F G H d v f1 ∧ Rk F G H ds vr f2 ∧ fp = f1 ++ f2
end
end

def HLe (F F' : Hp) : Prop := ∀ a u, F a = some u → F' a = some u
theorem HLe.refl (F : Hp) : HLe F F := fun _ _ h => h
theorem HLe.trans {A B C : Hp} (h : HLe A B) (k : HLe B C) : HLe A C := fun a u e => k a u (h a u e)
theorem HLe.e0 (F : Hp) : HLe e0 F := fun _ _ h => nomatch h
theorem HLe.rd {F F' : Hp} (h : HLe F F') {a : Addr} {u : HO} (r : Rd F a u) : Rd F' a u := by
  rcases r with r | ⟨o, r⟩
  · exact .inl (h _ _ r)
  · exact .inr ⟨o, h _ _ r⟩
theorem HLe.sql {K : PySem.W.Frag} {F F' : Hp} (h : HLe F F') {a : Addr} {xs : List V} (r : SqL K F a xs) : SqL K F' a xs := by
  rcases r with r | r
  · exact .inl (h.rd r)
  · exact .inr r

/-- all that F tracks stands in H, but that a dict may be locked there -/
def WLe (F H : Hp) : Prop := ∀ a u, F a = some u → H a = some u ∨ ∃ o ks, u = .dK ks ∧ H a = some (.frz o u)
theorem WLe.refl (F : Hp) : WLe F F := fun _ _ h => .inl h
theorem HLe.w {F H : Hp} (h : HLe F H) : WLe F H := fun a u e => .inl (h a u e)
theorem WLe.trans_h {F H H' : Hp} (h : WLe F H) (k : HLe H H') : WLe F H' := fun a u e => by
  rcases h a u e with q | ⟨o, ks, r, q⟩
  · exact .inl (k _ _ q)
  · exact .inr ⟨o, ks, r, k _ _ q⟩
theorem WLe.h_trans {F G H : Hp} (h : HLe F G) (k : WLe G H) : WLe F H := fun a u e => k a u (h a u e)
theorem WLe.trans {F G H : Hp} (h : WLe F G) (k : WLe G H) : WLe F H := fun a u e => by
  rcases h a u e with q | ⟨o, ks, r, q⟩
  · exact k a u q
  · rcases k a _ q with q2 | ⟨o2, ks2, r2, q2⟩
    · exact .inr ⟨o, ks, r, q2⟩
    · cases r2
theorem WLe.lst {F H : Hp} (h : WLe F H) {a : Addr} {vs : List V} (e : F a = some (.lst vs)) : H a = some (.lst vs) := by
  rcases h a _ e with q | ⟨o, ks, r, q⟩
  · exact q
  · cases r
theorem WLe.tup {F H : Hp} (h : WLe F H) {a : Addr} {vs : List V} (e : F a = some (.tup vs)) : H a = some (.tup vs) := by
  rcases h a _ e with q | ⟨o, ks, r, q⟩
  · exact q
  · cases r
theorem WLe.ins {F H : Hp} (h : WLe F H) {a C dx : Addr} {fs : List (Str × V)} (e : F a = some (.ins C dx fs)) : H a = some (.ins C dx fs) := by
  rcases h a _ e with q | ⟨o, ks, r, q⟩
  · exact q
  · cases r
theorem WLe.dk {F H : Hp} (h : WLe F H) {a : Addr} {ks : List (Key × V)} (r : Rd F a (.dK ks)) : Rd H a (.dK ks) := by
  rcases r with r | ⟨o, r⟩
  · rcases h a _ r with q | ⟨o, ks, r, q⟩
    · exact .inl q
    · exact .inr ⟨o, q⟩
  · rcases h a _ r with q | ⟨o, ks, r, q⟩
    · exact .inr ⟨_, q⟩
    · cases r
theorem WLe.sql {K : PySem.W.Frag} {F H : Hp} (h : WLe F H) {a : Addr} {xs : List V} (r : SqL K F a xs) : SqL K H a xs := by
  rcases r with (r | ⟨o, r⟩) | r
  · exact .inl (.inl (h.lst r))
  · rcases h a _ r with q | ⟨o, ks, r, q⟩
    · exact .inl (.inr ⟨_, q⟩)
    · cases r
  · exact .inr r

section
variable {K : PySem.W.Frag} {CT : Nat → Addr}
mutual
theorem R.mono {F F' : Hp} (hF : HLe F F') : ∀ {G G' H H' : Hp} (d : D) {v : V} {fp : List Addr}, WLe G G' → (∀ a ∈ fp, H' a = H a ∧ F' a = none ∧ G' a = none) → R K CT F G H d v fp → R K CT F' G' H' d v fp
  | _, _, _, _, .non, _, _, _, _, h => by simp only [R] at h ⊢; exact h
  | _, _, _, _, .bl b, _, _, _, _, h => by simp only [R] at h ⊢; exact h
  | _, _, _, _, .int b, _, _, _, _, h => by simp only [R] at h ⊢; exact h
  | _, _, _, _, .str b, _, _, _, _, h => by simp only [R] at h ⊢; exact h
  | _, _, _, _, .scr b, _, _, hG, _, h => by
    simp only [R] at h ⊢
    obtain ⟨⟨a, e, q⟩, r⟩ := h
    exact ⟨⟨a, e, hG.sql q⟩, r⟩
  | _, _, _, _, .tup ds, _, _, hG, hf, h => by
    simp only [R] at h ⊢
    obtain ⟨⟨a, vs, e, q, r⟩, rfl⟩ := h
    exact ⟨⟨a, vs, e, hF _ _ q, Rs.mono hF ds (WLe.refl _) (fun _ h => nomatch h) r⟩, rfl⟩
  | _, _, _, _, .lst m ds, _, _, hG, hf, h => by
    cases m with
    | own =>
      simp only [R] at h ⊢
      obtain ⟨a, vs, fp', e, q, _, _, r, rfl⟩ := h
      obtain ⟨h1, h2, h3⟩ := hf a List.mem_cons_self
      exact ⟨a, vs, fp', e, h1.trans q, h2, h3, Rs.mono hF ds hG (fun b hb => hf b (List.mem_cons_of_mem _ hb)) r, rfl⟩
    | frz =>
      simp only [R] at h ⊢
      obtain ⟨⟨a, vs, e, q, r⟩, rfl⟩ := h
      exact ⟨⟨a, vs, e, hF _ _ q, Rs.mono hF ds (WLe.refl _) (fun _ h => nomatch h) r⟩, rfl⟩
    | bor =>
      simp only [R] at h ⊢
      obtain ⟨⟨a, vs, e, q, r⟩, rfl⟩ := h
      exact ⟨⟨a, vs, e, hG.lst q, Rs.mono hF ds hG (fun _ h => nomatch h) r⟩, rfl⟩
  | _, _, _, _, .dct m ds, _, _, hG, hf, h => by
    cases m with
    | own =>
      simp only [R] at h ⊢
      obtain ⟨hk, a, vs, fp', e, q, _, _, r, rfl⟩ := h
      obtain ⟨h1, h2, h3⟩ := hf a List.mem_cons_self
      exact ⟨hk, a, vs, fp', e, h1.trans q, h2, h3, Rk.mono hF ds hG (fun b hb => hf b (List.mem_cons_of_mem _ hb)) r, rfl⟩
    | frz =>
      simp only [R] at h ⊢
      obtain ⟨hk, ⟨a, vs, e, q, r⟩, rfl⟩ := h
      exact ⟨hk, ⟨a, vs, e, hF _ _ q, Rk.mono hF ds (WLe.refl _) (fun _ h => nomatch h) r⟩, rfl⟩
    | bor =>
      simp only [R] at h ⊢
      obtain ⟨hk, ⟨a, vs, e, q, r⟩, rfl⟩ := h
      exact ⟨hk, ⟨a, vs, e, hG.dk q, Rk.mono hF ds hG (fun _ h => nomatch h) r⟩, rfl⟩
  | _, _, _, _, .ins m c ds, _, _, hG, hf, h => by
    cases m with
    | own =>
      simp only [R] at h ⊢
      obtain ⟨a, dx, vs, fp', e, q, _, _, r, rfl⟩ := h
      obtain ⟨h1, h2, h3⟩ := hf a List.mem_cons_self
      exact ⟨a, dx, vs, fp', e, h1.trans q, h2, h3, Rk.mono hF ds hG (fun b hb => hf b (List.mem_cons_of_mem _ hb)) r, rfl⟩
    | frz =>
      simp only [R] at h ⊢
      obtain ⟨⟨a, dx, vs, e, q, r⟩, rfl⟩ := h
      exact ⟨⟨a, dx, vs, e, hF _ _ q, Rk.mono hF ds (WLe.refl _) (fun _ h => nomatch h) r⟩, rfl⟩
    | bor =>
      simp only [R] at h ⊢
      obtain ⟨⟨a, dx, vs, e, q, r⟩, rfl⟩ := h
      exact ⟨⟨a, dx, vs, e, hG.ins q, Rk.mono hF ds hG (fun _ h => nomatch h) r⟩, rfl⟩
theorem Rs.mono {F F' : Hp} (hF : HLe F F') : ∀ {G G' H H' : Hp} (d : List D) {v : List V} {fp : List Addr}, WLe G G' → (∀ a ∈ fp, H' a = H a ∧ F' a = none ∧ G' a = none) → Rs K CT F G H d v fp → Rs K CT F' G' H' d v fp
  | _, _, _, _, [], _, _, _, _, h => by simp only [Rs] at h ⊢; exact h
  | _, _, _, _, d :: ds, _, _, hG, hf, h => by
    simp only [Rs] at h ⊢
    obtain ⟨v, vr, f1, f2, e, r, rs, rfl⟩ := h
    exact ⟨v, vr, f1, f2, e, R.mono hF d hG (fun a ha => hf a (List.mem_append_left _ ha)) r, Rs.mono hF ds hG (fun a ha => hf a (List.mem_append_right _ ha)) rs, rfl⟩
theorem Rk.mono {F F' : Hp} (hF : HLe F F') : ∀ {G G' H H' : Hp} (d : List (Key × D)) {v : List (Key × V)} {fp : List Addr}, WLe G G' → (∀ a ∈ fp, H' a = H a ∧ F' a = none ∧ G' a = none) → Rk K CT F G H d v fp → Rk K CT F' G' H' d v fp
  | _, _, _, _, [], _, _, _, _, h => by simp only [Rk] at h ⊢; exact h
  | _, _, _, _, (k, d) :: ds, _, _, hG, hf, h => by
    simp only [Rk] at h ⊢
    obtain ⟨v, vr, f1, f2, e, r, rs, rfl⟩ := h
    exact ⟨v, vr, f1, f2, e, R.mono hF d hG (fun a ha => hf a (List.mem_append_left _ ha)) r, Rk.mono hF ds hG (fun a ha => hf a (List.mem_append_right _ ha)) rs, rfl⟩
end
end

def D.noOwn : D → Bool
  | .lst .own _ => false
  | .dct .own _ => false
  | .ins .own _ _ => false
  | _ => true
mutual
def D.noBor : D → Bool
  | .scr _ => false
  | .lst .own ds => noBors ds
  | .lst .bor _ => false
  | .dct .own ks => noBork ks
  | .dct .bor _ => false
  | .ins .own _ ks => noBork ks
  | .ins .bor _ _ => false
  | _ => true
def noBors : List D → Bool
  | [] => true
  | d :: ds => d.noBor && noBors ds
def noBork : List (Key × D) → Bool
  | [] => true
  | (_, d) :: ds => d.noBor && noBork ds
end
mutual
def D.frz : D → D
  | .lst .own ds => .lst .frz (frzs ds)
  | .dct .own ks => .dct .frz (frzk ks)
  | .ins .own c ks => .ins .frz c (frzk ks)
  | d => d
def frzs : List D → List D
  | [] => []
  | d :: ds => d.frz :: frzs ds
def frzk : List (Key × D) → List (Key × D)
  | [] => []
  | (k, d) :: ds => (k, d.frz) :: frzk ds
end
mutual
def D.bor : D → D
  | .lst .own ds => .lst .bor (bors ds)
  | .dct .own ks => .dct .bor (bork ks)
  | .ins .own c ks => .ins .bor c (bork ks)
  | d => d
def bors : List D → List D
  | [] => []
  | d :: ds => d.bor :: bors ds
def bork : List (Key × D) → List (Key × D)
  | [] => []
  | (k, d) :: ds => (k, d.bor) :: bork ds
end

theorem frzk_keys : ∀ ks : List (Key × D), (frzk ks).map Prod.fst = ks.map Prod.fst
  | [] => rfl
  | (k, d) :: r => by simp only [frzk, List.map_cons, frzk_keys r]
theorem bork_keys : ∀ ks : List (Key × D), (bork ks).map Prod.fst = ks.map Prod.fst
  | [] => rfl
  | (k, d) :: r => by simp only [bork, List.map_cons, bork_keys r]
section
variable {K : PySem.W.Frag} {CT : Nat → Addr}
theorem R.noOwn {F G H : Hp} {d : D} {v : V} {fp : List Addr} (h : R K CT F G H d v fp) (n : d.noOwn = true) : fp = [] := by
  cases d with
  | non => simp only [R] at h; exact h.2
  | bl => simp only [R] at h; exact h.2
  | int => simp only [R] at h; exact h.2
  | str => simp only [R] at h; exact h.2
  | scr => simp only [R] at h; exact h.2
  | tup => simp only [R] at h; exact h.2
  | lst m ds =>
    cases m with
    | own => cases n
    | frz => simp only [R] at h; exact h.2
    | bor => simp only [R] at h; exact h.2
  | dct m ds =>
    cases m with
    | own => cases n
    | frz => simp only [R] at h; exact h.2.2
    | bor => simp only [R] at h; exact h.2.2
  | ins m c ds =>
    cases m with
    | own => cases n
    | frz => simp only [R] at h; exact h.2
    | bor => simp only [R] at h; exact h.2
theorem R.isNoOwn {F G H : Hp} {d : D} {v : V} (h : R K CT F G H d v []) : d.noOwn = true := by
  cases d with
  | lst m ds => cases m <;> first | rfl | (simp only [R] at h; obtain ⟨_, _, _, _, _, _, _, _, z⟩ := h; cases z)
  | dct m ds => cases m <;> first | rfl | (simp only [R] at h; obtain ⟨_, _, _, _, _, _, _, _, _, z⟩ := h; cases z)
  | ins m c ds => cases m <;> first | rfl | (simp only [R] at h; obtain ⟨_, _, _, _, _, _, _, _, _, z⟩ := h; cases z)
  | _ => rfl
/- the whole footprint is tracked, neither frozen nor borrowed -/
mutual
theorem R.own {F G H : Hp} : ∀ (d : D) {v : V} {fp : List Addr}, R K CT F G H d v fp → ∀ a ∈ fp, (∃ o, H a = some o) ∧ F a = none ∧ G a = none
  | .non, _, _, h, a, ha => by simp only [R] at h; rw [h.2] at ha; cases ha
  | .bl _, _, _, h, a, ha => by simp only [R] at h; rw [h.2] at ha; cases ha
  | .int _, _, _, h, a, ha => by simp only [R] at h; rw [h.2] at ha; cases ha
  | .str _, _, _, h, a, ha => by simp only [R] at h; rw [h.2] at ha; cases ha
  | .scr _, _, _, h, a, ha => by simp only [R] at h; rw [h.2] at ha; cases ha
  | .tup _, _, _, h, a, ha => by simp only [R] at h; rw [h.2] at ha; cases ha
  | .lst m ds, _, _, h, a, ha => by
    cases m with
    | own =>
      simp only [R] at h
      obtain ⟨b, vs, fp', _, e, h1, h2, r, rfl⟩ := h
      rcases List.mem_cons.mp ha with rfl | ha
      · exact ⟨⟨_, e⟩, h1, h2⟩
      · exact Rs.own ds r a ha
    | frz => simp only [R] at h; rw [h.2] at ha; cases ha
    | bor => simp only [R] at h; rw [h.2] at ha; cases ha
  | .dct m ds, _, _, h, a, ha => by
    cases m with
    | own =>
      simp only [R] at h
      obtain ⟨_, b, vs, fp', _, e, h1, h2, r, rfl⟩ := h
      rcases List.mem_cons.mp ha with rfl | ha
      · exact ⟨⟨_, e⟩, h1, h2⟩
      · exact Rk.own ds r a ha
    | frz => simp only [R] at h; rw [h.2.2] at ha; cases ha
    | bor => simp only [R] at h; rw [h.2.2] at ha; cases ha
  | .ins m c ds, _, _, h, a, ha => by
    cases m with
    | own =>
      simp only [R] at h
      obtain ⟨b, dx, vs, fp', _, e, h1, h2, r, rfl⟩ := h
      rcases List.mem_cons.mp ha with rfl | ha
      · exact ⟨⟨_, e⟩, h1, h2⟩
      · exact Rk.own ds r a ha
    | frz => simp only [R] at h; rw [h.2] at ha; cases ha
    | bor => simp only [R] at h; rw [h.2] at ha; cases ha
theorem Rs.own {F G H : Hp} : ∀ (d : List D) {v : List V} {fp : List Addr}, Rs K CT F G H d v fp → ∀ a ∈ fp, (∃ o, H a = some o) ∧ F a = none ∧ G a = none
  | [], _, _, h, a, ha => by simp only [Rs] at h; rw [h.2] at ha; cases ha
  | d :: ds, _, _, h, a, ha => by
    simp only [Rs] at h
    obtain ⟨v, vr, f1, f2, e, r, rs, rfl⟩ := h
    rcases List.mem_append.mp ha with ha | ha
    · exact R.own d r a ha
    · exact Rs.own ds rs a ha
theorem Rk.own {F G H : Hp} : ∀ (d : List (Key × D)) {v : List (Key × V)} {fp : List Addr}, Rk K CT F G H d v fp → ∀ a ∈ fp, (∃ o, H a = some o) ∧ F a = none ∧ G a = none
  | [], _, _, h, a, ha => by simp only [Rk] at h; rw [h.2] at ha; cases ha
  | (k, d) :: ds, _, _, h, a, ha => by
    simp only [Rk] at h
    obtain ⟨v, vr, f1, f2, e, r, rs, rfl⟩ := h
    rcases List.mem_append.mp ha with ha | ha
    · exact R.own d r a ha
    · exact Rk.own ds rs a ha
end
/- the nodes of a value are frozen -/
mutual
theorem R.frz {F F' G H : Hp} (hF : HLe F F') : ∀ (d : D) {v : V} {fp : List Addr} {G' H' : Hp}, d.noBor = true → (∀ a ∈ fp, F' a = H a) → R K CT F G H d v fp → R K CT F' G' H' d.frz v []
  | .non, _, _, _, _, _, _, h => by simp only [R, D.frz] at h ⊢; exact ⟨h.1, by simp⟩
  | .bl _, _, _, _, _, _, _, h => by simp only [R, D.frz] at h ⊢; exact ⟨h.1, by simp⟩
  | .int _, _, _, _, _, _, _, h => by simp only [R, D.frz] at h ⊢; exact ⟨h.1, by simp⟩
  | .str _, _, _, _, _, _, _, h => by simp only [R, D.frz] at h ⊢; exact ⟨h.1, by simp⟩
  | .scr _, _, _, _, _, n, _, h => by simp [D.noBor] at n
  | .tup ds, _, _, _, _, _, _, h => by
    simp only [R, D.frz] at h ⊢
    obtain ⟨⟨a, vs, e, q, r⟩, rfl⟩ := h
    exact ⟨⟨a, vs, e, hF _ _ q, Rs.mono hF ds (WLe.refl _) (fun _ h => nomatch h) r⟩, by simp⟩
  | .lst m ds, _, _, _, _, n, hf, h => by
    cases m with
    | own =>
      simp only [R, D.frz] at h ⊢
      simp only [D.noBor] at n
      obtain ⟨b, vs, fp', e, q, h1, h2, r, rfl⟩ := h
      exact ⟨⟨b, vs, e, (hf b List.mem_cons_self).trans q, Rs.frz hF ds n (fun a ha => hf a (List.mem_cons_of_mem _ ha)) r⟩, by simp⟩
    | frz =>
      simp only [R, D.frz] at h ⊢
      obtain ⟨⟨a, vs, e, q, r⟩, rfl⟩ := h
      exact ⟨⟨a, vs, e, hF _ _ q, Rs.mono hF ds (WLe.refl _) (fun _ h => nomatch h) r⟩, by simp⟩
    | bor => simp [D.noBor] at n
  | .dct m ds, _, _, _, _, n, hf, h => by
    cases m with
    | own =>
      simp only [R, D.frz, frzk_keys] at h ⊢
      simp only [D.noBor] at n
      obtain ⟨hk, b, vs, fp', e, q, h1, h2, r, rfl⟩ := h
      exact ⟨hk, ⟨b, vs, e, (hf b List.mem_cons_self).trans q, Rk.frz hF ds n (fun a ha => hf a (List.mem_cons_of_mem _ ha)) r⟩, by simp⟩
    | frz =>
      simp only [R, D.frz] at h ⊢
      obtain ⟨hk, ⟨a, vs, e, q, r⟩, rfl⟩ := h
      exact ⟨hk, ⟨a, vs, e, hF _ _ q, Rk.mono hF ds (WLe.refl _) (fun _ h => nomatch h) r⟩, by simp⟩
    | bor => simp [D.noBor] at n
  | .ins m c ds, _, _, _, _, n, hf, h => by
    cases m with
    | own =>
      simp only [R, D.frz] at h ⊢
      simp only [D.noBor] at n
      obtain ⟨b, dx, vs, fp', e, q, h1, h2, r, rfl⟩ := h
      exact ⟨⟨b, dx, vs, e, (hf b List.mem_cons_self).trans q, Rk.frz hF ds n (fun a ha => hf a (List.mem_cons_of_mem _ ha)) r⟩, by simp⟩
    | frz =>
      simp only [R, D.frz] at h ⊢
      obtain ⟨⟨a, dx, vs, e, q, r⟩, rfl⟩ := h
      exact ⟨⟨a, dx, vs, e, hF _ _ q, Rk.mono hF ds (WLe.refl _) (fun _ h => nomatch h) r⟩, by simp⟩
    | bor => simp [D.noBor] at n
theorem Rs.frz {F F' G H : Hp} (hF : HLe F F') : ∀ (d : List D) {v : List V} {fp : List Addr} {G' H' : Hp}, noBors d = true → (∀ a ∈ fp, F' a = H a) → Rs K CT F G H d v fp → Rs K CT F' G' H' (frzs d) v []
  | [], _, _, _, _, _, _, h => by simp only [Rs, frzs] at h ⊢; exact ⟨h.1, by simp⟩
  | d :: ds, _, _, _, _, n, hf, h => by
    simp only [Rs, frzs] at h ⊢
    simp only [noBors, Bool.and_eq_true] at n
    obtain ⟨v, vr, f1, f2, e, r, rs, rfl⟩ := h
    exact ⟨v, vr, [], [], e, R.frz hF d n.1 (fun a ha => hf a (List.mem_append_left _ ha)) r, Rs.frz hF ds n.2 (fun a ha => hf a (List.mem_append_right _ ha)) rs, by simp⟩
theorem Rk.frz {F F' G H : Hp} (hF : HLe F F') : ∀ (d : List (Key × D)) {v : List (Key × V)} {fp : List Addr} {G' H' : Hp}, noBork d = true → (∀ a ∈ fp, F' a = H a) → Rk K CT F G H d v fp → Rk K CT F' G' H' (frzk d) v []
  | [], _, _, _, _, _, _, h => by simp only [Rk, frzk] at h ⊢; exact ⟨h.1, by simp⟩
  | (k, d) :: ds, _, _, _, _, n, hf, h => by
    simp only [Rk, frzk] at h ⊢
    simp only [noBork, Bool.and_eq_true] at n
    obtain ⟨v, vr, f1, f2, e, r, rs, rfl⟩ := h
    exact ⟨v, vr, [], [], e, R.frz hF d n.1 (fun a ha => hf a (List.mem_append_left _ ha)) r, Rk.frz hF ds n.2 (fun a ha => hf a (List.mem_append_right _ ha)) rs, by simp⟩
end
/- a value lent to a callee: its heap of the entry is G' -/
mutual
theorem R.bor {F F' G G' H : Hp} (hF : HLe F F') (hG : WLe G G') : ∀ (d : D) {v : V} {fp : List Addr} {H' : Hp}, (∀ a ∈ fp, G' a = H a) → R K CT F G H d v fp → R K CT F' G' H' d.bor v []
  | .non, _, _, _, _, h => by simp only [R, D.bor] at h ⊢; exact ⟨h.1, by simp⟩
  | .bl _, _, _, _, _, h => by simp only [R, D.bor] at h ⊢; exact ⟨h.1, by simp⟩
  | .int _, _, _, _, _, h => by simp only [R, D.bor] at h ⊢; exact ⟨h.1, by simp⟩
  | .str _, _, _, _, _, h => by simp only [R, D.bor] at h ⊢; exact ⟨h.1, by simp⟩
  | .scr ns, v, _, _, hf, h => by
    have e := h.noOwn rfl
    subst e
    exact R.mono (H := H) hF (.scr ns) hG (fun _ h => nomatch h) h
  | .tup ds, v, _, _, hf, h => by
    have e := h.noOwn rfl
    subst e
    exact R.mono (H := H) hF (.tup ds) hG (fun _ h => nomatch h) h
  | .lst m ds, _, _, _, hf, h => by
    cases m with
    | own =>
      simp only [R, D.bor] at h ⊢
      obtain ⟨b, vs, fp', e, q, h1, h2, r, rfl⟩ := h
      exact ⟨⟨b, vs, e, (hf b List.mem_cons_self).trans q, Rs.bor hF hG ds (fun a ha => hf a (List.mem_cons_of_mem _ ha)) r⟩, by simp⟩
    | frz =>
      have e := h.noOwn rfl
      subst e
      exact R.mono (H := H) hF (.lst .frz ds) hG (fun _ h => nomatch h) h
    | bor =>
      have e := h.noOwn rfl
      subst e
      exact R.mono (H := H) hF (.lst .bor ds) hG (fun _ h => nomatch h) h
  | .dct m ds, _, _, _, hf, h => by
    cases m with
    | own =>
      simp only [R, D.bor, bork_keys] at h ⊢
      obtain ⟨hk, b, vs, fp', e, q, h1, h2, r, rfl⟩ := h
      exact ⟨hk, ⟨b, vs, e, .inl ((hf b List.mem_cons_self).trans q), Rk.bor hF hG ds (fun a ha => hf a (List.mem_cons_of_mem _ ha)) r⟩, by simp⟩
    | frz =>
      have e := h.noOwn rfl
      subst e
      exact R.mono (H := H) hF (.dct .frz ds) hG (fun _ h => nomatch h) h
    | bor =>
      have e := h.noOwn rfl
      subst e
      exact R.mono (H := H) hF (.dct .bor ds) hG (fun _ h => nomatch h) h
  | .ins m c ds, _, _, _, hf, h => by
    cases m with
    | own =>
      simp only [R, D.bor] at h ⊢
      obtain ⟨b, dx, vs, fp', e, q, h1, h2, r, rfl⟩ := h
      exact ⟨⟨b, dx, vs, e, (hf b List.mem_cons_self).trans q, Rk.bor hF hG ds (fun a ha => hf a (List.mem_cons_of_mem _ ha)) r⟩, by simp⟩
    | frz =>
      have e := h.noOwn rfl
      subst e
      exact R.mono (H := H) hF (.ins .frz c ds) hG (fun _ h => nomatch h) h
    | bor =>
      have e := h.noOwn rfl
      subst e
      exact R.mono (H := H) hF (.ins .bor c ds) hG (fun _ h => nomatch h) h
theorem Rs.bor {F F' G G' H : Hp} (hF : HLe F F') (hG : WLe G G') : ∀ (d : List D) {v : List V} {fp : List Addr} {H' : Hp}, (∀ a ∈ fp, G' a = H a) → Rs K CT F G H d v fp → Rs K CT F' G' H' (bors d) v []
  | [], _, _, _, _, h => by simp only [Rs, bors] at h ⊢; exact ⟨h.1, by simp⟩
  | d :: ds, _, _, _, hf, h => by
    simp only [Rs, bors] at h ⊢
    obtain ⟨v, vr, f1, f2, e, r, rs, rfl⟩ := h
    exact ⟨v, vr, [], [], e, R.bor hF hG d (fun a ha => hf a (List.mem_append_left _ ha)) r, Rs.bor hF hG ds (fun a ha => hf a (List.mem_append_right _ ha)) rs, by simp⟩
theorem Rk.bor {F F' G G' H : Hp} (hF : HLe F F') (hG : WLe G G') : ∀ (d : List (Key × D)) {v : List (Key × V)} {fp : List Addr} {H' : Hp}, (∀ a ∈ fp, G' a = H a) → Rk K CT F G H d v fp → Rk K CT F' G' H' (bork d) v []
  | [], _, _, _, _, h => by simp only [Rk, bork] at h ⊢; exact ⟨h.1, by simp⟩
  | (k, d) :: ds, _, _, _, hf, h => by
    simp only [Rk, bork] at h ⊢
    obtain ⟨v, vr, f1, f2, e, r, rs, rfl⟩ := h
    exact ⟨v, vr, [], [], e, R.bor hF hG d (fun a ha => hf a (List.mem_append_left _ ha)) r, Rk.bor hF hG ds (fun a ha => hf a (List.mem_append_right _ ha)) rs, by simp⟩
end
end
end Pv

set_option Elab.async false
set_option linter.all false
set_option maxRecDepth 100000
set_option maxHeartbeats 1000000
namespace Pv
open PySem L2

abbrev Env := List (Option D)
/-- what an expression gives: a value that is its own, the thing at a slot, the thing at a slot that the callee may change -/
inductive Rv where
  | val (d : D)
  | ref (j : Nat)

def get (ρ : Env) (j : Nat) : Option D := (ρ[j]?).join
def Rv.view (ρ : Env) : Rv → Option D
  | .val d => some d
  | .ref j => get ρ j
def views (ρ : Env) : List Rv → Option (List D)
  | [] => some []
  | r :: rs => (r.view ρ).bind fun d => (views ρ rs).bind fun ds => some (d :: ds)
def Rv.take (ρ : Env) : Rv → Option D
  | .val d => some d
  | .ref j => (get ρ j).bind fun d => if d.noOwn = true then some d else none
def takes (ρ : Env) : List Rv → Option (List D)
  | [] => some []
  | r :: rs => (r.take ρ).bind fun d => (takes ρ rs).bind fun ds => some (d :: ds)

structure Ste (K : PySem.W.Frag) (CT : Nat → Addr) (F G H : Hp) (ρ : Env) (σ : L2.St) (f : Nat → List Addr) : Prop where
  len : σ.length = ρ.length
  at_ : ∀ i d, ρ[i]? = some (some d) → ∃ v, σ[i]? = some (some v) ∧ R K CT F G H d v (f i)
  nd : ∀ i, (f i).Nodup
  dj : ∀ i j a, a ∈ f i → a ∈ f j → i = j
  em : ∀ i, (∀ d, ρ[i]? ≠ some (some d)) → f i = []
  wf : WLe F H
  wg : WLe G H

theorem Ste.ow {K : PySem.W.Frag} {CT : Nat → Addr} {F G H : Hp} {ρ : Env} {σ : L2.St} {f : Nat → List Addr} (s : Ste K CT F G H ρ σ f) (i : Nat) (a : Addr) (ha : a ∈ f i) : (∃ o, H a = some o) ∧ F a = none ∧ G a = none := by
  by_cases h : ∃ d, ρ[i]? = some (some d)
  · obtain ⟨d, e⟩ := h
    obtain ⟨v, _, r⟩ := s.at_ i d e
    exact R.own d r a ha
  · rw [s.em i fun d e => h ⟨d, e⟩] at ha; cases ha

/-- a step: T tells which slots may be touched -/
structure Stp (T : Nat → Bool) (F H : Hp) (ρ : Env) (f : Nat → List Addr) (F' H' : Hp) (ρ' : Env) (f' : Nat → List Addr) : Prop where
  le : HLe F F'
  keep : ∀ a o, H a = some o → (∀ i, a ∉ f i) → H' a = some o
  new : ∀ a, F' a ≠ none → F a ≠ none ∨ H a = none ∨ ∃ i, a ∈ f i
  own : ∀ i a, a ∈ f' i → (∃ j, a ∈ f j) ∨ H a = none
  st : ∀ i, T i = false → f' i = f i ∧ ρ'[i]? = ρ[i]? ∧ ∀ a ∈ f i, H' a = H a
  live : ∀ a o, H a = some o → ∃ o', H' a = some o'

theorem Stp.refl (T : Nat → Bool) (F H : Hp) (ρ : Env) (f : Nat → List Addr) : Stp T F H ρ f F H ρ f :=
  ⟨HLe.refl _, fun _ _ h _ => h, fun _ h => .inl h, fun i a h => .inl ⟨i, h⟩, fun _ _ => ⟨rfl, rfl, fun _ _ => rfl⟩, fun _ o h => ⟨o, h⟩⟩
theorem Stp.mono {T T' : Nat → Bool} {F H F' H' : Hp} {ρ ρ' : Env} {f f' : Nat → List Addr} (s : Stp T F H ρ f F' H' ρ' f') (h : ∀ i, T' i = false → T i = false) : Stp T' F H ρ f F' H' ρ' f' :=
  ⟨s.le, s.keep, s.new, s.own, fun i e => s.st i (h i e), s.live⟩
theorem Stp.trans {T : Nat → Bool} {F H F1 H1 F2 H2 : Hp} {ρ ρ1 ρ2 : Env} {f f1 f2 : Nat → List Addr} (s : Stp T F H ρ f F1 H1 ρ1 f1) (t : Stp T F1 H1 ρ1 f1 F2 H2 ρ2 f2) : Stp T F H ρ f F2 H2 ρ2 f2 where
  le := s.le.trans t.le
  keep := fun a o h n => t.keep a o (s.keep a o h n) fun i hi => by
    rcases s.own i a hi with ⟨j, hj⟩ | hj
    · exact n j hj
    · rw [h] at hj; cases hj
  new := fun a h => by
    rcases t.new a h with q | q | ⟨i, q⟩
    · exact s.new a q
    · cases e : H a with
      | none => exact .inr (.inl rfl)
      | some o =>
        obtain ⟨o', e'⟩ := s.live a o e
        rw [e'] at q; cases q
    · rcases s.own i a q with r | r
      · exact .inr (.inr r)
      · exact .inr (.inl r)
  own := fun i a h => by
    rcases t.own i a h with ⟨j, q⟩ | q
    · exact s.own j a q
    · cases e : H a with
      | none => exact .inr rfl
      | some o =>
        obtain ⟨o', e'⟩ := s.live a o e
        rw [e'] at q; cases q
  st := fun i e => by
    obtain ⟨a1, b1, c1⟩ := s.st i e
    obtain ⟨a2, b2, c2⟩ := t.st i e
    refine ⟨a2.trans a1, b2.trans b1, fun a ha => (c2 a ?_).trans (c1 a ha)⟩
    rw [a1]; exact ha
  live := fun a o h => by
    obtain ⟨o1, h1⟩ := s.live a o h
    exact t.live a o1 h1

def VR (K : PySem.W.Frag) (CT : Nat → Addr) (F G H : Hp) (σ : L2.St) : Rv → V → List Addr → Prop
  | .val d, v, fp => R K CT F G H d v fp
  | .ref j, v, fp => σ[j]? = some (some v) ∧ fp = []
def VRs (K : PySem.W.Frag) (CT : Nat → Addr) (F G H : Hp) (σ : L2.St) : List Rv → List V → List Addr → Prop
  | [], vs, fp => vs = [] ∧ fp = []
  | r :: rs, vs, fp => ∃ v vr f1 f2, vs = v :: vr ∧ VR K CT F G H σ r v f1 ∧ VRs K CT F G H σ rs vr f2 ∧ fp = f1 ++ f2

/-- behind the evaluation: the state, the step, the values and their own footprint -/
structure Pst (K : PySem.W.Frag) (CT : Nat → Addr) (T : Nat → Bool) (F G H : Hp) (ρ : Env) (σ : L2.St) (f : Nat → List Addr) (ρ' : Env) (rvs : List Rv) (vs : List V) (F' H' : Hp) (f' : Nat → List Addr) (fp : List Addr) : Prop where
  st : Ste K CT F' G H' ρ' σ f'
  sp : Stp T F H ρ f F' H' ρ' f'
  vr : VRs K CT F' G H' σ rvs vs fp
  nd : fp.Nodup
  ap : ∀ a ∈ fp, ∀ i, a ∉ f' i
  fr : ∀ a ∈ fp, (∃ j, a ∈ f j) ∨ H a = none

section
variable {K : PySem.W.Frag} {CT : Nat → Addr} {F G H F' H' : Hp} {ρ ρ' : Env} {σ : L2.St} {f f' : Nat → List Addr} {T : Nat → Bool}
theorem VR.own {r : Rv} {v : V} {fp : List Addr} (h : VR K CT F G H σ r v fp) : ∀ a ∈ fp, (∃ o, H a = some o) ∧ F a = none ∧ G a = none := by
  cases r with
  | val d => exact R.own d h
  | ref j => intro a ha; rw [h.2] at ha; cases ha
theorem VRs.own : ∀ {rs : List Rv} {vs : List V} {fp : List Addr}, VRs K CT F G H σ rs vs fp → ∀ a ∈ fp, (∃ o, H a = some o) ∧ F a = none ∧ G a = none
  | [], _, _, h, a, ha => by simp only [VRs] at h; rw [h.2] at ha; cases ha
  | r :: rs, _, _, h, a, ha => by
    simp only [VRs] at h
    obtain ⟨v, vr, f1, f2, e, r1, r2, rfl⟩ := h
    rcases List.mem_append.mp ha with ha | ha
    · exact VR.own r1 a ha
    · exact VRs.own r2 a ha
/-- own things outlive a step that has nothing of them -/
theorem Stp.held (s : Stp T F H ρ f F' H' ρ' f') {fp : List Addr} (ow : ∀ a ∈ fp, (∃ o, H a = some o) ∧ F a = none ∧ G a = none) (ap : ∀ a ∈ fp, ∀ i, a ∉ f i) : ∀ a ∈ fp, H' a = H a ∧ F' a = none ∧ G a = none := fun a ha => by
  obtain ⟨⟨o, h1⟩, h2, h3⟩ := ow a ha
  refine ⟨(s.keep a o h1 (ap a ha)).trans h1.symm, ?_, h3⟩
  cases e : F' a with
  | none => rfl
  | some u =>
    rcases s.new a (by rw [e]; exact fun z => nomatch z) with q | q | ⟨i, q⟩
    · exact absurd h2 q
    · rw [h1] at q; cases q
    · exact absurd q (ap a ha i)
theorem VR.step {r : Rv} {v : V} {fp : List Addr} (s : Stp T F H ρ f F' H' ρ' f') (h : VR K CT F G H σ r v fp) (ap : ∀ a ∈ fp, ∀ i, a ∉ f i) : VR K CT F' G H' σ r v fp := by
  cases r with
  | val d => exact R.mono s.le d (WLe.refl G) (s.held (R.own d h) ap) h
  | ref j => exact h
theorem VRs.step (s : Stp T F H ρ f F' H' ρ' f') : ∀ {rs : List Rv} {vs : List V} {fp : List Addr}, VRs K CT F G H σ rs vs fp → (∀ a ∈ fp, ∀ i, a ∉ f i) → VRs K CT F' G H' σ rs vs fp
  | [], _, _, h, _ => by simp only [VRs] at h ⊢; exact h
  | r :: rs, _, _, h, ap => by
    simp only [VRs] at h ⊢
    obtain ⟨v, vr, f1, f2, e, r1, r2, rfl⟩ := h
    exact ⟨v, vr, f1, f2, e, VR.step s r1 fun a ha => ap a (List.mem_append_left _ ha), VRs.step s r2 fun a ha => ap a (List.mem_append_right _ ha), rfl⟩
theorem Pst.nil (h : Ste K CT F G H ρ σ f) : Pst K CT T F G H ρ σ f ρ [] [] F H f [] :=
  ⟨h, Stp.refl _ _ _ _ _, ⟨rfl, rfl⟩, List.nodup_nil, fun _ h => (nomatch h), fun _ h => (nomatch h)⟩
theorem Pst.cons {F1 H1 F2 H2 : Hp} {ρ1 ρ2 : Env} {f1 f2 : Nat → List Addr} {r : Rv} {rs : List Rv} {v : V} {vs : List V} {fp1 fp2 : List Addr}
    (p : Pst K CT T F G H ρ σ f ρ1 [r] [v] F1 H1 f1 fp1) (q : Pst K CT T F1 G H1 ρ1 σ f1 ρ2 rs vs F2 H2 f2 fp2) : Pst K CT T F G H ρ σ f ρ2 (r :: rs) (v :: vs) F2 H2 f2 (fp1 ++ fp2) := by
  have hv : VR K CT F1 G H1 σ r v fp1 := by
    have := p.vr
    simp only [VRs] at this
    obtain ⟨v', vr, g1, g2, e, h1, ⟨_, rfl⟩, rfl⟩ := this
    cases e
    rw [List.append_nil]; exact h1
  have hlive : ∀ a ∈ fp1, ∃ o, H1 a = some o := fun a ha => (VR.own hv a ha).1
  have apart : ∀ a ∈ fp1, a ∉ fp2 := fun a h1 h2 => by
    rcases q.fr a h2 with ⟨j, hj⟩ | hj
    · exact p.ap a h1 j hj
    · obtain ⟨o, e⟩ := hlive a h1
      rw [hj] at e; cases e
  refine ⟨q.st, p.sp.trans q.sp, ⟨v, vs, fp1, fp2, rfl, VR.step q.sp hv p.ap, q.vr, rfl⟩, ?_, fun a ha i => ?_, fun a ha => ?_⟩
  · exact List.nodup_append.mpr ⟨p.nd, q.nd, fun a h1 b h2 e => by subst e; exact apart a h1 h2⟩
  · rcases List.mem_append.mp ha with ha | ha
    · intro hi
      rcases q.sp.own i a hi with ⟨j, hj⟩ | hj
      · exact p.ap a ha j hj
      · obtain ⟨o, e⟩ := hlive a ha
        rw [hj] at e; cases e
    · exact q.ap a ha i
  · rcases List.mem_append.mp ha with ha | ha
    · exact p.fr a ha
    · rcases q.fr a ha with ⟨j, hj⟩ | hj
      · exact p.sp.own j a hj
      · cases e : H a with
        | none => exact .inr rfl
        | some o =>
          obtain ⟨o', e'⟩ := p.sp.live a o e
          rw [e'] at hj; cases hj
theorem Pst.mono {T' : Nat → Bool} {rs : List Rv} {vs : List V} {fp : List Addr} (p : Pst K CT T F G H ρ σ f ρ' rs vs F' H' f' fp) (h : ∀ i, T' i = false → T i = false) : Pst K CT T' F G H ρ σ f ρ' rs vs F' H' f' fp :=
  ⟨p.st, p.sp.mono h, p.vr, p.nd, p.ap, p.fr⟩

def RD (K : PySem.W.Frag) (CT : Nat → Addr) (F G H : Hp) : List D → List V → Prop
  | [], vs => vs = []
  | d :: ds, vs => ∃ v vr, vs = v :: vr ∧ (∃ fp, R K CT F G H d v fp) ∧ RD K CT F G H ds vr
theorem Ste.get (s : Ste K CT F G H ρ σ f) {j : Nat} {d : D} (h : get ρ j = some d) : ∃ v, σ[j]? = some (some v) ∧ R K CT F G H d v (f j) := by
  refine s.at_ j d ?_
  unfold Pv.get at h
  cases e : ρ[j]? with
  | none => rw [e] at h; cases h
  | some o => rw [e] at h; cases o with
    | none => cases h
    | some x => cases h; rfl
theorem views_rd (s : Ste K CT F G H ρ σ f) : ∀ {rs : List Rv} {vs : List V} {fp : List Addr} {ds : List D}, VRs K CT F G H σ rs vs fp → views ρ rs = some ds → RD K CT F G H ds vs
  | [], _, _, _, h, e => by
    simp only [views, Option.some.injEq] at e; subst e
    simp only [VRs] at h; exact h.1
  | r :: rs, _, _, _, h, e => by
    simp only [views, Option.bind_eq_some_iff, Option.some.injEq] at e
    obtain ⟨d, e1, ds, e2, rfl⟩ := e
    simp only [VRs] at h
    obtain ⟨v, vr, f1, f2, rfl, h1, h2, _⟩ := h
    refine ⟨v, vr, rfl, ?_, views_rd s h2 e2⟩
    cases r with
    | val d' => simp only [Rv.view, Option.some.injEq] at e1; subst e1; exact ⟨f1, h1⟩
    | ref j =>
      obtain ⟨v', q1, q2⟩ := s.get e1
      rw [h1.1] at q1; cases q1
      exact ⟨_, q2⟩
theorem takes_rs (s : Ste K CT F G H ρ σ f) : ∀ {rs : List Rv} {vs : List V} {fp : List Addr} {ds : List D}, VRs K CT F G H σ rs vs fp → takes ρ rs = some ds → Rs K CT F G H ds vs fp
  | [], _, _, _, h, e => by
    simp only [takes, Option.some.injEq] at e; subst e
    simp only [VRs] at h; simp only [Rs]; exact h
  | r :: rs, _, _, _, h, e => by
    simp only [takes, Option.bind_eq_some_iff, Option.some.injEq] at e
    obtain ⟨d, e1, ds, e2, rfl⟩ := e
    simp only [VRs] at h
    obtain ⟨v, vr, f1, f2, rfl, h1, h2, rfl⟩ := h
    simp only [Rs]
    refine ⟨v, vr, f1, f2, rfl, ?_, takes_rs s h2 e2, rfl⟩
    cases r with
    | val d' => simp only [Rv.take, Option.some.injEq] at e1; subst e1; exact h1
    | ref j =>
      simp only [Rv.take, Option.bind_eq_some_iff] at e1
      obtain ⟨d', e3, e4⟩ := e1
      split at e4
      · rename_i hn
        cases e4
        obtain ⟨v', q1, q2⟩ := s.get e3
        rw [h1.1] at q1; cases q1
        have z := q2.noOwn hn
        rw [h1.2, ← z]; exact q2
      · cases e4

/-- objects are laid, nothing else -/
structure Alo (F H F' H' : Hp) : Prop where
  le : HLe F F'
  keep : HLe H H'
  new : ∀ a, F' a ≠ none → F a ≠ none ∨ H a = none
  w : WLe F H → WLe F' H'
theorem Alo.refl (F H : Hp) : Alo F H F H := ⟨HLe.refl _, HLe.refl _, fun _ h => .inl h, fun h => h⟩
theorem Alo.trans {F1 H1 F2 H2 : Hp} (a : Alo F H F1 H1) (b : Alo F1 H1 F2 H2) : Alo F H F2 H2 :=
  ⟨a.le.trans b.le, a.keep.trans b.keep, (fun x h => by
    rcases b.new x h with q | q
    · exact a.new x q
    · cases e : H x with
      | none => exact .inr rfl
      | some o => rw [a.keep x o e] at q; cases q), fun h => b.w (a.w h)⟩
/-- a new own object -/
theorem Alo.obj {p : Addr} {o : HO} (hp : H p = none) : Alo F H F (upd H p o) :=
  ⟨HLe.refl _, fun a u e => by rw [upd_ne (ne_of_none e hp)]; exact e, fun _ h => .inl h, fun w => w.trans_h fun a u e => by rw [upd_ne (ne_of_none e hp)]; exact e⟩
/-- a new frozen object -/
theorem Alo.frz {p : Addr} {o : HO} (hp : H p = none) (hF : F p = none) : Alo F H (upd F p o) (upd H p o) :=
  ⟨fun a u e => by rw [upd_ne (ne_of_none e hF)]; exact e, fun a u e => by rw [upd_ne (ne_of_none e hp)]; exact e,
    (fun a h => by
      by_cases e : a = p
      · subst e; exact .inr hp
      · rw [upd_ne e] at h; exact .inl h),
    fun w a u e => by
      by_cases z : a = p
      · subst z; rw [upd_same] at e ⊢; exact .inl e
      · rw [upd_ne z] at e
        rcases w a u e with q | ⟨o', ks, r, q⟩
        · exact .inl (by rw [upd_ne z]; exact q)
        · exact .inr ⟨o', ks, r, by rw [upd_ne z]; exact q⟩⟩
theorem WLe.none {F H : Hp} (w : WLe F H) {p : Addr} (h : H p = none) : F p = none := by
  cases e : F p with
  | none => rfl
  | some u =>
    rcases w p u e with q | ⟨_, _, _, q⟩
    · rw [h] at q; cases q
    · rw [h] at q; cases q
theorem Ste.alo {F2 H2 : Hp} (s : Ste K CT F G H ρ σ f) (a : Alo F H F2 H2) : Ste K CT F2 G H2 ρ σ f := by
  have hF : ∀ i x, x ∈ f i → H2 x = H x ∧ F2 x = none ∧ G x = none := fun i x hx => by
    obtain ⟨⟨o, h1⟩, h2, h3⟩ := s.ow i x hx
    refine ⟨(a.keep x o h1).trans h1.symm, ?_, h3⟩
    cases e : F2 x with
    | none => rfl
    | some u =>
      rcases a.new x (by rw [e]; exact fun z => nomatch z) with q | q
      · exact absurd h2 q
      · rw [h1] at q; cases q
  refine ⟨s.len, fun i d e => ?_, s.nd, s.dj, s.em, a.w s.wf, s.wg.trans_h a.keep⟩
  obtain ⟨v, h1, h2⟩ := s.at_ i d e
  exact ⟨v, h1, R.mono a.le d (WLe.refl G) (hF i) h2⟩
theorem Alo.stp (s : Ste K CT F G H ρ σ f) {F2 H2 : Hp} (a : Alo F H F2 H2) : Stp T F H ρ f F2 H2 ρ f :=
  ⟨a.le, fun x o e _ => a.keep x o e, fun x h => (a.new x h).elim .inl fun h => .inr (.inl h), fun i x h => .inl ⟨i, h⟩, fun i _ => ⟨rfl, rfl, fun x hx => by
    obtain ⟨⟨o, h1⟩, _, _⟩ := s.ow i x hx
    exact (a.keep x o h1).trans h1.symm⟩, fun x o e => ⟨o, a.keep x o e⟩⟩
/-- the values are read and something is made of them -/
theorem Pst.made {F2 H2 : Hp} {rs : List Rv} {vs : List V} {fp fp2 : List Addr} {d : D} {v : V} (p : Pst K CT T F G H ρ σ f ρ' rs vs F' H' f' fp) (a : Alo F' H' F2 H2) (hr : R K CT F2 G H2 d v fp2) (nd : fp2.Nodup) (fr : ∀ x ∈ fp2, x ∈ fp ∨ H' x = none) :
    Pst K CT T F G H ρ σ f ρ' [.val d] [v] F2 H2 f' fp2 := by
  refine ⟨p.st.alo a, p.sp.trans (a.stp p.st), ⟨v, [], fp2, [], rfl, hr, ⟨rfl, rfl⟩, by simp⟩, nd, fun x hx i hi => ?_, fun x hx => ?_⟩
  · rcases fr x hx with q | q
    · exact p.ap x q i hi
    · obtain ⟨⟨o, h1⟩, _, _⟩ := p.st.ow i x hi
      rw [q] at h1; cases h1
  · rcases fr x hx with q | q
    · exact p.fr x q
    · cases e : H x with
      | none => exact .inr rfl
      | some o =>
        obtain ⟨o', e'⟩ := p.sp.live x o e
        rw [e'] at q; cases q
end
end Pv

set_option Elab.async false
set_option linter.all false
set_option maxRecDepth 100000
set_option maxHeartbeats 1000000
namespace Pv
open PySem L2

section
variable {β : Type}
def valA (ks : List (Key × β)) (k : Key) : Option β := (ks.find? fun p => decide (p.1 = k)).map (·.2)
def putA : List (Key × β) → Key → β → List (Key × β)
  | [], k, v => [(k, v)]
  | p :: r, k, v => if p.1 = k then (p.1, v) :: r else p :: putA r k v
def dropA (ks : List (Key × β)) (k : Key) : List (Key × β) := ks.filter fun p => decide (p.1 ≠ k)
def mergeA (ks more : List (Key × β)) : List (Key × β) := more.foldl (fun acc p => putA acc p.1 p.2) ks
end
def keyD : Key → D
  | .inl i => .int i
  | .inr s => .str s
def D.key : D → Option Key
  | .int i => some (.inl i)
  | .str s => some (.inr s)
  | _ => none
def D.atom : D → Bool
  | .non => true
  | .bl _ => true
  | .int _ => true
  | .str _ => true
  | _ => false
def D.toV : D → V
  | .bl b => .bl b
  | .int i => .int i
  | .str s => .str s
  | _ => .non
mutual
def D.py : D → Option PyData
  | .non => some .none
  | .bl b => some (.bool b)
  | .int i => some (.int i)
  | .str s => some (.str s)
  | .tup ds => (pys ds).bind fun xs => some (.tuple xs)
  | .lst _ ds => (pys ds).bind fun xs => some (.list xs)
  | _ => none
def pys : List D → Option (List PyData)
  | [] => some []
  | d :: ds => d.py.bind fun x => (pys ds).bind fun xs => some (x :: xs)
end
def asStrs : List D → Option (List Str)
  | [] => some []
  | .str s :: ds => (asStrs ds).bind fun xs => some (s :: xs)
  | _ :: _ => none
def asInts : List D → Option (List Int)
  | [] => some []
  | .int s :: ds => (asInts ds).bind fun xs => some (s :: xs)
  | _ :: _ => none
def asBls : List D → Option (List Bool)
  | [] => some []
  | .bl s :: ds => (asBls ds).bind fun xs => some (s :: xs)
  | _ :: _ => none
def keyStrs : List (Key × D) → Option (List Str)
  | [] => some []
  | (.inr s, _) :: ds => (keyStrs ds).bind fun xs => some (s :: xs)
  | _ :: _ => none
def pairsD : List D → Option (List (Key × D))
  | [] => some []
  | .tup [k, d] :: ds => k.key.bind fun k => (pairsD ds).bind fun xs => some ((k, d) :: xs)
  | _ :: _ => none
/-- texts by their signs -/
def strLe (x y : Str) : Bool := decide (x.cps.toList ≤ y.cps.toList)
def sortS (xs : List Str) : List Str := xs.mergeSort strLe
def insI (x : Int) : List Int → List Int
  | [] => [x]
  | y :: ys => if x ≤ y then x :: y :: ys else y :: insI x ys
def sortI : List Int → List Int
  | [] => []
  | x :: xs => insI x (sortI xs)
def cutD {α : Type} (xs : List α) (lo hi : Option Int) : List α := (xs.drop (HT.sIx xs.length 0 lo)).take (HT.sIx xs.length xs.length hi - HT.sIx xs.length 0 lo)

inductive Op where
  | lenL | lenK | lenS | lenC
  | add | addS | cat | sub | mul | fdiv | mod | pow | neg
  | eqA | neA | eqP | neP | eqK | neK | lt | le | gt | ge | isN | notN
  | inL | ninL | inK | ninK | inS | ninS
  | ixL | ixT | ixS | ixK | ixC
  | slL (lo hi : Bool) | rev
  | max2 | min2 | all | any
  | srtS | srtK | cpL | cpK | mkK | itm
  | int1
  | isDict | isStr | isBool | isList | isTup | isInt | isCls (c : Nat)
  deriving DecidableEq

def b2 (b : Bool) : Option D := some (.bl b)
def okN (b : Bool) (d : D) : Option D := if b = true then some d else none
def ii (f : Int → Int → Option D) : List D → Option D
  | [.int i, .int j] => f i j
  | _ => none
def i1 (f : Int → Option D) : List D → Option D
  | [.int i] => f i
  | _ => none
def l1 (f : List D → Option D) : List D → Option D
  | [.lst _ ds] => f ds
  | _ => none
def k1 (f : List (Key × D) → Option D) : List D → Option D
  | [.dct _ ks] => f ks
  | _ => none
def s1 (f : Str → Option D) : List D → Option D
  | [.str s] => f s
  | _ => none
def d1 (f : D → Option D) : List D → Option D
  | [d] => f d
  | _ => none
def d2 (f : D → D → Option D) : List D → Option D
  | [a, b] => f a b
  | _ => none
def ss (f : Str → Str → Option D) : List D → Option D
  | [.str a, .str b] => f a b
  | _ => none
def ll (f : List D → List D → Option D) : List D → Option D
  | [.lst _ a, .lst _ b] => f a b
  | _ => none
def li (f : List D → Int → Option D) : List D → Option D
  | [.lst _ a, .int i] => f a i
  | _ => none
def lii (f : List D → Int → Int → Option D) : List D → Option D
  | [.lst _ a, .int i, .int j] => f a i j
  | _ => none
def dl (f : D → List D → Option D) : List D → Option D
  | [x, .lst _ a] => f x a
  | _ => none
def dk (f : D → List (Key × D) → Option D) : List D → Option D
  | [x, .dct _ a] => f x a
  | _ => none
def kd (f : List (Key × D) → D → Option D) : List D → Option D
  | [.dct _ a, x] => f a x
  | _ => none
def kk (f : List (Key × D) → List (Key × D) → Option D) : List D → Option D
  | [.dct _ a, .dct _ b] => f a b
  | _ => none
def D.isNon : D → Bool
  | .non => true
  | _ => false
def D.isDct : D → Bool
  | .dct _ _ => true
  | _ => false
def D.isStr : D → Bool
  | .str _ => true
  | _ => false
def D.isBl : D → Bool
  | .bl _ => true
  | _ => false
def D.isLst : D → Bool
  | .lst _ _ => true
  | _ => false
def D.isTup : D → Bool
  | .tup _ => true
  | _ => false
def D.isInt : D → Bool
  | .int _ => true
  | .bl _ => true
  | _ => false
def D.isC (c : Nat) : D → Bool
  | .ins _ c' _ => decide (c' = c)
  | _ => false
/-- of a built-in kind -/
def D.bi : D → Bool
  | .ins _ _ _ => false
  | .scr _ => false
  | _ => true
def D.shp (d : D) : Bool := match d.py with
  | some x => SeqAt.shaped x
  | none => false
def eqvD (a b : D) : Bool := match a.py, b.py with
  | some x, some y => PyData.eqv x y
  | _, _ => false
def eqKb (a b : List (Key × D)) : Bool := decide (a.length = b.length) && a.all fun p => match valA b p.1 with
  | some d => eqvD p.2 d
  | none => false
/-- what an operation makes of what it reads -/
def opS : Op → List D → Option D
  | .lenL => d1 fun d => match d with | .lst _ ds => some (.int ds.length) | .tup ds => some (.int ds.length) | _ => none
  | .lenK => k1 fun ks => some (.int ks.length)
  | .lenS => s1 fun s => okN (decide (s.length ≤ sizeLine)) (.int s.length)
  | .lenC => d1 fun d => match d with | .scr ns => some (.int ns.length) | _ => none
  | .add => ii fun i j => some (.int (i + j))
  | .addS => ss fun s t => okN (decide (s.length + t.length ≤ sizeLine)) (.str (s ++ t))
  | .cat => ll fun a b => okN (a.all D.noOwn && b.all D.noOwn && decide (a.length + b.length ≤ sizeLine)) (.lst .own (a ++ b))
  | .sub => ii fun i j => some (.int (i - j))
  | .mul => ii fun i j => okN (decide ((-(2 ^ 64) < i ∧ i < 2 ^ 64) ∨ (-(2 ^ 64) < j ∧ j < 2 ^ 64))) (.int (i * j))
  | .fdiv => ii fun i j => okN (decide (0 < j ∧ j.natAbs.log2 < 9000)) (.int (i / j))
  | .mod => ii fun i j => okN (decide (0 < j)) (.int (i % j))
  | .pow => ii fun i j => okN (decide (0 ≤ j ∧ j ≤ 1000 ∧ i.natAbs < 2 ^ 64)) (.int (i ^ j.toNat))
  | .neg => i1 fun i => some (.int (-i))
  | .eqA => d2 fun a b => okN (a.atom && b.atom && scal a.toV b.toV) (.bl (decide (a.toV = b.toV)))
  | .neA => d2 fun a b => okN (a.atom && b.atom && scal a.toV b.toV) (.bl (!decide (a.toV = b.toV)))
  | .eqP => d2 fun a b => a.py.bind fun x => b.py.bind fun y => okN (SeqAt.shaped x && SeqAt.shaped y) (.bl (PyData.eqv x y))
  | .neP => d2 fun a b => a.py.bind fun x => b.py.bind fun y => okN (SeqAt.shaped x && SeqAt.shaped y) (.bl (!PyData.eqv x y))
  | .eqK => kk fun a b => okN (a.all (fun p => p.2.shp) && b.all (fun p => p.2.shp)) (.bl (eqKb a b))
  | .neK => kk fun a b => okN (a.all (fun p => p.2.shp) && b.all (fun p => p.2.shp)) (.bl (!eqKb a b))
  | .lt => ii fun i j => b2 (decide (i < j))
  | .le => ii fun i j => b2 (decide (i ≤ j))
  | .gt => ii fun i j => b2 (decide (j < i))
  | .ge => ii fun i j => b2 (decide (j ≤ i))
  | .isN => d1 fun d => b2 d.isNon
  | .notN => d1 fun d => b2 (!d.isNon)
  | .inL => dl fun x ds => okN (x.atom && ds.all D.atom) (.bl (inV x.toV (ds.map D.toV)))
  | .ninL => dl fun x ds => okN (x.atom && ds.all D.atom) (.bl (!inV x.toV (ds.map D.toV)))
  | .inK => dk fun x ks => x.key.bind fun k => b2 (valA ks k).isSome
  | .ninK => dk fun x ks => x.key.bind fun k => b2 (!(valA ks k).isSome)
  | .inS => ss fun c z => okN (decide (c.cps.size = 1)) (.bl (decide (c.cps.toList.headD 0 ∈ z.cps.toList)))
  | .ninS => ss fun c z => okN (decide (c.cps.size = 1)) (.bl (!decide (c.cps.toList.headD 0 ∈ z.cps.toList)))
  | .ixL => li fun ds i => (atI ds i).bind fun d => okN d.noOwn d
  | .ixT => d2 fun t i => match t, i with | .tup ds, .int i => (atI ds i).bind fun d => okN d.noOwn d | _, _ => none
  | .ixS => d2 fun z i => match z, i with | .str z, .int i => if z.length ≤ sizeLine then (atI z.cps.toList i).bind fun c => some (.str ⟨#[c]⟩) else none | _, _ => none
  | .ixK => kd fun ks x => x.key.bind fun k => (valA ks k).bind fun d => okN d.noOwn d
  | .ixC => d2 fun z i => match z, i with | .scr ns, .int i => (atI ns i).bind fun n => some (.int n) | _, _ => none
  | .slL false false => l1 fun ds => okN (ds.all D.noOwn) (.lst .own (cutD ds none none))
  | .slL true false => li fun ds i => okN (ds.all D.noOwn) (.lst .own (cutD ds (some i) none))
  | .slL false true => li fun ds j => okN (ds.all D.noOwn) (.lst .own (cutD ds none (some j)))
  | .slL true true => lii fun ds i j => okN (ds.all D.noOwn) (.lst .own (cutD ds (some i) (some j)))
  | .rev => l1 fun ds => okN (ds.all D.noOwn) (.lst .own ds.reverse)
  | .max2 => ii fun i j => some (.int (if j > i then j else i))
  | .min2 => ii fun i j => some (.int (if j < i then j else i))
  | .all => l1 fun ds => (asBls ds).bind fun bs => b2 (bs.all id)
  | .any => l1 fun ds => (asBls ds).bind fun bs => b2 (bs.any id)
  | .srtS => l1 fun ds => (asStrs ds).bind fun xs => okN (decide (xs.length ≤ 1000000)) (.lst .own ((sortS xs).map D.str))
  | .srtK => k1 fun ks => (keyStrs ks).bind fun xs => okN (decide (xs.length ≤ 1000000)) (.lst .own ((sortS xs).map D.str))
  | .cpL => l1 fun ds => okN (ds.all D.noOwn) (.lst .own ds)
  | .cpK => k1 fun ks => okN (ks.all fun p => p.2.noOwn) (.dct .own ks)
  | .mkK => l1 fun ds => (pairsD ds).bind fun ks => okN (ks.all fun p => p.2.noOwn) (.dct .own (mergeA [] ks))
  | .itm => k1 fun ks => okN (ks.all fun p => p.2.noOwn && p.2.noBor) (.lst .own (ks.map fun p => .tup [keyD p.1, p.2]))
  | .int1 => d1 fun d => match d with | .bl b => some (.int (if b = true then 1 else 0)) | .int i => some (.int i) | _ => none
  | .isDict => d1 fun d => okN d.bi (.bl d.isDct)
  | .isStr => d1 fun d => okN d.bi (.bl d.isStr)
  | .isBool => d1 fun d => okN d.bi (.bl d.isBl)
  | .isList => d1 fun d => okN d.bi (.bl d.isLst)
  | .isTup => d1 fun d => okN d.bi (.bl d.isTup)
  | .isInt => d1 fun d => okN d.bi (.bl d.isInt)
  | .isCls c => d1 fun d => match d with | .ins _ c' _ => okN (decide (c' = c)) (.bl true) | d => okN d.bi (.bl false)

/-- what is walked -/
inductive IK where
  | seq | seqU | seqT | keys | items | values | range1 | range2 | zip | enum | enumS | rev | chars
  deriving DecidableEq

/-- a step of a path: a dict's key, an instance's field -/
inductive Sk where
  | k (k : Key)
  | f (n : Str)
def getP : D → List Sk → Option D
  | d, [] => some d
  | .dct .own ks, .k k :: r => (valA ks k).bind fun c => getP c r
  | .ins .own _ ks, .f n :: r => (valA ks (Sum.inr n)).bind fun c => getP c r
  | _, _ :: _ => none
def setP : D → List Sk → D → D
  | _, [], n => n
  | .dct m ks, .k k :: r, n => .dct m (match valA ks k with | some c => putA ks k (setP c r n) | none => ks)
  | .ins m cl ks, .f x :: r, n => .ins m cl (match valA ks (Sum.inr x) with | some c => putA ks (Sum.inr x) (setP c r n) | none => ks)
  | d, _ :: _, _ => d

def nodeAt (ρ : Env) (j : Nat) (ks : List Sk) : Option D := (get ρ j).bind fun d => getP d ks
inductive PX where
  | var (j : Nat)
  | mov (j : Nat)
  | pre (j : Nat) (ns : List Str) (e : PX)
  | frzE (e : PX)
  | cst (d : D)
  | tup (es : List PX)
  | lst (es : List PX)
  | dct (es : List PX)
  | op (o : Op) (es : List PX)
  | opF (o : Op) (j : Nat) (n : Str) (es : List PX)
  | fld (e : PX) (n : Str)
  | and (a b : PX)
  | or (a b : PX)
  | not (a : PX)
  | ife (c a b : PX)
  | chain (o o' : Op) (a b c : PX)
  | call (g : Nat) (es : List PX)
  | callio (g : Nat) (j : Nat) (es : List PX)
  | mk (c g : Nat) (es : List PX)
  | meth (c : Nat) (m : Str) (g : Nat) (o : PX) (es : List PX)
  | eqO (c g : Nat) (a b : PX)
  | pop (j : Nat)
  | popK (j : Nat) (k : PX)
  | comp (js : List Nat) (ik : IK) (ies : List PX) (c : Option PX) (e : PX)
  | dcomp (js : List Nat) (ik : IK) (ies : List PX) (c : Option PX) (k e : PX)

mutual
/-- slots that may be touched -/
def PX.tch : PX → Nat → Bool
  | .var _, _ => false
  | .mov j, i => i == j
  | .pre j _ e, i => i == j || e.tch i
  | .frzE e, i => e.tch i
  | .cst _, _ => false
  | .tup es, i => tchs es i
  | .lst es, i => tchs es i
  | .dct es, i => tchs es i
  | .op _ es, i => tchs es i
  | .opF _ _ _ es, i => tchs es i
  | .fld e _, i => e.tch i
  | .and a b, i => a.tch i || b.tch i
  | .or a b, i => a.tch i || b.tch i
  | .not a, i => a.tch i
  | .ife c a b, i => c.tch i || a.tch i || b.tch i
  | .chain _ _ a b c, i => a.tch i || b.tch i || c.tch i
  | .call _ es, i => tchs es i
  | .callio _ j es, i => i == j || tchs es i
  | .mk _ _ es, i => tchs es i
  | .meth _ _ _ o es, i => o.tch i || tchs es i
  | .eqO _ _ a b, i => a.tch i || b.tch i
  | .pop j, i => i == j
  | .popK j k, i => i == j || k.tch i
  | .comp js _ ies c e, i => js.contains i || tchs ies i || tchO c i || e.tch i
  | .dcomp js _ ies c k e, i => js.contains i || tchs ies i || tchO c i || k.tch i || e.tch i
def tchs : List PX → Nat → Bool
  | [], _ => false
  | e :: es, i => e.tch i || tchs es i
def tchO : Option PX → Nat → Bool
  | none, _ => false
  | some e, i => e.tch i
end

abbrev Fns := Nat → List D → Option (D × Option D)
def frzAt (ρ : Env) (j : Nat) (ns : List Str) : Option Env := (get ρ j).bind fun d => (getP d (ns.map Sk.f)).bind fun n => if n.noBor = true then some (ρ.set j (some (setP d (ns.map Sk.f) n.frz))) else none
def args (ρ : Env) (rs : List Rv) : Option (List D) := (views ρ rs).map bors
def noRef (j : Nat) : List Rv → Bool
  | [] => true
  | .ref i :: rs => i != j && noRef j rs
  | _ :: rs => noRef j rs
/-- the items of a thing that is walked; it may be own, if it stands at a slot that the body leaves alone -/
def items1 (d : D) : Option (List D) :=
  match d with
  | .lst _ ds => if ds.all D.noOwn = true then some ds else none
  | .scr ns => some (ns.map D.int)
  | _ => none
def unT : List D → Option (List (List D))
  | [] => some []
  | .tup ds :: r => (unT r).bind fun xs => some (ds :: xs)
  | _ => none
def iterS (ik : IK) (ds : List D) : Option (List (List D)) :=
  match ik, ds with
  | .seq, [d] => (items1 d).map fun xs => xs.map fun x => [x]
  | .seqU, [d] => (items1 d).bind unT
  | .seqT, [.tup ds] => some (ds.map fun x => [x])
  | .keys, [.dct m ks] => if m = .own then none else some (ks.map fun p => [keyD p.1])
  | .values, [.dct m ks] => if m = .own then none else some (ks.map fun p => [p.2])
  | .items, [.dct m ks] => if m = .own then none else some (ks.map fun p => [keyD p.1, p.2])
  | .range1, [.int n] => if -(2 ^ 62) ≤ n ∧ n < 2 ^ 62 then some ((List.range n.toNat).map fun (i : Nat) => [.int (i : Int)]) else none
  | .range2, [.int a, .int b] => if -(2 ^ 62) ≤ a ∧ a < 2 ^ 62 ∧ -(2 ^ 62) ≤ b ∧ b < 2 ^ 62 then some ((List.range (b - a).toNat).map fun (i : Nat) => [.int (a + (i : Int))]) else none
  | .zip, [.lst _ a, .lst _ b] => if (a.all D.noOwn && b.all D.noOwn) = true then some ((a.zip b).map fun p => [p.1, p.2]) else none
  | .enum, [.lst _ a] => if a.all D.noOwn = true then some (a.zipIdx.map fun p => [.int p.2, p.1]) else none
  | .enumS, [.lst _ a, .int k] => if a.all D.noOwn = true ∧ -(2 ^ 62) ≤ k ∧ k < 2 ^ 62 then some (a.zipIdx.map fun p => [.int (k + p.2), p.1]) else none
  | .rev, [.lst _ a] => if a.all D.noOwn = true then some (a.reverse.map fun x => [x]) else none
  | .chars, [.str z] => some (z.cps.toList.map fun c => [.str ⟨#[c]⟩])
  | _, _ => none
/-- what is walked is new, or it stands at a slot that stays -/
def okIt (ρ : Env) (T : Nat → Bool) : List Rv → Bool
  | [] => true
  | .val _ :: rs => okIt ρ T rs
  | .ref j :: rs => (!T j || match get ρ j with | some d => d.noOwn | none => false) && okIt ρ T rs
/-- the slots of a comprehension's own names hold nothing that is own -/
def freeAt (ρ : Env) : List Nat → Bool
  | [] => true
  | j :: js => (match get ρ j with | some d => d.noOwn | none => true) && freeAt ρ js
def setAt : List Nat → List D → Env → Option Env
  | [], [], ρ => some ρ
  | j :: js, d :: ds, ρ => if j < ρ.length then setAt js ds (ρ.set j (some d)) else none
  | _, _, _ => none
def wipeE (ρ : Env) : List Nat → Env
  | [] => ρ
  | j :: js => (wipeE ρ js).set j none
def backE (ρ ρ0 : Env) : List Nat → Env
  | [] => ρ
  | j :: js => (backE ρ ρ0 js).set j (get ρ0 j)
def compLoop (js : List Nat) (c : Env → Option (Bool × Env)) (e : Env → Option (D × Env)) : List (List D) → Env → Option (List D × Env)
  | [], ρ => some ([], ρ)
  | xs :: r, ρ => (setAt js xs (wipeE ρ js)).bind fun ρ1 => (c ρ1).bind fun q =>
    if q.1 = true then (e q.2).bind fun p => (compLoop js c e r p.2).bind fun z => some (p.1 :: z.1, z.2)
    else compLoop js c e r q.2
def dcompLoop (js : List Nat) (c : Env → Option (Bool × Env)) (k : Env → Option (Key × Env)) (e : Env → Option (D × Env)) : List (List D) → Env → List (Key × D) → Option (List (Key × D) × Env)
  | [], ρ, acc => some (acc, ρ)
  | xs :: r, ρ, acc => (setAt js xs (wipeE ρ js)).bind fun ρ1 => (c ρ1).bind fun q =>
    if q.1 = true then (k q.2).bind fun kk => (e kk.2).bind fun p => dcompLoop js c k e r p.2 (putA acc kk.1 p.1)
    else dcompLoop js c k e r q.2 acc
def asB (r : Rv × Env) : Option (Bool × Env) := match r.1.view r.2 with | some (.bl b) => some (b, r.2) | _ => none
def asD (r : Rv × Env) : Option (D × Env) := (r.1.take r.2).map fun d => (d, r.2)
def asK (r : Rv × Env) : Option (Key × Env) := ((r.1.view r.2).bind D.key).map fun k => (k, r.2)
def isIns (c : Nat) (m : Str) : D → Bool
  | .ins _ c' fs => decide (c' = c) && (valA fs (Sum.inr m)).isNone
  | _ => false
def okEq (c : Nat) : List D → Bool
  | [.ins _ c' _, .ins _ c'' _] => decide (c' = c) && decide (c'' = c)
  | [.ins _ c' _, d] => decide (c' = c) && d.bi
  | _ => false
def D.isL : D → Bool
  | .lst .own _ => true
  | _ => false
def D.isK : D → Bool
  | .dct .own _ => true
  | _ => false
def pairUp : List D → Option (List (Key × D))
  | [] => some []
  | k :: d :: r => k.key.bind fun k => (pairUp r).bind fun xs => some ((k, d) :: xs)
  | _ => none

mutual
def ev (Γ : Fns) : PX → Env → Option (Rv × Env)
  | .var j, ρ => (get ρ j).bind fun _ => some (.ref j, ρ)
  | .mov j, ρ => (get ρ j).bind fun d => some (.val d, ρ.set j none)
  | .pre j ns e, ρ => (frzAt ρ j ns).bind fun ρ' => ev Γ e ρ'
  | .frzE e, ρ => (ev Γ e ρ).bind fun r => match r.1 with
    | .val d => if d.noBor = true then some (.val d.frz, r.2) else none
    | .ref _ => none
  | .cst d, ρ => if d.atom = true then some (.val d, ρ) else none
  | .tup es, ρ => (evs Γ es ρ).bind fun r => (takes r.2 r.1).bind fun ds => if ds.length ≤ sizeLine ∧ noBors ds = true then some (.val (.tup (frzs ds)), r.2) else none
  | .lst es, ρ => (evs Γ es ρ).bind fun r => (takes r.2 r.1).bind fun ds => if ds.length ≤ sizeLine then some (.val (.lst .own ds), r.2) else none
  | .dct es, ρ => (evs Γ es ρ).bind fun r => (takes r.2 r.1).bind fun ds => (pairUp ds).bind fun ks => if ks.length ≤ 15 ∧ (ks.map (·.1)).Nodup then some (.val (.dct .own ks), r.2) else none
  | .op o es, ρ => (evs Γ es ρ).bind fun r => (views r.2 r.1).bind fun ds => (opS o ds).bind fun d => some (.val d, r.2)
  | .opF o j n es, ρ => (nodeAt ρ j [.f n]).bind fun _ => (evs Γ es ρ).bind fun r => if tchs es j = false then (nodeAt r.2 j [.f n]).bind fun x => (views r.2 r.1).bind fun ds => (opS o (x :: ds)).bind fun d => some (.val d, r.2) else none
  | .fld e n, ρ => (ev Γ e ρ).bind fun r => (r.1.view r.2).bind fun d => match d with
    | .ins _ _ fs => (valA fs (.inr n)).bind fun x => if x.noOwn = true then some (.val x, r.2) else none
    | _ => none
  | .and a b, ρ => ((ev Γ a ρ).bind asB).bind fun q => if q.1 = true then ev Γ b q.2 else some (.val (.bl false), q.2)
  | .or a b, ρ => ((ev Γ a ρ).bind asB).bind fun q => if q.1 = true then some (.val (.bl true), q.2) else ev Γ b q.2
  | .not a, ρ => ((ev Γ a ρ).bind asB).bind fun q => some (.val (.bl (!q.1)), q.2)
  | .ife c a b, ρ => ((ev Γ c ρ).bind asB).bind fun q => if q.1 = true then ev Γ a q.2 else ev Γ b q.2
  | .chain o o' a b c, ρ => (ev Γ a ρ).bind fun ra => (ra.1.view ra.2).bind fun x => (ev Γ b ra.2).bind fun rb => (rb.1.view rb.2).bind fun y =>
    if (x.atom && y.atom) = true then (opS o [x, y]).bind fun z => match z with
      | .bl true => (ev Γ c rb.2).bind fun rc => (rc.1.view rc.2).bind fun w => (opS o' [y, w]).bind fun z => some (.val z, rc.2)
      | .bl false => some (.val (.bl false), rb.2)
      | _ => none
    else none
  | .call g es, ρ => (evs Γ es ρ).bind fun r => (args r.2 r.1).bind fun ds => (Γ g ds).bind fun q => match q.2 with
    | none => some (.val q.1, r.2)
    | some _ => none
  | .callio g j es, ρ => (get ρ j).bind fun _ => (evs Γ es ρ).bind fun r => if noRef j r.1 = true then (args r.2 r.1).bind fun ds => (get r.2 j).bind fun d => (Γ g (d :: ds)).bind fun q => match q.2 with
    | none => none
    | some d' => some (.val q.1, r.2.set j (some d'))
    else none
  | .mk c g es, ρ => (evs Γ es ρ).bind fun r => (args r.2 r.1).bind fun ds => (Γ g (.ins .own c [] :: ds)).bind fun q => match q.1, q.2 with
    | .non, some d => some (.val d, r.2)
    | _, _ => none
  | .meth c m g o es, ρ => (ev Γ o ρ).bind fun r0 => (r0.1.view r0.2).bind fun d0 => if isIns c m d0 = true then (evs Γ es r0.2).bind fun r => (args r.2 (r0.1 :: r.1)).bind fun ds => (Γ g ds).bind fun q => match q.2 with
    | none => some (.val q.1, r.2)
    | some _ => none
    else none
  | .eqO c g a b, ρ => (ev Γ a ρ).bind fun r0 => (ev Γ b r0.2).bind fun r => (views r.2 [r0.1, r.1]).bind fun vs => if okEq c vs = true then (args r.2 [r0.1, r.1]).bind fun ds => (Γ g ds).bind fun q => match q.2 with
    | none => some (.val q.1, r.2)
    | some _ => none
    else none
  | .pop j, ρ => (get ρ j).bind fun d => match d with
    | .lst .own ds => (ds.getLast?).bind fun x => if x.noOwn = true then some (.val x, ρ.set j (some (.lst .own ds.dropLast))) else none
    | _ => none
  | .popK j k, ρ => (get ρ j).bind fun d0 => if d0.isK = false then none else (ev Γ k ρ).bind fun q => ((q.1.view q.2).bind D.key).bind fun kk => if k.tch j = false then (get q.2 j).bind fun d => match d with
    | .dct .own ks => (valA ks kk).bind fun x => if x.noOwn = true then some (.val x, q.2.set j (some (.dct .own (dropA ks kk)))) else none
    | _ => none
    else none
  | .comp js ik ies c e, ρ => (evs Γ ies ρ).bind fun r => (views r.2 r.1).bind fun ds => (iterS ik ds).bind fun els =>
    if (okIt r.2 (fun i => tchO c i || e.tch i || js.contains i) r.1 && freeAt r.2 js) = true then
      (compLoop js (fun ρ => (evO Γ c ρ)) (fun ρ => (ev Γ e ρ).bind asD) els r.2).bind fun z =>
        if z.1.length ≤ 1000000 then some (.val (.lst .own z.1), backE z.2 r.2 js) else none
    else none
  | .dcomp js ik ies c k e, ρ => (evs Γ ies ρ).bind fun r => (views r.2 r.1).bind fun ds => (iterS ik ds).bind fun els =>
    if (okIt r.2 (fun i => tchO c i || k.tch i || e.tch i || js.contains i) r.1 && freeAt r.2 js) = true then
      (dcompLoop js (fun ρ => (evO Γ c ρ)) (fun ρ => (ev Γ k ρ).bind asK) (fun ρ => (ev Γ e ρ).bind asD) els r.2 []).bind fun z =>
        if els.length ≤ 1000000 then some (.val (.dct .own z.1), backE z.2 r.2 js) else none
    else none
def evs (Γ : Fns) : List PX → Env → Option (List Rv × Env)
  | [], ρ => some ([], ρ)
  | e :: es, ρ => (ev Γ e ρ).bind fun r => (evs Γ es r.2).bind fun q => some (r.1 :: q.1, q.2)
def evO (Γ : Fns) : Option PX → Env → Option (Bool × Env)
  | none, ρ => some (true, ρ)
  | some e, ρ => (ev Γ e ρ).bind asB
end

section
variable (K : PySem.W.Frag) (CT : Nat → Addr) (Γ : Fns)
def TI (e : PX) : TE := fun σ H Q => ∃ F G ρ f rv ρ', Ste K CT F G H ρ σ f ∧ ev Γ e ρ = some (rv, ρ') ∧
  ∀ v F' H' f' fp, Pst K CT e.tch F G H ρ σ f ρ' [rv] [v] F' H' f' fp → Q v H'
def TIs (es : List PX) : TA := fun σ H Q => ∃ F G ρ f rvs ρ', Ste K CT F G H ρ σ f ∧ evs Γ es ρ = some (rvs, ρ') ∧
  ∀ vs F' H' f' fp, Pst K CT (tchs es) F G H ρ σ f ρ' rvs vs F' H' f' fp → Q vs H'
def TB (e : PX) : TT := tB (TI K CT Γ e)
end
end Pv

set_option Elab.async false
set_option linter.all false
set_option maxRecDepth 100000
set_option maxHeartbeats 1000000
namespace Pv
open PySem L2

theorem PE.imp {X : Cx} {e : Expr} {t t' : TE} (h : PE X e t) (k : ∀ σ H Q, t' σ H Q → t σ H Q) : PE X e t' := ⟨fun pins s σ H Q I q => h.run pins s σ H Q I (k _ _ _ q)⟩
theorem PT.imp {X : Cx} {e : Expr} {t t' : TT} (h : PT X e t) (k : ∀ σ H Q, t' σ H Q → t σ H Q) : PT X e t' := ⟨fun pins s σ H Q I q => h.run pins s σ H Q I (k _ _ _ q)⟩
theorem PA.imp {X : Cx} {e : List Expr} {t t' : TA} (h : PA X e t) (k : ∀ σ H Q, t' σ H Q → t σ H Q) : PA X e t' := ⟨fun pos pins s σ H Q I q => h.run pos pins s σ H Q I (k _ _ _ q)⟩
theorem PS.imp {X : Cx} {e : Stmt} {t t' : TS} (h : L2.PS X e t) (k : ∀ D σ H, t' D σ H → t D σ H) : L2.PS X e t' := ⟨fun pins s σ H D I q => h.run pins s σ H D I (k _ _ _ q)⟩
theorem PSs.imp {X : Cx} {e : List Stmt} {t t' : TS} (h : L2.PSs X e t) (k : ∀ D σ H, t' D σ H → t D σ H) : L2.PSs X e t' := ⟨fun pins s σ H D I q => h.run pins s σ H D I (k _ _ _ q)⟩

section
variable {K : PySem.W.Frag} {CT : Nat → Addr} {Γ : Fns} {σ : L2.St} {H : Hp} {Q : VK} {e : PX} {es : List PX}

theorem TIs_nil {Q : List V → Hp → Prop} (h : TIs K CT Γ [] σ H Q) : Q [] H := by
  obtain ⟨F, G, ρ, f, rvs, ρ', hs, he, hq⟩ := h
  simp only [evs, Option.some.injEq, Prod.mk.injEq] at he
  obtain ⟨rfl, rfl⟩ := he
  exact hq _ _ _ _ _ (Pst.nil hs)
theorem TIs_cons {Q : List V → Hp → Prop} (h : TIs K CT Γ (e :: es) σ H Q) : TI K CT Γ e σ H fun x H1 => TIs K CT Γ es σ H1 fun xs H2 => Q (x :: xs) H2 := by
  obtain ⟨F, G, ρ, f, rvs, ρ', hs, he, hq⟩ := h
  simp only [evs, Option.bind_eq_some_iff, Option.some.injEq, Prod.mk.injEq] at he
  obtain ⟨r, h1, q, h2, rfl, rfl⟩ := he
  refine ⟨F, G, ρ, f, r.1, r.2, hs, h1, fun v F1 H1 f1 fp1 p => ⟨F1, G, r.2, f1, q.1, q.2, p.st, h2, fun vs F2 H2 f2 fp2 p2 => hq _ _ _ _ _ ((p.mono ?_).cons (p2.mono ?_))⟩⟩
  · intro i hi; simp only [tchs, Bool.or_eq_false_iff] at hi; exact hi.1
  · intro i hi; simp only [tchs, Bool.or_eq_false_iff] at hi; exact hi.2
theorem TI_var {j : Nat} (h : TI K CT Γ (.var j) σ H Q) : tVar j σ H Q := by
  obtain ⟨F, G, ρ, f, rv, ρ', hs, he, hq⟩ := h
  simp only [ev, Option.bind_eq_some_iff, Option.some.injEq, Prod.mk.injEq] at he
  obtain ⟨d, h1, rfl, rfl⟩ := he
  obtain ⟨v, e1, _⟩ := hs.get h1
  refine ⟨v, e1, hq v F H f [] ⟨hs, Stp.refl _ _ _ _ _, ⟨v, [], [], [], rfl, ⟨e1, rfl⟩, ⟨rfl, rfl⟩, rfl⟩, List.nodup_nil, fun _ h => (nomatch h), fun _ h => (nomatch h)⟩⟩
theorem get_set_ne {ρ : Env} {i j : Nat} {o : Option D} (h : i ≠ j) : (ρ.set j o)[i]? = ρ[i]? := by
  rw [List.getElem?_set_ne (Ne.symm h)]
theorem get_some {ρ : Env} {j : Nat} {d : D} (h : get ρ j = some d) : ρ[j]? = some (some d) := by
  unfold get at h
  cases e : ρ[j]? with
  | none => rw [e] at h; cases h
  | some o => rw [e] at h; cases o with
    | none => cases h
    | some x => cases h; rfl
theorem set_same {ρ : Env} {j : Nat} {d : D} {o : Option D} (h : get ρ j = some d) : (ρ.set j o)[j]? = some o := by
  have hj : j < ρ.length := (List.getElem?_eq_some_iff.mp (get_some h)).1
  rw [List.getElem?_set_self hj]
/-- a slot's thing changes: its value stays at its address, its footprint is A' -/
theorem Ste.put {F G F' H' : Hp} {ρ : Env} {f : Nat → List Addr} {j : Nat} {d d' : D} {v : V} {A' : List Addr} (s : Ste K CT F G H ρ σ f) (hj : Pv.get ρ j = some d) (hv : σ[j]? = some (some v))
    (r : R K CT F' G H' d' v A') (hF : HLe F F') (hk : ∀ i, i ≠ j → ∀ a ∈ f i, H' a = H a ∧ F' a = none ∧ G a = none) (nd : A'.Nodup) (dj : ∀ a ∈ A', ∀ i, i ≠ j → a ∉ f i) (wf : WLe F' H') (wg : WLe G H') :
    Ste K CT F' G H' (ρ.set j (some d')) σ (fun i => if i = j then A' else f i) := by
  refine ⟨by rw [List.length_set]; exact s.len, fun i x e => ?_, fun i => ?_, fun i k a h1 h2 => ?_, fun i h => ?_, wf, wg⟩
  · by_cases hi : i = j
    · subst hi
      rw [set_same hj] at e
      cases e
      rw [if_pos rfl]
      exact ⟨v, hv, r⟩
    · rw [get_set_ne hi] at e
      obtain ⟨v', h1, h2⟩ := s.at_ i x e
      rw [if_neg hi]
      exact ⟨v', h1, R.mono hF x (WLe.refl G) (hk i hi) h2⟩
  · by_cases hi : i = j
    · rw [if_pos hi]; exact nd
    · rw [if_neg hi]; exact s.nd i
  · by_cases hi : i = j
    · by_cases hk' : k = j
      · rw [hi, hk']
      · rw [if_pos hi] at h1; rw [if_neg hk'] at h2
        exact absurd h2 (dj a h1 k hk')
    · by_cases hk' : k = j
      · rw [if_neg hi] at h1; rw [if_pos hk'] at h2
        exact absurd h1 (dj a h2 i hi)
      · rw [if_neg hi] at h1; rw [if_neg hk'] at h2
        exact s.dj i k a h1 h2
  · by_cases hi : i = j
    · subst hi
      exact absurd (set_same hj) (h d')
    · rw [if_neg hi]
      refine s.em i fun x e => h x ?_
      rw [get_set_ne hi]; exact e
/-- a slot is emptied -/
theorem Ste.drop {F G : Hp} {ρ : Env} {f : Nat → List Addr} (s : Ste K CT F G H ρ σ f) (j : Nat) : Ste K CT F G H (ρ.set j none) σ (fun i => if i = j then [] else f i) := by
  refine ⟨by rw [List.length_set]; exact s.len, fun i x e => ?_, fun i => ?_, fun i k a h1 h2 => ?_, fun i h => ?_, s.wf, s.wg⟩
  · by_cases hi : i = j
    · subst hi
      rw [List.getElem?_set] at e
      split at e
      · split at e
        · cases e
        · cases e
      · rename_i z; exact absurd rfl z
    · rw [get_set_ne hi] at e
      rw [if_neg hi]; exact s.at_ i x e
  · by_cases hi : i = j
    · rw [if_pos hi]; exact List.nodup_nil
    · rw [if_neg hi]; exact s.nd i
  · by_cases hi : i = j
    · rw [if_pos hi] at h1; cases h1
    · by_cases hk' : k = j
      · rw [if_pos hk'] at h2; cases h2
      · rw [if_neg hi] at h1; rw [if_neg hk'] at h2
        exact s.dj i k a h1 h2
  · by_cases hi : i = j
    · rw [if_pos hi]
    · rw [if_neg hi]
      refine s.em i fun x e => h x ?_
      rw [get_set_ne hi]; exact e
theorem TI_mov {j : Nat} (h : TI K CT Γ (.mov j) σ H Q) : tVar j σ H Q := by
  obtain ⟨F, G, ρ, f, rv, ρ', hs, he, hq⟩ := h
  simp only [ev, Option.bind_eq_some_iff, Option.some.injEq, Prod.mk.injEq] at he
  obtain ⟨d, h1, rfl, rfl⟩ := he
  obtain ⟨v, e1, r⟩ := hs.get h1
  refine ⟨v, e1, hq v F H (fun i => if i = j then [] else f i) (f j) ⟨hs.drop j, ⟨HLe.refl _, fun _ _ h _ => h, fun _ h => .inl h, fun i a h => ?_, fun i hi => ?_, fun _ o h => ⟨o, h⟩⟩, ⟨v, [], f j, [], rfl, r, ⟨rfl, rfl⟩, by simp⟩, hs.nd j, fun a ha i hi => ?_, fun a ha => .inl ⟨j, ha⟩⟩⟩
  · split at h
    · cases h
    · exact .inl ⟨i, h⟩
  · simp only [PX.tch, beq_eq_false_iff_ne] at hi
    exact ⟨if_neg hi, get_set_ne hi, fun _ _ => rfl⟩
  · by_cases e : i = j
    · rw [if_pos e] at hi; cases hi
    · rw [if_neg e] at hi; exact e (hs.dj i j a hi ha)
/-- behind a step the same -/
theorem Pst.after {T : Nat → Bool} {F G F1 H1 F2 H2 : Hp} {ρ ρ1 ρ2 : Env} {f f1 f2 : Nat → List Addr} {rs : List Rv} {vs : List V} {fp : List Addr} (s : Stp T F H ρ f F1 H1 ρ1 f1) (p : Pst K CT T F1 G H1 ρ1 σ f1 ρ2 rs vs F2 H2 f2 fp) : Pst K CT T F G H ρ σ f ρ2 rs vs F2 H2 f2 fp :=
  ⟨p.st, s.trans p.sp, p.vr, p.nd, p.ap, fun a ha => by
    rcases p.fr a ha with ⟨j, hj⟩ | hj
    · exact s.own j a hj
    · cases e : H a with
      | none => exact .inr rfl
      | some o =>
        obtain ⟨o', e'⟩ := s.live a o e
        rw [e'] at hj; cases hj⟩
theorem vr1 {F G : Hp} {rv : Rv} {v : V} {fp : List Addr} (h : VRs K CT F G H σ [rv] [v] fp) : VR K CT F G H σ rv v fp := by
  simp only [VRs] at h
  obtain ⟨v', vr, g1, g2, e, h1, ⟨_, rfl⟩, rfl⟩ := h
  cases e
  rw [List.append_nil]; exact h1
theorem VR.one {F G : Hp} {rv : Rv} {v : V} {fp : List Addr} (h : VR K CT F G H σ rv v fp) : VRs K CT F G H σ [rv] [v] fp := ⟨v, [], fp, [], rfl, h, ⟨rfl, rfl⟩, by simp⟩
/-- freezing own values that are held -/
theorem Ste.frzHeld {F G : Hp} {ρ : Env} {f : Nat → List Addr} {fp : List Addr} (s : Ste K CT F G H ρ σ f) (ow : ∀ a ∈ fp, (∃ o, H a = some o) ∧ F a = none ∧ G a = none) (ap : ∀ a ∈ fp, ∀ i, a ∉ f i) :
    HLe F (fun a => if a ∈ fp then H a else F a) ∧ Ste K CT (fun a => if a ∈ fp then H a else F a) G H ρ σ f := by
  have hF : HLe F (fun a => if a ∈ fp then H a else F a) := fun a u e => by
    show (if a ∈ fp then H a else F a) = some u
    by_cases ha : a ∈ fp
    · rw [(ow a ha).2.1] at e; cases e
    · rw [if_neg ha]; exact e
  have wf : WLe (fun a => if a ∈ fp then H a else F a) H := fun a u e => by
    have e : (if a ∈ fp then H a else F a) = some u := e
    by_cases ha : a ∈ fp
    · rw [if_pos ha] at e; exact .inl e
    · rw [if_neg ha] at e; exact s.wf a u e
  refine ⟨hF, s.len, fun i d e => ?_, s.nd, s.dj, s.em, wf, s.wg⟩
  obtain ⟨v, h1, h2⟩ := s.at_ i d e
  refine ⟨v, h1, R.mono hF d (WLe.refl G) (fun a ha => ⟨rfl, ?_, (s.ow i a ha).2.2⟩) h2⟩
  show (if a ∈ fp then H a else F a) = none
  rw [if_neg fun z => ap a z i ha]; exact (s.ow i a ha).2.1
theorem TI_frzE (h : TI K CT Γ (.frzE e) σ H Q) : TI K CT Γ e σ H Q := by
  obtain ⟨F, G, ρ, f, rv, ρ', hs, he, hq⟩ := h
  simp only [ev, Option.bind_eq_some_iff] at he
  obtain ⟨r, h1, h2⟩ := he
  refine ⟨F, G, ρ, f, r.1, r.2, hs, h1, fun v F' H' f' fp p => ?_⟩
  cases e1 : r.1 with
  | ref j => rw [e1] at h2; cases h2
  | val d =>
    rw [e1] at h2
    simp only at h2
    split at h2
    · rename_i nb
      cases h2
      have hr : R K CT F' G H' d v fp := by have z := vr1 p.vr; rw [e1] at z; exact z
      obtain ⟨hF, s'⟩ := p.st.frzHeld (R.own d hr) p.ap
      refine hq v _ H' f' [] ⟨s', ?_, VR.one (R.frz hF d nb (fun a ha => if_pos ha) hr), List.nodup_nil, fun _ h => (nomatch h), fun _ h => (nomatch h)⟩
      refine ⟨p.sp.le.trans hF, p.sp.keep, fun a ha => ?_, p.sp.own, p.sp.st, p.sp.live⟩
      by_cases hfp : a ∈ fp
      · rcases p.fr a hfp with q | q
        · exact .inr (.inr q)
        · exact .inr (.inl q)
      · refine p.sp.new a fun z => ha ?_
        show (if a ∈ fp then H' a else F' a) = none
        rw [if_neg hfp]; exact z
    · cases h2
theorem R.atom {F G : Hp} {d : D} (h : d.atom = true) : R K CT F G H d d.toV [] := by
  cases d <;> first | (simp [D.atom] at h; done) | (simp only [R, D.toV, and_self])
theorem R.atomV {F G : Hp} {d : D} {v : V} {fp : List Addr} (h : d.atom = true) (r : R K CT F G H d v fp) : v = d.toV ∧ fp = [] := by
  cases d <;> first | (simp [D.atom] at h; done) | (simp only [R] at r; exact r)
theorem TI_cst {d : D} (h : TI K CT Γ (.cst d) σ H Q) : Q d.toV H := by
  obtain ⟨F, G, ρ, f, rv, ρ', hs, he, hq⟩ := h
  simp only [ev] at he
  split at he
  · rename_i ha
    cases he
    exact hq _ F H f [] ⟨hs, Stp.refl _ _ _ _ _, VR.one (R.atom ha), List.nodup_nil, fun _ h => (nomatch h), fun _ h => (nomatch h)⟩
  · cases he

theorem Rs.len {F G : Hp} : ∀ (ds : List D) {vs : List V} {fp : List Addr}, Rs K CT F G H ds vs fp → vs.length = ds.length
  | [], _, _, h => by simp only [Rs] at h; rw [h.1]; rfl
  | d :: ds, _, _, h => by
    simp only [Rs] at h
    obtain ⟨v, vr, g1, g2, rfl, _, q, _⟩ := h
    rw [List.length_cons, List.length_cons, Rs.len ds q]
theorem TI_lst (h : TI K CT Γ (.lst es) σ H Q) : tLst (TIs K CT Γ es) σ H Q := by
  obtain ⟨F, G, ρ, f, rv, ρ', hs, he, hq⟩ := h
  simp only [ev, Option.bind_eq_some_iff] at he
  obtain ⟨r, h1, ds, h2, h3⟩ := he
  split at h3
  · rename_i hl
    cases h3
    refine ⟨F, G, ρ, f, r.1, r.2, hs, h1, fun vs F' H' f' fp p => ?_⟩
    have rs := takes_rs p.st p.vr h2
    have hlen : vs.length = ds.length := Rs.len ds rs
    refine ⟨by rw [hlen]; exact hl, fun a ha => ?_⟩
    have al : Alo F' H' F' (upd H' a (.lst vs)) := Alo.obj ha
    have hfp := VRs.own p.vr
    have na : a ∉ fp := fun z => by obtain ⟨⟨o, q⟩, _⟩ := hfp a z; rw [ha] at q; cases q
    refine hq _ _ _ _ (a :: fp) (p.made al ?_ (List.nodup_cons.mpr ⟨na, p.nd⟩) fun x hx => ?_)
    · simp only [R]
      refine ⟨a, vs, fp, rfl, upd_same, p.st.wf.none ha, p.st.wg.none ha, ?_, rfl⟩
      refine Rs.mono (HLe.refl _) ds (WLe.refl G) (fun x hx => ⟨?_, (hfp x hx).2⟩) rs
      exact upd_ne fun z => na (by rw [← z]; exact hx)
    · rcases List.mem_cons.mp hx with rfl | hx
      · exact .inr ha
      · exact .inl hx
  · cases h3
theorem TI_tup (h : TI K CT Γ (.tup es) σ H Q) : tTup (TIs K CT Γ es) σ H Q := by
  obtain ⟨F, G, ρ, f, rv, ρ', hs, he, hq⟩ := h
  simp only [ev, Option.bind_eq_some_iff] at he
  obtain ⟨r, h1, ds, h2, h3⟩ := he
  split at h3
  · rename_i hl
    cases h3
    refine ⟨F, G, ρ, f, r.1, r.2, hs, h1, fun vs F' H' f' fp p => ?_⟩
    have rs := takes_rs p.st p.vr h2
    have hlen : vs.length = ds.length := Rs.len ds rs
    refine ⟨by rw [hlen]; exact hl.1, fun a ha => ?_⟩
    have hfp := VRs.own p.vr
    obtain ⟨hF, s'⟩ := p.st.frzHeld hfp p.ap
    have hFa : (fun a => if a ∈ fp then H' a else F' a) a = none := s'.wf.none ha
    have al : Alo (fun a => if a ∈ fp then H' a else F' a) H' _ _ := Alo.frz (o := .tup vs) ha hFa
    have p2 : Pst K CT (PX.tup es).tch F G H ρ σ f r.2 [] [] (fun a => if a ∈ fp then H' a else F' a) H' f' [] := by
      refine ⟨s', ⟨p.sp.le.trans hF, p.sp.keep, fun x hx => ?_, p.sp.own, p.sp.st, p.sp.live⟩, ⟨rfl, rfl⟩, List.nodup_nil, fun _ h => (nomatch h), fun _ h => (nomatch h)⟩
      by_cases hfx : x ∈ fp
      · rcases p.fr x hfx with q | q
        · exact .inr (.inr q)
        · exact .inr (.inl q)
      · refine p.sp.new x fun z => hx ?_
        show (if x ∈ fp then H' x else F' x) = none
        rw [if_neg hfx]; exact z
    refine hq _ _ _ _ [] (p2.made al ?_ List.nodup_nil fun _ h => (nomatch h))
    simp only [R]
    refine ⟨⟨a, vs, rfl, upd_same, ?_⟩, trivial⟩
    exact Rs.frz (hF.trans al.le) ds hl.2 (fun x hx => by
      show upd _ a _ x = H' x
      rw [upd_ne (fun z => by subst z; obtain ⟨⟨o, q⟩, _⟩ := hfp x hx; rw [ha] at q; cases q)]
      exact if_pos hx) rs
  · cases h3

def OS (K : PySem.W.Frag) (CT : Nat → Addr) (r : List V → Hp → VK → Prop) (o : Op) : Prop :=
  ∀ (F G H : Hp) (ds : List D) (vs : List V) (d : D), RD K CT F G H ds vs → WLe F H → WLe G H → opS o ds = some d →
    ∀ Q : VK, (∀ v F' H' fp, Alo F H F' H' → R K CT F' G H' d v fp → fp.Nodup → (∀ x ∈ fp, H x = none) → Q v H') → r vs H Q
theorem TI_op {r : List V → Hp → VK → Prop} {o : Op} (hr : OS K CT r o) (h : TI K CT Γ (.op o es) σ H Q) : TIs K CT Γ es σ H fun vs H1 => r vs H1 Q := by
  obtain ⟨F, G, ρ, f, rv, ρ', hs, he, hq⟩ := h
  simp only [ev, Option.bind_eq_some_iff, Option.some.injEq, Prod.mk.injEq] at he
  obtain ⟨r0, h1, ds, h2, d, h3, rfl, rfl⟩ := he
  refine ⟨F, G, ρ, f, r0.1, r0.2, hs, h1, fun vs F' H' f' fp p => ?_⟩
  exact hr F' G H' ds vs d (views_rd p.st p.vr h2) p.st.wf p.st.wg h3 Q fun v F2 H2 fp2 al hr2 nd fr => hq v F2 H2 f' fp2 (p.made al hr2 nd fun x hx => .inr (fr x hx))
/-- on two operands -/
theorem TI_op2 {r : R2} {o : Op} {a b : PX} (hr : OS K CT (fun vs H Q => ∃ x y, vs = [x, y] ∧ r x y H Q) o) (h : TI K CT Γ (.op o [a, b]) σ H Q) : tOp r (TI K CT Γ a) (TI K CT Γ b) σ H Q := by
  have h1 := TIs_cons (TI_op hr h)
  obtain ⟨F, G, ρ, f, rv, ρ', hs, he, hq⟩ := h1
  refine ⟨F, G, ρ, f, rv, ρ', hs, he, fun v F' H' f' fp p => ?_⟩
  have h2 := TIs_cons (hq v F' H' f' fp p)
  obtain ⟨F, G, ρ, f, rv, ρ', hs, he, hq⟩ := h2
  refine ⟨F, G, ρ, f, rv, ρ', hs, he, fun v2 F' H' f' fp p => ?_⟩
  obtain ⟨x, y, e, z⟩ := TIs_nil (hq v2 F' H' f' fp p)
  cases e
  exact z
theorem TI.imp {Q' : VK} (h : TI K CT Γ e σ H Q) (k : ∀ v H', Q v H' → Q' v H') : TI K CT Γ e σ H Q' := by
  obtain ⟨F, G, ρ, f, rv, ρ', hs, he, hq⟩ := h
  exact ⟨F, G, ρ, f, rv, ρ', hs, he, fun v F' H' f' fp p => k _ _ (hq v F' H' f' fp p)⟩
theorem TIs.imp {Q Q' : List V → Hp → Prop} (h : TIs K CT Γ es σ H Q) (k : ∀ v H', Q v H' → Q' v H') : TIs K CT Γ es σ H Q' := by
  obtain ⟨F, G, ρ, f, rv, ρ', hs, he, hq⟩ := h
  exact ⟨F, G, ρ, f, rv, ρ', hs, he, fun v F' H' f' fp p => k _ _ (hq v F' H' f' fp p)⟩
/-- on one -/
theorem TI_op1 {r : V → Hp → VK → Prop} {o : Op} {a : PX} (hr : OS K CT (fun vs H Q => ∃ x, vs = [x] ∧ r x H Q) o) (h : TI K CT Γ (.op o [a]) σ H Q) : TI K CT Γ a σ H fun x H1 => r x H1 Q :=
  (TIs_cons (TI_op hr h)).imp fun v H' z => by
    obtain ⟨x, e, z⟩ := TIs_nil z
    cases e
    exact z
end
end Pv

set_option Elab.async false
set_option linter.all false
set_option maxRecDepth 100000
set_option maxHeartbeats 1000000
namespace Pv
open PySem L2

section
variable {K : PySem.W.Frag} {CT : Nat → Addr} {Γ : Fns} {σ : L2.St} {H : Hp} {Q : VK} {e a b c : PX} {es : List PX}

theorem view_r {F G : Hp} {ρ : Env} {f : Nat → List Addr} {r : Rv} {v : V} {fp : List Addr} {d : D} (s : Ste K CT F G H ρ σ f) (h : VR K CT F G H σ r v fp) (e : r.view ρ = some d) : ∃ fp', R K CT F G H d v fp' := by
  cases r with
  | val d' => simp only [Rv.view, Option.some.injEq] at e; subst e; exact ⟨fp, h⟩
  | ref j =>
    obtain ⟨v', q1, q2⟩ := s.get e
    rw [h.1] at q1; cases q1
    exact ⟨_, q2⟩
theorem asB_v {T : Nat → Bool} {F G F' H' : Hp} {ρ : Env} {f f' : Nat → List Addr} {r : Rv × Env} {q : Bool × Env} {v : V} {fp : List Addr} (p : Pst K CT T F G H ρ σ f r.2 [r.1] [v] F' H' f' fp) (h : asB r = some q) : v = .bl q.1 ∧ q.2 = r.2 := by
  unfold asB at h
  cases e : r.1.view r.2 with
  | none => rw [e] at h; cases h
  | some d =>
    rw [e] at h
    cases d with
    | bl b =>
      cases h
      obtain ⟨fp', z⟩ := view_r p.st (vr1 p.vr) e
      simp only [R] at z
      exact ⟨z.1, rfl⟩
    | _ => cases h
theorem Pst.atom {T : Nat → Bool} {F G F' H' : Hp} {ρ ρ' : Env} {f f' : Nat → List Addr} {rs : List Rv} {vs : List V} {fp : List Addr} {d : D} (p : Pst K CT T F G H ρ σ f ρ' rs vs F' H' f' fp) (h : d.atom = true) : Pst K CT T F G H ρ σ f ρ' [.val d] [d.toV] F' H' f' [] :=
  p.made (Alo.refl _ _) (R.atom h) List.nodup_nil fun _ h => (nomatch h)

theorem TI_and (h : TI K CT Γ (.and a b) σ H Q) : TI K CT Γ a σ H fun x H1 => ∃ k, x = .bl k ∧ if k = true then TI K CT Γ b σ H1 Q else Q (.bl false) H1 := by
  obtain ⟨F, G, ρ, f, rv, ρ', hs, he, hq⟩ := h
  simp only [ev, Option.bind_eq_some_iff] at he
  obtain ⟨q, ⟨r, h1, h2⟩, h3⟩ := he
  refine ⟨F, G, ρ, f, r.1, r.2, hs, h1, fun v F1 H1 f1 fp1 p => ?_⟩
  obtain ⟨rfl, e2⟩ := asB_v p h2
  refine ⟨q.1, rfl, ?_⟩
  have p := p.mono (T' := (PX.and a b).tch) fun i hi => by simp only [PX.tch, Bool.or_eq_false_iff] at hi; exact hi.1
  cases hk : q.1 with
  | true =>
    rw [hk] at h3
    simp only [if_true] at h3 ⊢
    exact ⟨F1, G, r.2, f1, rv, ρ', p.st, by rw [← e2]; exact h3, fun v2 F2 H2 f2 fp2 p2 => hq _ _ _ _ _ (Pst.after p.sp (p2.mono fun i hi => by simp only [PX.tch, Bool.or_eq_false_iff] at hi; exact hi.2))⟩
  | false =>
    rw [hk] at h3
    simp only [Bool.false_eq_true, if_false, Option.some.injEq, Prod.mk.injEq] at h3 ⊢
    obtain ⟨rfl, rfl⟩ := h3
    rw [e2] at hq
    exact hq _ _ _ _ _ (p.atom (d := .bl false) rfl)
theorem TI_or (h : TI K CT Γ (.or a b) σ H Q) : TI K CT Γ a σ H fun x H1 => ∃ k, x = .bl k ∧ if k = true then Q (.bl true) H1 else TI K CT Γ b σ H1 Q := by
  obtain ⟨F, G, ρ, f, rv, ρ', hs, he, hq⟩ := h
  simp only [ev, Option.bind_eq_some_iff] at he
  obtain ⟨q, ⟨r, h1, h2⟩, h3⟩ := he
  refine ⟨F, G, ρ, f, r.1, r.2, hs, h1, fun v F1 H1 f1 fp1 p => ?_⟩
  obtain ⟨rfl, e2⟩ := asB_v p h2
  refine ⟨q.1, rfl, ?_⟩
  have p := p.mono (T' := (PX.or a b).tch) fun i hi => by simp only [PX.tch, Bool.or_eq_false_iff] at hi; exact hi.1
  cases hk : q.1 with
  | false =>
    rw [hk] at h3
    simp only [Bool.false_eq_true, if_false] at h3 ⊢
    exact ⟨F1, G, r.2, f1, rv, ρ', p.st, by rw [← e2]; exact h3, fun v2 F2 H2 f2 fp2 p2 => hq _ _ _ _ _ (Pst.after p.sp (p2.mono fun i hi => by simp only [PX.tch, Bool.or_eq_false_iff] at hi; exact hi.2))⟩
  | true =>
    rw [hk] at h3
    simp only [if_true, Option.some.injEq, Prod.mk.injEq] at h3 ⊢
    obtain ⟨rfl, rfl⟩ := h3
    rw [e2] at hq
    exact hq _ _ _ _ _ (p.atom (d := .bl true) rfl)
theorem TI_not (h : TI K CT Γ (.not a) σ H Q) : TI K CT Γ a σ H fun x H1 => ∃ k, x = .bl k ∧ Q (.bl (!k)) H1 := by
  obtain ⟨F, G, ρ, f, rv, ρ', hs, he, hq⟩ := h
  simp only [ev, Option.bind_eq_some_iff] at he
  obtain ⟨q, ⟨r, h1, h2⟩, h3⟩ := he
  cases h3
  refine ⟨F, G, ρ, f, r.1, r.2, hs, h1, fun v F1 H1 f1 fp1 p => ?_⟩
  obtain ⟨rfl, e2⟩ := asB_v p h2
  refine ⟨q.1, rfl, ?_⟩
  rw [e2] at hq
  exact hq _ _ _ _ _ (Pst.atom (d := .bl (!q.1)) (p.mono fun i hi => hi) rfl)
theorem TI_ife (h : TI K CT Γ (.ife c a b) σ H Q) : TI K CT Γ c σ H fun x H1 => ∃ k, x = .bl k ∧ if k = true then TI K CT Γ a σ H1 Q else TI K CT Γ b σ H1 Q := by
  obtain ⟨F, G, ρ, f, rv, ρ', hs, he, hq⟩ := h
  simp only [ev, Option.bind_eq_some_iff] at he
  obtain ⟨q, ⟨r, h1, h2⟩, h3⟩ := he
  refine ⟨F, G, ρ, f, r.1, r.2, hs, h1, fun v F1 H1 f1 fp1 p => ?_⟩
  obtain ⟨rfl, e2⟩ := asB_v p h2
  refine ⟨q.1, rfl, ?_⟩
  have p := p.mono (T' := (PX.ife c a b).tch) fun i hi => by simp only [PX.tch, Bool.or_eq_false_iff] at hi; exact hi.1.1
  cases hk : q.1 with
  | true =>
    rw [hk] at h3
    simp only [if_true] at h3 ⊢
    exact ⟨F1, G, r.2, f1, rv, ρ', p.st, by rw [← e2]; exact h3, fun v2 F2 H2 f2 fp2 p2 => hq _ _ _ _ _ (Pst.after p.sp (p2.mono fun i hi => by simp only [PX.tch, Bool.or_eq_false_iff] at hi; exact hi.1.2))⟩
  | false =>
    rw [hk] at h3
    simp only [Bool.false_eq_true, if_false] at h3 ⊢
    exact ⟨F1, G, r.2, f1, rv, ρ', p.st, by rw [← e2]; exact h3, fun v2 F2 H2 f2 fp2 p2 => hq _ _ _ _ _ (Pst.after p.sp (p2.mono fun i hi => by simp only [PX.tch, Bool.or_eq_false_iff] at hi; exact hi.2))⟩
/-- tests -/
theorem TB_and {Q : Bool → Hp → Prop} (h : TB K CT Γ (.and a b) σ H Q) : tAnd (TB K CT Γ a) (TB K CT Γ b) σ H Q :=
  (TI_and h).imp fun v H' ⟨k, e, z⟩ => ⟨k, e, by
    cases k with
    | true => exact z
    | false =>
      obtain ⟨k', e', z⟩ := (show ∃ c, V.bl false = .bl c ∧ Q c H' from z)
      cases e'; exact z⟩
theorem TB_or {Q : Bool → Hp → Prop} (h : TB K CT Γ (.or a b) σ H Q) : tOr (TB K CT Γ a) (TB K CT Γ b) σ H Q :=
  (TI_or h).imp fun v H' ⟨k, e, z⟩ => ⟨k, e, by
    cases k with
    | false => exact z
    | true =>
      obtain ⟨k', e', z⟩ := (show ∃ c, V.bl true = .bl c ∧ Q c H' from z)
      cases e'; exact z⟩
theorem TB_not {Q : Bool → Hp → Prop} (h : TB K CT Γ (.not a) σ H Q) : tNot (TB K CT Γ a) σ H Q :=
  (TI_not h).imp fun v H' ⟨k, e, z⟩ => ⟨k, e, by obtain ⟨k', e', z⟩ := z; cases e'; exact z⟩
theorem TI_ifE (h : TI K CT Γ (.ife c a b) σ H Q) : tIf (TB K CT Γ c) (TI K CT Γ a) (TI K CT Γ b) σ H Q := TI_ife h
theorem TI_andV (h : TI K CT Γ (.and a b) σ H Q) : tAndV (TI K CT Γ a) (TI K CT Γ b) σ H Q := TI_and h
theorem TI_orV (h : TI K CT Γ (.or a b) σ H Q) : tOrV (TI K CT Γ a) (TI K CT Γ b) σ H Q := TI_or h
theorem TI_notV (h : TI K CT Γ (.not a) σ H Q) : tNotV (TI K CT Γ a) σ H Q := TI_not h

/-- a written chain of comparisons over atoms -/
theorem TI_chain {r r' : R2} {o o' : Op} (hr : OS K CT (fun vs H Q => ∃ x y, vs = [x, y] ∧ r x y H Q) o) (hr' : OS K CT (fun vs H Q => ∃ x y, vs = [x, y] ∧ r' x y H Q) o')
    (h : TI K CT Γ (.chain o o' a b c) σ H Q) : tChain r r' (TI K CT Γ a) (TI K CT Γ b) (TI K CT Γ c) σ H Q := by
  obtain ⟨F, G, ρ, f, rv, ρ', hs, he, hq⟩ := h
  simp only [ev, Option.bind_eq_some_iff] at he
  obtain ⟨ra, h1, x, h2, rb, h3, y, h4, h5⟩ := he
  refine ⟨F, G, ρ, f, ra.1, ra.2, hs, h1, fun v F1 H1 f1 fp1 p1 => ?_⟩
  refine ⟨F1, G, ra.2, f1, rb.1, rb.2, p1.st, h3, fun v2 F2 H2 f2 fp2 p2 => ?_⟩
  split at h5
  · rename_i hxy
    rw [Bool.and_eq_true] at hxy
    simp only [Option.bind_eq_some_iff] at h5
    obtain ⟨z, h6, h7⟩ := h5
    obtain ⟨_, rx⟩ := view_r p1.st (vr1 p1.vr) h2
    obtain ⟨_, ry⟩ := view_r p2.st (vr1 p2.vr) h4
    have ex := (R.atomV hxy.1 rx).1
    have ey := (R.atomV hxy.2 ry).1
    have p12 : Pst K CT (PX.chain o o' a b c).tch F G H ρ σ f rb.2 [rb.1] [v2] F2 H2 f2 fp2 := Pst.after (p1.sp.mono fun i hi => by simp only [PX.tch, Bool.or_eq_false_iff] at hi; exact hi.1.1) (p2.mono fun i hi => by simp only [PX.tch, Bool.or_eq_false_iff] at hi; exact hi.1.2)
    subst ex; subst ey
    obtain ⟨x', y', e, hz⟩ := hr F2 G H2 [x, y] [x.toV, y.toV] z ⟨_, _, rfl, ⟨[], R.atom hxy.1⟩, _, _, rfl, ⟨[], R.atom hxy.2⟩, rfl⟩ p2.st.wf p2.st.wg h6
      (fun z' H3 => ∃ k, z' = .bl k ∧ (if k = true then TI K CT Γ c σ H3 (fun w' H4 => r' y.toV w' H4 Q) else Q (.bl false) H3)) (fun z' F3 H3 fp3 al rz nd fr => by
        cases z with
        | bl k =>
          simp only [R] at rz
          obtain ⟨rfl, rfl⟩ := rz
          refine ⟨k, rfl, ?_⟩
          have p3 := p12.made (d := .bl k) (v := .bl k) (fp2 := []) al (by simp only [R, and_self]) List.nodup_nil fun _ h => (nomatch h)
          cases k with
          | false =>
            simp only [Option.some.injEq, Prod.mk.injEq] at h7
            obtain ⟨rfl, rfl⟩ := h7
            exact hq _ _ _ _ _ p3
          | true =>
            simp only [Option.bind_eq_some_iff, Option.some.injEq, Prod.mk.injEq] at h7
            obtain ⟨rc, g1, w, g2, z2, g3, rfl, rfl⟩ := h7
            refine ⟨F3, G, rb.2, f2, rc.1, rc.2, p3.st, g1, fun v4 F4 H4 f4 fp4 p4 => ?_⟩
            obtain ⟨_, rw'⟩ := view_r p4.st (vr1 p4.vr) g2
            have p34 : Pst K CT (PX.chain o o' a b c).tch F G H ρ σ f rc.2 [rc.1] [v4] F4 H4 f4 fp4 := Pst.after p3.sp (p4.mono fun i hi => by simp only [PX.tch, Bool.or_eq_false_iff] at hi; exact hi.2)
            obtain ⟨x2, y2, e2, hz2⟩ := hr' F4 G H4 [y, w] [y.toV, v4] z2 ⟨_, _, rfl, ⟨[], R.atom hxy.2⟩, _, _, rfl, ⟨_, rw'⟩, rfl⟩ p4.st.wf p4.st.wg g3 Q (fun v5 F5 H5 fp5 al5 r5 nd5 fr5 => hq _ _ _ _ _ (p34.made al5 r5 nd5 fun x hx => .inr (fr5 x hx)))
            cases e2
            exact hz2
        | _ => cases h7)
    cases e
    exact hz
  · cases h5

theorem Rk.val {F G : Hp} : ∀ (ks : List (Key × D)) {vs : List (Key × V)} {fp : List Addr} {k : Key} {d : D}, Rk K CT F G H ks vs fp → valA ks k = some d → ∃ v fp', valV vs k = some v ∧ R K CT F G H d v fp' ∧ ∀ x ∈ fp', x ∈ fp
  | [], _, _, _, _, _, e => by cases e
  | (k0, d0) :: ks, _, _, k, d, h, e => by
    simp only [Rk] at h
    obtain ⟨v, vr, g1, g2, rfl, h1, h2, rfl⟩ := h
    by_cases hk : k0 = k
    · rw [show valA ((k0, d0) :: ks) k = some d0 by simp [valA, List.find?_cons, hk]] at e
      cases e
      exact ⟨v, g1, valV_pos (p := (k0, v)) hk, h1, fun x hx => List.mem_append_left _ hx⟩
    · rw [show valA ((k0, d0) :: ks) k = valA ks k by simp [valA, List.find?_cons, hk]] at e
      obtain ⟨v', fp', q1, q2, q3⟩ := Rk.val ks h2 e
      exact ⟨v', fp', (valV_neg (p := (k0, v)) hk).trans q1, q2, fun x hx => List.mem_append_right _ (q3 x hx)⟩
theorem Rk.some_ {F G : Hp} : ∀ (ks : List (Key × D)) {vs : List (Key × V)} {fp : List Addr} {k : Key}, Rk K CT F G H ks vs fp → (valV vs k).isSome = (valA ks k).isSome
  | [], _, _, _, h => by simp only [Rk] at h; rw [h.1]; rfl
  | (k0, d0) :: ks, _, _, k, h => by
    simp only [Rk] at h
    obtain ⟨v, vr, g1, g2, rfl, h1, h2, rfl⟩ := h
    by_cases hk : k0 = k
    · rw [show valA ((k0, d0) :: ks) k = some d0 by simp [valA, List.find?_cons, hk], valV_pos (p := (k0, v)) hk]; rfl
    · rw [show valA ((k0, d0) :: ks) k = valA ks k by simp [valA, List.find?_cons, hk], valV_neg (p := (k0, v)) hk]
      exact Rk.some_ ks h2
theorem fk_val (vs : List (Str × V)) (n : Str) : valV (vs.map fk) (Sum.inr n) = vs.lookup n := by
  induction vs with
  | nil => rfl
  | cons p vs ih =>
    obtain ⟨m, v⟩ := p
    rw [List.map_cons]
    by_cases e : m = n
    · subst e
      rw [valV_pos (p := fk (m, v)) (k := Sum.inr m) rfl, List.lookup_cons, beq_self_eq_true]
      rfl
    · rw [valV_neg (p := fk (m, v)) (k := Sum.inr n) (fun z => e (Sum.inr.inj z)), ih, List.lookup_cons, show (n == m) = false from beq_eq_false_iff_ne.mpr fun z => e z.symm]
theorem TI_fld {n : Str} (hc : ∀ cl, Cls K (CT cl)) (hn : ∀ cl, NoAttr K (CT cl) n) (h : TI K CT Γ (.fld e n) σ H Q) : tFld K (TI K CT Γ e) n σ H Q := by
  obtain ⟨F, G, ρ, f, rv, ρ', hs, he, hq⟩ := h
  simp only [ev, Option.bind_eq_some_iff] at he
  obtain ⟨r, h1, d, h2, h3⟩ := he
  refine ⟨F, G, ρ, f, r.1, r.2, hs, h1, fun v F1 H1 f1 fp1 p => ?_⟩
  cases d with
  | ins m cl fs =>
    simp only [Option.bind_eq_some_iff] at h3
    obtain ⟨x, h4, h5⟩ := h3
    split at h5
    · rename_i hno
      cases h5
      obtain ⟨fp', rr⟩ := view_r p.st (vr1 p.vr) h2
      have key : ∃ a dx vs G', v = .ref a ∧ H1 a = some (.ins (CT cl) dx vs) ∧ ∃ w, vs.lookup n = some w ∧ R K CT F1 G' H1 x w [] ∧ WLe G' G := by
        cases m with
        | own =>
          simp only [R] at rr
          obtain ⟨a, dx, vs, fp2, rfl, e1, _, _, rk, _⟩ := rr
          obtain ⟨w, fp3, q1, q2, _⟩ := Rk.val fs rk h4
          rw [fk_val] at q1
          have z := q2.noOwn hno
          subst z
          exact ⟨a, dx, vs, G, rfl, e1, w, q1, q2, WLe.refl _⟩
        | frz =>
          simp only [R] at rr
          obtain ⟨⟨a, dx, vs, rfl, e1, rk⟩, _⟩ := rr
          obtain ⟨w, fp3, q1, q2, _⟩ := Rk.val fs rk h4
          rw [fk_val] at q1
          have z := q2.noOwn hno
          subst z
          exact ⟨a, dx, vs, e0, rfl, p.st.wf.ins e1, w, q1, q2, fun _ _ h => (nomatch h)⟩
        | bor =>
          simp only [R] at rr
          obtain ⟨⟨a, dx, vs, rfl, e1, rk⟩, _⟩ := rr
          obtain ⟨w, fp3, q1, q2, _⟩ := Rk.val fs rk h4
          rw [fk_val] at q1
          have z := q2.noOwn hno
          subst z
          exact ⟨a, dx, vs, G, rfl, p.st.wg.ins e1, w, q1, q2, WLe.refl _⟩
      obtain ⟨a, dx, vs, G', rfl, e1, w, q1, q2, wl⟩ := key
      refine ⟨a, CT cl, dx, vs, w, rfl, e1, hc cl, hn cl, q1, ?_⟩
      refine hq _ _ _ _ _ (Pst.made (fp2 := []) (p.mono fun i hi => hi) (Alo.refl _ _) ?_ List.nodup_nil fun _ h => (nomatch h))
      exact R.mono (HLe.refl _) x wl (fun _ h => nomatch h) q2
    · cases h5
  | _ => cases h3

def hide (H : Hp) (A : List Addr) : Hp := fun a => if a ∈ A then none else H a
structure Fin (F H : Hp) (A : List Addr) (F' H' : Hp) (A' : List Addr) : Prop where
  le : HLe F F'
  keep : ∀ a o, H a = some o → a ∉ A → H' a = some o
  new : ∀ a, F' a ≠ none → F a ≠ none ∨ H a = none ∨ a ∈ A
  own : ∀ a ∈ A', a ∈ A ∨ H a = none
  live : ∀ a o, H a = some o → ∃ o', H' a = some o'
  w : WLe F' H'
def ArgOk (K : PySem.W.Frag) (CT : Nat → Addr) (F H : Hp) (A : List Addr) (o : Option D) (ds : List D) (vs : List V) : Prop :=
  match o with
  | none => A = [] ∧ Rs K CT F H H ds vs []
  | some _ => ∃ d0 dr v0 vr, ds = d0 :: dr ∧ vs = v0 :: vr ∧ R K CT F (hide H A) H d0 v0 A ∧ Rs K CT F (hide H A) H dr vr []
def OutOk (K : PySem.W.Frag) (CT : Nat → Addr) (F' H' : Hp) (A' : List Addr) (o : Option D) (vs : List V) : Prop :=
  match o with
  | none => A' = []
  | some d1 => ∃ v0 vr, vs = v0 :: vr ∧ R K CT F' e0 H' d1 v0 A'
def spV (K : PySem.W.Frag) (CT : Nat → Addr) (S : List D → Option (D × Option D)) (n : Nat) : Sp := fun vs H Q _ => vs.length = n ∧ ∃ F ds r o A, WLe F H ∧ A.Nodup ∧ S ds = some (r, o) ∧ ArgOk K CT F H A o ds vs ∧
  ∀ v F' H' fp A', Fin F H A F' H' A' → R K CT F' e0 H' r v fp → (fp ++ A').Nodup → (∀ a ∈ fp, a ∈ A ∨ H a = none) → OutOk K CT F' H' A' o vs → Q v H'
theorem bors_rs {F G G' H : Hp} {ρ : Env} {f : Nat → List Addr} (s : Ste K CT F G H ρ σ f) (hG : WLe G G') : ∀ {rs : List Rv} {vs : List V} {fp : List Addr} {ds : List D}, VRs K CT F G H σ rs vs fp → views ρ rs = some ds →
    (∀ a ∈ fp, G' a = H a) → (∀ i a, Rv.ref i ∈ rs → a ∈ f i → G' a = H a) → Rs K CT F G' H (bors ds) vs []
  | [], _, _, _, h, e, _, _ => by
    simp only [views, Option.some.injEq] at e; subst e
    simp only [VRs] at h; simp only [bors, Rs]; exact ⟨h.1, trivial⟩
  | r :: rs, _, _, _, h, e, hf, hi => by
    simp only [views, Option.bind_eq_some_iff, Option.some.injEq] at e
    obtain ⟨d, e1, ds, e2, rfl⟩ := e
    simp only [VRs] at h
    obtain ⟨v, vr, f1, f2, rfl, h1, h2, rfl⟩ := h
    simp only [bors, Rs]
    refine ⟨v, vr, [], [], rfl, ?_, bors_rs s hG h2 e2 (fun a ha => hf a (List.mem_append_right _ ha)) fun i a hr ha => hi i a (List.mem_cons_of_mem _ hr) ha, rfl⟩
    cases r with
    | val d' =>
      simp only [Rv.view, Option.some.injEq] at e1; subst e1
      exact R.bor (HLe.refl F) hG d' (fun a ha => hf a (List.mem_append_left _ ha)) h1
    | ref j =>
      obtain ⟨v', q1, q2⟩ := s.get e1
      rw [h1.1] at q1; cases q1
      exact R.bor (HLe.refl F) hG d (fun a ha => hi j a List.mem_cons_self ha) q2
theorem VRs.len {F G H : Hp} : ∀ {rs : List Rv} {vs : List V} {fp : List Addr}, VRs K CT F G H σ rs vs fp → vs.length = rs.length
  | [], _, _, h => by simp only [VRs] at h; rw [h.1]; rfl
  | r :: rs, _, _, h => by
    simp only [VRs] at h
    obtain ⟨v, vr, f1, f2, rfl, _, h2, _⟩ := h
    rw [List.length_cons, List.length_cons, VRs.len h2]
theorem evs_len : ∀ (es : List PX) {ρ : Env} {r : List Rv × Env}, evs Γ es ρ = some r → r.1.length = es.length
  | [], _, _, h => by simp only [evs, Option.some.injEq] at h; subst h; rfl
  | e :: es, _, _, h => by
    simp only [evs, Option.bind_eq_some_iff, Option.some.injEq] at h
    obtain ⟨r, _, q, h2, rfl⟩ := h
    rw [List.length_cons, List.length_cons, evs_len es h2]
theorem noRef_ne {j : Nat} : ∀ {rs : List Rv}, noRef j rs = true → ∀ i, Rv.ref i ∈ rs → i ≠ j
  | [], _, i, h => by cases h
  | r :: rs, n, i, h => by
    cases r with
    | val d =>
      simp only [noRef] at n
      rcases List.mem_cons.mp h with e | h
      · cases e
      · exact noRef_ne n i h
    | ref k =>
      simp only [noRef, Bool.and_eq_true, bne_iff_ne] at n
      rcases List.mem_cons.mp h with e | h
      · cases e; exact n.1
      · exact noRef_ne n.2 i h

theorem TI_call {g : Nat} {E : XK} (h : TI K CT Γ (.call g es) σ H Q) : tCall (spV K CT (Γ g) es.length) [] E (TIs K CT Γ es) σ H Q := by
  obtain ⟨F, G, ρ, f, rv, ρ', hs, he, hq⟩ := h
  simp only [ev, Option.bind_eq_some_iff] at he
  obtain ⟨r, h1, ds, h2, q, h3, h4⟩ := he
  refine ⟨F, G, ρ, f, r.1, r.2, hs, h1, fun vs F1 H1 f1 fp1 p => ?_⟩
  obtain ⟨x, o⟩ := q
  cases o with
  | some _ => cases h4
  | none =>
    cases h4
    simp only [args, Option.map_eq_some_iff] at h2
    obtain ⟨ds', h5, rfl⟩ := h2
    rw [List.append_nil]
    refine ⟨(VRs.len p.vr).trans (evs_len es h1), F1, _, _, _, [], p.st.wf, List.nodup_nil, h3, ⟨rfl, bors_rs p.st p.st.wg p.vr h5 (fun _ _ => rfl) fun _ _ _ _ => rfl⟩, ?_⟩
    intro v F2 H2 fp A' fin hr nd fr out
    obtain rfl : A' = [] := out
    rw [List.append_nil] at nd
    have al : Alo F1 H1 F2 H2 := by
      refine ⟨fin.le, fun a u e => fin.keep a u e List.not_mem_nil, fun a h => ?_, fun _ => fin.w⟩
      rcases fin.new a h with z | z | z
      · exact .inl z
      · exact .inr z
      · cases z
    have fr' : ∀ a ∈ fp, H1 a = none := fun a ha => (fr a ha).elim (fun z => absurd z List.not_mem_nil) id
    refine hq _ _ _ _ _ (Pst.made (p.mono fun i hi => hi) al ?_ nd fun a ha => .inr (fr' a ha))
    exact R.mono (HLe.refl _) x (HLe.e0 _).w (fun a ha => ⟨rfl, (R.own x hr a ha).2.1, p.st.wg.none (fr' a ha)⟩) hr
theorem TI_callio {g j : Nat} {E : XK} (h : TI K CT Γ (.callio g j es) σ H Q) : tCall (spV K CT (Γ g) (es.length + 1)) [] E (tCons (tVar j) (TIs K CT Γ es)) σ H Q := by
  obtain ⟨F, G, ρ, f, rv, ρ', hs, he, hq⟩ := h
  simp only [ev, Option.bind_eq_some_iff] at he
  obtain ⟨d0, h0, r, h1, h2⟩ := he
  obtain ⟨v0, ev0, _⟩ := hs.get h0
  refine ⟨v0, ev0, F, G, ρ, f, r.1, r.2, hs, h1, fun vs F1 H1 f1 fp1 p => ?_⟩
  split at h2
  · rename_i hno
    simp only [Option.bind_eq_some_iff] at h2
    obtain ⟨ds, h2, d, h3, q, h4, h5⟩ := h2
    obtain ⟨x, o⟩ := q
    cases o with
    | none => cases h5
    | some d' =>
      cases h5
      simp only [args, Option.map_eq_some_iff] at h2
      obtain ⟨ds', h6, rfl⟩ := h2
      obtain ⟨v1, ev1, r1⟩ := p.st.get h3
      rw [ev0] at ev1; cases ev1
      have wG : WLe G (hide H1 (f1 j)) := fun a u e => by
        have na : a ∉ f1 j := fun z => by rw [(p.st.ow j a z).2.2] at e; cases e
        rcases p.st.wg a u e with z | ⟨o, ks, z1, z2⟩
        · exact .inl (by show (if a ∈ f1 j then none else H1 a) = some u; rw [if_neg na]; exact z)
        · exact .inr ⟨o, ks, z1, by show (if a ∈ f1 j then none else H1 a) = _; rw [if_neg na]; exact z2⟩
      rw [List.append_nil]
      refine ⟨by rw [List.length_cons, (VRs.len p.vr).trans (evs_len es h1)], F1, _, _, _, f1 j, p.st.wf, p.st.nd j, h4, ⟨d, bors ds', v0, vs, rfl, rfl, ?_, ?_⟩, ?_⟩
      · exact R.mono (HLe.refl _) d wG (fun a ha => ⟨rfl, (p.st.ow j a ha).2.1, if_pos ha⟩) r1
      · exact bors_rs p.st wG p.vr h6 (fun a ha => if_neg (p.ap a ha j)) fun i a hr ha => if_neg fun z => noRef_ne hno i hr (p.st.dj i j a ha z)
      · intro v F2 H2 fp A' fin hr nd fr out
        obtain ⟨v0', vr', e, ro⟩ := out
        cases e
        have nd' := List.nodup_append.mp nd
        have gn : ∀ a, (a ∈ f1 j ∨ H1 a = none) → G a = none := fun a z => z.elim (fun z => (p.st.ow j a z).2.2) fun z => p.st.wg.none z
        have wG2 : WLe G H2 := fun a u e => by
          have na : a ∉ f1 j := fun z => by rw [(p.st.ow j a z).2.2] at e; cases e
          rcases p.st.wg a u e with z | ⟨o, ks, z1, z2⟩
          · exact .inl (fin.keep a _ z na)
          · exact .inr ⟨o, ks, z1, fin.keep a _ z2 na⟩
        have oth : ∀ i, i ≠ j → ∀ a ∈ f1 i, H2 a = H1 a ∧ F2 a = none ∧ G a = none := fun i hi a ha => by
          obtain ⟨⟨o, z1⟩, z2, z3⟩ := p.st.ow i a ha
          have na : a ∉ f1 j := fun z => hi (p.st.dj i j a ha z)
          refine ⟨(fin.keep a o z1 na).trans z1.symm, ?_, z3⟩
          cases e : F2 a with
          | none => rfl
          | some u =>
            rcases fin.new a (by rw [e]; exact fun z => nomatch z) with z | z | z
            · exact absurd z2 z
            · rw [z] at z1; cases z1
            · exact absurd z na
        have offA : ∀ a ∈ A', ∀ i, i ≠ j → a ∉ f1 i := fun a ha i hi z => by
          rcases fin.own a ha with z2 | z2
          · exact hi (p.st.dj i j a z z2)
          · obtain ⟨⟨o, z1⟩, _⟩ := p.st.ow i a z; rw [z2] at z1; cases z1
        have st2 := p.st.put h3 ev0 (R.mono (HLe.refl _) d' (G' := G) (H' := H2) (HLe.e0 _).w (fun a ha => ⟨rfl, (R.own d' ro a ha).2.1, gn a (fin.own a ha)⟩) ro) fin.le oth nd'.2.1 offA fin.w wG2
        refine hq _ _ _ _ fp ⟨st2, ?_, VR.one (R.mono (HLe.refl _) x (HLe.e0 _).w (fun a ha => ⟨rfl, (R.own x hr a ha).2.1, gn a (fr a ha)⟩) hr), nd'.1, fun a ha i hi => ?_, fun a ha => ?_⟩
        · refine (p.sp.mono (T' := (PX.callio g j es).tch) fun i hi => by simp only [PX.tch, Bool.or_eq_false_iff] at hi; exact hi.2).trans ⟨fin.le, fun a o z n => fin.keep a o z (n j), fun a z => ?_, fun i a z => ?_, fun i hi => ?_, fin.live⟩
          · rcases fin.new a z with z | z | z
            · exact .inl z
            · exact .inr (.inl z)
            · exact .inr (.inr ⟨j, z⟩)
          · split at z
            · rcases fin.own a z with z | z
              · exact .inl ⟨j, z⟩
              · exact .inr z
            · exact .inl ⟨i, z⟩
          · simp only [PX.tch, Bool.or_eq_false_iff, beq_eq_false_iff_ne] at hi
            exact ⟨if_neg hi.1, get_set_ne hi.1, fun a ha => (oth i hi.1 a ha).1⟩
        · by_cases e : i = j
          · rw [if_pos e] at hi
            exact nd'.2.2 a ha a hi rfl
          · rw [if_neg e] at hi
            rcases fr a ha with z | z
            · exact e (p.st.dj i j a hi z)
            · obtain ⟨⟨o, z1⟩, _⟩ := p.st.ow i a hi; rw [z] at z1; cases z1
        · rcases fr a ha with z | z
          · exact p.sp.own j a z
          · cases e : H a with
            | none => exact .inr rfl
            | some o =>
              obtain ⟨o', e'⟩ := p.sp.live a o e
              rw [e'] at z; cases z
  · cases h2
theorem TI_mk {c g : Nat} {E : XK} (h : TI K CT Γ (.mk c g es) σ H Q) : tMake (CT c) (spV K CT (Γ g) (es.length + 1)) [] E (TIs K CT Γ es) σ H Q := by
  obtain ⟨F, G, ρ, f, rv, ρ', hs, he, hq⟩ := h
  simp only [ev, Option.bind_eq_some_iff] at he
  obtain ⟨r, h1, ds, h2, q, h3, h4⟩ := he
  refine ⟨F, G, ρ, f, r.1, r.2, hs, h1, fun vs F1 H1 f1 fp1 p => ?_⟩
  obtain ⟨x, o⟩ := q
  cases x with
  | non =>
    cases o with
    | none => cases h4
    | some d' =>
      cases h4
      simp only [args, Option.map_eq_some_iff] at h2
      obtain ⟨ds', h6, rfl⟩ := h2
      intro a dx ha hdx nad
      rw [List.append_nil]
      have al : Alo F1 H1 F1 (upd (upd H1 dx (.own a)) a (.ins (CT c) dx [])) := (Alo.obj hdx).trans (Alo.obj (by rw [upd_ne (Ne.symm nad)]; exact ha))
      have hH : upd (upd H1 dx (.own a)) a (.ins (CT c) dx []) a = some (.ins (CT c) dx []) := upd_same
      have fpA : ∀ b, H1 b ≠ none → b ≠ a := fun b hb e => hb (e ▸ ha)
      have st1 := p.st.alo al
      have hid : ∀ b, H1 b ≠ none → hide (upd (upd H1 dx (.own a)) a (.ins (CT c) dx [])) [a] b = upd (upd H1 dx (.own a)) a (.ins (CT c) dx []) b := fun b hb => if_neg fun z => fpA b hb (List.mem_singleton.mp z)
      have wG : WLe G (hide (upd (upd H1 dx (.own a)) a (.ins (CT c) dx [])) [a]) := fun b u e => by
        have hb : H1 b ≠ none := by
          rcases p.st.wg b u e with z | ⟨_, _, _, z⟩ <;> rw [z] <;> exact fun z => nomatch z
        rw [hid b hb]
        exact st1.wg b u e
      refine ⟨by rw [List.length_cons, (VRs.len p.vr).trans (evs_len es h1)], F1, _, _, _, [a], st1.wf, by simp, h3, ⟨.ins .own c [], bors ds', .ref a, vs, rfl, rfl, ?_, ?_⟩, ?_⟩
      · simp only [R, Rk]
        exact ⟨a, dx, [], [], rfl, hH, p.st.wf.none ha, if_pos List.mem_cons_self, ⟨rfl, rfl⟩, rfl⟩
      · refine bors_rs st1 wG (VRs.step (al.stp (T := fun _ => false) p.st) p.vr p.ap) h6 (fun b hb => hid b ?_) fun i b _ hb => hid b ?_
        · obtain ⟨⟨o, z⟩, _⟩ := VRs.own p.vr b hb; rw [z]; exact fun z => nomatch z
        · obtain ⟨⟨o, z⟩, _⟩ := p.st.ow i b hb; rw [z]; exact fun z => nomatch z
      · intro v F2 H2 fp A' fin hr nd fr out
        obtain ⟨v0', vr', e, ro⟩ := out
        cases e
        simp only [R] at hr
        obtain ⟨rfl, rfl⟩ := hr
        refine ⟨rfl, ?_⟩
        have al2 : Alo F1 H1 F2 H2 := by
          refine ⟨fin.le, fun b u e => fin.keep b u (al.keep b u e) fun z => ?_, fun b z => ?_, fun _ => fin.w⟩
          · rw [List.mem_singleton.mp z, ha] at e; cases e
          · rcases fin.new b z with z | z | z
            · exact .inl z
            · cases e : H1 b with
              | none => exact .inr rfl
              | some o => rw [al.keep b o e] at z; cases z
            · rw [List.mem_singleton.mp z]; exact .inr ha
        have frA : ∀ b ∈ A', H1 b = none := fun b hb => by
          rcases fin.own b hb with z | z
          · rw [List.mem_singleton.mp z]; exact ha
          · cases e : H1 b with
            | none => rfl
            | some o => rw [al.keep b o e] at z; cases z
        refine hq _ _ _ _ A' (Pst.made (p.mono fun i hi => hi) al2 ?_ (by simpa using nd) fun b hb => .inr (frA b hb))
        exact R.mono (HLe.refl _) d' (HLe.e0 _).w (fun b hb => ⟨rfl, (R.own d' ro b hb).2.1, p.st.wg.none (frA b hb)⟩) ro
  | _ => cases h4
end
end Pv

set_option Elab.async false
set_option linter.all false
set_option maxRecDepth 100000
set_option maxHeartbeats 1000000
namespace Pv
open PySem L2

inductive Pl where
  | slot (j : Nat)
  | fld (p : Pl) (n : Str)
  | key (p : Pl) (e : PX)
def Pl.root : Pl → Nat
  | .slot j => j
  | .fld p _ => p.root
  | .key p _ => p.root
def Pl.tch : Pl → Nat → Bool
  | .slot _, _ => false
  | .fld p _, i => p.tch i
  | .key p e, i => p.tch i || e.tch i
/-- no key of the place touches its root -/
def Pl.safe (p : Pl) : Bool := !p.tch p.root
def evP (Γ : Fns) : Pl → Env → Option (List Sk × Env)
  | .slot j, ρ => (get ρ j).bind fun _ => some ([], ρ)
  | .fld p n, ρ => (evP Γ p ρ).bind fun r => some (r.1 ++ [Sk.f n], r.2)
  | .key p e, ρ => (evP Γ p ρ).bind fun r => (nodeAt r.2 p.root r.1).bind fun _ => (ev Γ e r.2).bind fun q => ((q.1.view q.2).bind D.key).bind fun k => some (r.1 ++ [Sk.k k], q.2)
def evL (Γ : Fns) (p : Pl) (ρ : Env) : Option (List Sk × Env) := (evP Γ p ρ).bind fun r => (nodeAt r.2 p.root r.1).bind fun n => if n.isL = true then some r else none
def evK (Γ : Fns) (p : Pl) (ρ : Env) : Option (List Sk × Env) := (evP Γ p ρ).bind fun r => (nodeAt r.2 p.root r.1).bind fun n => if n.isK = true then some r else none
def evN (Γ : Fns) (p : Pl) (ρ : Env) : Option (List Sk × Env) := (evP Γ p ρ).bind fun r => (nodeAt r.2 p.root r.1).bind fun _ => some r
inductive PS where
  | asg (j : Nat) (e : PX)
  | asgt (js : List Nat) (e : PX)
  | app (p : Pl) (e : PX)
  | setK (p : Pl) (k e : PX)
  | setL (p : Pl) (k e : PX)
  | setF (p : Pl) (n : Str) (e : PX)
  | ext (p : Pl) (e : PX)
  | clrL (p : Pl)
  | clrK (p : Pl)
  | revL (p : Pl)
  | expr (e : PX)
  | ife (c : PX) (a b : List PS)
  | whl (c : PX) (b : List PS)
  | for_ (js : List Nat) (ik : IK) (ies : List PX) (b : List PS)
  | ret (e : PX)
  | retN
  | pass
  | brk
  | cnt
  | pre (j : Nat) (ns : List Str) (s : PS)
  | par (j k : Nat) (a b : PX)
  | never
inductive Flw where
  | nx
  | bk
  | ct
  | rt (d : D)

mutual
def PS.tch : PS → Nat → Bool
  | .asg j e, i => i == j || e.tch i
  | .asgt js e, i => js.contains i || e.tch i
  | .app p e, i => i == p.root || p.tch i || e.tch i
  | .setK p k e, i => i == p.root || p.tch i || k.tch i || e.tch i
  | .setL p k e, i => i == p.root || p.tch i || k.tch i || e.tch i
  | .setF p _ e, i => i == p.root || p.tch i || e.tch i
  | .ext p e, i => i == p.root || p.tch i || e.tch i
  | .clrL p, i => i == p.root || p.tch i
  | .clrK p, i => i == p.root || p.tch i
  | .revL p, i => i == p.root || p.tch i
  | .expr e, i => e.tch i
  | .ife c a b, i => c.tch i || tchS a i || tchS b i
  | .whl c b, i => c.tch i || tchS b i
  | .for_ js _ ies b, i => js.contains i || tchs ies i || tchS b i
  | .ret e, i => e.tch i
  | .retN, _ => false
  | .pass, _ => false
  | .brk, _ => false
  | .cnt, _ => false
  | .pre j _ s, i => i == j || s.tch i
  | .par j k a b, i => i == j || i == k || tchs [a, b] i
  | .never, _ => false
def tchS : List PS → Nat → Bool
  | [], _ => false
  | p :: r, i => p.tch i || tchS r i
end
mutual
/-- slots that are bound anew -/
def PS.asd : PS → Nat → Bool
  | .asg j _, i => i == j
  | .asgt js _, i => js.contains i
  | .ife _ a b, i => asdS a i || asdS b i
  | .whl _ b, i => asdS b i
  | .for_ js _ _ b, i => js.contains i || asdS b i
  | .pre _ _ s, i => s.asd i
  | .par j k _ _, i => i == j || i == k
  | _, _ => false
def asdS : List PS → Nat → Bool
  | [], _ => false
  | p :: r, i => p.asd i || asdS r i
end

def whileL (c : Env → Option (Bool × Env)) (b : Env → Option (Env × Flw)) : Nat → Env → Option (Env × Flw)
  | 0, _ => none
  | n + 1, ρ => (c ρ).bind fun q => if q.1 = true then (b q.2).bind fun r => match r.2 with
      | .nx => whileL c b n r.1
      | .ct => whileL c b n r.1
      | .bk => some (r.1, .nx)
      | .rt d => some (r.1, .rt d)
    else some (q.2, .nx)
def forL (js : List Nat) (b : Env → Option (Env × Flw)) : List (List D) → Env → Option (Env × Flw)
  | [], ρ => some (ρ, .nx)
  | xs :: r, ρ => (setAt js xs ρ).bind fun ρ1 => (b ρ1).bind fun q => match q.2 with
      | .nx => forL js b r q.1
      | .ct => forL js b r q.1
      | .bk => some (q.1, .nx)
      | .rt d => some (q.1, .rt d)
def nodeApp (n x : D) : Option D := match n with
  | .lst .own ds => if ds.length < 1000000 then some (.lst .own (ds ++ [x])) else none
  | _ => none
def nodeSetK (n : D) (k : Key) (x : D) : Option D := match n with
  | .dct .own ks => if ks.length < 1000000 then some (.dct .own (putA ks k x)) else none
  | _ => none
def nodeSetL (n : D) (i : Int) (x : D) : Option D := match n with
  | .lst .own ds => (ixN ds.length i).bind fun j => some (.lst .own (ds.set j x))
  | _ => none
def nodeFld (n : D) (f : Str) (x : D) : Option D := match n with
  | .ins .own c fs => if fs.length < 500 then some (.ins .own c (putA fs (Sum.inr f) x)) else none
  | _ => none
def nodeExt (n x : D) : Option D := match n, x with
  | .lst .own ds, .lst _ es => if es.all D.noOwn = true ∧ ds.length + es.length < 1000000 then some (.lst .own (ds ++ es)) else none
  | _, _ => none
def nodeClr (n : D) : Option D := match n with
  | .lst .own _ => some (.lst .own [])
  | _ => none
def nodeClrK (n : D) : Option D := match n with
  | .dct .own _ => some (.dct .own [])
  | _ => none
def nodeRev (n : D) : Option D := match n with
  | .lst .own ds => some (.lst .own ds.reverse)
  | _ => none
/-- a change of the node at a place -/
def atP (ρ : Env) (j : Nat) (ks : List Sk) (u : D → Option D) : Option Env :=
  (get ρ j).bind fun d => (getP d ks).bind fun n => (u n).bind fun n' => some (ρ.set j (some (setP d ks n')))

mutual
def exec (N : Nat) (Γ : Fns) : PS → Env → Option (Env × Flw)
  | .asg j e, ρ => (ev Γ e ρ).bind fun r => (r.1.take r.2).bind fun d => if j < r.2.length then some (r.2.set j (some d), .nx) else none
  | .asgt js e, ρ => (ev Γ e ρ).bind fun r => (r.1.view r.2).bind fun d => match d with
    | .tup ds => (setAt js ds r.2).bind fun ρ' => some (ρ', .nx)
    | _ => none
  | .app p e, ρ => (evL Γ p ρ).bind fun r => (ev Γ e r.2).bind fun q => (q.1.take q.2).bind fun x =>
    if (p.safe && !e.tch p.root) = true then (atP q.2 p.root r.1 fun n => nodeApp n x).bind fun ρ' => some (ρ', .nx) else none
  | .setK p k e, ρ => (ev Γ e ρ).bind fun q => (evN Γ p q.2).bind fun r => (ev Γ k r.2).bind fun kk => (q.1.take kk.2).bind fun x => ((kk.1.view kk.2).bind D.key).bind fun key =>
    if (p.safe && !k.tch p.root) = true then (atP kk.2 p.root r.1 fun n => nodeSetK n key x).bind fun ρ' => some (ρ', .nx) else none
  | .setL p k e, ρ => (ev Γ e ρ).bind fun q => (evN Γ p q.2).bind fun r => (ev Γ k r.2).bind fun kk => (q.1.take kk.2).bind fun x => (kk.1.view kk.2).bind fun kd =>
    if (p.safe && !k.tch p.root) = true then (match kd with | .int i => (atP kk.2 p.root r.1 fun n => nodeSetL n i x).bind fun ρ' => some (ρ', .nx) | _ => none) else none
  | .setF p f e, ρ => (ev Γ e ρ).bind fun q => (evN Γ p q.2).bind fun r => (q.1.take r.2).bind fun x =>
    if p.safe = true then (atP r.2 p.root r.1 fun n => nodeFld n f x).bind fun ρ' => some (ρ', .nx) else none
  | .ext p e, ρ => (evL Γ p ρ).bind fun r => (ev Γ e r.2).bind fun q => (q.1.view q.2).bind fun x =>
    if (p.safe && !e.tch p.root) = true then (atP q.2 p.root r.1 fun n => nodeExt n x).bind fun ρ' => some (ρ', .nx) else none
  | .clrL p, ρ => (evL Γ p ρ).bind fun r => if p.safe = true then (atP r.2 p.root r.1 nodeClr).bind fun ρ' => some (ρ', .nx) else none
  | .clrK p, ρ => (evK Γ p ρ).bind fun r => if p.safe = true then (atP r.2 p.root r.1 nodeClrK).bind fun ρ' => some (ρ', .nx) else none
  | .revL p, ρ => (evL Γ p ρ).bind fun r => if p.safe = true then (atP r.2 p.root r.1 nodeRev).bind fun ρ' => some (ρ', .nx) else none
  | .expr e, ρ => (ev Γ e ρ).bind fun r => some (r.2, .nx)
  | .ife c a b, ρ => ((ev Γ c ρ).bind asB).bind fun q => if q.1 = true then execs N Γ a q.2 else execs N Γ b q.2
  | .whl c b, ρ => whileL (fun ρ => (ev Γ c ρ).bind asB) (fun ρ => execs N Γ b ρ) N ρ
  | .for_ js ik ies b, ρ => (evs Γ ies ρ).bind fun r => (views r.2 r.1).bind fun ds => (iterS ik ds).bind fun els =>
    if okIt r.2 (fun i => tchS b i || js.contains i) r.1 = true then forL js (fun ρ => execs N Γ b ρ) els r.2 else none
  | .ret e, ρ => (ev Γ e ρ).bind fun r => (r.1.take r.2).bind fun d => some (r.2, .rt d)
  | .retN, ρ => some (ρ, .rt .non)
  | .pass, ρ => some (ρ, .nx)
  | .brk, ρ => some (ρ, .bk)
  | .cnt, ρ => some (ρ, .ct)
  | .pre j ns s, ρ => (frzAt ρ j ns).bind fun ρ' => exec N Γ s ρ'
  | .par j k a b, ρ => (evs Γ [a, b] ρ).bind fun r => (takes r.2 r.1).bind fun ds => match ds with
    | [x, y] => if j < r.2.length ∧ k < r.2.length ∧ j ≠ k then some ((r.2.set j (some x)).set k (some y), .nx) else none
    | _ => none
  | .never, _ => none
def execs (N : Nat) (Γ : Fns) : List PS → Env → Option (Env × Flw)
  | [], ρ => some (ρ, .nx)
  | p :: r, ρ => (exec N Γ p ρ).bind fun q => match q.2 with
    | .nx => execs N Γ r q.1
    | f => some (q.1, f)
end

/-- behind statements -/
structure Sst (K : PySem.W.Frag) (CT : Nat → Addr) (T A : Nat → Bool) (F G H : Hp) (ρ : Env) (σ : L2.St) (f : Nat → List Addr) (F' H' : Hp) (ρ' : Env) (σ' : L2.St) (f' : Nat → List Addr) : Prop where
  st : Ste K CT F' G H' ρ' σ' f'
  sp : Stp T F H ρ f F' H' ρ' f'
  sg : ∀ i, A i = false → σ'[i]? = σ[i]?
def Ends.at_ (K : PySem.W.Frag) (CT : Nat → Addr) (D : Ends) (G H : Hp) (f : Nat → List Addr) (F' H' : Hp) (σ' : L2.St) (f' : Nat → List Addr) : Flw → Prop
  | .nx => D.nx σ' H'
  | .bk => D.bk σ' H'
  | .ct => D.ct σ' H'
  | .rt d => ∀ v fp, R K CT F' G H' d v fp → fp.Nodup → (∀ a ∈ fp, (∀ i, a ∉ f' i) ∧ ((∃ j, a ∈ f j) ∨ H a = none)) → D.rt v H'
section
variable (K : PySem.W.Frag) (CT : Nat → Addr) (N : Nat) (Γ : Fns)
def T1 (p : PS) : TS := fun D σ H => ∃ F G ρ f ρ' fl, Ste K CT F G H ρ σ f ∧ exec N Γ p ρ = some (ρ', fl) ∧ ∀ σ' F' H' f', Sst K CT p.tch p.asd F G H ρ σ f F' H' ρ' σ' f' → Ends.at_ K CT D G H f F' H' σ' f' fl
def TS_ (ps : List PS) : TS := fun D σ H => ∃ F G ρ f ρ' fl, Ste K CT F G H ρ σ f ∧ execs N Γ ps ρ = some (ρ', fl) ∧ ∀ σ' F' H' f', Sst K CT (tchS ps) (asdS ps) F G H ρ σ f F' H' ρ' σ' f' → Ends.at_ K CT D G H f F' H' σ' f' fl
end

section
variable {K : PySem.W.Frag} {CT : Nat → Addr} {N : Nat} {Γ : Fns} {σ : L2.St} {H : Hp} {D : Ends}
theorem Sst.refl {T A : Nat → Bool} {F G : Hp} {ρ : Env} {f : Nat → List Addr} (s : Ste K CT F G H ρ σ f) : Sst K CT T A F G H ρ σ f F H ρ σ f := ⟨s, Stp.refl _ _ _ _ _, fun _ _ => rfl⟩
theorem Sst.mono {T A T' A' : Nat → Bool} {F G F' H' : Hp} {ρ ρ' : Env} {σ' : L2.St} {f f' : Nat → List Addr} (s : Sst K CT T A F G H ρ σ f F' H' ρ' σ' f') (h : ∀ i, T' i = false → T i = false) (k : ∀ i, A' i = false → A i = false) : Sst K CT T' A' F G H ρ σ f F' H' ρ' σ' f' :=
  ⟨s.st, s.sp.mono h, fun i e => s.sg i (k i e)⟩
theorem Sst.trans {T A : Nat → Bool} {F G F1 H1 F2 H2 : Hp} {ρ ρ1 ρ2 : Env} {σ1 σ2 : L2.St} {f f1 f2 : Nat → List Addr} (s : Sst K CT T A F G H ρ σ f F1 H1 ρ1 σ1 f1) (t : Sst K CT T A F1 G H1 ρ1 σ1 f1 F2 H2 ρ2 σ2 f2) : Sst K CT T A F G H ρ σ f F2 H2 ρ2 σ2 f2 :=
  ⟨t.st, s.sp.trans t.sp, fun i e => (t.sg i e).trans (s.sg i e)⟩
/-- what is wanted behind goes back over a step -/
theorem Ends.back {T A : Nat → Bool} {F G F1 H1 F2 H2 : Hp} {ρ ρ1 : Env} {σ1 σ2 : L2.St} {f f1 f2 : Nat → List Addr} {fl : Flw} (s : Sst K CT T A F G H ρ σ f F1 H1 ρ1 σ1 f1) (h : Ends.at_ K CT D G H f F2 H2 σ2 f2 fl) : Ends.at_ K CT D G H1 f1 F2 H2 σ2 f2 fl := by
  cases fl with
  | nx => exact h
  | bk => exact h
  | ct => exact h
  | rt d =>
    intro v fp hr nd ha
    refine h v fp hr nd fun a hx => ⟨(ha a hx).1, ?_⟩
    rcases (ha a hx).2 with ⟨j, hj⟩ | hj
    · exact s.sp.own j a hj
    · cases e : H a with
      | none => exact .inr rfl
      | some o =>
        obtain ⟨o', e'⟩ := s.sp.live a o e
        rw [e'] at hj; cases hj
theorem TS_nil (h : TS_ K CT N Γ [] D σ H) : D.nx σ H := by
  obtain ⟨F, G, ρ, f, ρ', fl, hs, he, hq⟩ := h
  simp only [execs, Option.some.injEq, Prod.mk.injEq] at he
  obtain ⟨rfl, rfl⟩ := he
  exact hq _ _ _ _ (Sst.refl hs)
theorem TS_cons {p : PS} {ps : List PS} (h : TS_ K CT N Γ (p :: ps) D σ H) : T1 K CT N Γ p { D with nx := TS_ K CT N Γ ps D } σ H := by
  obtain ⟨F, G, ρ, f, ρ', fl, hs, he, hq⟩ := h
  simp only [execs, Option.bind_eq_some_iff] at he
  obtain ⟨q, h1, h2⟩ := he
  obtain ⟨ρ1, fl1⟩ := q
  refine ⟨F, G, ρ, f, ρ1, fl1, hs, h1, fun σ1 F1 H1 f1 s1 => ?_⟩
  have s1' : Sst K CT (tchS (p :: ps)) (asdS (p :: ps)) F G H ρ σ f F1 H1 ρ1 σ1 f1 := s1.mono (fun i hi => by simp only [tchS, Bool.or_eq_false_iff] at hi; exact hi.1) fun i hi => by simp only [asdS, Bool.or_eq_false_iff] at hi; exact hi.1
  cases fl1 with
  | nx =>
    refine ⟨F1, G, ρ1, f1, ρ', fl, s1.st, h2, fun σ2 F2 H2 f2 s2 => Ends.back s1' (hq σ2 F2 H2 f2 (s1'.trans (s2.mono (fun i hi => ?_) fun i hi => ?_)))⟩
    · simp only [tchS, Bool.or_eq_false_iff] at hi; exact hi.2
    · simp only [asdS, Bool.or_eq_false_iff] at hi; exact hi.2
  | bk =>
    simp only [Option.some.injEq, Prod.mk.injEq] at h2
    obtain ⟨rfl, rfl⟩ := h2
    exact hq σ1 F1 H1 f1 s1'
  | ct =>
    simp only [Option.some.injEq, Prod.mk.injEq] at h2
    obtain ⟨rfl, rfl⟩ := h2
    exact hq σ1 F1 H1 f1 s1'
  | rt d =>
    simp only [Option.some.injEq, Prod.mk.injEq] at h2
    obtain ⟨rfl, rfl⟩ := h2
    exact hq σ1 F1 H1 f1 s1'
theorem TS_seq {p : PS} {ps : List PS} (h : TS_ K CT N Γ (p :: ps) D σ H) : tSeq (T1 K CT N Γ p) (TS_ K CT N Γ ps) D σ H := TS_cons h
theorem ends_eta (D : Ends) : { D with nx := D.nx } = D := rfl
theorem TS_one {p : PS} (h : TS_ K CT N Γ [p] D σ H) : T1 K CT N Γ p D σ H := by
  obtain ⟨F, G, ρ, f, ρ', fl, hs, he, hq⟩ := TS_cons h
  refine ⟨F, G, ρ, f, ρ', fl, hs, he, fun σ1 F1 H1 f1 s1 => ?_⟩
  have z := hq σ1 F1 H1 f1 s1
  cases fl with
  | nx => exact TS_nil z
  | bk => exact z
  | ct => exact z
  | rt d => exact z

theorem take_r {F G : Hp} {ρ : Env} {f : Nat → List Addr} {r : Rv} {v : V} {fp : List Addr} {d : Pv.D} (s : Ste K CT F G H ρ σ f) (h : VR K CT F G H σ r v fp) (e : r.take ρ = some d) : R K CT F G H d v fp := by
  cases r with
  | val d' => simp only [Rv.take, Option.some.injEq] at e; subst e; exact h
  | ref j =>
    simp only [Rv.take, Option.bind_eq_some_iff] at e
    obtain ⟨d', e3, e4⟩ := e
    split at e4
    · rename_i hn
      cases e4
      obtain ⟨v', q1, q2⟩ := s.get e3
      rw [h.1] at q1; cases q1
      have z := q2.noOwn hn
      rw [h.2, ← z]; exact q2
    · cases e4
theorem Ste.bind {F G : Hp} {ρ : Env} {f : Nat → List Addr} {d : Pv.D} {v : V} {fp : List Addr} (s : Ste K CT F G H ρ σ f) {j : Nat} (hj : j < ρ.length) (r : R K CT F G H d v fp) (nd : fp.Nodup) (ap : ∀ a ∈ fp, ∀ i, a ∉ f i) :
    Ste K CT F G H (ρ.set j (some d)) (σ.set j (some v)) (fun i => if i = j then fp else f i) := by
  refine ⟨by rw [List.length_set, List.length_set]; exact s.len, fun i x e => ?_, fun i => ?_, fun i k a h1 h2 => ?_, fun i h => ?_, s.wf, s.wg⟩
  · by_cases hi : i = j
    · subst hi
      rw [List.getElem?_set_self hj] at e
      cases e
      rw [if_pos rfl]
      exact ⟨v, List.getElem?_set_self (by rw [s.len]; exact hj), r⟩
    · rw [List.getElem?_set_ne (Ne.symm hi)] at e
      obtain ⟨v', h1, h2⟩ := s.at_ i x e
      rw [if_neg hi]
      exact ⟨v', by rw [List.getElem?_set_ne (Ne.symm hi)]; exact h1, h2⟩
  · by_cases hi : i = j
    · rw [if_pos hi]; exact nd
    · rw [if_neg hi]; exact s.nd i
  · by_cases hi : i = j
    · by_cases hk : k = j
      · rw [hi, hk]
      · rw [if_pos hi] at h1; rw [if_neg hk] at h2
        exact absurd h2 (ap a h1 k)
    · by_cases hk : k = j
      · rw [if_neg hi] at h1; rw [if_pos hk] at h2
        exact absurd h1 (ap a h2 i)
      · rw [if_neg hi] at h1; rw [if_neg hk] at h2
        exact s.dj i k a h1 h2
  · by_cases hi : i = j
    · subst hi
      exact absurd (List.getElem?_set_self hj) (h d)
    · rw [if_neg hi]
      refine s.em i fun x e => h x ?_
      rw [List.getElem?_set_ne (Ne.symm hi)]; exact e
theorem Stp.bind {T : Nat → Bool} {F H F' H' : Hp} {ρ ρ' : Env} {f f' : Nat → List Addr} {j : Nat} {fp : List Addr} {o : Option Pv.D} (s : Stp T F H ρ f F' H' ρ' f') (hT : T j = true) (fr : ∀ a ∈ fp, (∃ j, a ∈ f j) ∨ H a = none) :
    Stp T F H ρ f F' H' (ρ'.set j o) (fun i => if i = j then fp else f' i) := by
  refine ⟨s.le, s.keep, s.new, fun i a ha => ?_, fun i hi => ?_, s.live⟩
  · by_cases e : i = j
    · rw [if_pos e] at ha; exact fr a ha
    · rw [if_neg e] at ha; exact s.own i a ha
  · have e : i ≠ j := fun z => by subst z; rw [hT] at hi; cases hi
    obtain ⟨a1, a2, a3⟩ := s.st i hi
    exact ⟨(if_neg e).trans a1, (List.getElem?_set_ne (Ne.symm e)).trans a2, a3⟩
theorem T1_asg {j : Nat} {e : PX} (h : T1 K CT N Γ (.asg j e) D σ H) : tAsg (TI K CT Γ e) (gName j) D σ H := by
  obtain ⟨F, G, ρ, f, ρ', fl, hs, he, hq⟩ := h
  simp only [exec, Option.bind_eq_some_iff] at he
  obtain ⟨r, h1, d, h2, h3⟩ := he
  split at h3
  · rename_i hj
    cases h3
    refine ⟨F, G, ρ, f, r.1, r.2, hs, h1, fun v F1 H1 f1 fp p => ?_⟩
    have rr := take_r p.st (vr1 p.vr) h2
    exact hq _ F1 H1 _ ⟨p.st.bind hj rr p.nd p.ap, Stp.bind (p.sp.mono fun i hi => by simp only [PS.tch, Bool.or_eq_false_iff] at hi; exact hi.2) (by simp [PS.tch]) p.fr, fun i hi => by
      simp only [PS.asd, beq_eq_false_iff_ne] at hi
      exact List.getElem?_set_ne (Ne.symm hi)⟩
  · cases h3
/-- binding several slots to things that are not own -/
theorem setAt_len : ∀ {js : List Nat} {ds : List Pv.D} {ρ ρ' : Env}, setAt js ds ρ = some ρ' → js.length = ds.length
  | [], [], _, _, _ => rfl
  | [], _ :: _, _, _, h => by simp [setAt] at h
  | _ :: _, [], _, _, h => by simp [setAt] at h
  | j :: js, d :: ds, ρ, ρ', h => by
    simp only [setAt] at h
    split at h
    · rw [List.length_cons, List.length_cons, setAt_len h]
    · cases h
def setV : List Nat → List V → L2.St → L2.St
  | j :: js, v :: vs, σ => setV js vs (σ.set j (some v))
  | _, _, σ => σ
theorem Ste.bindN {F G : Hp} {T : Nat → Bool} : ∀ {js : List Nat} {ds : List Pv.D} {vs : List V} {ρ ρ' : Env} {σ : L2.St} {f : Nat → List Addr}, Ste K CT F G H ρ σ f → (∀ j ∈ js, T j = true) → Rs K CT F G H ds vs [] → setAt js ds ρ = some ρ' →
    ∃ f', Ste K CT F G H ρ' (setV js vs σ) f' ∧ Stp T F H ρ f F H ρ' f' ∧ ∀ i, i ∉ js → (setV js vs σ)[i]? = σ[i]?
  | [], [], vs, ρ, ρ', σ, f, s, _, r, h => by
    simp only [setAt, Option.some.injEq] at h; subst h
    exact ⟨f, by simpa [setV] using s, Stp.refl _ _ _ _ _, fun _ _ => by simp [setV]⟩
  | [], _ :: _, _, _, _, _, _, _, _, _, h => by simp [setAt] at h
  | _ :: _, [], _, _, _, _, _, _, _, _, h => by simp [setAt] at h
  | j :: js, d :: ds, vs, ρ, ρ', σ, f, s, hT, r, h => by
    simp only [Rs] at r
    obtain ⟨v, vr, f1, f2, rfl, r1, r2, e⟩ := r
    obtain ⟨rfl, rfl⟩ := List.append_eq_nil_iff.mp e.symm
    simp only [setAt] at h
    split at h
    case isFalse => cases h
    rename_i hlj
    have s1 := s.bind hlj r1 List.nodup_nil (fun _ h => (nomatch h))
    have p1 : Stp T F H ρ f F H (ρ.set j (some d)) _ := Stp.bind (fp := []) (Stp.refl _ _ _ _ _) (hT j List.mem_cons_self) (fun _ h => (nomatch h))
    obtain ⟨f', s2, p2, q2⟩ := Ste.bindN s1 (fun k hk => hT k (List.mem_cons_of_mem _ hk)) r2 h
    refine ⟨f', s2, p1.trans p2, fun i hi => (q2 i fun z => hi (List.mem_cons_of_mem _ z)).trans ?_⟩
    exact List.getElem?_set_ne fun z => hi (by rw [← z]; exact List.mem_cons_self)
end
end Pv

set_option Elab.async false
set_option linter.all false
set_option maxRecDepth 100000
set_option maxHeartbeats 1000000
namespace Pv
open PySem L2

/-- the thing at a path, by the heap -/
def PathV (H : Hp) : V → List Sk → V → Prop
  | v, [], w => w = v
  | v, .k k :: r, w => ∃ b u, v = .ref b ∧ (∃ kvs, H b = some (.dK kvs) ∧ valV kvs k = some u) ∧ PathV H u r w
  | v, .f n :: r, w => ∃ b u, v = .ref b ∧ (∃ C dx fs, H b = some (.ins C dx fs) ∧ fs.lookup n = some u) ∧ PathV H u r w
theorem PathV.det {H : Hp} : ∀ {ks : List Sk} {v w w' : V}, PathV H v ks w → PathV H v ks w' → w = w'
  | [], _, _, _, h, k => by simp only [PathV] at h k; rw [h, k]
  | .k k :: r, v, w, w', h, h' => by
    simp only [PathV] at h h'
    obtain ⟨b, u, e, ⟨kvs, q1, q2⟩, h2⟩ := h
    obtain ⟨b', u', e', ⟨kvs', r1, r2⟩, h2'⟩ := h'
    rw [e] at e'; cases e'
    rw [q1] at r1; cases r1
    rw [q2] at r2; cases r2
    exact PathV.det h2 h2'
  | .f k :: r, v, w, w', h, h' => by
    simp only [PathV] at h h'
    obtain ⟨b, u, e, ⟨C, dx, fs, q1, q2⟩, h2⟩ := h
    obtain ⟨b', u', e', ⟨C', dx', fs', r1, r2⟩, h2'⟩ := h'
    rw [e] at e'; cases e'
    rw [q1] at r1; cases r1
    rw [q2] at r2; cases r2
    exact PathV.det h2 h2'
theorem PathV.snoc {H : Hp} : ∀ {ks : List Sk} {v u w : V} {k : Sk}, PathV H v ks u → PathV H u [k] w → PathV H v (ks ++ [k]) w
  | [], v, u, w, k, h, h' => by simp only [PathV] at h; subst h; exact h'
  | .k k0 :: r, v, u, w, k, h, h' => by
    simp only [PathV] at h
    obtain ⟨b, x, e, h1, h2⟩ := h
    simp only [List.cons_append, PathV]
    exact ⟨b, x, e, h1, PathV.snoc h2 h'⟩
  | .f k0 :: r, v, u, w, k, h, h' => by
    simp only [PathV] at h
    obtain ⟨b, x, e, h1, h2⟩ := h
    simp only [List.cons_append, PathV]
    exact ⟨b, x, e, h1, PathV.snoc h2 h'⟩
theorem getP_snoc : ∀ (ks : List Sk) {d n : D} {k : Sk}, getP d (ks ++ [k]) = some n → ∃ m, getP d ks = some m ∧ getP m [k] = some n
  | [], d, n, k, h => ⟨d, by simp [getP], h⟩
  | .k k0 :: r, d, n, k, h => by
    cases d with
    | dct m ks' =>
      cases m with
      | own =>
        simp only [List.cons_append, getP, Option.bind_eq_some_iff] at h ⊢
        obtain ⟨c, h1, h2⟩ := h
        obtain ⟨m, q1, q2⟩ := getP_snoc r h2
        exact ⟨m, ⟨c, h1, q1⟩, q2⟩
      | frz => simp [getP] at h
      | bor => simp [getP] at h
    | _ => simp [getP] at h
  | .f k0 :: r, d, n, k, h => by
    cases d with
    | ins m cl ks' =>
      cases m with
      | own =>
        simp only [List.cons_append, getP, Option.bind_eq_some_iff] at h ⊢
        obtain ⟨c, h1, h2⟩ := h
        obtain ⟨m, q1, q2⟩ := getP_snoc r h2
        exact ⟨m, ⟨c, h1, q1⟩, q2⟩
      | frz => simp [getP] at h
      | bor => simp [getP] at h
    | _ => simp [getP] at h

section
variable {K : PySem.W.Frag} {CT : Nat → Addr}
/-- one entry, and what stands when it is another -/
theorem Rk.at_ {F G H : Hp} : ∀ (ks : List (Key × D)) {vs : List (Key × V)} {fp : List Addr} {k : Key} {d : D}, Rk K CT F G H ks vs fp → fp.Nodup → valA ks k = some d →
    ∃ v fc, valV vs k = some v ∧ R K CT F G H d v fc ∧ fc.Nodup ∧ (∀ x ∈ fc, x ∈ fp) ∧
      ∀ F' H' d' fc', HLe F F' → R K CT F' G H' d' v fc' → fc'.Nodup → (∀ x ∈ fp, x ∉ fc → H' x = H x ∧ F' x = none) → (∀ x ∈ fc', x ∈ fc ∨ x ∉ fp) →
        ∃ fp', Rk K CT F' G H' (putA ks k d') vs fp' ∧ fp'.Nodup ∧ (∀ x ∈ fp', x ∈ fp ∨ x ∈ fc')
  | [], _, _, _, _, _, _, e => by cases e
  | (k0, d0) :: ks, _, _, k, d, h, nd, e => by
    simp only [Rk] at h
    obtain ⟨v, vr, g1, g2, rfl, h1, h2, rfl⟩ := h
    obtain ⟨n1, n2, n3⟩ := List.nodup_append.mp nd
    by_cases hk : k0 = k
    · rw [show valA ((k0, d0) :: ks) k = some d0 by simp [valA, List.find?_cons, hk]] at e
      cases e
      refine ⟨v, g1, valV_pos (p := (k0, v)) hk, h1, n1, fun x hx => List.mem_append_left _ hx, fun F' H' d' fc' hF r nd' ho hi => ⟨fc' ++ g2, ?_, ?_, fun x hx => ?_⟩⟩
      · rw [show putA ((k0, d0) :: ks) k d' = (k0, d') :: ks from if_pos hk]
        simp only [Rk]
        refine ⟨v, vr, fc', g2, rfl, r, Rk.mono hF ks (WLe.refl G) (fun x hx => ?_) h2, rfl⟩
        have hx1 : x ∉ g1 := fun z => n3 x z x hx rfl
        obtain ⟨q1, q2⟩ := ho x (List.mem_append_right _ hx) hx1
        exact ⟨q1, q2, (Rk.own ks h2 x hx).2.2⟩
      · refine List.nodup_append.mpr ⟨nd', n2, fun x hx y hy e => ?_⟩
        subst e
        rcases hi x hx with z | z
        · exact n3 x z x hy rfl
        · exact z (List.mem_append_right _ hy)
      · rcases List.mem_append.mp hx with z | z
        · exact .inr z
        · exact .inl (List.mem_append_right _ z)
    · rw [show valA ((k0, d0) :: ks) k = valA ks k by simp [valA, List.find?_cons, hk]] at e
      obtain ⟨v', fc, q1, q2, q3, q4, q5⟩ := Rk.at_ ks h2 n2 e
      refine ⟨v', fc, (valV_neg (p := (k0, v)) hk).trans q1, q2, q3, fun x hx => List.mem_append_right _ (q4 x hx), fun F' H' d' fc' hF r nd' ho hi => ?_⟩
      have hn : ∀ x ∈ g1, x ∉ fc := fun x hx z => n3 x hx x (q4 x z) rfl
      obtain ⟨fp', w1, w2, w3⟩ := q5 F' H' d' fc' hF r nd' (fun x hx hc => ho x (List.mem_append_right _ hx) hc) (fun x hx => by
        rcases hi x hx with z | z
        · exact .inl z
        · exact .inr fun y => z (List.mem_append_right _ y))
      refine ⟨g1 ++ fp', ?_, ?_, fun x hx => ?_⟩
      · rw [show putA ((k0, d0) :: ks) k d' = (k0, d0) :: putA ks k d' from if_neg hk]
        simp only [Rk]
        refine ⟨v, vr, g1, fp', rfl, R.mono hF d0 (WLe.refl G) (fun x hx => ?_) h1, w1, rfl⟩
        obtain ⟨z1, z2⟩ := ho x (List.mem_append_left _ hx) (hn x hx)
        exact ⟨z1, z2, (R.own d0 h1 x hx).2.2⟩
      · refine List.nodup_append.mpr ⟨n1, w2, fun x hx y hy e => ?_⟩
        subst e
        rcases w3 x hy with z | z
        · exact n3 x hx x z rfl
        · rcases hi x z with y | y
          · exact hn x hx y
          · exact y (List.mem_append_left _ hx)
      · rcases List.mem_append.mp hx with z | z
        · exact .inl (List.mem_append_left _ z)
        · rcases w3 x z with y | y
          · exact .inl (List.mem_append_right _ y)
          · exact .inr y
theorem putA_keys {β : Type} : ∀ (ks : List (Key × β)) (k : Key) (v : β), (valA ks k).isSome = true → (putA ks k v).map Prod.fst = ks.map Prod.fst
  | [], _, _, h => by cases h
  | (k0, d0) :: ks, k, v, h => by
    by_cases hk : k0 = k
    · rw [show putA ((k0, d0) :: ks) k v = (k0, v) :: ks from if_pos hk]; rfl
    · rw [show putA ((k0, d0) :: ks) k v = (k0, d0) :: putA ks k v from if_neg hk]
      rw [show valA ((k0, d0) :: ks) k = valA ks k by simp [valA, List.find?_cons, hk]] at h
      rw [List.map_cons, List.map_cons, putA_keys ks k v h]
theorem putA_map {β γ : Type} (g : β → γ) (k : Key) : ∀ (ks : List (Key × β)) (v : β), (putA ks k v).map (fun p => (p.1, g p.2)) = putA (ks.map fun p => (p.1, g p.2)) k (g v)
  | [], _ => rfl
  | (k0, d0) :: ks, v => by
    by_cases hk : k0 = k
    · rw [show putA ((k0, d0) :: ks) k v = (k0, v) :: ks from if_pos hk, List.map_cons, List.map_cons, show putA ((k0, g d0) :: ks.map fun p => (p.1, g p.2)) k (g v) = (k0, g v) :: ks.map fun p => (p.1, g p.2) from if_pos hk]
    · rw [show putA ((k0, d0) :: ks) k v = (k0, d0) :: putA ks k v from if_neg hk, List.map_cons, List.map_cons, show putA ((k0, g d0) :: ks.map fun p => (p.1, g p.2)) k (g v) = (k0, g d0) :: putA (ks.map fun p => (p.1, g p.2)) k (g v) from if_neg hk, putA_map g k ks v]

/-- THE NODE AT A PATH: where it stands, and what stands when it is another -/
theorem R.path {F G H : Hp} : ∀ (ks : List Sk) {d n : D} {v : V} {fp : List Addr}, R K CT F G H d v fp → fp.Nodup → getP d ks = some n →
    ∃ w fn, (∀ H', (∀ x ∈ fp, H' x = H x) → PathV H' v ks w) ∧ R K CT F G H n w fn ∧ fn.Nodup ∧ (∀ x ∈ fn, x ∈ fp) ∧
      ∀ F' H' n' fn', HLe F F' → R K CT F' G H' n' w fn' → fn'.Nodup → (∀ x ∈ fp, x ∉ fn → H' x = H x ∧ F' x = none) → (∀ x ∈ fn', x ∈ fn ∨ x ∉ fp) →
        ∃ fp', R K CT F' G H' (setP d ks n') v fp' ∧ fp'.Nodup ∧ (∀ x ∈ fp', x ∈ fp ∨ x ∈ fn')
  | [], d, n, v, fp, h, nd, e => by
    simp only [getP, Option.some.injEq] at e; subst e
    exact ⟨v, fp, fun _ _ => rfl, h, nd, fun _ hx => hx, fun F' H' n' fn' _ r nd' _ _ => ⟨fn', by simpa [setP] using r, nd', fun x hx => .inr hx⟩⟩
  | .k k :: r, d, n, v, fp, h, nd, e => by
    cases d with
    | dct m ks =>
      cases m with
      | own =>
        simp only [getP, Option.bind_eq_some_iff] at e
        obtain ⟨c, e1, e2⟩ := e
        simp only [R] at h
        obtain ⟨hk, a, vs, fp1, rfl, hH, hF0, hG0, rk, rfl⟩ := h
        obtain ⟨na, nd1⟩ := List.nodup_cons.mp nd
        obtain ⟨vc, fc, q1, q2, q3, q4, q5⟩ := Rk.at_ ks rk nd1 e1
        obtain ⟨w, fn, p1, p2, p3, p4, p5⟩ := R.path r q2 q3 e2
        refine ⟨w, fn, fun H' hx => ⟨a, vc, rfl, ⟨vs, (hx a List.mem_cons_self).trans hH, q1⟩, p1 H' fun x hc => hx x (List.mem_cons_of_mem _ (q4 x hc))⟩, p2, p3, fun x hx => List.mem_cons_of_mem _ (q4 x (p4 x hx)), fun F' H' n' fn' hF rn ndn ho hi => ?_⟩
        have nafn : a ∉ fn := fun z => na (q4 a (p4 a z))
        obtain ⟨fc', w1, w2, w3⟩ := p5 F' H' n' fn' hF rn ndn (fun x hx hn => ho x (List.mem_cons_of_mem _ (q4 x hx)) hn) (fun x hx => by
          rcases hi x hx with z | z
          · exact .inl z
          · exact .inr fun y => z (List.mem_cons_of_mem _ (q4 x y)))
        obtain ⟨fp', u1, u2, u3⟩ := q5 F' H' (setP c r n') fc' hF w1 w2 (fun x hx hn => ho x (List.mem_cons_of_mem _ hx) fun z => hn (p4 x z)) (fun x hx => by
          rcases w3 x hx with z | z
          · exact .inl z
          · rcases hi x z with y | y
            · exact .inl (p4 x y)
            · exact .inr fun q => y (List.mem_cons_of_mem _ q))
        have hin : ∀ x ∈ fp', x ∈ fp1 ∨ x ∈ fn' := fun x hx => by
          rcases u3 x hx with z | z
          · exact .inl z
          · rcases w3 x z with y | y
            · exact .inl (q4 x y)
            · exact .inr y
        refine ⟨a :: fp', ?_, List.nodup_cons.mpr ⟨fun z => ?_, u2⟩, fun x hx => ?_⟩
        · simp only [setP, e1, R]
          obtain ⟨z1, z2⟩ := ho a List.mem_cons_self nafn
          exact ⟨by rw [putA_keys ks k _ (by rw [e1]; rfl)]; exact hk, a, vs, fp', rfl, z1.trans hH, z2, hG0, u1, rfl⟩
        · rcases hin a z with y | y
          · exact na y
          · rcases hi a y with q | q
            · exact nafn q
            · exact q List.mem_cons_self
        · rcases List.mem_cons.mp hx with rfl | hx
          · exact .inl List.mem_cons_self
          · rcases hin x hx with y | y
            · exact .inl (List.mem_cons_of_mem _ y)
            · exact .inr y
      | frz => simp [getP] at e
      | bor => simp [getP] at e
    | _ => simp [getP] at e
  | .f k :: r, d, n, v, fp, h, nd, e => by
    cases d with
    | ins m cl ks =>
      cases m with
      | own =>
        simp only [getP, Option.bind_eq_some_iff] at e
        obtain ⟨c, e1, e2⟩ := e
        simp only [R] at h
        obtain ⟨a, dx, vs, fp1, rfl, hH, hF0, hG0, rk, rfl⟩ := h
        obtain ⟨na, nd1⟩ := List.nodup_cons.mp nd
        obtain ⟨vc, fc, q1, q2, q3, q4, q5⟩ := Rk.at_ ks rk nd1 e1
        obtain ⟨w, fn, p1, p2, p3, p4, p5⟩ := R.path r q2 q3 e2
        rw [fk_val] at q1
        refine ⟨w, fn, fun H' hx => ⟨a, vc, rfl, ⟨CT cl, dx, vs, (hx a List.mem_cons_self).trans hH, q1⟩, p1 H' fun x hc => hx x (List.mem_cons_of_mem _ (q4 x hc))⟩, p2, p3, fun x hx => List.mem_cons_of_mem _ (q4 x (p4 x hx)), fun F' H' n' fn' hF rn ndn ho hi => ?_⟩
        have nafn : a ∉ fn := fun z => na (q4 a (p4 a z))
        obtain ⟨fc', w1, w2, w3⟩ := p5 F' H' n' fn' hF rn ndn (fun x hx hn => ho x (List.mem_cons_of_mem _ (q4 x hx)) hn) (fun x hx => by
          rcases hi x hx with z | z
          · exact .inl z
          · exact .inr fun y => z (List.mem_cons_of_mem _ (q4 x y)))
        obtain ⟨fp', u1, u2, u3⟩ := q5 F' H' (setP c r n') fc' hF w1 w2 (fun x hx hn => ho x (List.mem_cons_of_mem _ hx) fun z => hn (p4 x z)) (fun x hx => by
          rcases w3 x hx with z | z
          · exact .inl z
          · rcases hi x z with y | y
            · exact .inl (p4 x y)
            · exact .inr fun q => y (List.mem_cons_of_mem _ q))
        have hin : ∀ x ∈ fp', x ∈ fp1 ∨ x ∈ fn' := fun x hx => by
          rcases u3 x hx with z | z
          · exact .inl z
          · rcases w3 x z with y | y
            · exact .inl (q4 x y)
            · exact .inr y
        refine ⟨a :: fp', ?_, List.nodup_cons.mpr ⟨fun z => ?_, u2⟩, fun x hx => ?_⟩
        · simp only [setP, e1, R]
          obtain ⟨z1, z2⟩ := ho a List.mem_cons_self nafn
          exact ⟨a, dx, vs, fp', rfl, z1.trans hH, z2, hG0, u1, rfl⟩
        · rcases hin a z with y | y
          · exact na y
          · rcases hi a y with q | q
            · exact nafn q
            · exact q List.mem_cons_self
        · rcases List.mem_cons.mp hx with rfl | hx
          · exact .inl List.mem_cons_self
          · rcases hin x hx with y | y
            · exact .inl (List.mem_cons_of_mem _ y)
            · exact .inr y
      | frz => simp [getP] at e
      | bor => simp [getP] at e
    | _ => simp [getP] at e
end

section
variable {K : PySem.W.Frag} {CT : Nat → Addr} {N : Nat} {Γ : Fns} {σ : L2.St} {H : Hp} {Q : VK}
/-- a place's value -/
def TPl (K : PySem.W.Frag) (CT : Nat → Addr) (Γ : Fns) (p : Pl) : TE := fun σ H Q => ∃ F G ρ f ks ρ' d n, Ste K CT F G H ρ σ f ∧ evP Γ p ρ = some (ks, ρ') ∧ get ρ' p.root = some d ∧ getP d ks = some n ∧ p.safe = true ∧
  ∀ F' H' f' w, Ste K CT F' G H' ρ' σ f' → Stp p.tch F H ρ f F' H' ρ' f' → (∃ v, σ[p.root]? = some (some v) ∧ PathV H' v ks w) → Q w H'
theorem Pl.safe_iff {p : Pl} : p.safe = true ↔ p.tch p.root = false := by unfold Pl.safe; simp
theorem TPl_slot {j : Nat} (h : TPl K CT Γ (.slot j) σ H Q) : tVar j σ H Q := by
  obtain ⟨F, G, ρ, f, ks, ρ', d, n, hs, he, hg, hp, _, hq⟩ := h
  simp only [evP, Option.bind_eq_some_iff, Option.some.injEq, Prod.mk.injEq] at he
  obtain ⟨d', h1, rfl, rfl⟩ := he
  obtain ⟨v, e1, _⟩ := hs.get h1
  exact ⟨v, e1, hq F H f v hs (Stp.refl _ _ _ _ _) ⟨v, e1, rfl⟩⟩
theorem TPl_fld {p : Pl} {n : Str} (hc : ∀ cl, Cls K (CT cl)) (hn : ∀ cl, NoAttr K (CT cl) n) (h : TPl K CT Γ (.fld p n) σ H Q) : tFld K (TPl K CT Γ p) n σ H Q := by
  obtain ⟨F, G, ρ, f, ks, ρ', d, m, hs, he, hg, hp, hsafe, hq⟩ := h
  simp only [evP, Option.bind_eq_some_iff, Option.some.injEq, Prod.mk.injEq] at he
  obtain ⟨r, h1, rfl, rfl⟩ := he
  obtain ⟨m', g1, g2⟩ := getP_snoc r.1 hp
  refine ⟨F, G, ρ, f, r.1, r.2, d, m', hs, h1, hg, g1, hsafe, fun F' H' f' w s' t' ⟨v, ev, pv⟩ => ?_⟩
  obtain ⟨v', e1, rr⟩ := s'.get hg
  have e1 : σ[p.root]? = some (some v') := e1
  rw [ev] at e1; cases e1
  obtain ⟨w', fn, p1, p2, p3, p4, _⟩ := R.path r.1 rr (s'.nd _) g1
  have := PathV.det pv (p1 H' fun _ _ => rfl)
  subst this
  cases m' with
  | ins fl cl fs =>
    cases fl with
    | own =>
      simp only [getP, Option.bind_eq_some_iff] at g2
      obtain ⟨c, e2, e3⟩ := g2
      simp only [R] at p2
      obtain ⟨a, dx, vs, fp2, rfl, hH, _, _, rk, _⟩ := p2
      obtain ⟨u, fp3, q1, q2, _⟩ := Rk.val fs rk e2
      rw [fk_val] at q1
      refine ⟨a, CT cl, dx, vs, u, rfl, hH, hc cl, hn cl, q1, hq F' H' f' u s' t' ⟨v, ev, PathV.snoc pv ⟨a, u, rfl, ⟨CT cl, dx, vs, hH, q1⟩, rfl⟩⟩⟩
    | frz => simp [getP] at g2
    | bor => simp [getP] at g2
  | _ => simp [getP] at g2
end
end Pv

set_option Elab.async false
set_option linter.all false
set_option maxRecDepth 100000
set_option maxHeartbeats 1000000
namespace Pv
open PySem L2

section
variable {K : PySem.W.Frag} {CT : Nat → Addr} {N : Nat} {Γ : Fns} {σ : L2.St} {H : Hp} {Q : VK} {D : Ends}

theorem get_eq {ρ ρ' : Env} {j : Nat} (h : ρ'[j]? = ρ[j]?) : get ρ' j = get ρ j := by unfold get; rw [h]
/-- a place stays over a step that leaves its root alone -/
theorem PathV.stay {F G F' H H' : Hp} {T : Nat → Bool} {ρ ρ' : Env} {f f' : Nat → List Addr} {j : Nat} {d n : Pv.D} {ks : List Sk} {v w : V} (s : Ste K CT F G H ρ σ f) (t : Stp T F H ρ f F' H' ρ' f') (hT : T j = false) (hg : get ρ j = some d) (hp : getP d ks = some n)
    (hv : σ[j]? = some (some v)) (pv : PathV H v ks w) : PathV H' v ks w := by
  obtain ⟨v', e1, rr⟩ := s.get hg
  rw [hv] at e1; cases e1
  obtain ⟨w', fn, p1, _⟩ := R.path ks rr (s.nd _) hp
  have := PathV.det pv (p1 H fun _ _ => rfl)
  subst this
  exact p1 H' (t.st j hT).2.2
theorem TPl_key {p : Pl} {e : PX} (h : TPl K CT Γ (.key p e) σ H Q) : tDGet (TPl K CT Γ p) (TI K CT Γ e) σ H Q := by
  obtain ⟨F, G, ρ, f, ks, ρ', d, m, hs, he, hg, hp, hsafe, hq⟩ := h
  simp only [evP, nodeAt, Option.bind_eq_some_iff, Option.some.injEq, Prod.mk.injEq] at he
  obtain ⟨r, h1, m1, ⟨d1, hg1, hp1⟩, q, h2, k, ⟨kd, h3, h4⟩, rfl, rfl⟩ := he
  have hT := Pl.safe_iff.mp hsafe
  simp only [Pl.tch, Pl.root, Bool.or_eq_false_iff] at hT
  refine ⟨F, G, ρ, f, r.1, r.2, d1, m1, hs, h1, hg1, hp1, Pl.safe_iff.mpr hT.1, fun F1 H1 f1 w s1 t1 ⟨v, ev, pv⟩ => ?_⟩
  refine ⟨F1, G, r.2, f1, q.1, q.2, s1, h2, fun y F2 H2 f2 fp p2 => ?_⟩
  have e2 : get q.2 p.root = get r.2 p.root := get_eq (p2.sp.st _ hT.2).2.1
  have hg : get q.2 p.root = some d := hg
  rw [e2, hg1] at hg
  cases hg
  have pv2 := PathV.stay s1 p2.sp hT.2 hg1 hp1 ev pv
  obtain ⟨m', g1, g2⟩ := getP_snoc r.1 hp
  rw [hp1] at g1; cases g1
  obtain ⟨v', e1, rr⟩ := p2.st.get (e2.trans hg1)
  rw [ev] at e1; cases e1
  obtain ⟨w', fn, q1, q2, _⟩ := R.path r.1 rr (p2.st.nd _) hp1
  have := PathV.det pv2 (q1 H2 fun _ _ => rfl)
  subst this
  obtain ⟨_, ry⟩ := view_r p2.st (vr1 p2.vr) h3
  have hy : y = kV k := by
    cases kd with
    | int i => simp only [Pv.D.key, Option.some.injEq] at h4; subst h4; simp only [R] at ry; exact ry.1
    | str s => simp only [Pv.D.key, Option.some.injEq] at h4; subst h4; simp only [R] at ry; exact ry.1
    | _ => simp [Pv.D.key] at h4
  cases m1 with
  | dct fl ks' =>
    cases fl with
    | own =>
      simp only [getP, Option.bind_eq_some_iff] at g2
      obtain ⟨c, e3, e4⟩ := g2
      simp only [R] at q2
      obtain ⟨_, a, vs, fp2, rfl, hH, _, _, rk, _⟩ := q2
      obtain ⟨u, fp3, z1, z2, _⟩ := Rk.val ks' rk e3
      refine ⟨a, u, rfl, .inl ⟨vs, k, .inl hH, hy, z1.symm⟩, hq F2 H2 f2 u p2.st ((t1.mono fun i hi => ?_).trans (p2.sp.mono fun i hi => ?_)) ⟨v, ev, PathV.snoc pv2 ⟨a, u, rfl, ⟨vs, hH, z1⟩, rfl⟩⟩⟩
      · simp only [Pl.tch, Bool.or_eq_false_iff] at hi; exact hi.1
      · simp only [Pl.tch, Bool.or_eq_false_iff] at hi; exact hi.2
    | frz => simp [getP] at g2
    | bor => simp [getP] at g2
  | _ => simp [getP] at g2

/-- THE CHANGE OF A NODE: seen from an older state, with things ex that are held -/
theorem upd_core {T : Nat → Bool} {F0 H0 F G : Hp} {ρ0 ρ : Env} {f0 f : Nat → List Addr} {j : Nat} {d n n' : Pv.D} {ks : List Sk} {v : V} {a : Addr} {o' : HO} {ex : List Addr}
    (s : Ste K CT F G H ρ σ f) (sp0 : Stp T F0 H0 ρ0 f0 F H ρ f) (hT : T j = true) (hj : get ρ j = some d) (hv : σ[j]? = some (some v)) (hp : getP d ks = some n) (pv : PathV H v ks (.ref a))
    (exa : ∀ x ∈ ex, ∀ i, x ∉ f i) (exf : ∀ x ∈ ex, (∃ i, x ∈ f0 i) ∨ H0 x = none)
    (hmut : ∀ fn, R K CT F G H n (.ref a) fn → fn.Nodup → (∀ x ∈ fn, x ∉ ex) → a ∈ fn ∧ ∃ fn', R K CT F G (upd H a o') n' (.ref a) fn' ∧ fn'.Nodup ∧ ∀ x ∈ fn', x ∈ fn ∨ x ∈ ex) :
    ∃ f', Ste K CT F G (upd H a o') (ρ.set j (some (setP d ks n'))) σ f' ∧ Stp T F0 H0 ρ0 f0 F (upd H a o') (ρ.set j (some (setP d ks n'))) f' := by
  obtain ⟨v', e1, rr⟩ := s.get hj
  rw [hv] at e1; cases e1
  obtain ⟨w, fn, p1, p2, p3, p4, p5⟩ := R.path ks rr (s.nd _) hp
  have := PathV.det pv (p1 H fun _ _ => rfl)
  subst this
  obtain ⟨haf, fn', m1, m2, m3⟩ := hmut fn p2 p3 fun x hx he => exa x he j (p4 x hx)
  have haj : a ∈ f j := p4 a haf
  obtain ⟨fp', u1, u2, u3⟩ := p5 F (upd H a o') n' fn' (HLe.refl _) m1 m2 (fun x hx hn => ⟨upd_ne fun z => hn (z ▸ haf), (s.ow j x hx).2.1⟩) (fun x hx => by
    rcases m3 x hx with z | z
    · exact .inl z
    · exact .inr (exa x z j))
  have hin : ∀ x ∈ fp', x ∈ f j ∨ x ∈ ex := fun x hx => by
    rcases u3 x hx with z | z
    · exact .inl z
    · rcases m3 x z with y | y
      · exact .inl (p4 x y)
      · exact .inr y
  have na0 : ∀ i, i ≠ j → a ∉ f i := fun i hi z => hi (s.dj i j a z haj)
  have wl : ∀ {E : Hp}, E a = none → WLe E H → WLe E (upd H a o') := fun he w x u e => by
    have hx : x ≠ a := fun z => by subst z; rw [he] at e; cases e
    rcases w x u e with z | ⟨o, ks, z1, z2⟩
    · exact .inl ((upd_ne hx).trans z)
    · exact .inr ⟨o, ks, z1, (upd_ne hx).trans z2⟩
  refine ⟨_, s.put hj hv u1 (HLe.refl _) (fun i hi x hx => ⟨upd_ne fun z => na0 i hi (z ▸ hx), (s.ow i x hx).2⟩) u2 (fun x hx i hi z => ?_) (wl (s.ow j a haj).2.1 s.wf) (wl (s.ow j a haj).2.2 s.wg), ?_⟩
  · rcases hin x hx with y | y
    · exact hi (s.dj i j x z y)
    · exact exa x y i z
  · have aold : (∃ i, a ∈ f0 i) ∨ H0 a = none := sp0.own j a haj
    refine ⟨sp0.le, fun x o e nf => ?_, sp0.new, fun i x hx => ?_, fun i hi => ?_, fun x o e => ?_⟩
    · rw [upd_ne fun z => ?_]
      · exact sp0.keep x o e nf
      · subst z
        rcases aold with ⟨i, hi⟩ | hi
        · exact nf i hi
        · rw [e] at hi; cases hi
    · by_cases hij : i = j
      · rw [if_pos hij] at hx
        rcases hin x hx with y | y
        · exact sp0.own j x y
        · exact exf x y
      · rw [if_neg hij] at hx; exact sp0.own i x hx
    · have hij : i ≠ j := fun z => by subst z; rw [hT] at hi; cases hi
      obtain ⟨a1, a2, a3⟩ := sp0.st i hi
      refine ⟨(if_neg hij).trans a1, (get_set_ne hij).trans a2, fun x hx => (upd_ne fun z => na0 i hij ?_).trans (a3 x hx)⟩
      rw [← z, a1]; exact hx
    · by_cases hx : x = a
      · exact ⟨o', by rw [hx]; exact upd_same⟩
      · obtain ⟨o1, q⟩ := sp0.live x o e
        exact ⟨o1, (upd_ne hx).trans q⟩

theorem Rs.append {F G : Hp} : ∀ (ds : List Pv.D) {es : List Pv.D} {vs ws : List V} {f1 f2 : List Addr}, Rs K CT F G H ds vs f1 → Rs K CT F G H es ws f2 → Rs K CT F G H (ds ++ es) (vs ++ ws) (f1 ++ f2)
  | [], _, _, _, _, _, h, k => by simp only [Rs] at h; rw [h.1, h.2]; exact k
  | d :: ds, _, _, _, _, _, h, k => by
    simp only [Rs] at h
    obtain ⟨v, vr, g1, g2, rfl, h1, h2, rfl⟩ := h
    simp only [List.cons_append, Rs]
    exact ⟨v, _, g1, _, rfl, h1, Rs.append ds h2 k, by rw [List.append_assoc]⟩
theorem R.one {F G : Hp} {d : Pv.D} {v : V} {fp : List Addr} (h : R K CT F G H d v fp) : Rs K CT F G H [d] [v] fp := by
  simp only [Rs]; exact ⟨v, [], fp, [], rfl, h, ⟨rfl, rfl⟩, by simp⟩
theorem Rs.noOwn {F G : Hp} : ∀ (ds : List Pv.D) {vs : List V} {fp : List Addr}, Rs K CT F G H ds vs fp → ds.all Pv.D.noOwn = true → fp = []
  | [], _, _, h, _ => by simp only [Rs] at h; exact h.2
  | d :: ds, _, _, h, n => by
    simp only [Rs] at h
    obtain ⟨v, vr, g1, g2, rfl, h1, h2, rfl⟩ := h
    rw [List.all_cons, Bool.and_eq_true] at n
    rw [h1.noOwn n.1, Rs.noOwn ds h2 n.2]; rfl
theorem Rs.up {F G : Hp} {a : Addr} {o : HO} {ds : List Pv.D} {vs : List V} {fp : List Addr} (h : Rs K CT F G H ds vs fp) (ha : a ∉ fp) : Rs K CT F G (upd H a o) ds vs fp :=
  Rs.mono (HLe.refl _) ds (WLe.refl _) (fun x hx => ⟨upd_ne fun z => ha (z ▸ hx), (Rs.own ds h x hx).2⟩) h
theorem Rk.up {F G : Hp} {a : Addr} {o : HO} {ds : List (Key × Pv.D)} {vs : List (Key × V)} {fp : List Addr} (h : Rk K CT F G H ds vs fp) (ha : a ∉ fp) : Rk K CT F G (upd H a o) ds vs fp :=
  Rk.mono (HLe.refl _) ds (WLe.refl _) (fun x hx => ⟨upd_ne fun z => ha (z ▸ hx), (Rk.own ds h x hx).2⟩) h
theorem R.up {F G : Hp} {a : Addr} {o : HO} {d : Pv.D} {v : V} {fp : List Addr} (h : R K CT F G H d v fp) (ha : a ∉ fp) : R K CT F G (upd H a o) d v fp :=
  R.mono (HLe.refl _) d (WLe.refl _) (fun x hx => ⟨upd_ne fun z => ha (z ▸ hx), (R.own d h x hx).2⟩) h
theorem line_big : (1000000 : Nat) ≤ sizeLine := by decide

theorem fr_back {T : Nat → Bool} {F F1 H1 : Hp} {ρ ρ1 : Env} {f f1 : Nat → List Addr} (t1 : Stp T F H ρ f F1 H1 ρ1 f1) {fp : List Addr} (fr : ∀ a ∈ fp, (∃ j, a ∈ f1 j) ∨ H1 a = none) : ∀ a ∈ fp, (∃ j, a ∈ f j) ∨ H a = none := fun a ha => by
  rcases fr a ha with ⟨i, hi⟩ | hi
  · exact t1.own i a hi
  · cases e : H a with
    | none => exact .inr rfl
    | some o =>
      obtain ⟨o', e'⟩ := t1.live a o e
      rw [e'] at hi; cases hi
theorem node_r {F G : Hp} {ρ : Env} {f : Nat → List Addr} {j : Nat} {d n : Pv.D} {ks : List Sk} {v w : V} (s : Ste K CT F G H ρ σ f) (hg : get ρ j = some d) (hp : getP d ks = some n) (hv : σ[j]? = some (some v)) (pv : PathV H v ks w) : ∃ fn, R K CT F G H n w fn := by
  obtain ⟨v', e1, rr⟩ := s.get hg
  rw [hv] at e1; cases e1
  obtain ⟨w', fn, p1, p2, _⟩ := R.path ks rr (s.nd _) hp
  have := PathV.det pv (p1 H fun _ _ => rfl)
  subst this
  exact ⟨fn, p2⟩
theorem isL_ref {F G : Hp} {n : Pv.D} {w : V} {fn : List Addr} (h : R K CT F G H n w fn) (e : n.isL = true) : ∃ a ds vs fp, n = .lst .own ds ∧ w = .ref a ∧ H a = some (.lst vs) ∧ Rs K CT F G H ds vs fp ∧ fn = a :: fp := by
  cases n with
  | lst m ds =>
    cases m with
    | own =>
      simp only [R] at h
      obtain ⟨a, vs, fp, e1, e2, _, _, e3, e4⟩ := h
      exact ⟨a, ds, vs, fp, rfl, e1, e2, e3, e4⟩
    | _ => cases e
  | _ => cases e
theorem isK_ref {F G : Hp} {n : Pv.D} {w : V} {fn : List Addr} (h : R K CT F G H n w fn) (e : n.isK = true) : ∃ a ks vs fp, n = .dct .own ks ∧ w = .ref a ∧ H a = some (.dK vs) ∧ Rk K CT F G H ks vs fp ∧ fn = a :: fp := by
  cases n with
  | dct m ds =>
    cases m with
    | own =>
      simp only [R] at h
      obtain ⟨_, a, vs, fp, e1, e2, _, _, e3, e4⟩ := h
      exact ⟨a, ds, vs, fp, rfl, e1, e2, e3, e4⟩
    | _ => cases e
  | _ => cases e

/-- x.append(e) -/
theorem T1_app {p : Pl} {e : PX} (h : T1 K CT N Γ (.app p e) D σ H) : tDrop (tBM K "list" rAppend (TPl K CT Γ p) (TIs K CT Γ [e])) D σ H := by
  obtain ⟨F, G, ρ, f, ρ', fl, hs, he, hq⟩ := h
  simp only [exec, evL, nodeAt, Option.bind_eq_some_iff] at he
  obtain ⟨r, ⟨r', h1, n, ⟨d, hg, hp⟩, hL⟩, q, h2, x, h3, h4⟩ := he
  split at hL
  case isFalse => cases hL
  rename_i hisL
  cases hL
  split at h4
  case isFalse => cases h4
  rename_i hsf
  simp only [Bool.and_eq_true, Bool.not_eq_true'] at hsf
  obtain ⟨hsafe, ht⟩ := hsf
  simp only [Option.bind_eq_some_iff, Option.some.injEq, Prod.mk.injEq, atP] at h4
  obtain ⟨ρ2, ⟨d2, hg2, n2, hp2, n3, hu, rfl⟩, rfl, rfl⟩ := h4
  refine ⟨F, G, ρ, f, r.1, r.2, d, n, hs, h1, hg, hp, hsafe, fun F1 H1 f1 w s1 t1 ⟨v, ev', pv⟩ => ?_⟩
  obtain ⟨fn, rn⟩ := node_r s1 hg hp ev' pv
  obtain ⟨a, ds, vs, fp0, rfl, rfl, hH, _, _⟩ := isL_ref rn hisL
  refine ⟨.inl ⟨rfl, vs, SqL.of hH⟩, F1, G, r.2, f1, [q.1], q.2, s1, by simp only [evs, h2, Option.bind_some], fun ys F2 H2 f2 fp p2 => ?_⟩
  have e2 : get q.2 p.root = get r.2 p.root := get_eq (p2.sp.st _ (by simp only [tchs, Bool.or_false]; exact ht)).2.1
  rw [e2, hg] at hg2; cases hg2
  rw [hp] at hp2; cases hp2
  have ht' : tchs [e] p.root = false := by simp only [tchs, Bool.or_false]; exact ht
  have pv2 := PathV.stay s1 p2.sp ht' hg hp ev' pv
  obtain ⟨fn2, rn2⟩ := node_r p2.st (e2.trans hg) hp ev' pv2
  obtain ⟨a', ds', vs', fp', hn, ea, hH2, rds, _⟩ := isL_ref rn2 hisL
  cases ea; cases hn
  obtain ⟨y, rfl, hy⟩ : ∃ y, ys = [y] ∧ VR K CT F2 G H2 σ q.1 y fp := by
    have z := p2.vr
    simp only [VRs] at z
    obtain ⟨y, _, g1, g2, rfl, z1, ⟨rfl, rfl⟩, rfl⟩ := z
    exact ⟨y, rfl, by rw [List.append_nil]; exact z1⟩
  have rx := take_r p2.st hy h3
  simp only [nodeApp] at hu
  split at hu
  case isFalse => cases hu
  rename_i hlen
  cases hu
  have hvl : vs'.length = ds.length := Rs.len ds rds
  refine ⟨a, vs', y, rfl, rfl, hH2, by rw [hvl]; exact Nat.lt_of_lt_of_le hlen line_big, ?_⟩
  have t2 : Stp (PS.app p e).tch F H ρ f F2 H2 q.2 f2 := (t1.mono fun i hi => ?_).trans (p2.sp.mono fun i hi => ?_)
  · obtain ⟨f', s3, t3⟩ := upd_core (o' := .lst (vs' ++ [y])) (n' := .lst .own (ds ++ [x])) (ex := fp) p2.st t2 (by simp [PS.tch]) (e2.trans hg) ev' hp pv2 p2.ap (fr_back t1 p2.fr) (fun fn rn nd hx => by
      simp only [R] at rn
      obtain ⟨a2, vs2, fp2, ea, e3, e4, e5, e6, rfl⟩ := rn
      cases ea
      rw [hH2] at e3; cases e3
      obtain ⟨na, nd2⟩ := List.nodup_cons.mp nd
      refine ⟨List.mem_cons_self, a :: (fp2 ++ fp), ?_, ?_, fun z hz => ?_⟩
      · simp only [R]
        exact ⟨a, _, _, rfl, upd_same, e4, e5, Rs.append ds (e6.up na) (R.one (rx.up (hx a List.mem_cons_self))), rfl⟩
      · refine List.nodup_cons.mpr ⟨fun z => ?_, List.nodup_append.mpr ⟨nd2, p2.nd, fun z hz y hy e => hx z (List.mem_cons_of_mem _ hz) (e ▸ hy)⟩⟩
        rcases List.mem_append.mp z with z | z
        · exact na z
        · exact hx a List.mem_cons_self z
      · rcases List.mem_cons.mp hz with rfl | hz
        · exact .inl List.mem_cons_self
        · rcases List.mem_append.mp hz with z2 | z2
          · exact .inl (List.mem_cons_of_mem _ z2)
          · exact .inr z2)
    exact hq _ _ _ _ ⟨s3, t3, fun _ _ => rfl⟩
  · simp only [PS.tch, Bool.or_eq_false_iff] at hi; exact hi.1.2
  · simp only [PS.tch, Bool.or_eq_false_iff] at hi; simp only [tchs, Bool.or_false]; exact hi.2
end
end Pv

set_option Elab.async false
set_option linter.all false
set_option maxRecDepth 100000
set_option maxHeartbeats 1000000
namespace Pv
open PySem L2

section
variable {K : PySem.W.Frag} {CT : Nat → Addr} {N : Nat} {Γ : Fns} {σ : L2.St} {H : Hp} {Q : VK} {e : PX} {es : List PX}
/-- freezing a place -/
theorem Ste.freeze {F G : Hp} {ρ ρ' : Env} {f : Nat → List Addr} {j : Nat} {ns : List Str} (s : Ste K CT F G H ρ σ f) (h : frzAt ρ j ns = some ρ') (T : Nat → Bool) (hT : T j = true) :
    ∃ F' f', Ste K CT F' G H ρ' σ f' ∧ Stp T F H ρ f F' H ρ' f' := by
  simp only [frzAt, Option.bind_eq_some_iff] at h
  obtain ⟨d, h1, n, hn, h2⟩ := h
  split at h2
  · rename_i nb
    cases h2
    obtain ⟨v, e1, r⟩ := s.get h1
    obtain ⟨w, fn, p1, p2, p3, p4, p5⟩ := R.path _ r (s.nd _) hn
    have hF : HLe F (fun a => if a ∈ fn then H a else F a) := fun a u e => by
      show (if a ∈ fn then H a else F a) = some u
      by_cases ha : a ∈ fn
      · rw [(s.ow j a (p4 a ha)).2.1] at e; cases e
      · rw [if_neg ha]; exact e
    have wf : WLe (fun a => if a ∈ fn then H a else F a) H := fun a u e => by
      have e : (if a ∈ fn then H a else F a) = some u := e
      by_cases ha : a ∈ fn
      · rw [if_pos ha] at e; exact .inl e
      · rw [if_neg ha] at e; exact s.wf a u e
    obtain ⟨fp', u1, u2, u3⟩ := p5 _ H n.frz [] hF (R.frz hF n nb (fun a ha => if_pos ha) p2) List.nodup_nil (fun x hx hn => ⟨rfl, (if_neg hn).trans (s.ow j x hx).2.1⟩) (fun _ h => (nomatch h))
    have hsub : ∀ x ∈ fp', x ∈ f j := fun x hx => (u3 x hx).elim id fun z => nomatch z
    refine ⟨_, _, s.put (A' := fp') h1 e1 u1 hF (fun i hi a ha => ⟨rfl, ?_, (s.ow i a ha).2.2⟩) u2 (fun x hx i hi z => hi (s.dj i j x z (hsub x hx))) wf s.wg, hF, fun _ _ h _ => h, fun a h => ?_, fun i a h => ?_, fun i hi => ?_, fun _ o h => ⟨o, h⟩⟩
    · show (if a ∈ fn then H a else F a) = none
      rw [if_neg fun z => hi (s.dj i j a ha (p4 a z))]; exact (s.ow i a ha).2.1
    · by_cases ha : a ∈ fn
      · exact .inr (.inr ⟨j, p4 a ha⟩)
      · exact .inl (by intro z; exact h (by show (if a ∈ fn then H a else F a) = none; rw [if_neg ha]; exact z))
    · split at h
      · exact .inl ⟨j, hsub a h⟩
      · exact .inl ⟨i, h⟩
    · have hij : i ≠ j := fun z => by subst z; rw [hT] at hi; cases hi
      exact ⟨if_neg hij, get_set_ne hij, fun _ _ => rfl⟩
  · cases h2
theorem TI_pre {j : Nat} {ns : List Str} (h : TI K CT Γ (.pre j ns e) σ H Q) : TI K CT Γ e σ H Q := by
  obtain ⟨F, G, ρ, f, rv, ρ', hs, he, hq⟩ := h
  simp only [ev, Option.bind_eq_some_iff] at he
  obtain ⟨ρ1, h1, h2⟩ := he
  obtain ⟨F1, f1, s1, t1⟩ := hs.freeze h1 (PX.pre j ns e).tch (by simp [PX.tch])
  exact ⟨F1, G, ρ1, f1, rv, ρ', s1, h2, fun v F' H' f' fp p => hq v F' H' f' fp (Pst.after t1 (p.mono fun i hi => by simp only [PX.tch, Bool.or_eq_false_iff] at hi; exact hi.2))⟩
theorem RD.cons {F G : Hp} {d : Pv.D} {ds : List Pv.D} {v : V} {vs : List V} {fp : List Addr} (r : R K CT F G H d v fp) (h : RD K CT F G H ds vs) : RD K CT F G H (d :: ds) (v :: vs) := ⟨v, vs, rfl, ⟨fp, r⟩, h⟩
/-- an operation on a field -/
theorem TI_opF {r : List V → Hp → VK → Prop} {o : Op} {j : Nat} {n : Str} (hc : ∀ cl, Cls K (CT cl)) (hn : ∀ cl, NoAttr K (CT cl) n) (hr : OS K CT r o) (h : TI K CT Γ (.opF o j n es) σ H Q) :
    tFld K (tVar j) n σ H fun x H1 => TIs K CT Γ es σ H1 fun vs H2 => r (x :: vs) H2 Q := by
  obtain ⟨F, G, ρ, f, rv, ρ', hs, he, hq⟩ := h
  simp only [ev, Option.bind_eq_some_iff] at he
  obtain ⟨x0, h0, r0, h1, h2⟩ := he
  split at h2
  · rename_i nt
    simp only [Option.bind_eq_some_iff, Option.some.injEq, Prod.mk.injEq] at h2
    obtain ⟨x, hx, ds, h3, d, h4, rfl, rfl⟩ := h2
    simp only [nodeAt, Option.bind_eq_some_iff] at h0 hx
    obtain ⟨d0, g0, g1⟩ := h0
    obtain ⟨v0, e0, rr⟩ := hs.get g0
    obtain ⟨w, fn, p1, p2, p3, p4, p5⟩ := R.path _ rr (hs.nd _) g1
    obtain ⟨a, vc, rfl, ⟨C, dx, us, q1, q2⟩, q3⟩ := p1 H fun _ _ => rfl
    have q3 : vc = w := Eq.symm (by simpa [PathV] using q3)
    subst q3
    have hC : ∃ cl, C = CT cl := by
      cases d0 with
      | ins m cl ks =>
        cases m with
        | own =>
          simp only [R] at rr
          obtain ⟨a', dx', vs', fp', z1, z2, _⟩ := rr
          cases z1
          rw [q1] at z2
          cases z2
          exact ⟨cl, rfl⟩
        | frz => simp [getP] at g1
        | bor => simp [getP] at g1
      | _ => simp [getP] at g1
    obtain ⟨cl, rfl⟩ := hC
    refine ⟨.ref a, e0, a, CT cl, dx, us, vc, rfl, q1, hc cl, hn cl, q2, F, G, ρ, f, r0.1, r0.2, hs, h1, fun vs F' H' f' fp p => ?_⟩
    obtain ⟨k1, k2, k3⟩ := p.sp.st j nt
    have hx' := hx
    rw [get_eq k2, g0] at hx'
    obtain ⟨d1, z1, z2⟩ := hx'
    cases z1
    rw [g1] at z2; cases z2
    obtain ⟨dj, w1, w2⟩ := hx
    obtain ⟨v1, e1, rr1⟩ := p.st.get w1
    rw [e0] at e1; cases e1
    obtain ⟨w', fn', p1', p2', _⟩ := R.path _ rr1 (p.st.nd _) w2
    have hw : w' = vc := PathV.det (p1' H' fun _ _ => rfl) (p1 H' k3)
    rw [hw] at p2'
    exact hr F' G H' (x0 :: ds) (vc :: vs) d (RD.cons p2' (views_rd p.st p.vr h3)) p.st.wf p.st.wg h4 Q fun v F2 H2 fp2 al hr2 nd fr => hq v F2 H2 f' fp2 (p.made al hr2 nd fun x hx => .inr (fr x hx))
  · cases h2
theorem TI_opF2 {r : R2} {o : Op} {j : Nat} {n : Str} {a : PX} (hc : ∀ cl, Cls K (CT cl)) (hn : ∀ cl, NoAttr K (CT cl) n) (hr : OS K CT (fun vs H Q => ∃ x y, vs = [x, y] ∧ r x y H Q) o) (h : TI K CT Γ (.opF o j n [a]) σ H Q) :
    tOp r (tFld K (tVar j) n) (TI K CT Γ a) σ H Q := by
  obtain ⟨v, e0, z⟩ := TI_opF hc hn hr h
  refine ⟨v, e0, ?_⟩
  obtain ⟨a', C, dx, us, vc, e1, e2, e3, e4, e5, z⟩ := z
  refine ⟨a', C, dx, us, vc, e1, e2, e3, e4, e5, ?_⟩
  refine (TIs_cons z).imp fun y H1 z => ?_
  obtain ⟨x, y', e, z⟩ := TIs_nil z
  cases e
  exact z
end
end Pv

set_option Elab.async false
set_option linter.all false
set_option maxRecDepth 100000
set_option maxHeartbeats 1000000
namespace Pv
open PySem L2

section
variable {K : PySem.W.Frag} {CT : Nat → Addr} {N : Nat} {Γ : Fns} {σ : L2.St} {H : Hp} {Q : VK} {D : Ends}

theorem Rk.keys {F G : Hp} : ∀ (ks : List (Key × Pv.D)) {vs : List (Key × V)} {fp : List Addr}, Rk K CT F G H ks vs fp → vs.map Prod.fst = ks.map Prod.fst
  | [], _, _, h => by simp only [Rk] at h; rw [h.1]; rfl
  | (k, d) :: ks, _, _, h => by
    simp only [Rk] at h
    obtain ⟨v, vr, g1, g2, rfl, _, h2, _⟩ := h
    rw [List.map_cons, List.map_cons, Rk.keys ks h2]
theorem Rk.len {F G : Hp} (ks : List (Key × Pv.D)) {vs : List (Key × V)} {fp : List Addr} (h : Rk K CT F G H ks vs fp) : vs.length = ks.length := by
  have := congrArg List.length (Rk.keys ks h)
  rwa [List.length_map, List.length_map] at this
theorem putK_eq : ∀ (vs : List (Key × V)) (k : Key) (v : V), (vs.map Prod.fst).Nodup → putK vs k v = putA vs k v
  | [], _, _, _ => rfl
  | (k0, v0) :: vs, k, v, nd => by
    rw [List.map_cons] at nd
    obtain ⟨n1, n2⟩ := List.nodup_cons.mp nd
    have ih := putK_eq vs k v n2
    by_cases hk : k0 = k
    · subst hk
      rw [show putA ((k0, v0) :: vs) k0 v = (k0, v) :: vs from if_pos rfl]
      unfold putK
      rw [if_pos (by simp)]
      rw [List.map_cons, if_pos rfl]
      congr 1
      refine (List.map_congr_left fun p hp => ?_).trans (List.map_id _)
      rw [if_neg (fun e : p.1 = k0 => n1 (by rw [← e]; exact (List.mem_map_of_mem (f := Prod.fst) (a := p) hp)))]
      rfl
    · rw [show putA ((k0, v0) :: vs) k v = (k0, v0) :: putA vs k v from if_neg hk, ← ih]
      unfold putK
      rw [List.any_cons, decide_eq_false hk, Bool.false_or]
      split
      · rw [List.map_cons, if_neg hk]
      · rfl
theorem putF_fk (n : Str) (v : V) : ∀ fs : List (Str × V), (putF n v fs).map fk = putA (fs.map fk) (Sum.inr n) v
  | [] => rfl
  | (m, w) :: fs => by
    by_cases h : m = n
    · subst h
      rw [show putF m v ((m, w) :: fs) = (m, v) :: fs from if_pos rfl, List.map_cons, List.map_cons]
      rw [show putA (fk (m, w) :: fs.map fk) (Sum.inr m) v = (Sum.inr m, v) :: fs.map fk from if_pos rfl]
      rfl
    · rw [show putF n v ((m, w) :: fs) = (m, w) :: putF n v fs from if_neg h, List.map_cons, List.map_cons, putF_fk n v fs]
      rw [show putA (fk (m, w) :: fs.map fk) (Sum.inr n) v = fk (m, w) :: putA (fs.map fk) (Sum.inr n) v from if_neg fun z => h (Sum.inr.inj z)]
theorem Rk.put {F G : Hp} {x : Pv.D} {y : V} {fx : List Addr} (rx : R K CT F G H x y fx) (k : Key) : ∀ (ks : List (Key × Pv.D)) {vs : List (Key × V)} {fp : List Addr}, Rk K CT F G H ks vs fp → (fp ++ fx).Nodup →
    ∃ fp', Rk K CT F G H (putA ks k x) (putA vs k y) fp' ∧ fp'.Nodup ∧ ∀ a ∈ fp', a ∈ fp ∨ a ∈ fx
  | [], _, _, h, nd => by
    simp only [Rk] at h
    obtain ⟨rfl, rfl⟩ := h
    refine ⟨fx, ?_, nd, fun a ha => .inr ha⟩
    simp only [putA, Rk]
    exact ⟨y, [], fx, [], rfl, rx, ⟨rfl, rfl⟩, by simp⟩
  | (k0, d0) :: ks, _, _, h, nd => by
    simp only [Rk] at h
    obtain ⟨v, vr, g1, g2, rfl, h1, h2, rfl⟩ := h
    rw [List.append_assoc] at nd
    obtain ⟨n1, n2, n3⟩ := List.nodup_append.mp nd
    obtain ⟨m1, m2, m3⟩ := List.nodup_append.mp n2
    by_cases hk : k0 = k
    · rw [show putA ((k0, d0) :: ks) k x = (k0, x) :: ks from if_pos hk, show putA ((k0, v) :: vr) k y = (k0, y) :: vr from if_pos hk]
      refine ⟨fx ++ g2, ?_, List.nodup_append.mpr ⟨m2, m1, fun a ha b hb e => m3 b hb a ha e.symm⟩, fun a ha => ?_⟩
      · simp only [Rk]; exact ⟨y, vr, fx, g2, rfl, rx, h2, rfl⟩
      · rcases List.mem_append.mp ha with z | z
        · exact .inr z
        · exact .inl (List.mem_append_right _ z)
    · rw [show putA ((k0, d0) :: ks) k x = (k0, d0) :: putA ks k x from if_neg hk, show putA ((k0, v) :: vr) k y = (k0, v) :: putA vr k y from if_neg hk]
      obtain ⟨fp', w1, w2, w3⟩ := Rk.put rx k ks h2 n2
      refine ⟨g1 ++ fp', ?_, List.nodup_append.mpr ⟨n1, w2, fun a ha b hb e => ?_⟩, fun a ha => ?_⟩
      · simp only [Rk]; exact ⟨v, _, g1, fp', rfl, h1, w1, rfl⟩
      · subst e
        rcases w3 a hb with z | z
        · exact n3 a ha a (List.mem_append_left _ z) rfl
        · exact n3 a ha a (List.mem_append_right _ z) rfl
      · rcases List.mem_append.mp ha with z | z
        · exact .inl (List.mem_append_left _ z)
        · rcases w3 a z with z | z
          · exact .inl (List.mem_append_right _ z)
          · exact .inr z
theorem valA_keys {β : Type} (k : Key) : ∀ ks : List (Key × β), (valA ks k).isSome = true ↔ k ∈ ks.map Prod.fst
  | [] => by simp [valA]
  | (k0, d0) :: ks => by
    by_cases hk : k0 = k
    · simp [valA, List.find?_cons, hk]
    · rw [show valA ((k0, d0) :: ks) k = valA ks k by simp [valA, List.find?_cons, hk], valA_keys k ks]
      simp [Ne.symm hk]
theorem putA_nodup {β : Type} (k : Key) (x : β) : ∀ ks : List (Key × β), (ks.map Prod.fst).Nodup → ((putA ks k x).map Prod.fst).Nodup ∧ ∀ z ∈ (putA ks k x).map Prod.fst, z ∈ ks.map Prod.fst ∨ z = k
  | [], _ => by simp [putA]
  | (k0, d0) :: ks, nd => by
    rw [List.map_cons] at nd
    obtain ⟨n1, n2⟩ := List.nodup_cons.mp nd
    by_cases hk : k0 = k
    · rw [show putA ((k0, d0) :: ks) k x = (k0, x) :: ks from if_pos hk]
      exact ⟨by rw [List.map_cons]; exact nd, fun z hz => .inl hz⟩
    · rw [show putA ((k0, d0) :: ks) k x = (k0, d0) :: putA ks k x from if_neg hk]
      obtain ⟨w1, w2⟩ := putA_nodup k x ks n2
      refine ⟨?_, fun z hz => ?_⟩
      · rw [List.map_cons]
        refine List.nodup_cons.mpr ⟨fun z => ?_, w1⟩
        rcases w2 _ z with y | y
        · exact n1 y
        · exact hk y
      · rw [List.map_cons] at hz ⊢
        rcases List.mem_cons.mp hz with z1 | z1
        · exact .inl (z1 ▸ List.mem_cons_self)
        · rcases w2 z z1 with y | y
          · exact .inl (List.mem_cons_of_mem _ y)
          · exact .inr y
theorem key_v {F G : Hp} {kd : Pv.D} {y : V} {k : Key} {fp : List Addr} (ry : R K CT F G H kd y fp) (h4 : kd.key = some k) : y = kV k := by
  cases kd with
  | int i => simp only [Pv.D.key, Option.some.injEq] at h4; subst h4; simp only [R] at ry; exact ry.1
  | str s => simp only [Pv.D.key, Option.some.injEq] at h4; subst h4; simp only [R] at ry; exact ry.1
  | _ => simp [Pv.D.key] at h4

/-- the value, the place, the key, each from the last one's state -/
theorem store_run {p : Pl} {k e : PX} {T : Nat → Bool} {F G : Hp} {ρ : Env} {f : Nat → List Addr} {q kk : Rv × Env} {r : List Sk × Env} {x d d2 n n2 : Pv.D} {k3 : V → V → V → Hp → Prop} (hs : Ste K CT F G H ρ σ f)
    (h1 : ev Γ e ρ = some q) (h2 : evP Γ p q.2 = some r) (hg : get r.2 p.root = some d) (hp : getP d r.1 = some n) (h3 : ev Γ k r.2 = some kk) (h4 : q.1.take kk.2 = some x) (hsafe : p.safe = true) (ht : k.tch p.root = false)
    (hg2 : get kk.2 p.root = some d2) (hp2 : getP d2 r.1 = some n2)
    (T1 : ∀ i, T i = false → e.tch i = false) (T2 : ∀ i, T i = false → p.tch i = false) (T3 : ∀ i, T i = false → k.tch i = false) (T4 : T p.root = true)
    (hk : ∀ y w z F' H' f' fp v, Ste K CT F' G H' kk.2 σ f' → Stp T F H ρ f F' H' kk.2 f' → R K CT F' G H' x y fp → fp.Nodup → (∀ a ∈ fp, ∀ i, a ∉ f' i) → (∀ a ∈ fp, (∃ j, a ∈ f j) ∨ H a = none) →
      (∃ fz, VR K CT F' G H' σ kk.1 z fz) → σ[p.root]? = some (some v) → PathV H' v r.1 w → (∃ fn, R K CT F' G H' n2 w fn) → k3 y w z H') :
    TI K CT Γ e σ H fun y H1 => TPl K CT Γ p σ H1 fun w H2 => TI K CT Γ k σ H2 fun z H3 => k3 y w z H3 := by
  refine ⟨F, G, ρ, f, q.1, q.2, hs, h1, fun y F1 H1 f1 fp p1 => ?_⟩
  refine ⟨F1, G, q.2, f1, r.1, r.2, d, n, p1.st, h2, hg, hp, hsafe, fun F2 H2 f2 w s2 t2 ⟨v, ev', pv⟩ => ?_⟩
  refine ⟨F2, G, r.2, f2, kk.1, kk.2, s2, h3, fun z F3 H3 f3 fz p3 => ?_⟩
  have t02 := (p1.sp.mono T1).trans (t2.mono T2)
  have t03 := t02.trans (p3.sp.mono T3)
  have t13 := (t2.mono (T' := T) T2).trans (p3.sp.mono T3)
  have hy := VR.step t13 (vr1 p1.vr) p1.ap
  have rx := take_r p3.st hy h4
  have pv3 := PathV.stay s2 p3.sp ht hg hp ev' pv
  refine hk y w z F3 H3 f3 fp v p3.st t03 rx p1.nd (fun a ha i hi => ?_) p1.fr ⟨fz, vr1 p3.vr⟩ ev' pv3 (node_r p3.st hg2 hp2 ev' pv3)
  rcases t13.own i a hi with ⟨j, hj⟩ | hj
  · exact p1.ap a ha j hj
  · obtain ⟨⟨o, z1⟩, _⟩ := VR.own (vr1 p1.vr) a ha
    rw [hj] at z1; cases z1

/-- d[k] = e -/
theorem T1_setK {p : Pl} {k e : PX} (h : T1 K CT N Γ (.setK p k e) D σ H) : sDPut (TPl K CT Γ p) (TI K CT Γ k) (TI K CT Γ e) D σ H := by
  obtain ⟨F, G, ρ, f, ρ', fl, hs, he, hq⟩ := h
  simp only [exec, evN, nodeAt, Option.bind_eq_some_iff] at he
  obtain ⟨q, h1, r, ⟨r', h2, n, ⟨d, hg, hp⟩, hr⟩, kk, h3, x, h4, key, ⟨kd, h5, h6⟩, h7⟩ := he
  cases hr
  split at h7
  case isFalse => cases h7
  rename_i hsf
  simp only [Bool.and_eq_true, Bool.not_eq_true'] at hsf
  obtain ⟨hsafe, ht⟩ := hsf
  simp only [Option.bind_eq_some_iff, Option.some.injEq, Prod.mk.injEq, atP] at h7
  obtain ⟨ρ2, ⟨d2, hg2, n2, hp2, n3, hu, rfl⟩, rfl, rfl⟩ := h7
  refine store_run (T := (PS.setK p k e).tch) hs h1 h2 hg hp h3 h4 hsafe ht hg2 hp2 (fun i hi => ?_) (fun i hi => ?_) (fun i hi => ?_) (by simp [PS.tch]) fun y w z F' H' f' fp v s t rx nd ap fr ⟨fz, vz⟩ ev' pv ⟨fn, rn⟩ => ?_
  · simp only [PS.tch, Bool.or_eq_false_iff] at hi; exact hi.2
  · simp only [PS.tch, Bool.or_eq_false_iff] at hi; exact hi.1.1.2
  · simp only [PS.tch, Bool.or_eq_false_iff] at hi; exact hi.1.2
  · cases n2 with
    | dct m ks =>
      cases m with
      | own =>
        simp only [nodeSetK] at hu
        split at hu
        case isFalse => cases hu
        rename_i hlen
        cases hu
        obtain ⟨_, rz⟩ := view_r s vz h5
        have hz := key_v rz h6
        subst hz
        have rn0 := rn
        simp only [R] at rn
        obtain ⟨hkn, a, vs, fpn, rfl, hH, _, _, rk, _⟩ := rn
        have hvl := Rk.len ks rk
        have hvk : (vs.map Prod.fst).Nodup := by rw [Rk.keys ks rk]; exact hkn
        refine ⟨a, _, rfl, DPut.k hH (by rw [hvl]; exact Nat.lt_of_lt_of_le hlen line_big), ?_⟩
        obtain ⟨f2, s3, t3⟩ := upd_core (o' := .dK (putK vs key y)) (n' := .dct .own (putA ks key x)) (ex := fp) s t (by simp [PS.tch]) hg2 ev' hp2 pv ap fr (fun fn rn nd' hx => by
          simp only [R] at rn
          obtain ⟨_, a2, vs2, fp2, ea, e3, e4, e5, e6, rfl⟩ := rn
          cases ea
          rw [hH] at e3; cases e3
          obtain ⟨na, nd2⟩ := List.nodup_cons.mp nd'
          obtain ⟨fp3, w1, w2, w3⟩ := Rk.put rx key ks e6 (List.nodup_append.mpr ⟨nd2, nd, fun z hz y hy e => hx z (List.mem_cons_of_mem _ hz) (e ▸ hy)⟩)
          have na3 : a ∉ fp3 := fun z => by
            rcases w3 a z with z | z
            · exact na z
            · exact hx a List.mem_cons_self z
          refine ⟨List.mem_cons_self, a :: fp3, ?_, List.nodup_cons.mpr ⟨na3, w2⟩, fun z hz => ?_⟩
          · simp only [R]
            refine ⟨(putA_nodup key x ks hkn).1, a, _, fp3, rfl, upd_same, e4, e5, ?_, rfl⟩
            rw [putK_eq vs key y hvk]
            exact w1.up na3
          · rcases List.mem_cons.mp hz with rfl | hz
            · exact .inl List.mem_cons_self
            · rcases w3 z hz with z2 | z2
              · exact .inl (List.mem_cons_of_mem _ z2)
              · exact .inr z2)
        exact hq _ _ _ _ ⟨s3, t3, fun _ _ => rfl⟩
      | _ => cases hu
    | _ => cases hu
theorem Rs.set {F G : Hp} {x : Pv.D} {y : V} {fx : List Addr} (rx : R K CT F G H x y fx) : ∀ (ds : List Pv.D) {vs : List V} {fp : List Addr} (j : Nat), Rs K CT F G H ds vs fp → j < ds.length → (fp ++ fx).Nodup →
    ∃ fp', Rs K CT F G H (ds.set j x) (vs.set j y) fp' ∧ fp'.Nodup ∧ ∀ a ∈ fp', a ∈ fp ∨ a ∈ fx
  | [], _, _, j, h, hj, nd => absurd hj (Nat.not_lt_zero _)
  | d0 :: ds, _, _, j, h, hj, nd => by
    simp only [Rs] at h
    obtain ⟨v, vr, g1, g2, rfl, h1, h2, rfl⟩ := h
    rw [List.append_assoc] at nd
    obtain ⟨n1, n2, n3⟩ := List.nodup_append.mp nd
    obtain ⟨m1, m2, m3⟩ := List.nodup_append.mp n2
    cases j with
    | zero =>
      refine ⟨fx ++ g2, ?_, List.nodup_append.mpr ⟨m2, m1, fun a ha b hb e => m3 b hb a ha e.symm⟩, fun a ha => ?_⟩
      · simp only [List.set_cons_zero, Rs]; exact ⟨y, vr, fx, g2, rfl, rx, h2, rfl⟩
      · rcases List.mem_append.mp ha with z | z
        · exact .inr z
        · exact .inl (List.mem_append_right _ z)
    | succ j =>
      obtain ⟨fp', w1, w2, w3⟩ := Rs.set rx ds j h2 (Nat.lt_of_succ_lt_succ hj) n2
      refine ⟨g1 ++ fp', ?_, List.nodup_append.mpr ⟨n1, w2, fun a ha b hb e => ?_⟩, fun a ha => ?_⟩
      · simp only [List.set_cons_succ, Rs]; exact ⟨v, _, g1, fp', rfl, h1, w1, rfl⟩
      · subst e
        rcases w3 a hb with z | z
        · exact n3 a ha a (List.mem_append_left _ z) rfl
        · exact n3 a ha a (List.mem_append_right _ z) rfl
      · rcases List.mem_append.mp ha with z | z
        · exact .inl (List.mem_append_left _ z)
        · rcases w3 a z with z | z
          · exact .inl (List.mem_append_right _ z)
          · exact .inr z
/-- xs[i] = e -/
theorem T1_setL {p : Pl} {k e : PX} (h : T1 K CT N Γ (.setL p k e) D σ H) : tAsg (TI K CT Γ e) (gSub (TPl K CT Γ p) (TI K CT Γ k) rSetL) D σ H := by
  obtain ⟨F, G, ρ, f, ρ', fl, hs, he, hq⟩ := h
  simp only [exec, evN, nodeAt, Option.bind_eq_some_iff] at he
  obtain ⟨q, h1, r, ⟨r', h2, n, ⟨d, hg, hp⟩, hr⟩, kk, h3, x, h4, kd, h5, h7⟩ := he
  cases hr
  split at h7
  case isFalse => cases h7
  rename_i hsf
  simp only [Bool.and_eq_true, Bool.not_eq_true'] at hsf
  obtain ⟨hsafe, ht⟩ := hsf
  cases kd with
  | int i =>
    simp only [Option.bind_eq_some_iff, Option.some.injEq, Prod.mk.injEq, atP] at h7
    obtain ⟨ρ2, ⟨d2, hg2, n2, hp2, n3, hu, rfl⟩, rfl, rfl⟩ := h7
    refine store_run (T := (PS.setL p k e).tch) hs h1 h2 hg hp h3 h4 hsafe ht hg2 hp2 (fun i hi => ?_) (fun i hi => ?_) (fun i hi => ?_) (by simp [PS.tch]) fun y w z F' H' f' fp v s t rx nd ap fr ⟨fz, vz⟩ ev' pv ⟨fn, rn⟩ => ?_
    · simp only [PS.tch, Bool.or_eq_false_iff] at hi; exact hi.2
    · simp only [PS.tch, Bool.or_eq_false_iff] at hi; exact hi.1.1.2
    · simp only [PS.tch, Bool.or_eq_false_iff] at hi; exact hi.1.2
    · cases n2 with
      | lst m ds =>
        cases m with
        | own =>
          simp only [nodeSetL, Option.bind_eq_some_iff, Option.some.injEq] at hu
          obtain ⟨j, hj, rfl⟩ := hu
          obtain ⟨_, rz⟩ := view_r s vz h5
          simp only [R] at rz
          obtain ⟨rfl, _⟩ := rz
          simp only [R] at rn
          obtain ⟨a, vs, fpn, rfl, hH, _, _, rk, _⟩ := rn
          have hvl := Rs.len ds rk
          refine ⟨a, vs, i, j, rfl, rfl, hH, by rw [hvl]; exact hj, ?_⟩
          have hjl := (ixN_seq hj).2.1
          obtain ⟨f2, s3, t3⟩ := upd_core (o' := .lst (vs.set j y)) (n' := .lst .own (ds.set j x)) (ex := fp) s t (by simp [PS.tch]) hg2 ev' hp2 pv ap fr (fun fn rn nd' hx => by
            simp only [R] at rn
            obtain ⟨a2, vs2, fp2, ea, e3, e4, e5, e6, rfl⟩ := rn
            cases ea
            rw [hH] at e3; cases e3
            obtain ⟨na, nd2⟩ := List.nodup_cons.mp nd'
            obtain ⟨fp3, w1, w2, w3⟩ := Rs.set rx ds j e6 hjl (List.nodup_append.mpr ⟨nd2, nd, fun z hz y hy e => hx z (List.mem_cons_of_mem _ hz) (e ▸ hy)⟩)
            have na3 : a ∉ fp3 := fun z => by
              rcases w3 a z with z | z
              · exact na z
              · exact hx a List.mem_cons_self z
            refine ⟨List.mem_cons_self, a :: fp3, ?_, List.nodup_cons.mpr ⟨na3, w2⟩, fun z hz => ?_⟩
            · simp only [R]
              exact ⟨a, _, fp3, rfl, upd_same, e4, e5, w1.up na3, rfl⟩
            · rcases List.mem_cons.mp hz with rfl | hz
              · exact .inl List.mem_cons_self
              · rcases w3 z hz with z2 | z2
                · exact .inl (List.mem_cons_of_mem _ z2)
                · exact .inr z2)
          exact hq _ _ _ _ ⟨s3, t3, fun _ _ => rfl⟩
        | _ => cases hu
      | _ => cases hu
  | _ => cases h7
/-- o.n = e -/
theorem T1_setF {p : Pl} {n : Str} {e : PX} (hc : ∀ cl, Cls K (CT cl)) (hn : ∀ cl, NoAttr K (CT cl) n) (h : T1 K CT N Γ (.setF p n e) D σ H) : sFld K (TPl K CT Γ p) (TI K CT Γ e) n D σ H := by
  obtain ⟨F, G, ρ, f, ρ', fl, hs, he, hq⟩ := h
  simp only [exec, evN, nodeAt, Option.bind_eq_some_iff] at he
  obtain ⟨q, h1, r, ⟨r', h2, m, ⟨d, hg, hp⟩, hr⟩, x, h4, h7⟩ := he
  cases hr
  split at h7
  case isFalse => cases h7
  rename_i hsafe
  simp only [Option.bind_eq_some_iff, Option.some.injEq, Prod.mk.injEq, atP] at h7
  obtain ⟨ρ2, ⟨d2, hg2, n2, hp2, n3, hu, rfl⟩, rfl, rfl⟩ := h7
  rw [hg] at hg2; cases hg2
  rw [hp] at hp2; cases hp2
  refine ⟨F, G, ρ, f, q.1, q.2, hs, h1, fun y F1 H1 f1 fp p1 => ?_⟩
  refine ⟨F1, G, q.2, f1, r.1, r.2, d, m, p1.st, h2, hg, hp, hsafe, fun F2 H2 f2 w s2 t2 ⟨v, ev', pv⟩ => ?_⟩
  have t : Stp (PS.setF p n e).tch F H ρ f F2 H2 r.2 f2 := (p1.sp.mono fun i hi => ?_).trans (t2.mono fun i hi => ?_)
  · have hy := VR.step t2 (vr1 p1.vr) p1.ap
    have rx := take_r s2 hy h4
    have ap : ∀ a ∈ fp, ∀ i, a ∉ f2 i := fun a ha i hi => by
      rcases t2.own i a hi with ⟨j, hj⟩ | hj
      · exact p1.ap a ha j hj
      · obtain ⟨⟨o, z1⟩, _⟩ := VR.own (vr1 p1.vr) a ha
        rw [hj] at z1; cases z1
    obtain ⟨fn, rn⟩ := node_r s2 hg hp ev' pv
    cases m with
    | ins fl cl fs =>
      cases fl with
      | own =>
        simp only [nodeFld] at hu
        split at hu
        case isFalse => cases hu
        rename_i hlen
        cases hu
        simp only [R] at rn
        obtain ⟨a, dx, vs, fpn, rfl, hH, _, _, rk, _⟩ := rn
        have hvl := Rk.len fs rk
        rw [List.length_map] at hvl
        refine ⟨a, CT cl, dx, vs, rfl, hH, hc cl, hn cl, by omega, ?_⟩
        obtain ⟨f3, s3, t3⟩ := upd_core (o' := .ins (CT cl) dx (putF n y vs)) (n' := .ins .own cl (putA fs (Sum.inr n) x)) (ex := fp) s2 t (by simp [PS.tch]) hg ev' hp pv ap p1.fr (fun fn rn nd' hx => by
          simp only [R] at rn
          obtain ⟨a2, dx2, vs2, fp2, ea, e3, e4, e5, e6, rfl⟩ := rn
          cases ea
          rw [hH] at e3; cases e3
          obtain ⟨na, nd2⟩ := List.nodup_cons.mp nd'
          obtain ⟨fp3, w1, w2, w3⟩ := Rk.put rx (Sum.inr n) fs e6 (List.nodup_append.mpr ⟨nd2, p1.nd, fun z hz y hy e => hx z (List.mem_cons_of_mem _ hz) (e ▸ hy)⟩)
          have na3 : a ∉ fp3 := fun z => by
            rcases w3 a z with z | z
            · exact na z
            · exact hx a List.mem_cons_self z
          refine ⟨List.mem_cons_self, a :: fp3, ?_, List.nodup_cons.mpr ⟨na3, w2⟩, fun z hz => ?_⟩
          · simp only [R]
            refine ⟨a, dx, _, fp3, rfl, upd_same, e4, e5, ?_, rfl⟩
            rw [putF_fk]
            exact w1.up na3
          · rcases List.mem_cons.mp hz with rfl | hz
            · exact .inl List.mem_cons_self
            · rcases w3 z hz with z2 | z2
              · exact .inl (List.mem_cons_of_mem _ z2)
              · exact .inr z2)
        exact hq _ _ _ _ ⟨s3, t3, fun _ _ => rfl⟩
      | _ => cases hu
    | _ => cases hu
  · simp only [PS.tch, Bool.or_eq_false_iff] at hi; exact hi.2
  · simp only [PS.tch, Bool.or_eq_false_iff] at hi; exact hi.1.2
end
end Pv

set_option Elab.async false
set_option linter.all false
set_option maxRecDepth 100000
set_option maxHeartbeats 1000000
namespace Pv
open PySem L2

section
variable {K : PySem.W.Frag} {CT : Nat → Addr} {N : Nat} {Γ : Fns} {σ : L2.St} {H : Hp} {Q : VK} {D : Ends}

/-- a method of the list at a place, without arguments, that hands back None -/
theorem list0 {p : Pl} {o' : List V → HO} {u : Pv.D → Option Pv.D} {F G : Hp} {ρ ρ' : Env} {f : Nat → List Addr} {r : List Sk × Env} {T : Nat → Bool} {k : Addr → List V → Hp → Prop} (hs : Ste K CT F G H ρ σ f) (h1 : evL Γ p ρ = some r) (hsafe : p.safe = true)
    (h2 : atP r.2 p.root r.1 u = some ρ') (T1 : ∀ i, T i = false → p.tch i = false) (T2 : T p.root = true)
    (hu : ∀ (ds : List Pv.D) (n' : Pv.D), u (.lst .own ds) = some n' → ∃ ds', n' = .lst .own ds' ∧ ∀ (F G H : Hp) vs fp, Rs K CT F G H ds vs fp → fp.Nodup → ∃ xs' fp', o' vs = .lst xs' ∧ Rs K CT F G H ds' xs' fp' ∧ fp'.Nodup ∧ ∀ x ∈ fp', x ∈ fp)
    (hk : ∀ a vs F' H' f', H' a = some (.lst vs) → Ste K CT F' G (upd H' a (o' vs)) ρ' σ f' → Stp T F H ρ f F' (upd H' a (o' vs)) ρ' f' → k a vs H') :
    TPl K CT Γ p σ H fun x H1 => ∃ a vs, x = .ref a ∧ H1 a = some (.lst vs) ∧ k a vs H1 := by
  simp only [evL, nodeAt, Option.bind_eq_some_iff] at h1
  obtain ⟨r', h1, n, ⟨d, hg, hp⟩, hr⟩ := h1
  split at hr
  case isFalse => cases hr
  rename_i hisL
  cases hr
  simp only [atP, Option.bind_eq_some_iff, Option.some.injEq] at h2
  obtain ⟨d2, hg2, n2, hp2, n3, hu2, rfl⟩ := h2
  rw [hg] at hg2; cases hg2
  rw [hp] at hp2; cases hp2
  refine ⟨F, G, ρ, f, r.1, r.2, d, n, hs, h1, hg, hp, hsafe, fun F1 H1 f1 w s1 t1 ⟨v, ev', pv⟩ => ?_⟩
  obtain ⟨fn, rn⟩ := node_r s1 hg hp ev' pv
  obtain ⟨a, ds, vs, fp0, rfl, rfl, hH, rds, _⟩ := isL_ref rn hisL
  refine ⟨a, vs, rfl, hH, ?_⟩
  obtain ⟨ds', rfl, hds⟩ := hu ds n3 hu2
  obtain ⟨f', s3, t3⟩ := upd_core (o' := o' vs) (n' := .lst .own ds') (ex := []) s1 (t1.mono T1) T2 hg ev' hp pv (fun _ h => (nomatch h)) (fun _ h => (nomatch h)) (fun fn rn nd hx => by
    simp only [R] at rn
    obtain ⟨a2, vs2, fp2, ea, e3, e4, e5, e6, rfl⟩ := rn
    cases ea
    rw [hH] at e3; cases e3
    obtain ⟨na, nd2⟩ := List.nodup_cons.mp nd
    obtain ⟨xs', fp', z1, z2, z3, z4⟩ := hds _ _ _ vs fp2 e6 nd2
    have na' : a ∉ fp' := fun z => na (z4 a z)
    refine ⟨List.mem_cons_self, a :: fp', ?_, List.nodup_cons.mpr ⟨na', z3⟩, fun z hz => ?_⟩
    · simp only [R]
      exact ⟨a, xs', fp', rfl, by rw [upd_same, z1], e4, e5, z2.up na', rfl⟩
    · rcases List.mem_cons.mp hz with rfl | hz
      · exact .inl List.mem_cons_self
      · exact .inl (List.mem_cons_of_mem _ (z4 z hz)))
  exact hk a vs F1 H1 f' hH s3 t3
theorem Rs.rev {F G : Hp} : ∀ (ds : List Pv.D) {vs : List V} {fp : List Addr}, Rs K CT F G H ds vs fp → fp.Nodup → ∃ fp', Rs K CT F G H ds.reverse vs.reverse fp' ∧ fp'.Nodup ∧ (∀ x ∈ fp', x ∈ fp)
  | [], _, _, h, nd => by simp only [Rs] at h; obtain ⟨rfl, rfl⟩ := h; exact ⟨[], ⟨rfl, rfl⟩, nd, fun _ h => h⟩
  | d :: ds, _, _, h, nd => by
    simp only [Rs] at h
    obtain ⟨v, vr, g1, g2, rfl, h1, h2, rfl⟩ := h
    obtain ⟨n1, n2, n3⟩ := List.nodup_append.mp nd
    obtain ⟨fp', w1, w2, w3⟩ := Rs.rev ds h2 n2
    rw [List.reverse_cons, List.reverse_cons]
    refine ⟨fp' ++ g1, Rs.append _ w1 (R.one h1), List.nodup_append.mpr ⟨w2, n1, fun x hx y hy e => n3 y hy x (w3 x hx) e.symm⟩, fun x hx => ?_⟩
    rcases List.mem_append.mp hx with z | z
    · exact List.mem_append_right _ (w3 x z)
    · exact List.mem_append_left _ z
theorem TPl.imp {p : Pl} {Q Q' : VK} (h : TPl K CT Γ p σ H Q) (k : ∀ v H', Q v H' → Q' v H') : TPl K CT Γ p σ H Q' := by
  obtain ⟨F, G, ρ, f, ks, ρ', d, n, hs, he, hg, hp, hsafe, hq⟩ := h
  exact ⟨F, G, ρ, f, ks, ρ', d, n, hs, he, hg, hp, hsafe, fun F' H' f' w a b c => k _ _ (hq F' H' f' w a b c)⟩
theorem T1_clrL {p : Pl} (h : T1 K CT N Γ (.clrL p) D σ H) : tDrop (tBM0 K "list" rClear (TPl K CT Γ p)) D σ H := by
  obtain ⟨F, G, ρ, f, ρ', fl, hs, he, hq⟩ := h
  simp only [exec, Option.bind_eq_some_iff] at he
  obtain ⟨r, h1, h2⟩ := he
  split at h2
  case isFalse => cases h2
  rename_i hsafe
  simp only [Option.bind_eq_some_iff, Option.some.injEq, Prod.mk.injEq] at h2
  obtain ⟨ρ2, h3, rfl, rfl⟩ := h2
  refine TPl.imp (list0 (o' := fun _ => .lst []) (T := (PS.clrL p).tch) (k := fun a vs H1 => D.nx σ (upd H1 a (.lst []))) hs h1 hsafe h3 (fun i hi => ?_) (by simp [PS.tch]) (fun ds n' e => ?_) fun a vs F' H' f' _ s t => hq _ _ _ _ ⟨s, t, fun _ _ => rfl⟩) fun v H' ⟨a, vs, e, hH, k⟩ => ?_
  · simp only [PS.tch, Bool.or_eq_false_iff] at hi; exact hi.2
  · cases e
    exact ⟨[], rfl, fun _ _ _ vs fp _ _ => ⟨[], [], rfl, ⟨rfl, rfl⟩, List.nodup_nil, fun _ h => (nomatch h)⟩⟩
  · subst e
    exact ⟨.inl ⟨rfl, vs, SqL.of hH⟩, a, vs, rfl, rfl, hH, k⟩
theorem T1_revL {p : Pl} (h : T1 K CT N Γ (.revL p) D σ H) : tDrop (tBM0 K "list" rReverse (TPl K CT Γ p)) D σ H := by
  obtain ⟨F, G, ρ, f, ρ', fl, hs, he, hq⟩ := h
  simp only [exec, Option.bind_eq_some_iff] at he
  obtain ⟨r, h1, h2⟩ := he
  split at h2
  case isFalse => cases h2
  rename_i hsafe
  simp only [Option.bind_eq_some_iff, Option.some.injEq, Prod.mk.injEq] at h2
  obtain ⟨ρ2, h3, rfl, rfl⟩ := h2
  refine TPl.imp (list0 (o' := fun vs => .lst vs.reverse) (T := (PS.revL p).tch) (k := fun a vs H1 => D.nx σ (upd H1 a (.lst vs.reverse))) hs h1 hsafe h3 (fun i hi => ?_) (by simp [PS.tch]) (fun ds n' e => ?_) fun a vs F' H' f' _ s t => hq _ _ _ _ ⟨s, t, fun _ _ => rfl⟩) fun v H' ⟨a, vs, e, hH, k⟩ => ?_
  · simp only [PS.tch, Bool.or_eq_false_iff] at hi; exact hi.2
  · cases e
    exact ⟨_, rfl, fun F G H vs fp h nd => by
      obtain ⟨fp', w1, w2, w3⟩ := Rs.rev ds h nd
      exact ⟨_, fp', rfl, w1, w2, w3⟩⟩
  · subst e
    exact ⟨.inl ⟨rfl, vs, SqL.of hH⟩, a, vs, rfl, rfl, hH, k⟩
theorem T1_clrK {p : Pl} (h : T1 K CT N Γ (.clrK p) D σ H) : tDrop (tBM0 K "dict" rDClear (TPl K CT Γ p)) D σ H := by
  obtain ⟨F, G, ρ, f, ρ', fl, hs, he, hq⟩ := h
  simp only [exec, evK, nodeAt, Option.bind_eq_some_iff] at he
  obtain ⟨r, ⟨r', h1, n, ⟨d, hg, hp⟩, hr⟩, h2⟩ := he
  split at hr
  case isFalse => cases hr
  rename_i hisK
  cases hr
  split at h2
  case isFalse => cases h2
  rename_i hsafe
  simp only [Option.bind_eq_some_iff, Option.some.injEq, Prod.mk.injEq, atP] at h2
  obtain ⟨ρ2, ⟨d2, hg2, n2, hp2, n3, hu2, rfl⟩, rfl, rfl⟩ := h2
  rw [hg] at hg2; cases hg2
  rw [hp] at hp2; cases hp2
  refine ⟨F, G, ρ, f, r.1, r.2, d, n, hs, h1, hg, hp, hsafe, fun F1 H1 f1 w s1 t1 ⟨v, ev', pv⟩ => ?_⟩
  obtain ⟨fn, rn⟩ := node_r s1 hg hp ev' pv
  obtain ⟨a, ks, vs, fp0, rfl, rfl, hH, _, _⟩ := isK_ref rn hisK
  simp only [nodeClrK, Option.some.injEq] at hu2
  subst hu2
  refine ⟨.inr (.inr (.inl ⟨rfl, .inl ⟨vs, hH⟩⟩)), a, vs, rfl, rfl, hH, ?_⟩
  obtain ⟨f', s3, t3⟩ := upd_core (T := (PS.clrK p).tch) (o' := .dK []) (n' := .dct .own []) (ex := []) s1 (t1.mono fun i hi => by simp only [PS.tch, Bool.or_eq_false_iff] at hi; exact hi.2) (by simp [PS.tch]) hg ev' hp pv (fun _ h => (nomatch h)) (fun _ h => (nomatch h)) (fun fn rn nd hx => by
    simp only [R] at rn
    obtain ⟨_, a2, vs2, fp2, ea, e3, e4, e5, e6, rfl⟩ := rn
    cases ea
    refine ⟨List.mem_cons_self, [a], ?_, by simp, fun z hz => ?_⟩
    · simp only [R, Rk]
      exact ⟨by simp, a, [], [], rfl, upd_same, e4, e5, ⟨rfl, rfl⟩, rfl⟩
    · rw [List.mem_singleton.mp hz]; exact .inl List.mem_cons_self)
  exact hq _ _ _ _ ⟨s3, t3, fun _ _ => rfl⟩
/-- x.extend(e) -/
theorem T1_ext {p : Pl} {e : PX} (h : T1 K CT N Γ (.ext p e) D σ H) : tDrop (tBM K "list" rExtend (TPl K CT Γ p) (TIs K CT Γ [e])) D σ H := by
  obtain ⟨F, G, ρ, f, ρ', fl, hs, he, hq⟩ := h
  simp only [exec, evL, nodeAt, Option.bind_eq_some_iff] at he
  obtain ⟨r, ⟨r', h1, n, ⟨d, hg, hp⟩, hL⟩, q, h2, x, h3, h4⟩ := he
  split at hL
  case isFalse => cases hL
  rename_i hisL
  cases hL
  split at h4
  case isFalse => cases h4
  rename_i hsf
  simp only [Bool.and_eq_true, Bool.not_eq_true'] at hsf
  obtain ⟨hsafe, ht⟩ := hsf
  simp only [Option.bind_eq_some_iff, Option.some.injEq, Prod.mk.injEq, atP] at h4
  obtain ⟨ρ2, ⟨d2, hg2, n2, hp2, n3, hu, rfl⟩, rfl, rfl⟩ := h4
  refine ⟨F, G, ρ, f, r.1, r.2, d, n, hs, h1, hg, hp, hsafe, fun F1 H1 f1 w s1 t1 ⟨v, ev', pv⟩ => ?_⟩
  obtain ⟨fn, rn⟩ := node_r s1 hg hp ev' pv
  obtain ⟨a, ds, vs, fp0, rfl, rfl, hH, _, _⟩ := isL_ref rn hisL
  refine ⟨.inl ⟨rfl, vs, SqL.of hH⟩, F1, G, r.2, f1, [q.1], q.2, s1, by simp only [evs, h2, Option.bind_some], fun ys F2 H2 f2 fp p2 => ?_⟩
  have ht' : tchs [e] p.root = false := by simp only [tchs, Bool.or_false]; exact ht
  have e2 : get q.2 p.root = get r.2 p.root := get_eq (p2.sp.st _ ht').2.1
  rw [e2, hg] at hg2; cases hg2
  rw [hp] at hp2; cases hp2
  have pv2 := PathV.stay s1 p2.sp ht' hg hp ev' pv
  obtain ⟨fn2, rn2⟩ := node_r p2.st (e2.trans hg) hp ev' pv2
  obtain ⟨a', ds', vs', fp', hn, ea, hH2, rds, _⟩ := isL_ref rn2 hisL
  cases ea; cases hn
  obtain ⟨y, rfl, hy⟩ : ∃ y, ys = [y] ∧ VR K CT F2 G H2 σ q.1 y fp := by
    have z := p2.vr
    simp only [VRs] at z
    obtain ⟨y, _, g1, g2, rfl, z1, ⟨rfl, rfl⟩, rfl⟩ := z
    exact ⟨y, rfl, by rw [List.append_nil]; exact z1⟩
  obtain ⟨_, rx⟩ := view_r p2.st hy h3
  cases x with
  | lst m es =>
    simp only [nodeExt] at hu
    split at hu
    case isFalse => cases hu
    rename_i hlen
    cases hu
    have hvl : vs'.length = ds.length := Rs.len ds rds
    have hes : ∃ b ws G', y = .ref b ∧ H2 b = some (.lst ws) ∧ Rs K CT F2 G' H2 es ws [] ∧ WLe G' G := by
      cases m with
      | own =>
        simp only [R] at rx
        obtain ⟨b, ws, fp', e1, e2, _, _, e3, _⟩ := rx
        have := Rs.noOwn es e3 hlen.1
        subst this
        exact ⟨b, ws, G, e1, e2, e3, WLe.refl _⟩
      | frz =>
        simp only [R] at rx
        obtain ⟨⟨b, ws, e1, e2, e3⟩, _⟩ := rx
        exact ⟨b, ws, e0, e1, p2.st.wf.lst e2, e3, (HLe.e0 _).w⟩
      | bor =>
        simp only [R] at rx
        obtain ⟨⟨b, ws, e1, e2, e3⟩, _⟩ := rx
        exact ⟨b, ws, G, e1, p2.st.wg.lst e2, e3, WLe.refl _⟩
    obtain ⟨b, ws, G', rfl, hb, res, wl⟩ := hes
    have hwl : ws.length = es.length := Rs.len es res
    refine ⟨a, b, vs', ws, rfl, rfl, hH2, hb, by rw [hvl, hwl]; exact Nat.le_trans (Nat.le_of_lt hlen.2) line_big, ?_⟩
    have t2 : Stp (PS.ext p e).tch F H ρ f F2 H2 q.2 f2 := (t1.mono fun i hi => ?_).trans (p2.sp.mono fun i hi => ?_)
    · obtain ⟨f', s3, t3⟩ := upd_core (o' := .lst (vs' ++ ws)) (n' := .lst .own (ds ++ es)) (ex := []) p2.st t2 (by simp [PS.tch]) (e2.trans hg) ev' hp pv2 (fun _ h => (nomatch h)) (fun _ h => (nomatch h)) (fun fn rn nd hx => by
        simp only [R] at rn
        obtain ⟨a2, vs2, fp2, ea, e3, e4, e5, e6, rfl⟩ := rn
        cases ea
        rw [hH2] at e3; cases e3
        obtain ⟨na, nd2⟩ := List.nodup_cons.mp nd
        refine ⟨List.mem_cons_self, a :: (fp2 ++ []), ?_, by rw [List.append_nil]; exact nd, fun z hz => .inl (by rw [List.append_nil] at hz; exact hz)⟩
        simp only [R]
        exact ⟨a, _, _, rfl, upd_same, e4, e5, Rs.append ds (e6.up na) (Rs.mono (HLe.refl _) es wl (by intro _ h; cases h) res), rfl⟩)
      exact hq _ _ _ _ ⟨s3, t3, fun _ _ => rfl⟩
    · simp only [PS.tch, Bool.or_eq_false_iff] at hi; exact hi.1.2
    · simp only [PS.tch, Bool.or_eq_false_iff] at hi; simp only [tchs, Bool.or_false]; exact hi.2
  | _ => cases hu
theorem T1_expr {e : PX} (h : T1 K CT N Γ (.expr e) D σ H) : tDrop (TI K CT Γ e) D σ H := by
  obtain ⟨F, G, ρ, f, ρ', fl, hs, he, hq⟩ := h
  simp only [exec, Option.bind_eq_some_iff, Option.some.injEq, Prod.mk.injEq] at he
  obtain ⟨r, h1, rfl, rfl⟩ := he
  exact ⟨F, G, ρ, f, r.1, r.2, hs, h1, fun v F1 H1 f1 fp p => hq _ _ _ _ ⟨p.st, p.sp.mono fun i hi => hi, fun _ _ => rfl⟩⟩
theorem T1_ret {e : PX} (h : T1 K CT N Γ (.ret e) D σ H) : tRet (TI K CT Γ e) D σ H := by
  obtain ⟨F, G, ρ, f, ρ', fl, hs, he, hq⟩ := h
  simp only [exec, Option.bind_eq_some_iff, Option.some.injEq, Prod.mk.injEq] at he
  obtain ⟨r, h1, d, h2, rfl, rfl⟩ := he
  exact ⟨F, G, ρ, f, r.1, r.2, hs, h1, fun v F1 H1 f1 fp p => hq σ _ _ _ ⟨p.st, p.sp.mono fun i hi => hi, fun _ _ => rfl⟩ v fp (take_r p.st (vr1 p.vr) h2) p.nd fun a ha => ⟨p.ap a ha, p.fr a ha⟩⟩
theorem T1_retN (h : T1 K CT N Γ .retN D σ H) : tRetN D σ H := by
  obtain ⟨F, G, ρ, f, ρ', fl, hs, he, hq⟩ := h
  simp only [exec, Option.some.injEq, Prod.mk.injEq] at he
  obtain ⟨rfl, rfl⟩ := he
  exact hq σ _ _ _ (Sst.refl hs) .non [] (by simp only [R, and_self]) List.nodup_nil fun _ h => (nomatch h)
theorem T1_pass (h : T1 K CT N Γ .pass D σ H) : tNext D σ H := by
  obtain ⟨F, G, ρ, f, ρ', fl, hs, he, hq⟩ := h
  simp only [exec, Option.some.injEq, Prod.mk.injEq] at he
  obtain ⟨rfl, rfl⟩ := he
  exact hq σ _ _ _ (Sst.refl hs)
theorem T1_brk (h : T1 K CT N Γ .brk D σ H) : tBreak D σ H := by
  obtain ⟨F, G, ρ, f, ρ', fl, hs, he, hq⟩ := h
  simp only [exec, Option.some.injEq, Prod.mk.injEq] at he
  obtain ⟨rfl, rfl⟩ := he
  exact hq σ _ _ _ (Sst.refl hs)
theorem T1_cnt (h : T1 K CT N Γ .cnt D σ H) : tCont D σ H := by
  obtain ⟨F, G, ρ, f, ρ', fl, hs, he, hq⟩ := h
  simp only [exec, Option.some.injEq, Prod.mk.injEq] at he
  obtain ⟨rfl, rfl⟩ := he
  exact hq σ _ _ _ (Sst.refl hs)
theorem T1_never {t : TS} (h : T1 K CT N Γ .never D σ H) : t D σ H := by
  obtain ⟨F, G, ρ, f, ρ', fl, hs, he, hq⟩ := h
  simp [exec] at he
theorem T1_pre {j : Nat} {ns : List Str} {p : PS} (h : T1 K CT N Γ (.pre j ns p) D σ H) : T1 K CT N Γ p D σ H := by
  obtain ⟨F, G, ρ, f, ρ', fl, hs, he, hq⟩ := h
  simp only [exec, Option.bind_eq_some_iff] at he
  obtain ⟨ρ1, h1, h2⟩ := he
  obtain ⟨F1, f1, s1, t1⟩ := hs.freeze h1 (PS.pre j ns p).tch (by simp [PS.tch])
  have ss : Sst K CT (PS.pre j ns p).tch (PS.pre j ns p).asd F G H ρ σ f F1 H ρ1 σ f1 := ⟨s1, t1, fun _ _ => rfl⟩
  refine ⟨F1, G, ρ1, f1, ρ', fl, s1, h2, fun σ2 F2 H2 f2 s2 => Ends.back ss (hq σ2 F2 H2 f2 (ss.trans (s2.mono (fun i hi => ?_) fun i hi => ?_)))⟩
  · simp only [PS.tch, Bool.or_eq_false_iff] at hi; exact hi.2
  · simp only [PS.asd] at hi; exact hi
theorem T1_ife {c : PX} {a b : List PS} (h : T1 K CT N Γ (.ife c a b) D σ H) : tIfS (TB K CT Γ c) (TS_ K CT N Γ a) (TS_ K CT N Γ b) D σ H := by
  obtain ⟨F, G, ρ, f, ρ', fl, hs, he, hq⟩ := h
  simp only [exec, Option.bind_eq_some_iff] at he
  obtain ⟨q, ⟨r, h1, h2⟩, h3⟩ := he
  refine ⟨F, G, ρ, f, r.1, r.2, hs, h1, fun v F1 H1 f1 fp1 p => ?_⟩
  obtain ⟨rfl, e2⟩ := asB_v p h2
  refine ⟨q.1, rfl, ?_⟩
  have ss : Sst K CT (PS.ife c a b).tch (PS.ife c a b).asd F G H ρ σ f F1 H1 r.2 σ f1 := ⟨p.st, p.sp.mono fun i hi => by simp only [PS.tch, Bool.or_eq_false_iff] at hi; exact hi.1.1, fun _ _ => rfl⟩
  rw [e2] at h3
  cases hk : q.1 with
  | true =>
    rw [hk] at h3
    simp only [if_true] at h3 ⊢
    refine ⟨F1, G, r.2, f1, ρ', fl, p.st, h3, fun σ2 F2 H2 f2 s2 => Ends.back ss (hq σ2 F2 H2 f2 (ss.trans (s2.mono (fun i hi => ?_) fun i hi => ?_)))⟩
    · simp only [PS.tch, Bool.or_eq_false_iff] at hi; exact hi.1.2
    · simp only [PS.asd, Bool.or_eq_false_iff] at hi; exact hi.1
  | false =>
    rw [hk] at h3
    simp only [Bool.false_eq_true, if_false] at h3 ⊢
    refine ⟨F1, G, r.2, f1, ρ', fl, p.st, h3, fun σ2 F2 H2 f2 s2 => Ends.back ss (hq σ2 F2 H2 f2 (ss.trans (s2.mono (fun i hi => ?_) fun i hi => ?_)))⟩
    · simp only [PS.tch, Bool.or_eq_false_iff] at hi; exact hi.2
    · simp only [PS.asd, Bool.or_eq_false_iff] at hi; exact hi.2
/-- a, b = e -/
theorem gNames {js : List Nat} {vs : List V} {σ : L2.St} {Q : L2.St → Hp → Prop} (gs : TGs) (hg : gs = (js.foldr (fun j t => gCons (gName j) t) gNil)) (hl : js.length = vs.length) (q : Q (setV js vs σ) H) : gs vs σ H Q := by
  subst hg
  induction js generalizing vs σ with
  | nil =>
    cases vs with
    | nil => exact ⟨rfl, q⟩
    | cons _ _ => cases hl
  | cons j js ih =>
    cases vs with
    | nil => cases hl
    | cons v vs => exact ⟨v, vs, rfl, ih (Nat.succ.inj hl) q⟩
theorem setAt_tch : ∀ {js : List Nat} {i : Nat}, js.contains i = false → i ∉ js := fun h z => by rw [List.contains_iff_mem.mpr z] at h; cases h
theorem T1_asgt {js : List Nat} {e : PX} {n : Nat} (hn : js.length = n) (h : T1 K CT N Γ (.asgt js e) D σ H) : tAsg (TI K CT Γ e) (gTup K n (js.foldr (fun j t => gCons (gName j) t) gNil)) D σ H := by
  obtain ⟨F, G, ρ, f, ρ', fl, hs, he, hq⟩ := h
  simp only [exec, Option.bind_eq_some_iff] at he
  obtain ⟨r, h1, d, h2, h3⟩ := he
  cases d with
  | tup ds =>
    simp only [Option.bind_eq_some_iff, Option.some.injEq, Prod.mk.injEq] at h3
    obtain ⟨ρ2, h4, rfl, rfl⟩ := h3
    refine ⟨F, G, ρ, f, r.1, r.2, hs, h1, fun v F1 H1 f1 fp p => ?_⟩
    obtain ⟨_, rr⟩ := view_r p.st (vr1 p.vr) h2
    simp only [R] at rr
    obtain ⟨⟨a, vs, rfl, hF, rs⟩, _⟩ := rr
    have hl := Rs.len ds rs
    have hjl := setAt_len h4
    refine ⟨a, vs, rfl, SqT.of (p.st.wf.tup hF), by rw [hl, ← hjl, hn], gNames _ rfl (by rw [hl, hjl]) ?_⟩
    obtain ⟨f2, s2, t2, g2⟩ := Ste.bindN (T := (PS.asgt js e).tch) (vs := vs) p.st (fun j hj => by simp only [PS.tch, List.contains_iff_mem.mpr hj, Bool.true_or]) (Rs.mono (HLe.refl _) ds (HLe.e0 _).w (fun _ h => nomatch h) rs) h4
    exact hq _ _ _ _ ⟨s2, (p.sp.mono fun i hi => by simp only [PS.tch, Bool.or_eq_false_iff] at hi; exact hi.2).trans t2, fun i hi => g2 i (setAt_tch (by simpa [PS.asd] using hi))⟩
  | _ => cases h3
end
end Pv

set_option Elab.async false
set_option linter.all false
set_option maxRecDepth 100000
set_option maxHeartbeats 1000000
namespace Pv
open PySem L2

theorem wipe_get (σ : L2.St) : ∀ (js : List Nat) (i : Nat), (wipe σ js)[i]? = if i ∈ js then (σ[i]?).map (fun _ => none) else σ[i]?
  | [], i => by simp [wipe]
  | j :: js, i => by
    unfold wipe
    by_cases h : j = i
    · subst h
      rw [if_pos List.mem_cons_self, List.getElem?_set]
      simp only [if_pos, wipe_length]
      by_cases hj : j < σ.length
      · rw [if_pos hj, List.getElem?_eq_getElem hj]; rfl
      · rw [if_neg hj, List.getElem?_eq_none (by omega)]; rfl
    · rw [List.getElem?_set_ne h, wipe_get σ js i]
      simp [Ne.symm h]
theorem wipeE_get (ρ : Env) : ∀ (js : List Nat) (i : Nat), (wipeE ρ js)[i]? = if i ∈ js then (ρ[i]?).map (fun _ => none) else ρ[i]?
  | [], i => by simp [wipeE]
  | j :: js, i => by
    have hl : ∀ (js : List Nat), (wipeE ρ js).length = ρ.length := fun js => by
      induction js with
      | nil => rfl
      | cons k ks ih => unfold wipeE; rw [List.length_set, ih]
    unfold wipeE
    by_cases h : j = i
    · subst h
      rw [if_pos List.mem_cons_self, List.getElem?_set]
      simp only [if_pos, hl]
      by_cases hj : j < ρ.length
      · rw [if_pos hj, List.getElem?_eq_getElem hj]; rfl
      · rw [if_neg hj, List.getElem?_eq_none (by omega)]; rfl
    · rw [List.getElem?_set_ne h, wipeE_get ρ js i]
      simp [Ne.symm h]
theorem wipeE_len (ρ : Env) : ∀ (js : List Nat), (wipeE ρ js).length = ρ.length
  | [] => rfl
  | j :: js => by unfold wipeE; rw [List.length_set, wipeE_len ρ js]
theorem backE_len (ρ ρ0 : Env) : ∀ (js : List Nat), (backE ρ ρ0 js).length = ρ.length
  | [] => rfl
  | j :: js => by unfold backE; rw [List.length_set, backE_len ρ ρ0 js]
theorem backE_get (ρ ρ0 : Env) : ∀ (js : List Nat) (i : Nat), (backE ρ ρ0 js)[i]? = if i ∈ js then (ρ[i]?).map (fun _ => get ρ0 i) else ρ[i]?
  | [], i => by simp [backE]
  | j :: js, i => by
    unfold backE
    by_cases h : j = i
    · subst h
      rw [if_pos List.mem_cons_self, List.getElem?_set]
      simp only [if_pos, backE_len]
      by_cases hj : j < ρ.length
      · rw [if_pos hj, List.getElem?_eq_getElem hj]; rfl
      · rw [if_neg hj, List.getElem?_eq_none (by omega)]; rfl
    · rw [List.getElem?_set_ne h, backE_get ρ ρ0 js i]
      simp [Ne.symm h]
theorem setV_len : ∀ (js : List Nat) (vs : List V) (σ : L2.St), (setV js vs σ).length = σ.length
  | [], _, _ => by simp [setV]
  | _ :: _, [], _ => by simp [setV]
  | j :: js, v :: vs, σ => by simp only [setV]; rw [setV_len js vs, List.length_set]
theorem setV_off : ∀ (js : List Nat) (vs : List V) (σ : L2.St) (i : Nat), i ∉ js → (setV js vs σ)[i]? = σ[i]?
  | [], _, _, _, _ => by simp [setV]
  | _ :: _, [], _, _, _ => by simp [setV]
  | j :: js, v :: vs, σ, i, h => by
    simp only [setV]
    rw [setV_off js vs _ i fun z => h (List.mem_cons_of_mem _ z), List.getElem?_set_ne (fun z : j = i => h (by rw [← z]; exact List.mem_cons_self))]
theorem wipe_setV (js : List Nat) (vs : List V) (σ : L2.St) : wipe (setV js vs (wipe σ js)) js = wipe σ js := by
  refine List.ext_getElem? fun i => ?_
  rw [wipe_get, wipe_get]
  by_cases h : i ∈ js
  · rw [if_pos h, if_pos h]
    have e1 := setV_len js vs (wipe σ js)
    rw [wipe_length] at e1
    by_cases hi : i < σ.length
    · rw [List.getElem?_eq_getElem hi, List.getElem?_eq_getElem (by omega)]; rfl
    · rw [List.getElem?_eq_none (by omega), List.getElem?_eq_none (by omega)]
  · rw [if_neg h, if_neg h, setV_off js vs _ i h, wipe_get, if_neg h]

section
variable {K : PySem.W.Frag} {CT : Nat → Addr} {N : Nat} {Γ : Fns} {σ : L2.St} {H : Hp} {Q : VK} {D : Ends}

theorem Ste.wipe {F G : Hp} {ρ : Env} {f : Nat → List Addr} (s : Ste K CT F G H ρ σ f) (js : List Nat) : Ste K CT F G H (wipeE ρ js) (wipe σ js) (fun i => if i ∈ js then [] else f i) := by
  refine ⟨by rw [wipe_length, wipeE_len]; exact s.len, fun i d e => ?_, fun i => ?_, fun i k a h1 h2 => ?_, fun i h => ?_, s.wf, s.wg⟩
  · rw [wipeE_get] at e
    split at e
    · cases e1 : ρ[i]? <;> rw [e1] at e <;> cases e
    · rename_i hi
      obtain ⟨v, h1, h2⟩ := s.at_ i d e
      rw [if_neg hi]
      exact ⟨v, by rw [wipe_get, if_neg hi]; exact h1, h2⟩
  · split
    · exact List.nodup_nil
    · exact s.nd i
  · split at h1
    · cases h1
    · split at h2
      · cases h2
      · exact s.dj i k a h1 h2
  · split
    · rfl
    · rename_i hi
      refine s.em i fun d e => h d ?_
      rw [wipeE_get, if_neg hi]; exact e
theorem Stp.wipe {T : Nat → Bool} {F0 H0 F' H' : Hp} {ρ ρ' : Env} {f f' : Nat → List Addr} (s : Stp T F0 H0 ρ f F' H' ρ' f') {js : List Nat} (hT : ∀ j ∈ js, T j = true) : Stp T F0 H0 ρ f F' H' (wipeE ρ' js) (fun i => if i ∈ js then [] else f' i) := by
  refine ⟨s.le, s.keep, s.new, fun i a ha => ?_, fun i hi => ?_, s.live⟩
  · split at ha
    · cases ha
    · exact s.own i a ha
  · have hn : i ∉ js := fun z => by rw [hT i z] at hi; cases hi
    obtain ⟨a1, a2, a3⟩ := s.st i hi
    exact ⟨(if_neg hn).trans a1, by rw [wipeE_get, if_neg hn]; exact a2, a3⟩
theorem freeAt_iff {ρ : Env} : ∀ {js : List Nat}, freeAt ρ js = true → ∀ j ∈ js, ∀ d, get ρ j = some d → d.noOwn = true
  | [], _, j, h, _, _ => by cases h
  | k :: ks, h, j, hj, d, e => by
    simp only [freeAt, Bool.and_eq_true] at h
    rcases List.mem_cons.mp hj with rfl | hj
    · rw [e] at h; exact h.1
    · exact freeAt_iff h.2 j hj d e
/-- behind a comprehension its own names stand as before -/
theorem Ste.restore {F0 G H0 F1 H1 : Hp} {ρ0 ρ1 : Env} {f0 f1 : Nat → List Addr} {js : List Nat} {σw : L2.St} (s0 : Ste K CT F0 G H0 ρ0 σ f0) (s1 : Ste K CT F1 G H1 ρ1 σw f1) (hw : ∀ i, i ∉ js → σw[i]? = σ[i]?) (hl : ρ1.length = ρ0.length) (hF : HLe F0 F1) (hf : freeAt ρ0 js = true) :
    Ste K CT F1 G H1 (backE ρ1 ρ0 js) σ (fun i => if i ∈ js then [] else f1 i) := by
  refine ⟨by rw [backE_len, hl]; exact s0.len, fun i d e => ?_, fun i => ?_, fun i k a h1 h2 => ?_, fun i h => ?_, s1.wf, s1.wg⟩
  · rw [backE_get] at e
    split at e
    · rename_i hi
      have e2 : Pv.get ρ0 i = some d := by
        cases e1 : ρ1[i]? with
        | none => rw [e1] at e; cases e
        | some o => rw [e1] at e; exact Option.some.inj e
      obtain ⟨v, h1, h2⟩ := s0.get e2
      have hno := freeAt_iff hf i hi d e2
      have z := h2.noOwn hno
      rw [z] at h2
      rw [if_pos hi]
      exact ⟨v, h1, R.mono hF d (WLe.refl G) (fun _ h => nomatch h) h2⟩
    · rename_i hi
      obtain ⟨v, h1, h2⟩ := s1.at_ i d e
      rw [if_neg hi]
      exact ⟨v, (hw i hi) ▸ h1, h2⟩
  · split
    · exact List.nodup_nil
    · exact s1.nd i
  · split at h1
    · cases h1
    · split at h2
      · cases h2
      · exact s1.dj i k a h1 h2
  · split
    · rfl
    · rename_i hi
      refine s1.em i fun d e => h d ?_
      rw [backE_get, if_neg hi]; exact e

structure Wk (K : PySem.W.Frag) (CT : Nat → Addr) (F G H0 : Hp) (S : List Addr) (J : It) (g : TG) (js : List Nat) (els : List (List Pv.D)) : Prop where
  go : ∀ i H, (∀ a ∈ S, H a = H0 a) → i < els.length → J.go i H
  st : ∀ i H, (∀ a ∈ S, H a = H0 a) → els.length ≤ i → J.stop i H
  yl : ∀ i H x H' xs (σ : L2.St) (P : L2.St → Hp → Prop), (∀ a ∈ S, H a = H0 a) → WLe F H → els[i]? = some xs → J.yld i H x H' → js.length = xs.length →
    (∀ vs H'', HLe H H'' → Rs K CT F G H0 xs vs [] → P (setV js vs σ) H'') → g x σ H' P
/-- an iterable's reading leads to a walk -/
def WI (K : PySem.W.Frag) (CT : Nat → Addr) (Γ : Fns) (wi : L2.TI) (g : TG) (js : List Nat) (ik : IK) (ies : List PX) : Prop :=
  ∀ (T : Nat → Bool) (σ : L2.St) (H : Hp) (Rp : It → Hp → Prop) F G ρ f rvs ρ' ds els, Ste K CT F G H ρ σ f → evs Γ ies ρ = some (rvs, ρ') → views ρ' rvs = some ds → iterS ik ds = some els → okIt ρ' T rvs = true →
    (∀ J F' H' f' S, Pst K CT (tchs ies) F G H ρ σ f ρ' [] [] F' H' f' [] → Wk K CT F' G H' S J g js els → (∀ a ∈ S, (∃ o, H' a = some o) ∧ ∀ i, T i = true → a ∉ f' i) → Rp J H') → wi σ H Rp

theorem Stp.agree {T : Nat → Bool} {F F' H' : Hp} {ρ ρ' : Env} {f f' : Nat → List Addr} (s : Stp T F H ρ f F' H' ρ' f') {S : List Addr} (hS : ∀ a ∈ S, (∃ o, H a = some o) ∧ ∀ i, T i = true → a ∉ f i) : ∀ a ∈ S, H' a = H a := fun a ha => by
  obtain ⟨⟨o, h1⟩, h2⟩ := hS a ha
  by_cases h : ∃ i, a ∈ f i
  · obtain ⟨i, hi⟩ := h
    cases hT : T i with
    | true => exact absurd hi (h2 i hT)
    | false => exact (s.st i hT).2.2 a hi
  · rw [s.keep a o h1 fun i hi => h ⟨i, hi⟩, h1]
theorem HLe.alo {F H H' : Hp} (h : HLe H H') : Alo F H F H' := ⟨HLe.refl _, h, fun _ z => .inl z, fun w => w.trans_h h⟩

/-- the core: at one state -/
theorem for_core {js : List Nat} {ik : IK} {ies : List PX} {b : List PS} {wi : L2.TI} {g : TG} {F G : Hp} {ρ ρ' : Env} {f : Nat → List Addr} {fl : Flw} {r : List Rv × Env} {els : List (List Pv.D)}
    (h4 : forL js (fun ρ => execs N Γ b ρ) els r.2 = some (ρ', fl))
    (hw : ∀ Rp : It → Hp → Prop, (∀ J F' H' f' S, Pst K CT (tchs ies) F G H ρ σ f r.2 [] [] F' H' f' [] → Wk K CT F' G H' S J g js els → (∀ a ∈ S, (∃ o, H' a = some o) ∧ ∀ i, (tchS b i || js.contains i) = true → a ∉ f' i) → Rp J H') → wi σ H Rp)
    (hq : ∀ σ' F' H' f', Sst K CT (PS.for_ js ik ies b).tch (PS.for_ js ik ies b).asd F G H ρ σ f F' H' ρ' σ' f' → Ends.at_ K CT D G H f F' H' σ' f' fl) : tFor wi g (TS_ K CT N Γ b) D σ H := by
  refine hw _ fun J F' H' f' S p wk hS => ?_
  have hT : ∀ i, (tchS b i || js.contains i) = (fun i => tchS b i || js.contains i) i := fun _ => rfl
  -- the invariant
  refine ⟨fun i m σ1 H1 => m = els.length - i ∧ i ≤ els.length ∧ ∃ F1 ρ1 f1, Sst K CT (fun i => tchS b i || js.contains i) (fun i => asdS b i || js.contains i) F' G H' r.2 σ f' F1 H1 ρ1 σ1 f1 ∧ forL js (fun ρ => execs N Γ b ρ) (els.drop i) ρ1 = some (ρ', fl),
    ⟨els.length, by omega, Nat.zero_le _, F', r.2, f', Sst.refl p.st, h4⟩, fun i m σ1 H1 ⟨hm, hi, F1, ρ1, f1, s1, e1⟩ => ?_⟩
  have hagree := s1.sp.agree hS
  have fin : ∀ {σ2 F2 H2 f2}, Sst K CT (fun i => tchS b i || js.contains i) (fun i => asdS b i || js.contains i) F' G H' r.2 σ f' F2 H2 ρ' σ2 f2 → Ends.at_ K CT D G H f F2 H2 σ2 f2 fl := fun s2 => hq _ _ _ _ ⟨s2.st, (p.sp.mono fun i hi => by simp only [PS.tch, Bool.or_eq_false_iff] at hi; exact hi.1.2).trans (s2.sp.mono fun i hi => by simp only [PS.tch, Bool.or_eq_false_iff] at hi; simp only [hi.2, hi.1.1, Bool.or_self]), fun i hi => s2.sg i (by
    simp only [PS.asd, Bool.or_eq_false_iff] at hi; simp only [hi.2, hi.1, Bool.or_self])⟩
  have ss0 : Sst K CT (PS.for_ js ik ies b).tch (PS.for_ js ik ies b).asd F G H ρ σ f F' H' r.2 σ f' := ⟨p.st, p.sp.mono fun i hi => by simp only [PS.tch, Bool.or_eq_false_iff] at hi; exact hi.1.2, fun _ _ => rfl⟩
  by_cases hlt : i < els.length
  · refine .inr ⟨wk.go i H1 hagree hlt, fun σ2 H2 => ∃ F2 ρ2 f2, Sst K CT (fun i => tchS b i || js.contains i) (fun i => asdS b i || js.contains i) F' G H' r.2 σ f' F2 H2 ρ2 σ2 f2 ∧ forL js (fun ρ => execs N Γ b ρ) (els.drop (i + 1)) ρ2 = some (ρ', fl), fun σ2 H2 ⟨F2, ρ2, f2, s2, e2⟩ => ⟨els.length - (i + 1), by omega, rfl, hlt, F2, ρ2, f2, s2, e2⟩, fun x Hx hy => ?_⟩
    rw [List.drop_eq_getElem_cons hlt] at e1
    simp only [forL, Option.bind_eq_some_iff] at e1
    obtain ⟨ρa, e2, q, e3, e4⟩ := e1
    refine wk.yl i H1 x Hx els[i] σ1 _ hagree (WLe.h_trans s1.sp.le s1.st.wf) (List.getElem?_eq_getElem hlt) hy (setAt_len e2) fun vs H2 hle rs => ?_
    have sA := s1.st.alo hle.alo
    obtain ⟨fb, sB, tB, gB⟩ := Ste.bindN (T := fun i => tchS b i || js.contains i) (vs := vs) sA (fun j hj => by simp only [List.contains_iff_mem.mpr hj, Bool.or_true]) (Rs.mono s1.sp.le els[i] (WLe.refl G) (fun _ h => nomatch h) rs) e2
    have sst : Sst K CT (fun i => tchS b i || js.contains i) (fun i => asdS b i || js.contains i) F' G H' r.2 σ f' F1 H2 ρa (setV js vs σ1) fb := ⟨sB, (s1.sp.trans (hle.alo.stp s1.st)).trans tB, fun i hi => by
      simp only [Bool.or_eq_false_iff] at hi
      exact (gB i (setAt_tch hi.2)).trans (s1.sg i (by simp only [hi.1, hi.2, Bool.or_self]))⟩
    refine ⟨F1, G, ρa, fb, q.1, q.2, sB, e3, fun σ3 F3 H3 f3 s3 => ?_⟩
    have s03 := sst.trans (s3.mono (fun i hi => by simp only [Bool.or_eq_false_iff] at hi; exact hi.1) fun i hi => by simp only [Bool.or_eq_false_iff] at hi; exact hi.1)
    cases hfl : q.2 with
    | nx =>
      rw [hfl] at e4
      exact ⟨F3, q.1, f3, s03, e4⟩
    | ct =>
      rw [hfl] at e4
      exact ⟨F3, q.1, f3, s03, e4⟩
    | bk =>
      rw [hfl] at e4
      cases e4
      exact fin s03
    | rt d =>
      rw [hfl] at e4
      cases e4
      exact Ends.back ((ss0.mono (T' := fun _ => true) (A' := fun _ => true) (fun _ h => (nomatch h)) (fun _ h => (nomatch h))).trans (sst.mono (fun _ h => (nomatch h)) (fun _ h => (nomatch h)))) (fin s03)
  · refine .inl ⟨wk.st i H1 hagree (by omega), ?_⟩
    rw [List.drop_eq_nil_of_le (by omega)] at e1
    simp only [forL, Option.some.injEq, Prod.mk.injEq] at e1
    obtain ⟨rfl, rfl⟩ := e1
    exact fin s1
theorem T1_for {js : List Nat} {ik : IK} {ies : List PX} {b : List PS} {wi : L2.TI} {g : TG} (hw : WI K CT Γ wi g js ik ies) (h : T1 K CT N Γ (.for_ js ik ies b) D σ H) : tFor wi g (TS_ K CT N Γ b) D σ H := by
  obtain ⟨F, G, ρ, f, ρ', fl, hs, he, hq⟩ := h
  simp only [exec, Option.bind_eq_some_iff] at he
  obtain ⟨r, h1, ds, h2, els, h3, h4⟩ := he
  split at h4
  case isFalse => cases h4
  rename_i hok
  exact for_core (ik := ik) h4 (fun Rp k => hw _ σ H Rp F G ρ f r.1 r.2 ds els hs h1 h2 h3 hok k) hq
end
end Pv

set_option Elab.async false
set_option linter.all false
set_option maxRecDepth 100000
set_option maxHeartbeats 1000000
namespace Pv
open PySem L2

section
variable {K : PySem.W.Frag} {CT : Nat → Addr} {N : Nat} {Γ : Fns} {σ : L2.St} {H : Hp} {Q : VK} {D : Ends}

theorem T1_whl {c : PX} {b : List PS} (h : T1 K CT N Γ (.whl c b) D σ H) : tWhile (TB K CT Γ c) (TS_ K CT N Γ b) D σ H := by
  obtain ⟨F, G, ρ, f, ρ', fl, hs, he, hq⟩ := h
  simp only [exec] at he
  refine ⟨fun m σ1 H1 => ∃ F1 ρ1 f1, Sst K CT (PS.whl c b).tch (PS.whl c b).asd F G H ρ σ f F1 H1 ρ1 σ1 f1 ∧ whileL (fun ρ => (ev Γ c ρ).bind asB) (fun ρ => execs N Γ b ρ) m ρ1 = some (ρ', fl), ⟨N, F, ρ, f, Sst.refl hs, he⟩, fun m σ1 H1 ⟨F1, ρ1, f1, s1, e1⟩ => ?_⟩
  cases m with
  | zero => cases e1
  | succ m =>
    simp only [whileL, Option.bind_eq_some_iff] at e1
    obtain ⟨q, ⟨r, h1, h2⟩, h3⟩ := e1
    refine ⟨F1, G, ρ1, f1, r.1, r.2, s1.st, h1, fun v F2 H2 f2 fp p => ?_⟩
    obtain ⟨rfl, e2⟩ := asB_v p h2
    refine ⟨q.1, rfl, ?_⟩
    have s2 : Sst K CT (PS.whl c b).tch (PS.whl c b).asd F G H ρ σ f F2 H2 r.2 σ1 f2 := s1.trans ⟨p.st, p.sp.mono fun i hi => by simp only [PS.tch, Bool.or_eq_false_iff] at hi; exact hi.1, fun _ _ => rfl⟩
    rw [e2] at h3
    cases hk : q.1 with
    | false =>
      rw [hk] at h3
      simp only [Bool.false_eq_true, if_false, Option.some.injEq, Prod.mk.injEq] at h3 ⊢
      obtain ⟨rfl, rfl⟩ := h3
      exact hq _ _ _ _ s2
    | true =>
      rw [hk] at h3
      simp only [if_true, Option.bind_eq_some_iff] at h3 ⊢
      obtain ⟨r3, h4, h5⟩ := h3
      refine ⟨fun σ3 H3 => ∃ F3 ρ3 f3, Sst K CT (PS.whl c b).tch (PS.whl c b).asd F G H ρ σ f F3 H3 ρ3 σ3 f3 ∧ whileL (fun ρ => (ev Γ c ρ).bind asB) (fun ρ => execs N Γ b ρ) m ρ3 = some (ρ', fl), fun σ3 H3 z => ⟨m, Nat.lt_succ_self m, z⟩, ?_⟩
      refine ⟨F2, G, r.2, f2, r3.1, r3.2, p.st, h4, fun σ3 F3 H3 f3 s3 => ?_⟩
      have s13 := s2.trans (s3.mono (fun i hi => by simp only [PS.tch, Bool.or_eq_false_iff] at hi; exact hi.2) fun i hi => by simp only [PS.asd] at hi; exact hi)
      cases hfl : r3.2 with
      | nx => rw [hfl] at h5; exact ⟨F3, r3.1, f3, s13, h5⟩
      | ct => rw [hfl] at h5; exact ⟨F3, r3.1, f3, s13, h5⟩
      | bk =>
        rw [hfl] at h5; cases h5
        exact hq _ _ _ _ s13
      | rt d =>
        rw [hfl] at h5; cases h5
        exact Ends.back s2 (hq _ _ _ _ s13)

def TBO (K : PySem.W.Frag) (CT : Nat → Addr) (Γ : Fns) : Option PX → TT
  | none => tYes
  | some e => TB K CT Γ e
theorem Ste.updOff {F G : Hp} {ρ : Env} {f : Nat → List Addr} {a : Addr} {o : HO} (s : Ste K CT F G H ρ σ f) (ha : ∀ i, a ∉ f i) (hF : F a = none) (hG : G a = none) : Ste K CT F G (upd H a o) ρ σ f := by
  have wl : ∀ {E : Hp}, E a = none → WLe E H → WLe E (upd H a o) := fun he w x u e => by
    have hx : x ≠ a := fun z => by subst z; rw [he] at e; cases e
    rcases w x u e with z | ⟨o, ks, z1, z2⟩
    · exact .inl ((upd_ne hx).trans z)
    · exact .inr ⟨o, ks, z1, (upd_ne hx).trans z2⟩
  refine ⟨s.len, fun i d e => ?_, s.nd, s.dj, s.em, wl hF s.wf, wl hG s.wg⟩
  obtain ⟨v, h1, h2⟩ := s.at_ i d e
  exact ⟨v, h1, h2.up (ha i)⟩
theorem Stp.updOff {T : Nat → Bool} {F0 G H0 F1 H1 : Hp} {ρ0 ρ1 : Env} {σ0 : L2.St} {f0 f1 : Nat → List Addr} {a : Addr} {o : HO} (s0 : Ste K CT F0 G H0 ρ0 σ0 f0) (t : Stp T F0 H0 ρ0 f0 F1 H1 ρ1 f1) (ha : H0 a = none) : Stp T F0 H0 ρ0 f0 F1 (upd H1 a o) ρ1 f1 := by
  refine ⟨t.le, fun x u e n => (upd_ne fun z => ?_).trans (t.keep x u e n), t.new, t.own, fun i hi => ?_, fun x u e => ?_⟩
  · subst z; rw [ha] at e; cases e
  · obtain ⟨a1, a2, a3⟩ := t.st i hi
    refine ⟨a1, a2, fun x hx => (upd_ne fun z => ?_).trans (a3 x hx)⟩
    subst z
    obtain ⟨⟨u, z1⟩, _⟩ := s0.ow i x hx
    rw [ha] at z1; cases z1
  · by_cases z : x = a
    · exact ⟨o, by rw [z]; exact upd_same⟩
    · obtain ⟨u', e'⟩ := t.live x u e
      exact ⟨u', (upd_ne z).trans e'⟩
theorem backE_wipe (ρ ρ0 : Env) (js : List Nat) : backE (wipeE ρ js) ρ0 js = backE ρ ρ0 js := by
  refine List.ext_getElem? fun i => ?_
  rw [backE_get, backE_get]
  by_cases h : i ∈ js
  · rw [if_pos h, if_pos h, wipeE_get, if_pos h]
    cases ρ[i]? <;> rfl
  · rw [if_neg h, if_neg h, wipeE_get, if_neg h]
theorem Stp.backT {T : Nat → Bool} {F0 H0 F' H' : Hp} {ρ ρ' ρ0 : Env} {f f' : Nat → List Addr} (s : Stp T F0 H0 ρ f F' H' ρ' f') {js : List Nat} (hT : ∀ j ∈ js, T j = true) : Stp T F0 H0 ρ f F' H' (backE ρ' ρ0 js) (fun i => if i ∈ js then [] else f' i) := by
  refine ⟨s.le, s.keep, s.new, fun i a ha => ?_, fun i hi => ?_, s.live⟩
  · split at ha
    · cases ha
    · exact s.own i a ha
  · have hn : i ∉ js := fun z => by rw [hT i z] at hi; cases hi
    obtain ⟨a1, a2, a3⟩ := s.st i hi
    exact ⟨(if_neg hn).trans a1, by rw [backE_get, if_neg hn]; exact a2, a3⟩
theorem TBO_run {c : Option PX} {F G : Hp} {ρ : Env} {f : Nat → List Addr} {q : Bool × Env} {Qb : Bool → Hp → Prop} (hs : Ste K CT F G H ρ σ f) (he : evO Γ c ρ = some q)
    (hq : ∀ F' H' f', Ste K CT F' G H' q.2 σ f' → Stp (tchO c) F H ρ f F' H' q.2 f' → Qb q.1 H') : TBO K CT Γ c σ H Qb := by
  cases c with
  | none =>
    simp only [evO, Option.some.injEq] at he
    subst he
    exact hq F H f hs (Stp.refl _ _ _ _ _)
  | some e =>
    simp only [evO, Option.bind_eq_some_iff] at he
    obtain ⟨r, h1, h2⟩ := he
    refine ⟨F, G, ρ, f, r.1, r.2, hs, h1, fun v F1 H1 f1 fp p => ?_⟩
    obtain ⟨rfl, e2⟩ := asB_v p h2
    refine ⟨q.1, rfl, hq F1 H1 f1 (by rw [e2]; exact p.st) (by rw [e2]; exact p.sp.mono fun i hi => hi)⟩
/-- a held list, its items own things of its own -/
structure Acc (K : PySem.W.Frag) (CT : Nat → Addr) (F0 H0 : Hp) (f0 : Nat → List Addr) (F G H : Hp) (f : Nat → List Addr) (a : Addr) (ds : List Pv.D) (vs : List V) (fp : List Addr) : Prop where
  at_ : H a = some (.lst vs)
  F0a : F a = none
  G0a : G a = none
  off : ∀ i, a ∉ f i
  rs : Rs K CT F G H ds vs fp
  nd : fp.Nodup
  na : a ∉ fp
  ap : ∀ x ∈ fp, ∀ i, x ∉ f i
  fr : ∀ x ∈ fp, (∃ j, x ∈ f0 j) ∨ H0 x = none
theorem Acc.step {T : Nat → Bool} {F0 H0 F G H F' H' : Hp} {f0 f f' : Nat → List Addr} {ρ ρ' : Env} {a : Addr} {ds : List Pv.D} {vs : List V} {fp : List Addr} (A : Acc K CT F0 H0 f0 F G H f a ds vs fp) (t : Stp T F H ρ f F' H' ρ' f') : Acc K CT F0 H0 f0 F' G H' f' a ds vs fp := by
  have hh := t.held (fp := [a]) (G := G) (fun x hx => by rw [List.mem_singleton.mp hx]; exact ⟨⟨_, A.at_⟩, A.F0a, A.G0a⟩) (fun x hx => by rw [List.mem_singleton.mp hx]; exact A.off)
  obtain ⟨z1, z2, z3⟩ := hh a (List.mem_singleton.mpr rfl)
  have back : ∀ x, (∃ o, H x = some o) → (∀ i, x ∉ f i) → ∀ i, x ∉ f' i := fun x ⟨o, e⟩ n i hi => by
    rcases t.own i x hi with ⟨j, hj⟩ | hj
    · exact n j hj
    · rw [e] at hj; cases hj
  exact ⟨z1.trans A.at_, z2, z3, back a ⟨_, A.at_⟩ A.off, Rs.mono t.le ds (WLe.refl G) (t.held (Rs.own ds A.rs) A.ap) A.rs, A.nd, A.na, fun x hx => back x (Rs.own ds A.rs x hx).1 (A.ap x hx), A.fr⟩

/-- the core: at one state -/
theorem comp_core {js : List Nat} {ik : IK} {ies : List PX} {c : Option PX} {e : PX} {wi : L2.TI} {g : TG} {F G : Hp} {ρ : Env} {f : Nat → List Addr} {r : List Rv × Env} {els : List (List Pv.D)} {z : List Pv.D × Env}
    (hfree : freeAt r.2 js = true) (h5 : compLoop js (fun ρ => evO Γ c ρ) (fun ρ => (ev Γ e ρ).bind asD) els r.2 = some z) (hlen : z.1.length ≤ 1000000)
    (hw : ∀ Rp : It → Hp → Prop, (∀ J F' H' f' S, Pst K CT (tchs ies) F G H ρ σ f r.2 [] [] F' H' f' [] → Wk K CT F' G H' S J g js els → (∀ a ∈ S, (∃ o, H' a = some o) ∧ ∀ i, (tchO c i || e.tch i || js.contains i) = true → a ∉ f' i) → Rp J H') → wi σ H Rp)
    (hq : ∀ v F' H' f' fp, Pst K CT (PX.comp js ik ies c e).tch F G H ρ σ f (backE z.2 r.2 js) [.val (.lst .own z.1)] [v] F' H' f' fp → Q v H') : tLc wi g (TBO K CT Γ c) (TI K CT Γ e) js σ H Q := by
  refine hw _ fun J F' H' f' S p wk hS => ?_
  intro A hA
  have hTjs : ∀ j ∈ js, (fun i => tchO c i || e.tch i || js.contains i) j = true := fun j hj => by simp only [List.contains_iff_mem.mpr hj, Bool.or_true]
  have al0 : Alo F' H' F' (upd H' A (.lst [])) := Alo.obj hA
  refine ⟨fun i m H1 => m = els.length - i ∧ i ≤ els.length ∧ ∃ F1 ρ1 f1 ds1 vs1 fp1 rest, Ste K CT F1 G H1 (wipeE ρ1 js) (wipe σ js) f1 ∧ Stp (fun i => tchO c i || e.tch i || js.contains i) F' H' r.2 f' F1 H1 (wipeE ρ1 js) f1 ∧ Acc K CT F' H' f' F1 G H1 f1 A ds1 vs1 fp1 ∧
      compLoop js (fun ρ => evO Γ c ρ) (fun ρ => (ev Γ e ρ).bind asD) (els.drop i) ρ1 = some (rest, z.2) ∧ ds1 ++ rest = z.1, ⟨els.length, by omega, Nat.zero_le _, F', r.2, _, [], [], [], z.1, (p.st.alo al0).wipe js, (al0.stp p.st).wipe hTjs, ?_, h5, rfl⟩, fun i m H1 ⟨hm, hi, F1, ρ1, f1, ds1, vs1, fp1, rest, s1, t1, A1, e1, ez⟩ => ?_⟩
  · refine ⟨upd_same, p.st.wf.none hA, p.st.wg.none hA, fun i hi => ?_, ⟨rfl, rfl⟩, List.nodup_nil, List.not_mem_nil, fun _ h => (nomatch h), fun _ h => (nomatch h)⟩
    split at hi
    · cases hi
    · obtain ⟨⟨o, z1⟩, _⟩ := p.st.ow i A hi
      rw [hA] at z1; cases z1
  · have hagree := t1.agree hS
    by_cases hlt : i < els.length
    · refine .inr ⟨wk.go i H1 hagree hlt, fun H2 => ∃ F2 ρ2 f2 ds2 vs2 fp2 rest, Ste K CT F2 G H2 (wipeE ρ2 js) (wipe σ js) f2 ∧ Stp (fun i => tchO c i || e.tch i || js.contains i) F' H' r.2 f' F2 H2 (wipeE ρ2 js) f2 ∧ Acc K CT F' H' f' F2 G H2 f2 A ds2 vs2 fp2 ∧
        compLoop js (fun ρ => evO Γ c ρ) (fun ρ => (ev Γ e ρ).bind asD) (els.drop (i + 1)) ρ2 = some (rest, z.2) ∧ ds2 ++ rest = z.1, fun H2 ⟨F2, ρ2, f2, ds2, vs2, fp2, rest, w⟩ => ⟨els.length - (i + 1), by omega, rfl, hlt, F2, ρ2, f2, ds2, vs2, fp2, rest, w⟩, fun x Hx hy => ?_⟩
      rw [List.drop_eq_getElem_cons hlt] at e1
      simp only [compLoop, Option.bind_eq_some_iff] at e1
      obtain ⟨ρa, e2, q, e3, e4⟩ := e1
      refine wk.yl i H1 x Hx els[i] (wipe σ js) _ hagree (WLe.h_trans t1.le s1.wf) (List.getElem?_eq_getElem hlt) hy (setAt_len e2) fun vs H2 hle rs => ⟨wipe_setV js vs σ, ?_⟩
      have sA := s1.alo hle.alo
      obtain ⟨fb, sB, tB, _⟩ := Ste.bindN (T := fun i => tchO c i || e.tch i || js.contains i) (vs := vs) sA hTjs (Rs.mono t1.le els[i] (WLe.refl G) (fun _ h => nomatch h) rs) e2
      have t2 := (hle.alo.stp (T := fun i => tchO c i || e.tch i || js.contains i) s1).trans tB
      refine TBO_run (q := q) sB e3 fun F3 H3 f3 s3 t3 => ?_
      have t13 := t2.trans (t3.mono (T' := fun i => tchO c i || e.tch i || js.contains i) fun i hi => by simp only [Bool.or_eq_false_iff] at hi; exact hi.1.1)
      have A3 := A1.step t13
      cases hb : q.1 with
      | false =>
        rw [hb] at e4
        simp only [Bool.false_eq_true, if_false] at e4 ⊢
        have s4 := s3.wipe js
        rw [wipe_setV] at s4
        have tw : Stp (fun i => tchO c i || e.tch i || js.contains i) F3 H3 q.2 f3 F3 H3 (wipeE q.2 js) _ := (Stp.refl _ F3 H3 q.2 f3).wipe hTjs
        exact ⟨F3, q.2, _, ds1, vs1, fp1, rest, s4, (t1.trans t13).wipe hTjs, A3.step tw, e4, ez⟩
      | true =>
        rw [hb] at e4
        simp only [if_true, Option.bind_eq_some_iff] at e4 ⊢
        obtain ⟨pd, ⟨re, e5, e6⟩, zz, e7, e8⟩ := e4
        simp only [Option.some.injEq, Prod.mk.injEq] at e8
        obtain ⟨rfl, e8⟩ := e8
        refine ⟨F3, G, q.2, f3, re.1, re.2, s3, e5, fun y F4 H4 f4 fpd p4 => ?_⟩
        simp only [asD, Option.map_eq_some_iff] at e6
        obtain ⟨d, e9, rfl⟩ := e6
        have rd := take_r p4.st (vr1 p4.vr) e9
        have t14 := t13.trans (p4.sp.mono (T' := fun i => tchO c i || e.tch i || js.contains i) fun i hi => by simp only [Bool.or_eq_false_iff] at hi; exact hi.1.2)
        have A4 := A1.step t14
        have t04 := t1.trans t14
        have rsl := Rs.len _ A4.rs
        refine ⟨vs1, A4.at_, ?_, ?_⟩
        · rw [rsl]
          have : ds1.length < 1000000 := by
            have := congrArg List.length ez
            rw [List.length_append, List.length_cons] at this
            omega
          exact Nat.lt_of_lt_of_le this line_big
        · have frd : ∀ x ∈ fpd, (∃ j, x ∈ f' j) ∨ H' x = none := fun x hx => by
            rcases p4.fr x hx with ⟨j, hj⟩ | hj
            · exact (t1.trans t13).own j x hj
            · cases e : H' x with
              | none => exact .inr rfl
              | some o =>
                obtain ⟨o', e'⟩ := (t1.trans t13).live x o e
                rw [e'] at hj; cases hj
          have live3 : ∀ x, x ∈ A :: fp1 → ∃ o, H3 x = some o := fun x hx => by
            rcases List.mem_cons.mp hx with rfl | hx
            · exact ⟨_, A3.at_⟩
            · exact (Rs.own ds1 A3.rs x hx).1
          have off3 : ∀ x, x ∈ A :: fp1 → ∀ i, x ∉ f3 i := fun x hx => by
            rcases List.mem_cons.mp hx with rfl | hx
            · exact A3.off
            · exact A3.ap x hx
          have apart : ∀ x ∈ A :: fp1, x ∉ fpd := fun x hx hd => by
            rcases p4.fr x hd with ⟨j, hj⟩ | hj
            · exact off3 x hx j hj
            · obtain ⟨o, e'⟩ := live3 x hx
              rw [hj] at e'; cases e'
          have s5 := (p4.st.updOff (o := .lst (vs1 ++ [y])) A4.off A4.F0a A4.G0a).wipe js
          rw [wipe_setV] at s5
          have t5 := (Stp.updOff (o := .lst (vs1 ++ [y])) p.st t04 hA).wipe hTjs
          refine ⟨F4, re.2, _, ds1 ++ [d], vs1 ++ [y], fp1 ++ fpd, zz.1, s5, t5, ?_, by rw [← e8]; exact e7, by rw [List.append_assoc]; exact ez⟩
          have naA : A ∉ fp1 ++ fpd := fun z => by
            rcases List.mem_append.mp z with z | z
            · exact A4.na z
            · exact apart A List.mem_cons_self z
          refine ⟨upd_same, A4.F0a, A4.G0a, fun i hi => ?_, (Rs.append ds1 A4.rs (R.one rd)).up naA, List.nodup_append.mpr ⟨A4.nd, p4.nd, fun x hx y' hy' e => apart x (List.mem_cons_of_mem _ hx) (e ▸ hy')⟩, naA, fun x hx i hi => ?_, fun x hx => ?_⟩
          · split at hi
            · cases hi
            · exact A4.off i hi
          · split at hi
            · cases hi
            · rcases List.mem_append.mp hx with z | z
              · exact A4.ap x z i hi
              · exact p4.ap x z i hi
          · rcases List.mem_append.mp hx with z | z
            · exact A4.fr x z
            · exact frd x z
    · refine .inl ⟨wk.st i H1 hagree (by omega), ?_⟩
      rw [List.drop_eq_nil_of_le (by omega)] at e1
      simp only [compLoop, Option.some.injEq, Prod.mk.injEq] at e1
      obtain ⟨rfl, e1⟩ := e1
      rw [List.append_nil] at ez
      subst ez
      have sF := Ste.restore (σ := σ) p.st s1 (fun i hi => by rw [wipe_get, if_neg hi]) (by have a := s1.len; have b := p.st.len; rw [wipe_length] at a; omega) t1.le hfree
      rw [backE_wipe, e1] at sF
      have tF := t1.backT (ρ0 := r.2) hTjs
      rw [backE_wipe, e1] at tF
      refine hq _ F1 H1 _ (A :: fp1) ⟨sF, (p.sp.mono fun i hi => ?_).trans (tF.mono fun i hi => ?_), VR.one ?_, List.nodup_cons.mpr ⟨A1.na, A1.nd⟩, fun a ha i hi => ?_, fun a ha => ?_⟩
      · simp only [PX.tch, Bool.or_eq_false_iff] at hi; exact hi.1.1.2
      · simp only [PX.tch, Bool.or_eq_false_iff] at hi; simp only [hi.1.2, hi.2, hi.1.1.1, Bool.or_self]
      · show R K CT F1 G H1 (.lst .own z.1) (.ref A) (A :: fp1)
        simp only [R]
        exact ⟨A, vs1, fp1, rfl, A1.at_, A1.F0a, A1.G0a, A1.rs, rfl⟩
      · split at hi
        · cases hi
        · rcases List.mem_cons.mp ha with rfl | ha
          · exact A1.off i hi
          · exact A1.ap a ha i hi
      · have hfr : (∃ j, a ∈ f' j) ∨ H' a = none := by
          rcases List.mem_cons.mp ha with rfl | ha
          · exact .inr hA
          · exact A1.fr a ha
        rcases hfr with ⟨j, hj⟩ | hj
        · exact p.sp.own j a hj
        · cases e : H a with
          | none => exact .inr rfl
          | some o =>
            obtain ⟨o', e'⟩ := p.sp.live a o e
            rw [e'] at hj; cases hj
/-- [e for .. in .. if c] -/
theorem TI_comp {js : List Nat} {ik : IK} {ies : List PX} {c : Option PX} {e : PX} {wi : L2.TI} {g : TG} (hw : WI K CT Γ wi g js ik ies) (h : TI K CT Γ (.comp js ik ies c e) σ H Q) : tLc wi g (TBO K CT Γ c) (TI K CT Γ e) js σ H Q := by
  obtain ⟨F, G, ρ, f, rv, ρ', hs, he, hq⟩ := h
  simp only [ev, Option.bind_eq_some_iff] at he
  obtain ⟨r, h1, ds, h2, els, h3, h4⟩ := he
  split at h4
  case isFalse => cases h4
  rename_i hokf
  rw [Bool.and_eq_true] at hokf
  obtain ⟨hok, hfree⟩ := hokf
  simp only [Option.bind_eq_some_iff] at h4
  obtain ⟨z, h5, h6⟩ := h4
  split at h6
  case isFalse => cases h6
  rename_i hlen
  cases h6
  exact comp_core (ik := ik) hfree h5 hlen (fun Rp k => hw _ σ H Rp F G ρ f r.1 r.2 ds els hs h1 h2 h3 hok k) hq
end
end Pv

set_option Elab.async false
set_option linter.all false
set_option maxRecDepth 100000
set_option maxHeartbeats 1000000
namespace Pv
open PySem L2

section
variable {K : PySem.W.Frag} {CT : Nat → Addr} {N : Nat} {Γ : Fns} {σ : L2.St} {H : Hp} {Q : VK} {D : Ends}

theorem Rs.get {F G : Hp} : ∀ (ds : List Pv.D) {vs : List V} {i : Nat} {d : Pv.D} {v : V}, Rs K CT F G H ds vs [] → ds[i]? = some d → vs[i]? = some v → R K CT F G H d v []
  | [], _, i, _, _, _, e, _ => by simp at e
  | d0 :: ds, _, i, d, v, h, e, e2 => by
    simp only [Rs] at h
    obtain ⟨v0, vr, f1, f2, rfl, r1, r2, z⟩ := h
    obtain ⟨rfl, rfl⟩ := List.append_eq_nil_iff.mp z.symm
    cases i with
    | zero => simp only [List.getElem?_cons_zero, Option.some.injEq] at e e2; subst e; subst e2; exact r1
    | succ i => simp only [List.getElem?_cons_succ] at e e2; exact Rs.get ds r2 e e2
/-- one readable list -/
theorem lst_src {T : Nat → Bool} {F G : Hp} {ρ : Env} {f : Nat → List Addr} {rv : Rv} {v : V} {fp : List Addr} {d : Pv.D} {xs : List Pv.D} (s : Ste K CT F G H ρ σ f) (hv : VR K CT F G H σ rv v fp) (hd : rv.view ρ = some d) (ap : ∀ a ∈ fp, ∀ i, a ∉ f i)
    (hok : okIt ρ T [rv] = true) (hi : (∃ m, d = .lst m xs ∧ xs.all Pv.D.noOwn = true) ∨ ∃ ns, d = .scr ns ∧ xs = ns.map Pv.D.int) :
    ∃ (a : Addr) (vs : List V) (S : List Addr), v = .ref a ∧ (∀ H', (∀ x ∈ S, H' x = H x) → SqL K H' a vs) ∧ Rs K CT F G H xs vs [] ∧ (∀ x ∈ S, (∃ o, H x = some o) ∧ ∀ i, T i = true → x ∉ f i) := by
  obtain ⟨fp', r⟩ := view_r s hv hd
  rcases hi with ⟨m, rfl, hno⟩ | ⟨ns, rfl, rfl⟩
  · cases m with
    | own =>
      simp only [R] at r
      obtain ⟨a, vs, fp2, rfl, hH, _, _, rs, hfe⟩ := r
      have := Rs.noOwn xs rs hno
      subst this
      refine ⟨a, vs, [a], rfl, fun H' hx => SqL.of ((hx a (List.mem_singleton.mpr rfl)).trans hH), rs, fun x hx => ?_⟩
      rw [List.mem_singleton.mp hx]
      refine ⟨⟨_, hH⟩, fun i hi hz => ?_⟩
      cases rv with
      | val d' =>
        simp only [Rv.view, Option.some.injEq] at hd
        subst hd
        have hv2 : R K CT F G H (.lst .own xs) (.ref a) fp := hv
        simp only [R] at hv2
        obtain ⟨a', vs', fp3, ea, _, _, _, _, hfe2⟩ := hv2
        cases ea
        exact ap a (by rw [hfe2]; exact List.mem_cons_self) i hz
      | ref j =>
        simp only [Rv.view] at hd
        simp only [okIt, hd, Pv.D.noOwn, Bool.or_false, Bool.and_true, Bool.not_eq_true'] at hok
        obtain ⟨v', q1, q2⟩ := s.get hd
        rw [hv.1] at q1; cases q1
        simp only [R] at q2
        obtain ⟨a', vs', fp3, ea, _, _, _, _, hfe2⟩ := q2
        cases ea
        have hj : a ∈ f j := by rw [hfe2]; exact List.mem_cons_self
        have := s.dj i j a hz hj
        subst this
        rw [hok] at hi; cases hi
    | frz =>
      simp only [R] at r
      obtain ⟨⟨a, vs, rfl, hF, rs⟩, _⟩ := r
      have hH := s.wf.lst hF
      refine ⟨a, vs, [a], rfl, fun H' hx => SqL.of ((hx a (List.mem_singleton.mpr rfl)).trans hH), Rs.mono (HLe.refl _) xs (HLe.e0 _).w (fun _ h => nomatch h) rs, fun x hx => ?_⟩
      rw [List.mem_singleton.mp hx]
      refine ⟨⟨_, hH⟩, fun i _ hz => ?_⟩
      rw [(s.ow i a hz).2.1] at hF; cases hF
    | bor =>
      simp only [R] at r
      obtain ⟨⟨a, vs, rfl, hF, rs⟩, _⟩ := r
      have hH := s.wg.lst hF
      refine ⟨a, vs, [a], rfl, fun H' hx => SqL.of ((hx a (List.mem_singleton.mpr rfl)).trans hH), rs, fun x hx => ?_⟩
      rw [List.mem_singleton.mp hx]
      refine ⟨⟨_, hH⟩, fun i _ hz => ?_⟩
      rw [(s.ow i a hz).2.2] at hF; cases hF
  · simp only [R] at r
    obtain ⟨⟨a, rfl, hq⟩, _⟩ := r
    have rsI : ∀ ns : List Int, Rs K CT F G H (ns.map Pv.D.int) (ns.map V.int) [] := fun ns => by
      induction ns with
      | nil => simp only [List.map_nil, Rs, and_self]
      | cons n ns ih => simp only [List.map_cons, Rs]; exact ⟨_, _, [], [], rfl, by simp only [R, and_self], ih, rfl⟩
    rcases hq with hq | hq
    · have hH : ∃ o, H a = some o ∧ ∀ H', H' a = H a → SqL K H' a (ns.map V.int) := by
        rcases hq with e | ⟨o, e⟩
        · have := s.wg.lst e
          exact ⟨_, this, fun H' e' => SqL.of (e'.trans this)⟩
        · rcases s.wg a _ e with z | ⟨_, _, z, _⟩
          · exact ⟨_, z, fun H' e' => .inl (.inr ⟨o, e'.trans z⟩)⟩
          · cases z
      obtain ⟨o, h1, h2⟩ := hH
      refine ⟨a, _, [a], rfl, fun H' hx => h2 H' (hx a (List.mem_singleton.mpr rfl)), rsI ns, fun x hx => ?_⟩
      rw [List.mem_singleton.mp hx]
      refine ⟨⟨_, h1⟩, fun i _ hz => ?_⟩
      have hG := (s.ow i a hz).2.2
      rcases hq with e | ⟨_, e⟩ <;> rw [hG] at e <;> cases e
    · exact ⟨a, _, [], rfl, fun _ _ => .inr hq, rsI ns, fun _ h => (nomatch h)⟩
theorem Pst.drop {T : Nat → Bool} {F G F' H' : Hp} {ρ ρ' : Env} {f f' : Nat → List Addr} {rs : List Rv} {vs : List V} {fp : List Addr} (p : Pst K CT T F G H ρ σ f ρ' rs vs F' H' f' fp) : Pst K CT T F G H ρ σ f ρ' [] [] F' H' f' [] :=
  ⟨p.st, p.sp, ⟨rfl, rfl⟩, List.nodup_nil, fun _ h => (nomatch h), fun _ h => (nomatch h)⟩
theorem views1 {ρ : Env} {rv : Rv} {ds : List Pv.D} (h : views ρ [rv] = some ds) : ∃ d, rv.view ρ = some d ∧ ds = [d] := by
  simp only [views, Option.bind_eq_some_iff, Option.some.injEq] at h
  obtain ⟨d, h1, ds', rfl, rfl⟩ := h
  exact ⟨d, h1, rfl⟩
theorem vrs1 {F G : Hp} {rv : Rv} {vs : List V} {fp : List Addr} (h : VRs K CT F G H σ [rv] vs fp) : ∃ v, vs = [v] ∧ VR K CT F G H σ rv v fp := by
  simp only [VRs] at h
  obtain ⟨v, vr, g1, g2, rfl, h1, ⟨rfl, rfl⟩, rfl⟩ := h
  exact ⟨v, rfl, by rw [List.append_nil]; exact h1⟩
theorem evs1 {e : PX} {ρ : Env} {r : List Rv × Env} (h : evs Γ [e] ρ = some r) : ∃ rv, r.1 = [rv] ∧ ev Γ e ρ = some (rv, r.2) := by
  simp only [evs, Option.bind_eq_some_iff, Option.some.injEq] at h
  obtain ⟨q, h1, q2, rfl, rfl⟩ := h
  exact ⟨q.1, rfl, h1⟩
theorem TIs_one {e : PX} {F G : Hp} {ρ ρ' : Env} {f : Nat → List Addr} {rv : Rv} {Qv : VK} (hs : Ste K CT F G H ρ σ f) (he : ev Γ e ρ = some (rv, ρ')) (hq : ∀ v F' H' f' fp, Pst K CT (tchs [e]) F G H ρ σ f ρ' [rv] [v] F' H' f' fp → Qv v H') : TI K CT Γ e σ H Qv :=
  ⟨F, G, ρ, f, rv, ρ', hs, he, fun v F' H' f' fp p => hq v F' H' f' fp (p.mono fun i hi => by simp only [tchs, Bool.or_false] at hi; exact hi)⟩
/-- for x in a list -/
theorem WI_seq {e : PX} {j : Nat} : WI K CT Γ (iList K (TI K CT Γ e)) (gName j) [j] .seq [e] := by
  intro T σ H Rp F G ρ f rvs ρ' ds els hs he hv hi hok hk
  obtain ⟨rv, hr, he1⟩ := evs1 he
  simp only at hr he1
  subst hr
  obtain ⟨d, hd, rfl⟩ := views1 hv
  simp only [iterS, Option.map_eq_some_iff] at hi
  obtain ⟨xs, hi, rfl⟩ := hi
  refine TIs_one hs he1 fun v F' H' f' fp p => ?_
  have hi' : (∃ m, d = .lst m xs ∧ xs.all Pv.D.noOwn = true) ∨ ∃ ns, d = .scr ns ∧ xs = ns.map Pv.D.int := by
    cases d with
    | lst m ys =>
      simp only [items1] at hi
      split at hi
      · rename_i hn; cases hi; exact .inl ⟨m, rfl, hn⟩
      · cases hi
    | scr ns => simp only [items1, Option.some.injEq] at hi; exact .inr ⟨ns, rfl, hi.symm⟩
    | _ => simp [items1] at hi
  obtain ⟨a, vs, S, rfl, hS, rs, hS2⟩ := lst_src p.st (vr1 p.vr) hd p.ap hok hi'
  refine ⟨a, rfl, ⟨vs, hS H' fun _ _ => rfl⟩, hk _ F' H' f' S p.drop ⟨fun i H1 ha hlt => ?_, fun i H1 ha hge => ⟨vs, hS H1 ha, ?_⟩, fun i H1 x Hx ys σ1 P ha wfl hy hyl hl hP => ?_⟩ hS2⟩
  · rw [List.length_map, ← Rs.len xs rs] at hlt
    exact ⟨vs, vs[i], hS H1 ha, List.getElem?_eq_getElem hlt⟩
  · rw [List.length_map, ← Rs.len xs rs] at hge; exact hge
  · obtain ⟨rfl, hx⟩ := hyl
    have hx := hx vs (hS _ ha)
    rw [List.getElem?_map, Option.map_eq_some_iff] at hy
    obtain ⟨d, hd, rfl⟩ := hy
    exact hP [x] _ (HLe.refl _) (R.one (Rs.get xs rs hd hx))
theorem views2 {ρ : Env} {r1 r2 : Rv} {ds : List Pv.D} (h : views ρ [r1, r2] = some ds) : ∃ d1 d2, r1.view ρ = some d1 ∧ r2.view ρ = some d2 ∧ ds = [d1, d2] := by
  simp only [views, Option.bind_eq_some_iff, Option.some.injEq] at h
  obtain ⟨d, h1, ds', ⟨d2, h2, ds3, rfl, rfl⟩, rfl⟩ := h
  exact ⟨d, d2, h1, h2, rfl⟩
theorem evs_shape : ∀ (es : List PX) {ρ : Env} {r : List Rv × Env}, evs Γ es ρ = some r → r.1.length = es.length := evs_len
theorem vrs2 {F G : Hp} {r1 r2 : Rv} {vs : List V} {fp : List Addr} (h : VRs K CT F G H σ [r1, r2] vs fp) : ∃ v1 v2 f1 f2, vs = [v1, v2] ∧ VR K CT F G H σ r1 v1 f1 ∧ VR K CT F G H σ r2 v2 f2 ∧ fp = f1 ++ f2 := by
  simp only [VRs] at h
  obtain ⟨v, vr, g1, g2, rfl, h1, ⟨v2, vr2, g3, g4, rfl, h2, ⟨rfl, rfl⟩, rfl⟩, rfl⟩ := h
  exact ⟨v, v2, g1, g3, rfl, h1, h2, by rw [List.append_nil]⟩
theorem len1 {l : List Rv} (h : l.length = 1) : ∃ a, l = [a] := by
  match l, h with
  | [a], _ => exact ⟨a, rfl⟩
theorem len2 {l : List Rv} (h : l.length = 2) : ∃ a b, l = [a, b] := by
  match l, h with
  | [a, b], _ => exact ⟨a, b, rfl⟩
/-- a pair's target -/
theorem g2 {j k : Nat} {x y : V} {T : Addr} {σ : L2.St} {P : L2.St → Hp → Prop} {H H' : Hp} (hT : H T = none) (e : H' = upd H T (.tup [x, y])) (h : P (setV [j, k] [x, y] σ) H') : gTup K 2 (gCons (gName j) (gCons (gName k) gNil)) (.ref T) σ H' P := by
  subst e
  exact ⟨T, [x, y], rfl, SqT.of upd_same, rfl, x, [y], rfl, y, [], rfl, rfl, h⟩
theorem hle_new {H : Hp} {T : Addr} {o : HO} (h : H T = none) : HLe H (upd H T o) := fun a u e => by
  rw [upd_ne (ne_of_none e h)]; exact e
theorem okIt_cons (ρ : Env) (T : Nat → Bool) (r : Rv) (rs : List Rv) : okIt ρ T (r :: rs) = (okIt ρ T [r] && okIt ρ T rs) := by
  cases r <;> simp [okIt]
/-- for a, b in zip(x, y) -/
theorem WI_zip {e e2 : PX} {j k : Nat} : WI K CT Γ (iZip K (TIs K CT Γ [e, e2])) (gTup K 2 (gCons (gName j) (gCons (gName k) gNil))) [j, k] .zip [e, e2] := by
  intro T σ H Rp F G ρ f rvs ρ' ds els hs he hv hi hok hk
  obtain ⟨r1, r2, rfl⟩ := len2 (evs_len _ he)
  obtain ⟨d1, d2, hd1, hd2, rfl⟩ := views2 hv
  refine ⟨F, G, ρ, f, _, ρ', hs, he, fun vs F' H' f' fp p => ?_⟩
  obtain ⟨v1, v2, f1, f2, rfl, w1, w2, efp⟩ := vrs2 p.vr
  rw [okIt_cons, Bool.and_eq_true] at hok
  obtain ⟨hok1, hok2⟩ := hok
  cases d1 with
  | lst m1 xs =>
    cases d2 with
    | lst m2 ys =>
      simp only [iterS] at hi
      split at hi
      case isFalse => cases hi
      rename_i hn
      cases hi
      rw [Bool.and_eq_true] at hn
      obtain ⟨a, va, S1, rfl, hS1, rs1, hS12⟩ := lst_src p.st w1 hd1 (fun a ha => p.ap a (by rw [efp]; exact List.mem_append_left _ ha)) hok1 (.inl ⟨m1, rfl, hn.1⟩)
      obtain ⟨b, vb, S2, rfl, hS2, rs2, hS22⟩ := lst_src p.st w2 hd2 (fun a ha => p.ap a (by rw [efp]; exact List.mem_append_right _ ha)) hok2 (.inl ⟨m2, rfl, hn.2⟩)
      have hl1 := Rs.len xs rs1
      have hl2 := Rs.len ys rs2
      refine ⟨a, b, va, vb, rfl, hS1 H' fun _ _ => rfl, hS2 H' fun _ _ => rfl, hk _ F' H' f' (S1 ++ S2) p.drop ⟨fun i H1 ha hlt => ?_, fun i H1 ha hge => ?_, fun i H1 x Hx zs σ1 P ha wfl hy hyl hl hP => ?_⟩ fun x hx => ?_⟩
      · rw [List.length_map, List.length_zip] at hlt
        exact ⟨va, vb, va[i]'(by omega), vb[i]'(by omega), hS1 H1 (fun x hx => ha x (List.mem_append_left _ hx)), hS2 H1 (fun x hx => ha x (List.mem_append_right _ hx)), List.getElem?_eq_getElem _, List.getElem?_eq_getElem _⟩
      · rw [List.length_map, List.length_zip] at hge
        exact ⟨va, vb, hS1 H1 (fun x hx => ha x (List.mem_append_left _ hx)), hS2 H1 (fun x hx => ha x (List.mem_append_right _ hx)), by omega⟩
      · obtain ⟨T', x', y', rfl, hT', hHx, hx', hy'⟩ := hyl
        have hx' := hx' va (hS1 H1 fun x hx => ha x (List.mem_append_left _ hx))
        have hy' := hy' vb (hS2 H1 fun x hx => ha x (List.mem_append_right _ hx))
        rw [List.getElem?_map, Option.map_eq_some_iff] at hy
        obtain ⟨q, hq, rfl⟩ := hy
        obtain ⟨q1, q2⟩ := List.getElem?_zip_eq_some.mp hq
        refine g2 hT' hHx (hP [x', y'] Hx (by rw [hHx]; exact hle_new hT') ?_)
        simp only [Rs]
        exact ⟨x', [y'], [], [], rfl, Rs.get xs rs1 q1 hx', ⟨y', [], [], [], rfl, Rs.get ys rs2 q2 hy', ⟨rfl, rfl⟩, rfl⟩, rfl⟩
      · rcases List.mem_append.mp hx with hx | hx
        · exact hS12 x hx
        · exact hS22 x hx
    | _ => simp [iterS] at hi
  | _ => simp [iterS] at hi
/-- for i, x in enumerate(xs) -/
theorem WI_enum {e : PX} {j k : Nat} : WI K CT Γ (iEnum K (TIs K CT Γ [e])) (gTup K 2 (gCons (gName j) (gCons (gName k) gNil))) [j, k] .enum [e] := by
  intro T σ H Rp F G ρ f rvs ρ' ds els hs he hv hi hok hk
  obtain ⟨r1, rfl⟩ := len1 (evs_len _ he)
  obtain ⟨d, hd, rfl⟩ := views1 hv
  refine ⟨F, G, ρ, f, _, ρ', hs, he, fun vs F' H' f' fp p => ?_⟩
  obtain ⟨v, rfl, w⟩ := vrs1 p.vr
  cases d with
  | lst m xs =>
    simp only [iterS] at hi
    split at hi
    case isFalse => cases hi
    rename_i hn
    cases hi
    obtain ⟨a, va, S, rfl, hS, rs, hS2⟩ := lst_src p.st w hd p.ap hok (.inl ⟨m, rfl, hn⟩)
    have hl1 := Rs.len xs rs
    refine ⟨a, va, rfl, hS H' fun _ _ => rfl, hk _ F' H' f' S p.drop ⟨fun i H1 ha hlt => ?_, fun i H1 ha hge => ?_, fun i H1 x Hx zs σ1 P ha wfl hy hyl hl hP => ?_⟩ hS2⟩
    · rw [List.length_map, List.length_zipIdx] at hlt
      exact ⟨va, va[i]'(by omega), hS H1 ha, List.getElem?_eq_getElem _⟩
    · rw [List.length_map, List.length_zipIdx] at hge
      exact ⟨va, hS H1 ha, by omega⟩
    · obtain ⟨T', x', rfl, hT', hHx, hx'⟩ := hyl
      have hx' := hx' va (hS H1 ha)
      rw [List.getElem?_map, Option.map_eq_some_iff] at hy
      obtain ⟨q, hq, rfl⟩ := hy
      rw [List.getElem?_zipIdx, Option.map_eq_some_iff] at hq
      obtain ⟨d, hd, rfl⟩ := hq
      refine g2 hT' hHx (hP [.int (i : Nat), x'] Hx (by rw [hHx]; exact hle_new hT') ?_)
      simp only [Rs]
      refine ⟨_, [x'], [], [], rfl, ?_, ⟨x', [], [], [], rfl, Rs.get xs rs hd hx', ⟨rfl, rfl⟩, rfl⟩, rfl⟩
      simp only [R, Nat.zero_add, and_self]
  | _ => simp [iterS] at hi
/-- for x in reversed(xs) -/
theorem WI_rev {e : PX} {j : Nat} : WI K CT Γ (iRev K (TIs K CT Γ [e])) (gName j) [j] .rev [e] := by
  intro T σ H Rp F G ρ f rvs ρ' ds els hs he hv hi hok hk
  obtain ⟨r1, rfl⟩ := len1 (evs_len _ he)
  obtain ⟨d, hd, rfl⟩ := views1 hv
  refine ⟨F, G, ρ, f, _, ρ', hs, he, fun vs F' H' f' fp p => ?_⟩
  obtain ⟨v, rfl, w⟩ := vrs1 p.vr
  cases d with
  | lst m xs =>
    simp only [iterS] at hi
    split at hi
    case isFalse => cases hi
    rename_i hn
    cases hi
    obtain ⟨a, va, S, rfl, hS, rs, hS2⟩ := lst_src p.st w hd p.ap hok (.inl ⟨m, rfl, hn⟩)
    have hl1 := Rs.len xs rs
    refine ⟨a, va, rfl, hS H' fun _ _ => rfl, hk _ F' H' f' S p.drop ⟨fun i H1 ha hlt => ?_, fun i H1 ha hge => ?_, fun i H1 x Hx zs σ1 P ha wfl hy hyl hl hP => ?_⟩ hS2⟩
    · rw [List.length_map, List.length_reverse] at hlt
      exact ⟨by omega, va, va[va.length - 1 - i]'(by omega), hS H1 ha, List.getElem?_eq_getElem _⟩
    · rw [List.length_map, List.length_reverse] at hge
      show va.length ≤ i
      omega
    · obtain ⟨rfl, hx'⟩ := hyl
      have hx' := hx' va (hS _ ha)
      rw [List.getElem?_map, Option.map_eq_some_iff] at hy
      obtain ⟨d, hd, rfl⟩ := hy
      have hlt : i < xs.length := by
        have := (List.getElem?_eq_some_iff.mp hd).1
        rwa [List.length_reverse] at this
      rw [List.getElem?_reverse hlt] at hd
      rw [hl1] at hx'
      exact hP [x] _ (HLe.refl _) (R.one (Rs.get xs rs hd hx'))
  | _ => simp [iterS] at hi
theorem int_r {F G : Hp} {d : Pv.D} {v : V} {i : Int} {fp : List Addr} (h : R K CT F G H d v fp) (e : d = .int i) : v = .int i := by
  subst e; simp only [R] at h; exact h.1
theorem WI_range1 {e : PX} {j : Nat} : WI K CT Γ (iRng1 (TIs K CT Γ [e])) (gName j) [j] .range1 [e] := by
  intro T σ H Rp F G ρ f rvs ρ' ds els hs he hv hi hok hk
  obtain ⟨r1, rfl⟩ := len1 (evs_len _ he)
  obtain ⟨d, hd, rfl⟩ := views1 hv
  refine ⟨F, G, ρ, f, _, ρ', hs, he, fun vs F' H' f' fp p => ?_⟩
  obtain ⟨v, rfl, w⟩ := vrs1 p.vr
  obtain ⟨_, w'⟩ := view_r p.st w hd
  cases d with
  | int n =>
    have := int_r w' rfl
    subst this
    simp only [iterS] at hi
    split at hi
    case isFalse => cases hi
    rename_i hn
    cases hi
    refine ⟨n, rfl, hn.1, hn.2, hk _ F' H' f' [] p.drop ⟨fun i H1 ha hlt => ?_, fun i H1 ha hge => ?_, fun i H1 x Hx zs σ1 P ha wfl hy hyl hl hP => ?_⟩ fun _ h => (nomatch h)⟩
    · rw [List.length_map, List.length_range] at hlt; exact hlt
    · rw [List.length_map, List.length_range] at hge; exact hge
    · obtain ⟨rfl, rfl⟩ := hyl
      rw [List.getElem?_map, Option.map_eq_some_iff] at hy
      obtain ⟨m, hm, rfl⟩ := hy
      have := List.getElem?_eq_some_iff.mp hm
      obtain ⟨h1, h2⟩ := this
      rw [List.getElem_range] at h2
      subst h2
      refine hP [.int (0 + (i : Nat))] _ (HLe.refl _) (R.one ?_)
      simp only [R, Int.zero_add, and_self]
  | _ => simp [iterS] at hi
theorem WI_range2 {e e2 : PX} {j : Nat} : WI K CT Γ (iRng2 (TIs K CT Γ [e, e2])) (gName j) [j] .range2 [e, e2] := by
  intro T σ H Rp F G ρ f rvs ρ' ds els hs he hv hi hok hk
  obtain ⟨r1, r2, rfl⟩ := len2 (evs_len _ he)
  obtain ⟨d1, d2, hd1, hd2, rfl⟩ := views2 hv
  refine ⟨F, G, ρ, f, _, ρ', hs, he, fun vs F' H' f' fp p => ?_⟩
  obtain ⟨v1, v2, f1, f2, rfl, w1, w2, _⟩ := vrs2 p.vr
  obtain ⟨_, w1'⟩ := view_r p.st w1 hd1
  obtain ⟨_, w2'⟩ := view_r p.st w2 hd2
  cases d1 with
  | int a =>
    cases d2 with
    | int b =>
      have := int_r w1' rfl
      subst this
      have := int_r w2' rfl
      subst this
      simp only [iterS] at hi
      split at hi
      case isFalse => cases hi
      rename_i hn
      cases hi
      refine ⟨a, b, rfl, hn, hk _ F' H' f' [] p.drop ⟨fun i H1 ha hlt => ?_, fun i H1 ha hge => ?_, fun i H1 x Hx zs σ1 P ha wfl hy hyl hl hP => ?_⟩ fun _ h => (nomatch h)⟩
      · rw [List.length_map, List.length_range] at hlt; exact hlt
      · rw [List.length_map, List.length_range] at hge; exact hge
      · obtain ⟨rfl, rfl⟩ := hyl
        rw [List.getElem?_map, Option.map_eq_some_iff] at hy
        obtain ⟨m, hm, rfl⟩ := hy
        obtain ⟨h1, h2⟩ := List.getElem?_eq_some_iff.mp hm
        rw [List.getElem_range] at h2
        subst h2
        refine hP [.int (a + (i : Nat))] _ (HLe.refl _) (R.one ?_)
        simp only [R, and_self]
    | _ => simp [iterS] at hi
  | _ => simp [iterS] at hi
end
end Pv

set_option Elab.async false
set_option linter.all false
set_option maxRecDepth 100000
set_option maxHeartbeats 1000000
namespace Pv
open PySem L2

section
variable {K : PySem.W.Frag} {CT : Nat → Addr} {N : Nat} {Γ : Fns} {σ : L2.St} {H : Hp} {Q : VK} {D : Ends}

/-- an expression whose value stands and is read again under a lock -/
def Loc (K : PySem.W.Frag) (CT : Nat → Addr) (Γ : Fns) (e : PX) (te : TE) : Prop := ∀ (σ : L2.St) (H F G : Hp) (ρ : Env) (f : Nat → List Addr) (rv : Rv) (ρ' : Env), Ste K CT F G H ρ σ f → ev Γ e ρ = some (rv, ρ') →
  ρ' = ρ ∧ ∃ v, VR K CT F G H σ rv v [] ∧ ∀ (HL : Hp) (Q : VK), Ste K CT F G HL ρ σ f → (∀ i x, x ∈ f i → HL x = H x) → Q v HL → te σ HL Q
theorem Loc_var {j : Nat} : Loc K CT Γ (.var j) (tVar j) := by
  intro σ H F G ρ f rv ρ' hs he
  simp only [ev, Option.bind_eq_some_iff, Option.some.injEq, Prod.mk.injEq] at he
  obtain ⟨d, h1, rfl, rfl⟩ := he
  obtain ⟨v, e1, _⟩ := hs.get h1
  exact ⟨rfl, v, ⟨e1, rfl⟩, fun HL Q _ _ q => ⟨v, e1, q⟩⟩
theorem Loc_fld {j : Nat} {n : Str} (hc : ∀ cl, Cls K (CT cl)) (hn : ∀ cl, NoAttr K (CT cl) n) : Loc K CT Γ (.fld (.var j) n) (tFld K (tVar j) n) := by
  intro σ H F G ρ f rv ρ' hs he
  simp only [ev, Option.bind_eq_some_iff, Option.some.injEq, Prod.mk.injEq] at he
  obtain ⟨r, ⟨d0, h1, rfl⟩, d, h2, h3⟩ := he
  simp only [Rv.view] at h2
  obtain ⟨v, e1, rr⟩ := hs.get h2
  cases d with
  | ins m cl fs =>
    simp only [Option.bind_eq_some_iff] at h3
    obtain ⟨x, h4, h5⟩ := h3
    split at h5
    case isFalse => cases h5
    rename_i hno
    simp only [Option.some.injEq, Prod.mk.injEq] at h5
    obtain ⟨rfl, rfl⟩ := h5
    refine ⟨rfl, ?_⟩
    cases m with
    | own =>
      simp only [R] at rr
      obtain ⟨a, dx, vs, fp2, rfl, hH, _, _, rk, hfe⟩ := rr
      obtain ⟨w, fp3, q1, q2, _⟩ := Rk.val fs rk h4
      rw [fk_val] at q1
      have z := q2.noOwn hno
      subst z
      exact ⟨w, q2, fun HL Q _ hx q => ⟨_, e1, a, CT cl, dx, vs, w, rfl, (hx j a (by rw [hfe]; exact List.mem_cons_self)).trans hH, hc cl, hn cl, q1, q⟩⟩
    | frz =>
      simp only [R] at rr
      obtain ⟨⟨a, dx, vs, rfl, hF, rk⟩, _⟩ := rr
      obtain ⟨w, fp3, q1, q2, _⟩ := Rk.val fs rk h4
      rw [fk_val] at q1
      have z := q2.noOwn hno
      subst z
      exact ⟨w, R.mono (HLe.refl _) x (HLe.e0 _).w (fun _ h => nomatch h) q2, fun HL Q s' _ q => ⟨_, e1, a, CT cl, dx, vs, w, rfl, s'.wf.ins hF, hc cl, hn cl, q1, q⟩⟩
    | bor =>
      simp only [R] at rr
      obtain ⟨⟨a, dx, vs, rfl, hF, rk⟩, _⟩ := rr
      obtain ⟨w, fp3, q1, q2, _⟩ := Rk.val fs rk h4
      rw [fk_val] at q1
      have z := q2.noOwn hno
      subst z
      exact ⟨w, q2, fun HL Q s' _ q => ⟨_, e1, a, CT cl, dx, vs, w, rfl, s'.wg.ins hF, hc cl, hn cl, q1, q⟩⟩
  | _ => cases h3
/-- a dict that isn't own -/
theorem dict_src {F G : Hp} {ρ : Env} {f : Nat → List Addr} {rv : Rv} {v : V} {m : Fl} {ks : List (Key × Pv.D)} (s : Ste K CT F G H ρ σ f) (hv : VR K CT F G H σ rv v []) (hd : rv.view ρ = some (.dct m ks)) (hm : m ≠ .own) :
    ∃ a vs, v = .ref a ∧ (H a = some (.dK vs) ∨ ∃ o, H a = some (.frz o (.dK vs))) ∧ Rk K CT F G H ks vs [] ∧ (F a ≠ none ∨ G a ≠ none) := by
  obtain ⟨fp', r⟩ := view_r s hv hd
  cases m with
  | own => exact absurd rfl hm
  | frz =>
    simp only [R] at r
    obtain ⟨_, ⟨a, vs, rfl, hF, rk⟩, _⟩ := r
    refine ⟨a, vs, rfl, ?_, Rk.mono (HLe.refl _) ks (HLe.e0 _).w (fun _ h => nomatch h) rk, .inl (by rw [hF]; exact fun z => nomatch z)⟩
    rcases s.wf.dk (.inl hF) with z | ⟨o, z⟩
    · exact .inl z
    · exact .inr ⟨o, z⟩
  | bor =>
    simp only [R] at r
    obtain ⟨_, ⟨a, vs, rfl, hF, rk⟩, _⟩ := r
    refine ⟨a, vs, rfl, ?_, rk, .inr ?_⟩
    · rcases s.wg.dk hF with z | ⟨o, z⟩
      · exact .inl z
      · exact .inr ⟨o, z⟩
    · rcases hF with z | ⟨o, z⟩ <;> rw [z] <;> exact fun z => nomatch z
theorem lock_off {F G : Hp} {ρ : Env} {f : Nat → List Addr} {a : Addr} (s : Ste K CT F G H ρ σ f) (h : F a ≠ none ∨ G a ≠ none) : ∀ i, a ∉ f i := fun i hi => by
  obtain ⟨_, h2, h3⟩ := s.ow i a hi
  rcases h with h | h
  · exact h h2
  · exact h h3
theorem lock_only {F : Hp} {a : Addr} {vs : List (Key × V)} (w : WLe F H) (hd : H a = some (.dK vs)) : ∀ u, F a = some u → u = .dK vs := fun u e => by
  rcases w a u e with z | ⟨o, ks, _, z⟩
  · rw [hd] at z; exact (Option.some.inj z).symm
  · rw [hd] at z; cases z
theorem lock_ste {F G : Hp} {ρ : Env} {f : Nat → List Addr} {a : Addr} {vs : List (Key × V)} (s : Ste K CT F G H ρ σ f) (hd : H a = some (.dK vs)) (h : F a ≠ none ∨ G a ≠ none) (od : Obj) : Ste K CT F G (upd H a (.frz od (.dK vs))) ρ σ f := by
  have off := lock_off s h
  have wl : ∀ {E : Hp}, WLe E H → WLe E (upd H a (.frz od (.dK vs))) := fun w x u e => by
    by_cases hx : x = a
    · subst hx
      have := lock_only w hd u e
      subst this
      exact .inr ⟨od, vs, rfl, upd_same⟩
    · rcases w x u e with z | ⟨o, ks, z1, z2⟩
      · exact .inl ((upd_ne hx).trans z)
      · exact .inr ⟨o, ks, z1, (upd_ne hx).trans z2⟩
  refine ⟨s.len, fun i d e => ?_, s.nd, s.dj, s.em, wl s.wf, wl s.wg⟩
  obtain ⟨v, h1, h2⟩ := s.at_ i d e
  exact ⟨v, h1, h2.up (off i)⟩
theorem lock_new {T : Nat → Bool} {F G F' H' : Hp} {ρ ρ' : Env} {f f' : Nat → List Addr} {a : Addr} {vs : List (Key × V)} {od : Obj} (s : Ste K CT F G H ρ σ f) (hd : H a = some (.dK vs)) (h : F a ≠ none ∨ G a ≠ none) (t : Stp T F (upd H a (.frz od (.dK vs))) ρ f F' H' ρ' f') :
    H' a = some (.frz od (.dK vs)) ∧ (F' a ≠ none ∨ G a ≠ none) ∧ (∀ u, F' a = some u → u = .dK vs) ∧ ∀ u, G a = some u → u = .dK vs := by
  refine ⟨t.keep a _ upd_same (lock_off s h), ?_, fun u e => ?_, lock_only s.wg hd⟩
  · rcases h with h | h
    · cases e : F a with
      | none => exact absurd e h
      | some u => exact .inl (by rw [t.le a u e]; exact fun z => nomatch z)
    · exact .inr h
  · rcases t.new a (by rw [e]; exact fun z => nomatch z) with z | z | ⟨i, z⟩
    · cases e2 : F a with
      | none => exact absurd e2 z
      | some u2 =>
        have := t.le a u2 e2
        rw [e] at this; cases this
        exact lock_only s.wf hd u e2
    · rw [upd_same] at z; cases z
    · exact absurd z (lock_off s h i)
theorem unlock_ste {F' G H' : Hp} {ρ' : Env} {σ' : L2.St} {f' : Nat → List Addr} {a : Addr} {vs : List (Key × V)} {od : Obj} (s' : Ste K CT F' G H' ρ' σ' f') (h : F' a ≠ none ∨ G a ≠ none) (hF : ∀ u, F' a = some u → u = .dK vs) (hG : ∀ u, G a = some u → u = .dK vs) : Ste K CT F' G (upd H' a (.dK vs)) ρ' σ' f' := by
  have off := lock_off s' h
  have wl : ∀ {E : Hp}, (∀ u, E a = some u → u = .dK vs) → WLe E H' → WLe E (upd H' a (.dK vs)) := fun he w x u e => by
    by_cases hx : x = a
    · subst hx
      rw [he u e]
      exact .inl upd_same
    · rcases w x u e with z | ⟨o, ks, z1, z2⟩
      · exact .inl ((upd_ne hx).trans z)
      · exact .inr ⟨o, ks, z1, (upd_ne hx).trans z2⟩
  refine ⟨s'.len, fun i d e => ?_, s'.nd, s'.dj, s'.em, wl hF s'.wf, wl hG s'.wg⟩
  obtain ⟨v, h1, h2⟩ := s'.at_ i d e
  exact ⟨v, h1, h2.up (off i)⟩
theorem unlock_stp {T : Nat → Bool} {F G F' H' : Hp} {ρ ρ' : Env} {f f' : Nat → List Addr} {a : Addr} {vs : List (Key × V)} {od : Obj} (s : Ste K CT F G H ρ σ f) (hd : H a = some (.dK vs)) (h : F a ≠ none ∨ G a ≠ none) (t : Stp T F (upd H a (.frz od (.dK vs))) ρ f F' H' ρ' f') :
    Stp T F H ρ f F' (upd H' a (.dK vs)) ρ' f' := by
  have hn : ∀ x, upd H a (.frz od (.dK vs)) x = none → H x = none := fun x e => by
    by_cases hx : x = a
    · rw [hx, upd_same] at e; cases e
    · rwa [upd_ne hx] at e
  refine ⟨t.le, fun x u e n => ?_, fun x e => ?_, fun i x hx => ?_, fun i hi => ?_, fun x u e => ?_⟩
  · by_cases hx : x = a
    · subst hx; rw [hd] at e; cases e; exact upd_same
    · rw [upd_ne hx]; exact t.keep x u (by rw [upd_ne hx]; exact e) n
  · rcases t.new x e with z | z | z
    · exact .inl z
    · exact .inr (.inl (hn x z))
    · exact .inr (.inr z)
  · rcases t.own i x hx with z | z
    · exact .inl z
    · exact .inr (hn x z)
  · obtain ⟨a1, a2, a3⟩ := t.st i hi
    refine ⟨a1, a2, fun x hx => ?_⟩
    have hxa : x ≠ a := fun z => lock_off s h i (z ▸ hx)
    rw [upd_ne hxa, a3 x hx, upd_ne hxa]
  · by_cases hx : x = a
    · exact ⟨_, by rw [hx]; exact upd_same⟩
    · obtain ⟨o', e'⟩ := t.live x u (by rw [upd_ne hx]; exact e)
      exact ⟨o', by rw [upd_ne hx]; exact e'⟩

/-- a locked dict's walk -/
def KW (K : PySem.W.Frag) (CT : Nat → Addr) (ik : IK) (wiK : TE → L2.TI) (g : TG) (js : List Nat) : Prop := ∀ (te : TE) (σ : L2.St) (H : Hp) (Rp : It → Hp → Prop) (F G : Hp) (ks : List (Key × Pv.D)) (vs : List (Key × V)) (a : Addr) (o : Obj) (m : Fl) (els : List (List Pv.D)),
  (∀ Q : VK, Q (.ref a) H → te σ H Q) → H a = some (.frz o (.dK vs)) → Rk K CT F G H ks vs [] → iterS ik [.dct m ks] = some els → (∀ J, Wk K CT F G H [a] J g js els → Rp J H) → wiK te σ H Rp
theorem Rk.get {F G : Hp} : ∀ (ks : List (Key × Pv.D)) {vs : List (Key × V)} {i : Nat} {k : Key} {d : Pv.D} {k' : Key} {v : V}, Rk K CT F G H ks vs [] → ks[i]? = some (k, d) → vs[i]? = some (k', v) → k = k' ∧ R K CT F G H d v []
  | [], _, i, _, _, _, _, _, e, _ => by simp at e
  | (k0, d0) :: ds, _, i, k, d, k', v, h, e, e2 => by
    simp only [Rk] at h
    obtain ⟨v0, vr, f1, f2, rfl, r1, r2, z⟩ := h
    obtain ⟨rfl, rfl⟩ := List.append_eq_nil_iff.mp z.symm
    cases i with
    | zero => simp only [List.getElem?_cons_zero, Option.some.injEq, Prod.mk.injEq] at e e2; obtain ⟨rfl, rfl⟩ := e; obtain ⟨rfl, rfl⟩ := e2; exact ⟨rfl, r1⟩
    | succ i => simp only [List.getElem?_cons_succ] at e e2; exact Rk.get ds r2 e e2
theorem key_rr {F G : Hp} (k : Key) : R K CT F G H (keyD k) (kV k) [] := by
  cases k <;> simp only [keyD, kV, R, and_self]
theorem KW_keys {j : Nat} : KW K CT .keys iKeys (gName j) [j] := by
  intro te σ H Rp F G ks vs a o m els ht hd rk hi hk
  simp only [iterS] at hi
  split at hi
  · cases hi
  cases hi
  have hl := Rk.len ks rk
  refine ht _ ⟨a, o, rfl, .inl ⟨vs, hd, hk _ ⟨fun i H1 ha hlt => ⟨(ha a (List.mem_singleton.mpr rfl)).trans hd, ?_⟩, fun i H1 ha hge => ⟨(ha a (List.mem_singleton.mpr rfl)).trans hd, ?_⟩, fun i H1 x Hx zs σ1 P ha wfl hy hyl hl hP => ?_⟩⟩⟩
  · rw [List.length_map] at hlt; omega
  · rw [List.length_map] at hge; omega
  · obtain ⟨rfl, k, v, hv, rfl⟩ := hyl
    rw [List.getElem?_map, Option.map_eq_some_iff] at hy
    obtain ⟨⟨k', d⟩, hq, rfl⟩ := hy
    obtain ⟨rfl, _⟩ := Rk.get ks rk hq hv
    exact hP [kV k'] _ (HLe.refl _) (R.one (key_rr k'))
theorem KW_values {j : Nat} : KW K CT .values iVals (gName j) [j] := by
  intro te σ H Rp F G ks vs a o m els ht hd rk hi hk
  simp only [iterS] at hi
  split at hi
  · cases hi
  cases hi
  have hl := Rk.len ks rk
  refine ht _ ⟨a, o, vs, rfl, hd, hk _ ⟨fun i H1 ha hlt => ⟨(ha a (List.mem_singleton.mpr rfl)).trans hd, ?_⟩, fun i H1 ha hge => ⟨(ha a (List.mem_singleton.mpr rfl)).trans hd, ?_⟩, fun i H1 x Hx zs σ1 P ha wfl hy hyl hl hP => ?_⟩⟩
  · rw [List.length_map] at hlt; omega
  · rw [List.length_map] at hge; omega
  · obtain ⟨rfl, k, hv⟩ := hyl
    rw [List.getElem?_map, Option.map_eq_some_iff] at hy
    obtain ⟨⟨k', d⟩, hq, rfl⟩ := hy
    obtain ⟨_, hr⟩ := Rk.get ks rk hq hv
    exact hP [x] _ (HLe.refl _) (R.one hr)
theorem KW_items {j k : Nat} : KW K CT .items iItems (gTup K 2 (gCons (gName j) (gCons (gName k) gNil))) [j, k] := by
  intro te σ H Rp F G ks vs a o m els ht hd rk hi hk
  simp only [iterS] at hi
  split at hi
  · cases hi
  cases hi
  have hl := Rk.len ks rk
  refine ht _ ⟨a, o, vs, rfl, hd, hk _ ⟨fun i H1 ha hlt => ⟨(ha a (List.mem_singleton.mpr rfl)).trans hd, ?_⟩, fun i H1 ha hge => ⟨(ha a (List.mem_singleton.mpr rfl)).trans hd, ?_⟩, fun i H1 x Hx zs σ1 P ha wfl hy hyl hl hP => ?_⟩⟩
  · rw [List.length_map] at hlt; omega
  · rw [List.length_map] at hge; omega
  · obtain ⟨T', k1, v, hv, rfl, hT', hHx⟩ := hyl
    rw [List.getElem?_map, Option.map_eq_some_iff] at hy
    obtain ⟨⟨k', d⟩, hq, rfl⟩ := hy
    obtain ⟨rfl, hr⟩ := Rk.get ks rk hq hv
    refine g2 hT' hHx (hP [kV k', v] Hx (by rw [hHx]; exact hle_new hT') ?_)
    simp only [Rs]
    exact ⟨kV k', [v], [], [], rfl, key_rr k', ⟨v, [], [], [], rfl, hr, ⟨rfl, rfl⟩, rfl⟩, rfl⟩
theorem iterS_dict {ik : IK} {ds : List Pv.D} {els : List (List Pv.D)} (hk : ik = .keys ∨ ik = .items ∨ ik = .values) (h : iterS ik ds = some els) : ∃ m ks, ds = [.dct m ks] ∧ m ≠ .own := by
  rcases hk with rfl | rfl | rfl <;>
  · match ds, h with
    | [.dct m ks], h =>
      simp only [iterS] at h
      split at h
      · cases h
      · rename_i hm; exact ⟨m, ks, rfl, hm⟩
/-- [.. for k in d ..]: under a lock of its own, or the caller's -/
theorem TI_compK {js : List Nat} {ik : IK} {e : PX} {te : TE} {c : Option PX} {e' : PX} {wiK : TE → L2.TI} {g : TG} (hk : ik = .keys ∨ ik = .items ∨ ik = .values) (kw : KW K CT ik wiK g js) (loc : Loc K CT Γ e te) (h : TI K CT Γ (.comp js ik [e] c e') σ H Q) :
    tLockE (tLc (wiK te) g (TBO K CT Γ c) (TI K CT Γ e') js) σ H Q ∨ tLc (wiK te) g (TBO K CT Γ c) (TI K CT Γ e') js σ H Q := by
  obtain ⟨F, G, ρ, f, rv, ρ', hs, he, hq⟩ := h
  simp only [ev, Option.bind_eq_some_iff] at he
  obtain ⟨r, h1, ds, h2, els, h3, h4⟩ := he
  split at h4
  case isFalse => cases h4
  rename_i hokf
  rw [Bool.and_eq_true] at hokf
  obtain ⟨_, hfree⟩ := hokf
  simp only [Option.bind_eq_some_iff] at h4
  obtain ⟨z, h5, h6⟩ := h4
  split at h6
  case isFalse => cases h6
  rename_i hlen
  cases h6
  obtain ⟨rv1, hr, he1⟩ := evs1 h1
  obtain ⟨hρ, v, hv, hloc⟩ := loc σ H F G ρ f rv1 r.2 hs he1
  rw [hr] at h2
  obtain ⟨d, hd, rfl⟩ := views1 h2
  obtain ⟨m, ks, ed, hm⟩ := iterS_dict hk h3
  cases ed
  rw [hρ] at hd h5 hfree
  obtain ⟨a, vs, rfl, hH, rk, hfg⟩ := dict_src hs hv hd hm
  have hr2 : r.2 = ρ := hρ
  have run : ∀ (HL : Hp) (o : Obj) (Q' : VK), Ste K CT F G HL ρ σ f → (∀ i x, x ∈ f i → HL x = H x) → HL a = some (.frz o (.dK vs)) → Rk K CT F G HL ks vs [] →
      (∀ v F' H' f' fp, Pst K CT (PX.comp js ik [e] c e').tch F G HL ρ σ f (backE z.2 ρ js) [.val (.lst .own z.1)] [v] F' H' f' fp → Q' v H') → tLc (wiK te) g (TBO K CT Γ c) (TI K CT Γ e') js σ HL Q' := fun HL o Q' sL hx hdL rkL hqL =>
    comp_core (ik := ik) (ies := [e]) (r := ([rv1], ρ)) hfree h5 hlen (fun Rp k => kw te σ HL Rp F G ks vs a o m els (fun Q q => hloc HL Q sL hx q) hdL rkL h3 fun J wk => k J F HL f [a] (Pst.nil sL) wk fun x hx => by
      rw [List.mem_singleton.mp hx]
      exact ⟨⟨_, hdL⟩, fun i _ => lock_off sL hfg i⟩) hqL
  rcases hH with hH | ⟨o, hH⟩
  · refine .inl ⟨a, .dK vs, hH, trivial, fun od => ?_⟩
    have sL := lock_ste hs hH hfg od
    have hx : ∀ i x, x ∈ f i → upd H a (.frz od (.dK vs)) x = H x := fun i x hx => upd_ne fun z => lock_off hs hfg i (z ▸ hx)
    refine run _ od _ sL hx upd_same (rk.up List.not_mem_nil) fun v F' H' f' fp p => ?_
    obtain ⟨z1, z2, z3, z4⟩ := lock_new hs hH hfg p.sp
    refine ⟨z1, hq v F' _ f' fp ⟨?_, ?_, ?_, p.nd, p.ap, fun x hx => ?_⟩⟩
    · rw [hr2]; exact unlock_ste (od := od) p.st z2 z3 z4
    · rw [hr2]; exact unlock_stp hs hH hfg p.sp
    · have w := vr1 p.vr
      refine VR.one (rv := .val (.lst .own z.1)) (show R K CT F' G (upd H' a (.dK vs)) (.lst .own z.1) v fp from R.up w fun z => ?_)
      obtain ⟨_, y1, y2⟩ := R.own (.lst .own _) w a z
      rcases z2 with q | q
      · exact q y1
      · exact q y2
    · rcases p.fr x hx with q | q
      · exact .inl q
      · refine .inr ?_
        by_cases hxa : x = a
        · rw [hxa, upd_same] at q; cases q
        · rwa [upd_ne hxa] at q
  · refine .inr (run H o Q hs (fun _ _ _ => rfl) hH rk fun v F' H' f' fp p => hq v F' H' f' fp (by rw [hr2]; exact p))
/-- for k in d: likewise -/
theorem T1_forK {js : List Nat} {ik : IK} {e : PX} {te : TE} {b : List PS} {wiK : TE → L2.TI} {g : TG} (hk : ik = .keys ∨ ik = .items ∨ ik = .values) (kw : KW K CT ik wiK g js) (loc : Loc K CT Γ e te) (h : T1 K CT N Γ (.for_ js ik [e] b) D σ H) :
    tLock (tFor (wiK te) g (TS_ K CT N Γ b)) D σ H ∨ tFor (wiK te) g (TS_ K CT N Γ b) D σ H := by
  obtain ⟨F, G, ρ, f, ρ', fl, hs, he, hq⟩ := h
  simp only [exec, Option.bind_eq_some_iff] at he
  obtain ⟨r, h1, ds, h2, els, h3, h4⟩ := he
  split at h4
  case isFalse => cases h4
  obtain ⟨rv1, hr, he1⟩ := evs1 h1
  obtain ⟨hρ, v, hv, hloc⟩ := loc σ H F G ρ f rv1 r.2 hs he1
  rw [hr] at h2
  obtain ⟨d, hd, rfl⟩ := views1 h2
  obtain ⟨m, ks, ed, hm⟩ := iterS_dict hk h3
  cases ed
  rw [hρ] at hd h4
  obtain ⟨a, vs, rfl, hH, rk, hfg⟩ := dict_src hs hv hd hm
  have run : ∀ (HL : Hp) (o : Obj) (D' : Ends), Ste K CT F G HL ρ σ f → (∀ i x, x ∈ f i → HL x = H x) → HL a = some (.frz o (.dK vs)) → Rk K CT F G HL ks vs [] →
      (∀ σ' F' H' f', Sst K CT (PS.for_ js ik [e] b).tch (PS.for_ js ik [e] b).asd F G HL ρ σ f F' H' ρ' σ' f' → Ends.at_ K CT D' G HL f F' H' σ' f' fl) → tFor (wiK te) g (TS_ K CT N Γ b) D' σ HL := fun HL o D' sL hx hdL rkL hqL =>
    for_core (ik := ik) (ies := [e]) (r := ([rv1], ρ)) h4 (fun Rp k => kw te σ HL Rp F G ks vs a o m els (fun Q q => hloc HL Q sL hx q) hdL rkL h3 fun J wk => k J F HL f [a] (Pst.nil sL) wk fun x hx => by
      rw [List.mem_singleton.mp hx]
      exact ⟨⟨_, hdL⟩, fun i _ => lock_off sL hfg i⟩) hqL
  rcases hH with hH | ⟨o, hH⟩
  · refine .inl ⟨a, .dK vs, hH, trivial, fun od => ?_⟩
    have sL := lock_ste hs hH hfg od
    have hx : ∀ i x, x ∈ f i → upd H a (.frz od (.dK vs)) x = H x := fun i x hx => upd_ne fun z => lock_off hs hfg i (z ▸ hx)
    refine run _ od _ sL hx upd_same (rk.up List.not_mem_nil) fun σ' F' H' f' s' => ?_
    obtain ⟨z1, z2, z3, z4⟩ := lock_new hs hH hfg s'.sp
    have g := hq σ' F' _ f' ⟨unlock_ste (od := od) s'.st z2 z3 z4, unlock_stp hs hH hfg s'.sp, s'.sg⟩
    cases fl with
    | nx => exact ⟨z1, g⟩
    | bk => exact ⟨z1, g⟩
    | ct => exact ⟨z1, g⟩
    | rt d =>
      intro v fp hr nd ha
      refine ⟨z1, g v fp (hr.up fun z => ?_) nd fun x hx => ⟨(ha x hx).1, ?_⟩⟩
      · obtain ⟨_, y1, y2⟩ := R.own d hr a z
        rcases z2 with q | q
        · exact q y1
        · exact q y2
      · rcases (ha x hx).2 with q | q
        · exact .inl q
        · refine .inr ?_
          by_cases hxa : x = a
          · rw [hxa, upd_same] at q; cases q
          · rwa [upd_ne hxa] at q
  · exact .inr (run H o D hs (fun _ _ _ => rfl) hH rk hq)
end
end Pv

set_option Elab.async false
set_option linter.all false
set_option maxRecDepth 100000
set_option maxHeartbeats 1000000
namespace Pv
open PySem L2

section
variable {K : PySem.W.Frag} {CT : Nat → Addr} {F G H : Hp}
theorem rd1 {d : D} {vs : List V} (h : RD K CT F G H [d] vs) : ∃ v fp, vs = [v] ∧ R K CT F G H d v fp := by
  simp only [RD] at h
  obtain ⟨v, vr, rfl, ⟨fp, r⟩, rfl⟩ := h
  exact ⟨v, fp, rfl, r⟩
theorem rd2 {d d2 : D} {vs : List V} (h : RD K CT F G H [d, d2] vs) : ∃ v fp v2 fp2, vs = [v, v2] ∧ R K CT F G H d v fp ∧ R K CT F G H d2 v2 fp2 := by
  simp only [RD] at h
  obtain ⟨v, vr, rfl, ⟨fp, r⟩, v2, vr2, rfl, ⟨fp2, r2⟩, rfl⟩ := h
  exact ⟨v, fp, v2, fp2, rfl, r, r2⟩
theorem rd3 {d d2 d3 : D} {vs : List V} (h : RD K CT F G H [d, d2, d3] vs) : ∃ v fp v2 fp2 v3 fp3, vs = [v, v2, v3] ∧ R K CT F G H d v fp ∧ R K CT F G H d2 v2 fp2 ∧ R K CT F G H d3 v3 fp3 := by
  simp only [RD] at h
  obtain ⟨v, vr, rfl, ⟨fp, r⟩, v2, vr2, rfl, ⟨fp2, r2⟩, v3, vr3, rfl, ⟨fp3, r3⟩, rfl⟩ := h
  exact ⟨v, fp, v2, fp2, v3, fp3, rfl, r, r2, r3⟩
abbrev Two (r : R2) : List V → Hp → VK → Prop := fun vs H Q => ∃ x y, vs = [x, y] ∧ r x y H Q
abbrev One (r : V → Hp → VK → Prop) : List V → Hp → VK → Prop := fun vs H Q => ∃ x, vs = [x] ∧ r x H Q
/-- the answer is a plain thing -/
theorem fin_atom {d : D} (hd : d.atom = true) {Q : VK} (hq : ∀ v F' H' fp, Alo F H F' H' → R K CT F' G H' d v fp → fp.Nodup → (∀ x ∈ fp, H x = none) → Q v H') : Q d.toV H :=
  hq _ F H [] (Alo.refl _ _) (R.atom hd) List.nodup_nil fun _ h => (nomatch h)
theorem okN_some {b : Bool} {d e : D} (h : okN b d = some e) : b = true ∧ d = e := by
  unfold okN at h
  split at h
  · rename_i hb; cases h; exact ⟨hb, rfl⟩
  · cases h
/-- a list's items by the heap, whatever its flag -/
theorem lst_r {m : Fl} {ds : List D} {v : V} {fp : List Addr} (wf : WLe F H) (wg : WLe G H) (h : R K CT F G H (.lst m ds) v fp) : ∃ a vs G' fp', v = .ref a ∧ H a = some (.lst vs) ∧ Rs K CT F G' H ds vs fp' ∧ WLe G' G := by
  cases m with
  | own =>
    simp only [R] at h
    obtain ⟨a, vs, fp', e1, e2, _, _, e3, _⟩ := h
    exact ⟨a, vs, G, fp', e1, e2, e3, WLe.refl _⟩
  | frz =>
    simp only [R] at h
    obtain ⟨⟨a, vs, e1, e2, e3⟩, _⟩ := h
    exact ⟨a, vs, e0, [], e1, wf.lst e2, e3, (HLe.e0 _).w⟩
  | bor =>
    simp only [R] at h
    obtain ⟨⟨a, vs, e1, e2, e3⟩, _⟩ := h
    exact ⟨a, vs, G, [], e1, wg.lst e2, e3, WLe.refl _⟩
theorem dct_r {m : Fl} {ks : List (Key × D)} {v : V} {fp : List Addr} (wf : WLe F H) (wg : WLe G H) (h : R K CT F G H (.dct m ks) v fp) : ∃ a vs G' fp', v = .ref a ∧ Rd H a (.dK vs) ∧ Rk K CT F G' H ks vs fp' ∧ WLe G' G ∧ (ks.map Prod.fst).Nodup ∧ ((m = .own) → H a = some (.dK vs)) := by
  cases m with
  | own =>
    simp only [R] at h
    obtain ⟨hk, a, vs, fp', e1, e2, _, _, e3, _⟩ := h
    exact ⟨a, vs, G, fp', e1, .inl e2, e3, WLe.refl _, hk, fun _ => e2⟩
  | frz =>
    simp only [R] at h
    obtain ⟨hk, ⟨a, vs, e1, e2, e3⟩, _⟩ := h
    exact ⟨a, vs, e0, [], e1, wf.dk (.inl e2), e3, (HLe.e0 _).w, hk, fun z => nomatch z⟩
  | bor =>
    simp only [R] at h
    obtain ⟨hk, ⟨a, vs, e1, e2, e3⟩, _⟩ := h
    exact ⟨a, vs, G, [], e1, wg.dk e2, e3, WLe.refl _, hk, fun z => nomatch z⟩
theorem tup_r {ds : List D} {v : V} {fp : List Addr} (wf : WLe F H) (h : R K CT F G H (.tup ds) v fp) : ∃ a vs, v = .ref a ∧ H a = some (.tup vs) ∧ Rs K CT F e0 H ds vs [] := by
  simp only [R] at h
  obtain ⟨⟨a, vs, e1, e2, e3⟩, _⟩ := h
  exact ⟨a, vs, e1, wf.tup e2, e3⟩
theorem Rs.one_ {G' : Hp} : ∀ (ds : List D) {vs : List V} {fp : List Addr} {i : Nat} {d : D}, Rs K CT F G' H ds vs fp → ds[i]? = some d → ∃ v fp', vs[i]? = some v ∧ R K CT F G' H d v fp'
  | [], _, _, i, _, _, e => by simp at e
  | d0 :: ds, _, _, i, d, h, e => by
    simp only [Rs] at h
    obtain ⟨v0, vr, f1, f2, rfl, r1, r2, _⟩ := h
    cases i with
    | zero => simp only [List.getElem?_cons_zero, Option.some.injEq] at e; subst e; exact ⟨v0, f1, rfl, r1⟩
    | succ i => simp only [List.getElem?_cons_succ] at e ⊢; exact Rs.one_ ds r2 e
theorem atI_len {α β : Type} {xs : List α} {ys : List β} {i : Int} {d : α} (hl : xs.length = ys.length) (h : atI xs i = some d) : ∃ j, ixN ys.length i = some j ∧ xs[j]? = some d := by
  unfold atI at h
  rw [hl] at h
  simp only [Option.bind_eq_some_iff] at h
  exact h
/-- an item that isn't own -/
theorem item_r {G' : Hp} {ds : List D} {vs : List V} {fp : List Addr} {i : Int} {d : D} (rs : Rs K CT F G' H ds vs fp) (wl : WLe G' G) (h : atI ds i = some d) (hno : d.noOwn = true) : ∃ v, atI vs i = some v ∧ R K CT F G H d v [] := by
  obtain ⟨j, h1, h2⟩ := atI_len (Rs.len ds rs).symm h
  obtain ⟨v, fp', h3, h4⟩ := Rs.one_ ds rs h2
  have := h4.noOwn hno
  subst this
  refine ⟨v, by unfold atI; rw [h1]; exact h3, R.mono (HLe.refl _) d wl (fun _ h => nomatch h) h4⟩
theorem fin_item {d : D} {v : V} (hr : R K CT F G H d v []) {Q : VK} (hq : ∀ v F' H' fp, Alo F H F' H' → R K CT F' G H' d v fp → fp.Nodup → (∀ x ∈ fp, H x = none) → Q v H') : Q v H :=
  hq _ F H [] (Alo.refl _ _) hr List.nodup_nil fun _ h => (nomatch h)
/-- a new list of things that aren't own -/
theorem fin_list {ds : List D} {vs : List V} (wf : WLe F H) (wg : WLe G H) (hr : Rs K CT F G H ds vs []) {Q : VK} (hq : ∀ v F' H' fp, Alo F H F' H' → R K CT F' G H' (.lst .own ds) v fp → fp.Nodup → (∀ x ∈ fp, H x = none) → Q v H') (p : Addr) (hp : H p = none) : Q (.ref p) (upd H p (.lst vs)) := by
  refine hq _ F _ [p] (Alo.obj hp) ?_ (by simp) fun x hx => by rw [List.mem_singleton.mp hx]; exact hp
  simp only [R]
  exact ⟨p, vs, [], rfl, upd_same, wf.none hp, wg.none hp, hr.up List.not_mem_nil, rfl⟩
theorem fin_dict {ks : List (Key × D)} {vs : List (Key × V)} (wf : WLe F H) (wg : WLe G H) (nk : (ks.map Prod.fst).Nodup) (hr : Rk K CT F G H ks vs []) {Q : VK} (hq : ∀ v F' H' fp, Alo F H F' H' → R K CT F' G H' (.dct .own ks) v fp → fp.Nodup → (∀ x ∈ fp, H x = none) → Q v H') (p : Addr) (hp : H p = none) : Q (.ref p) (upd H p (.dK vs)) := by
  refine hq _ F _ [p] (Alo.obj hp) ?_ (by simp) fun x hx => by rw [List.mem_singleton.mp hx]; exact hp
  simp only [R]
  exact ⟨nk, p, vs, [], rfl, upd_same, wf.none hp, wg.none hp, hr.up List.not_mem_nil, rfl⟩

theorem ii_some {f : Int → Int → Option D} {ds : List D} {d : D} (h : ii f ds = some d) : ∃ i j, ds = [.int i, .int j] ∧ f i j = some d := by
  unfold ii at h; split at h
  · exact ⟨_, _, rfl, h⟩
  · cases h
theorem i1_some {f : Int → Option D} {ds : List D} {d : D} (h : i1 f ds = some d) : ∃ i, ds = [.int i] ∧ f i = some d := by
  unfold i1 at h; split at h
  · exact ⟨_, rfl, h⟩
  · cases h
theorem l1_some {f : List D → Option D} {ds : List D} {d : D} (h : l1 f ds = some d) : ∃ m i, ds = [.lst m i] ∧ f i = some d := by
  unfold l1 at h; split at h
  · exact ⟨_, _, rfl, h⟩
  · cases h
theorem k1_some {f : List (Key × D) → Option D} {ds : List D} {d : D} (h : k1 f ds = some d) : ∃ m i, ds = [.dct m i] ∧ f i = some d := by
  unfold k1 at h; split at h
  · exact ⟨_, _, rfl, h⟩
  · cases h
theorem s1_some {f : Str → Option D} {ds : List D} {d : D} (h : s1 f ds = some d) : ∃ i, ds = [.str i] ∧ f i = some d := by
  unfold s1 at h; split at h
  · exact ⟨_, rfl, h⟩
  · cases h
theorem d1_some {f : D → Option D} {ds : List D} {d : D} (h : d1 f ds = some d) : ∃ i, ds = [i] ∧ f i = some d := by
  unfold d1 at h; split at h
  · exact ⟨_, rfl, h⟩
  · cases h
theorem d2_some {f : D → D → Option D} {ds : List D} {d : D} (h : d2 f ds = some d) : ∃ i j, ds = [i, j] ∧ f i j = some d := by
  unfold d2 at h; split at h
  · exact ⟨_, _, rfl, h⟩
  · cases h
theorem ss_some {f : Str → Str → Option D} {ds : List D} {d : D} (h : ss f ds = some d) : ∃ i j, ds = [.str i, .str j] ∧ f i j = some d := by
  unfold ss at h; split at h
  · exact ⟨_, _, rfl, h⟩
  · cases h
theorem ll_some {f : List D → List D → Option D} {ds : List D} {d : D} (h : ll f ds = some d) : ∃ m n i j, ds = [.lst m i, .lst n j] ∧ f i j = some d := by
  unfold ll at h; split at h
  · exact ⟨_, _, _, _, rfl, h⟩
  · cases h
theorem li_some {f : List D → Int → Option D} {ds : List D} {d : D} (h : li f ds = some d) : ∃ m i j, ds = [.lst m i, .int j] ∧ f i j = some d := by
  unfold li at h; split at h
  · exact ⟨_, _, _, rfl, h⟩
  · cases h
theorem lii_some {f : List D → Int → Int → Option D} {ds : List D} {d : D} (h : lii f ds = some d) : ∃ m i j k, ds = [.lst m i, .int j, .int k] ∧ f i j k = some d := by
  unfold lii at h; split at h
  · exact ⟨_, _, _, _, rfl, h⟩
  · cases h
theorem dl_some {f : D → List D → Option D} {ds : List D} {d : D} (h : dl f ds = some d) : ∃ x m i, ds = [x, .lst m i] ∧ f x i = some d := by
  unfold dl at h; split at h
  · exact ⟨_, _, _, rfl, h⟩
  · cases h
theorem dk_some {f : D → List (Key × D) → Option D} {ds : List D} {d : D} (h : dk f ds = some d) : ∃ x m i, ds = [x, .dct m i] ∧ f x i = some d := by
  unfold dk at h; split at h
  · exact ⟨_, _, _, rfl, h⟩
  · cases h
theorem kd_some {f : List (Key × D) → D → Option D} {ds : List D} {d : D} (h : kd f ds = some d) : ∃ m i x, ds = [.dct m i, x] ∧ f i x = some d := by
  unfold kd at h; split at h
  · exact ⟨_, _, _, rfl, h⟩
  · cases h
theorem kk_some {f : List (Key × D) → List (Key × D) → Option D} {ds : List D} {d : D} (h : kk f ds = some d) : ∃ m i n j, ds = [.dct m i, .dct n j] ∧ f i j = some d := by
  unfold kk at h; split at h
  · exact ⟨_, _, _, _, rfl, h⟩
  · cases h

theorem OS_I {o : Op} {C : Int → Int → Prop} {g : Int → Int → V} {fn : Int → Int → Option D} (e : opS o = ii fn) (h : ∀ i j d, fn i j = some d → C i j ∧ d.atom = true ∧ d.toV = g i j) : OS K CT (Two (rI C g)) o := by
  intro F G H ds vs d rd wf wg he Q hq
  rw [e] at he
  obtain ⟨i, j, hds, he2⟩ := ii_some he
  clear he
  have he := he2
  clear he2
  subst hds
  obtain ⟨hc, hd, hg⟩ := h i j d he
  obtain ⟨v, _, v2, _, rfl, r1, r2⟩ := rd2 rd
  simp only [R] at r1 r2
  obtain ⟨rfl, _⟩ := r1
  obtain ⟨rfl, _⟩ := r2
  exact ⟨_, _, rfl, i, j, rfl, rfl, hc, by rw [← hg]; exact fin_atom hd hq⟩
theorem OS_I0 {o : Op} {g : Int → Int → V} {fn : Int → Int → Option D} (e : opS o = ii fn) (h : ∀ i j d, fn i j = some d → d.atom = true ∧ d.toV = g i j) : OS K CT (Two (rI0 g)) o := by
  intro F G H ds vs d rd wf wg he Q hq
  rw [e] at he
  obtain ⟨i, j, hds, he2⟩ := ii_some he
  clear he
  have he := he2
  clear he2
  subst hds
  obtain ⟨hd, hg⟩ := h i j d he
  obtain ⟨v, _, v2, _, rfl, r1, r2⟩ := rd2 rd
  simp only [R] at r1 r2
  obtain ⟨rfl, _⟩ := r1
  obtain ⟨rfl, _⟩ := r2
  exact ⟨_, _, rfl, i, j, rfl, rfl, by rw [← hg]; exact fin_atom hd hq⟩
theorem OS_add : OS K CT (Two (rI0 fun i j => .int (i + j))) .add := OS_I0 rfl fun i j d h => by cases h; exact ⟨rfl, rfl⟩
theorem OS_sub : OS K CT (Two (rI0 fun i j => .int (i - j))) .sub := OS_I0 rfl fun i j d h => by cases h; exact ⟨rfl, rfl⟩
theorem OS_lt : OS K CT (Two (rI0 fun i j => .bl (decide (i < j)))) .lt := OS_I0 rfl fun i j d h => by cases h; exact ⟨rfl, rfl⟩
theorem OS_le : OS K CT (Two (rI0 fun i j => .bl (decide (i ≤ j)))) .le := OS_I0 rfl fun i j d h => by cases h; exact ⟨rfl, rfl⟩
theorem OS_gt : OS K CT (Two (rI0 fun i j => .bl (decide (j < i)))) .gt := OS_I0 rfl fun i j d h => by cases h; exact ⟨rfl, rfl⟩
theorem OS_ge : OS K CT (Two (rI0 fun i j => .bl (decide (j ≤ i)))) .ge := OS_I0 rfl fun i j d h => by cases h; exact ⟨rfl, rfl⟩
theorem OS_mul : OS K CT (Two (rI CMul fun i j => .int (i * j))) .mul := OS_I rfl fun i j d h => by
  obtain ⟨h1, rfl⟩ := okN_some h
  refine ⟨?_, rfl, rfl⟩
  have := of_decide_eq_true h1
  exact this
theorem OS_fdiv : OS K CT (Two (rI CDivW fun i j => .int (i / j))) .fdiv := OS_I rfl fun i j d h => by
  obtain ⟨h1, rfl⟩ := okN_some h
  exact ⟨(of_decide_eq_true h1 : 0 < j ∧ j.natAbs.log2 < 9000), rfl, rfl⟩
theorem OS_mod : OS K CT (Two (rI (fun _ j => 0 < j) fun i j => .int (i % j))) .mod := OS_I rfl fun i j d h => by
  obtain ⟨h1, rfl⟩ := okN_some h
  exact ⟨of_decide_eq_true h1, rfl, rfl⟩
theorem OS_pow : OS K CT (Two (rI CPow fun i j => .int (i ^ j.toNat))) .pow := OS_I rfl fun i j d h => by
  obtain ⟨h1, rfl⟩ := okN_some h
  have := of_decide_eq_true h1
  exact ⟨⟨this.1, by omega, this.2.2⟩, rfl, rfl⟩
theorem OS_neg : OS K CT (One (rU fun i => .int (-i))) .neg := by
  intro F G H ds vs d rd wf wg he Q hq
  obtain ⟨i, hds, he2⟩ := i1_some he
  clear he
  have he := he2
  clear he2
  subst hds
  cases he
  obtain ⟨v, _, rfl, r1⟩ := rd1 rd
  simp only [R] at r1
  obtain ⟨rfl, _⟩ := r1
  exact ⟨_, rfl, i, rfl, fin_atom (d := .int (-i)) rfl hq⟩
theorem OS_eqA : OS K CT (Two rEq) .eqA := by
  intro F G H ds vs d rd wf wg he Q hq
  obtain ⟨a, b, hds, he2⟩ := d2_some he
  clear he
  have he := he2
  clear he2
  subst hds
  obtain ⟨h1, rfl⟩ := okN_some he
  simp only [Bool.and_eq_true] at h1
  obtain ⟨v, _, v2, _, rfl, r1, r2⟩ := rd2 rd
  obtain ⟨rfl, _⟩ := R.atomV h1.1.1 r1
  obtain ⟨rfl, _⟩ := R.atomV h1.1.2 r2
  exact ⟨_, _, rfl, h1.2, fin_atom (d := .bl _) rfl hq⟩
theorem OS_neA : OS K CT (Two rNe) .neA := by
  intro F G H ds vs d rd wf wg he Q hq
  obtain ⟨a, b, hds, he2⟩ := d2_some he
  clear he
  have he := he2
  clear he2
  subst hds
  obtain ⟨h1, rfl⟩ := okN_some he
  simp only [Bool.and_eq_true] at h1
  obtain ⟨v, _, v2, _, rfl, r1, r2⟩ := rd2 rd
  obtain ⟨rfl, _⟩ := R.atomV h1.1.1 r1
  obtain ⟨rfl, _⟩ := R.atomV h1.1.2 r2
  exact ⟨_, _, rfl, h1.2, fin_atom (d := .bl _) rfl hq⟩
theorem isNon_v {d : D} {v : V} {fp : List Addr} (h : R K CT F G H d v fp) : d.isNon = decide (v = .non) := by
  cases d with
  | non => simp only [R] at h; rw [h.1]; rfl
  | bl b => simp only [R] at h; rw [h.1]; rfl
  | int i => simp only [R] at h; rw [h.1]; rfl
  | str s => simp only [R] at h; rw [h.1]; rfl
  | scr ns => simp only [R] at h; obtain ⟨⟨a, rfl, _⟩, _⟩ := h; rfl
  | tup ds => simp only [R] at h; obtain ⟨⟨a, vs, rfl, _⟩, _⟩ := h; rfl
  | lst m ds =>
    cases m <;> simp only [R] at h
    · obtain ⟨a, vs, fp', rfl, _⟩ := h; rfl
    · obtain ⟨⟨a, vs, rfl, _⟩, _⟩ := h; rfl
    · obtain ⟨⟨a, vs, rfl, _⟩, _⟩ := h; rfl
  | dct m ds =>
    cases m <;> simp only [R] at h
    · obtain ⟨_, a, vs, fp', rfl, _⟩ := h; rfl
    · obtain ⟨_, ⟨a, vs, rfl, _⟩, _⟩ := h; rfl
    · obtain ⟨_, ⟨a, vs, rfl, _⟩, _⟩ := h; rfl
  | ins m c ds =>
    cases m <;> simp only [R] at h
    · obtain ⟨a, dx, vs, fp', rfl, _⟩ := h; rfl
    · obtain ⟨⟨a, dx, vs, rfl, _⟩, _⟩ := h; rfl
    · obtain ⟨⟨a, dx, vs, rfl, _⟩, _⟩ := h; rfl
/-- the right side is None, written -/
theorem OS_isN : OS K CT (One fun x H Q => Q (.bl (decide (x = .non))) H) .isN := by
  intro F G H ds vs d rd wf wg he Q hq
  obtain ⟨a, hds, he2⟩ := d1_some he
  clear he
  have he := he2
  clear he2
  subst hds
  cases he
  obtain ⟨v, _, rfl, r1⟩ := rd1 rd
  refine ⟨v, rfl, ?_⟩
  show Q (.bl (decide (v = .non))) H
  rw [← isNon_v r1]
  exact fin_atom (d := .bl _) rfl hq
theorem OS_notN : OS K CT (One fun x H Q => Q (.bl (!decide (x = .non))) H) .notN := by
  intro F G H ds vs d rd wf wg he Q hq
  obtain ⟨a, hds, he2⟩ := d1_some he
  clear he
  have he := he2
  clear he2
  subst hds
  cases he
  obtain ⟨v, _, rfl, r1⟩ := rd1 rd
  refine ⟨v, rfl, ?_⟩
  show Q (.bl (!decide (v = .non))) H
  rw [← isNon_v r1]
  exact fin_atom (d := .bl _) rfl hq
theorem OS_max2 : OS K CT (fun xs H Q => ∃ i j, xs = [.int i, .int j] ∧ Q (.int (if j > i then j else i)) H) .max2 := by
  intro F G H ds vs d rd wf wg he Q hq
  obtain ⟨i, j, hds, he2⟩ := ii_some he
  clear he
  have he := he2
  clear he2
  subst hds
  cases he
  obtain ⟨v, _, v2, _, rfl, r1, r2⟩ := rd2 rd
  simp only [R] at r1 r2
  obtain ⟨rfl, _⟩ := r1
  obtain ⟨rfl, _⟩ := r2
  exact ⟨i, j, rfl, fin_atom (d := .int _) rfl hq⟩
theorem OS_min2 : OS K CT (fun xs H Q => ∃ i j, xs = [.int i, .int j] ∧ Q (.int (if j < i then j else i)) H) .min2 := by
  intro F G H ds vs d rd wf wg he Q hq
  obtain ⟨i, j, hds, he2⟩ := ii_some he
  clear he
  have he := he2
  clear he2
  subst hds
  cases he
  obtain ⟨v, _, v2, _, rfl, r1, r2⟩ := rd2 rd
  simp only [R] at r1 r2
  obtain ⟨rfl, _⟩ := r1
  obtain ⟨rfl, _⟩ := r2
  exact ⟨i, j, rfl, fin_atom (d := .int _) rfl hq⟩
theorem OS_int1 : OS K CT (fun xs H Q => (∃ i, xs = [.int i] ∧ Q (.int i) H) ∨ ∃ k, xs = [.bl k] ∧ Q (.int (if k then 1 else 0)) H) .int1 := by
  intro F G H ds vs d rd wf wg he Q hq
  obtain ⟨a, hds, he2⟩ := d1_some he
  clear he
  have he := he2
  clear he2
  subst hds
  obtain ⟨v, _, rfl, r1⟩ := rd1 rd
  cases a with
  | bl b => cases he; simp only [R] at r1; obtain ⟨rfl, _⟩ := r1; exact .inr ⟨b, rfl, fin_atom (d := .int _) rfl hq⟩
  | int b => cases he; simp only [R] at r1; obtain ⟨rfl, _⟩ := r1; exact .inl ⟨b, rfl, fin_atom (d := .int _) rfl hq⟩
  | _ => cases he
theorem OS_addS : OS K CT (Two fun x y H Q => ∃ i j, x = .str i ∧ y = .str j ∧ i.length + j.length ≤ sizeLine ∧ Q (.str (i ++ j)) H) .addS := by
  intro F G H ds vs d rd wf wg he Q hq
  obtain ⟨i, j, hds, he2⟩ := ss_some he
  clear he
  have he := he2
  clear he2
  subst hds
  obtain ⟨h1, rfl⟩ := okN_some he
  obtain ⟨v, _, v2, _, rfl, r1, r2⟩ := rd2 rd
  simp only [R] at r1 r2
  obtain ⟨rfl, _⟩ := r1
  obtain ⟨rfl, _⟩ := r2
  exact ⟨_, _, rfl, i, j, rfl, rfl, of_decide_eq_true h1, fin_atom (d := .str _) rfl hq⟩
theorem one_sign {c : Str} (h : c.cps.size = 1) : c = ⟨#[c.cps.toList.headD 0]⟩ := by
  obtain ⟨⟨l⟩⟩ := c
  match l, h with
  | [x], _ => rfl
theorem OS_inS : OS K CT (Two fun x y H Q => ∃ (c : Nat) (z : Str), x = .str ⟨#[c]⟩ ∧ y = .str z ∧ Q (.bl (decide (c ∈ z.cps.toList))) H) .inS := by
  intro F G H ds vs d rd wf wg he Q hq
  obtain ⟨i, j, hds, he2⟩ := ss_some he
  clear he
  have he := he2
  clear he2
  subst hds
  obtain ⟨h1, rfl⟩ := okN_some he
  obtain ⟨v, _, v2, _, rfl, r1, r2⟩ := rd2 rd
  simp only [R] at r1 r2
  obtain ⟨rfl, _⟩ := r1
  obtain ⟨rfl, _⟩ := r2
  exact ⟨_, _, rfl, i.cps.toList.headD 0, j, congrArg V.str (one_sign (of_decide_eq_true h1)), rfl, fin_atom (d := .bl _) rfl hq⟩
theorem OS_lenS : OS K CT (fun xs H Q => ∃ z, xs = [.str z] ∧ z.length ≤ sizeLine ∧ Q (.int z.length) H) .lenS := by
  intro F G H ds vs d rd wf wg he Q hq
  obtain ⟨i, hds, he2⟩ := s1_some he
  clear he
  have he := he2
  clear he2
  subst hds
  obtain ⟨h1, rfl⟩ := okN_some he
  obtain ⟨v, _, rfl, r1⟩ := rd1 rd
  simp only [R] at r1
  obtain ⟨rfl, _⟩ := r1
  exact ⟨i, rfl, of_decide_eq_true h1, fin_atom (d := .int _) rfl hq⟩
theorem OS_ixS : OS K CT (Two rIxS) .ixS := by
  intro F G H ds vs d rd wf wg he Q hq
  simp only [opS] at he
  obtain ⟨a, b, hds, he2⟩ := d2_some he
  clear he
  have he := he2
  clear he2
  subst hds
  obtain ⟨v, _, v2, _, rfl, r1, r2⟩ := rd2 rd
  cases a with
  | str z =>
    cases b with
    | int i =>
      dsimp only at he
      split at he
      case isFalse => cases he
      rename_i hl
      simp only [Option.bind_eq_some_iff, Option.some.injEq] at he
      obtain ⟨c, h1, rfl⟩ := he
      simp only [R] at r1 r2
      obtain ⟨rfl, _⟩ := r1
      obtain ⟨rfl, _⟩ := r2
      exact ⟨_, _, rfl, z, i, c, rfl, rfl, hl, h1, fin_atom (d := .str _) rfl hq⟩
    | _ => cases he
  | _ => cases he
theorem OS_lenL : OS K CT (fun xs H Q => ∃ p ys, xs = [.ref p] ∧ (SqL K H p ys ∨ SqT K H p ys) ∧ Q (.int ys.length) H) .lenL := by
  intro F G H ds vs d rd wf wg he Q hq
  obtain ⟨a, hds, he2⟩ := d1_some he
  clear he
  have he := he2
  clear he2
  subst hds
  obtain ⟨v, _, rfl, r1⟩ := rd1 rd
  cases a with
  | lst m xs =>
    cases he
    obtain ⟨a, vs, G', fp', rfl, hH, rs, _⟩ := lst_r wf wg r1
    refine ⟨a, vs, rfl, .inl (SqL.of hH), ?_⟩
    rw [Rs.len xs rs]
    exact fin_atom (d := .int _) rfl hq
  | tup xs =>
    cases he
    obtain ⟨a, vs, rfl, hH, rs⟩ := tup_r wf r1
    refine ⟨a, vs, rfl, .inr (SqT.of hH), ?_⟩
    rw [Rs.len xs rs]
    exact fin_atom (d := .int _) rfl hq
  | _ => cases he
theorem OS_lenC : OS K CT (fun xs H Q => ∃ p ys, xs = [.ref p] ∧ (SqL K H p ys ∨ SqT K H p ys) ∧ Q (.int ys.length) H) .lenC := by
  intro F G H ds vs d rd wf wg he Q hq
  obtain ⟨a, hds, he2⟩ := d1_some he
  clear he
  have he := he2
  clear he2
  subst hds
  obtain ⟨v, _, rfl, r1⟩ := rd1 rd
  cases a with
  | scr ns =>
    cases he
    simp only [R] at r1
    obtain ⟨⟨a, rfl, hq2⟩, _⟩ := r1
    refine ⟨a, _, rfl, .inl (wg.sql hq2), ?_⟩
    rw [List.length_map]
    exact fin_atom (d := .int _) rfl hq
  | _ => cases he
theorem OS_ixC : OS K CT (Two (rIxL K)) .ixC := by
  intro F G H ds vs d rd wf wg he Q hq
  simp only [opS] at he
  obtain ⟨a, b, hds, he2⟩ := d2_some he
  clear he
  have he := he2
  clear he2
  subst hds
  obtain ⟨v, _, v2, _, rfl, r1, r2⟩ := rd2 rd
  cases a with
  | scr ns =>
    cases b with
    | int i =>
      simp only [Option.bind_eq_some_iff, Option.some.injEq] at he
      obtain ⟨n, h1, rfl⟩ := he
      simp only [R] at r1 r2
      obtain ⟨⟨a, rfl, hq2⟩, _⟩ := r1
      obtain ⟨rfl, _⟩ := r2
      obtain ⟨j, h2, h3⟩ := atI_len (ys := ns.map V.int) (by rw [List.length_map]) h1
      refine ⟨_, _, rfl, a, _, i, .int n, rfl, rfl, wg.sql hq2, ?_, fin_atom (d := .int _) rfl hq⟩
      unfold atI
      rw [h2]
      show (ns.map V.int)[j]? = some (V.int n)
      rw [List.getElem?_map, h3]; rfl
    | _ => cases he
  | _ => cases he
theorem OS_ixL : OS K CT (Two (rIxL K)) .ixL := by
  intro F G H ds vs d rd wf wg he Q hq
  simp only [opS] at he
  obtain ⟨m, xs, i, hds, he2⟩ := li_some he
  clear he
  have he := he2
  clear he2
  subst hds
  simp only [Option.bind_eq_some_iff] at he
  obtain ⟨d', h1, h2⟩ := he
  obtain ⟨hno, rfl⟩ := okN_some h2
  obtain ⟨v, _, v2, _, rfl, r1, r2⟩ := rd2 rd
  simp only [R] at r2
  obtain ⟨rfl, _⟩ := r2
  obtain ⟨a, vs, G', fp', rfl, hH, rs, wl⟩ := lst_r wf wg r1
  obtain ⟨w, h3, h4⟩ := item_r rs wl h1 hno
  exact ⟨_, _, rfl, a, vs, i, w, rfl, rfl, SqL.of hH, h3, fin_item h4 hq⟩
theorem OS_ixT : OS K CT (Two (rIxT K)) .ixT := by
  intro F G H ds vs d rd wf wg he Q hq
  simp only [opS] at he
  obtain ⟨t, b, hds, he2⟩ := d2_some he
  clear he
  have he := he2
  clear he2
  subst hds
  obtain ⟨v, _, v2, _, rfl, r1, r2⟩ := rd2 rd
  cases t with
  | tup xs =>
    cases b with
    | int i =>
      simp only [Option.bind_eq_some_iff] at he
      obtain ⟨d', h1, h2⟩ := he
      obtain ⟨hno, rfl⟩ := okN_some h2
      simp only [R.eq_3] at r2
      obtain ⟨rfl, _⟩ := r2
      obtain ⟨a, vs, rfl, hH, rs⟩ := tup_r wf r1
      obtain ⟨w, h3, h4⟩ := item_r rs (HLe.e0 G).w h1 hno
      exact ⟨_, _, rfl, a, vs, i, w, rfl, rfl, SqT.of hH, h3, fin_item h4 hq⟩
    | _ => cases he
  | _ => cases he
theorem Rs.drop_ {G' : Hp} : ∀ (ds : List D) {vs : List V} (n : Nat), Rs K CT F G' H ds vs [] → Rs K CT F G' H (ds.drop n) (vs.drop n) []
  | [], _, n, h => by simp only [Rs] at h; rw [h.1]; simp [Rs]
  | d :: ds, _, 0, h => by simpa using h
  | d :: ds, _, n + 1, h => by
    simp only [Rs] at h
    obtain ⟨v, vr, f1, f2, rfl, r1, r2, z⟩ := h
    obtain ⟨rfl, rfl⟩ := List.append_eq_nil_iff.mp z.symm
    simp only [List.drop_succ_cons]
    exact Rs.drop_ ds n r2
theorem Rs.take_ {G' : Hp} : ∀ (ds : List D) {vs : List V} (n : Nat), Rs K CT F G' H ds vs [] → Rs K CT F G' H (ds.take n) (vs.take n) []
  | [], _, n, h => by simp only [Rs] at h; rw [h.1]; simp [Rs]
  | d :: ds, _, 0, h => by simp [Rs]
  | d :: ds, _, n + 1, h => by
    simp only [Rs] at h
    obtain ⟨v, vr, f1, f2, rfl, r1, r2, z⟩ := h
    obtain ⟨rfl, rfl⟩ := List.append_eq_nil_iff.mp z.symm
    simp only [List.take_succ_cons, Rs]
    exact ⟨v, _, [], [], rfl, r1, Rs.take_ ds n r2, rfl⟩
theorem noOwn_rs {m : Fl} {ds : List D} {v : V} {fp : List Addr} (wf : WLe F H) (wg : WLe G H) (h : R K CT F G H (.lst m ds) v fp) (hno : ds.all D.noOwn = true) : ∃ a vs, v = .ref a ∧ H a = some (.lst vs) ∧ Rs K CT F G H ds vs [] := by
  obtain ⟨a, vs, G', fp', rfl, hH, rs, wl⟩ := lst_r wf wg h
  have := Rs.noOwn ds rs hno
  subst this
  exact ⟨a, vs, rfl, hH, Rs.mono (HLe.refl _) ds wl (fun _ h => nomatch h) rs⟩
theorem cut_rs {ds : List D} {vs : List V} (rs : Rs K CT F G H ds vs []) (lo hi : Option Int) : Rs K CT F G H (cutD ds lo hi) (cutV vs lo hi) [] := by
  unfold cutD cutV
  rw [Rs.len ds rs]
  exact Rs.take_ _ _ (Rs.drop_ _ _ rs)
theorem OS_cat : OS K CT (Two rCat) .cat := by
  intro F G H ds vs d rd wf wg he Q hq
  obtain ⟨m, n, xs, ys, hds, he2⟩ := ll_some he
  clear he
  have he := he2
  clear he2
  subst hds
  obtain ⟨h1, rfl⟩ := okN_some he
  simp only [Bool.and_eq_true, decide_eq_true_eq] at h1
  obtain ⟨v, _, v2, _, rfl, r1, r2⟩ := rd2 rd
  obtain ⟨a, va, rfl, hA, ra⟩ := noOwn_rs wf wg r1 h1.1.1
  obtain ⟨b, vb, rfl, hB, rb⟩ := noOwn_rs wf wg r2 h1.1.2
  refine ⟨_, _, rfl, a, b, va, vb, rfl, rfl, hA, hB, by rw [Rs.len xs ra, Rs.len ys rb]; exact h1.2, fun p hp => fin_list wf wg ?_ hq p hp⟩
  exact Rs.append xs ra rb
theorem OS_cpL : OS K CT (fun xs H Q => ∃ p ys, xs = [.ref p] ∧ (SqL K H p ys ∨ SqT K H p ys) ∧ ∀ l, H l = none → Q (.ref l) (upd H l (.lst ys))) .cpL := by
  intro F G H ds vs d rd wf wg he Q hq
  obtain ⟨m, xs, hds, he2⟩ := l1_some he
  clear he
  have he := he2
  clear he2
  subst hds
  obtain ⟨h1, rfl⟩ := okN_some he
  obtain ⟨v, _, rfl, r1⟩ := rd1 rd
  obtain ⟨a, va, rfl, hA, ra⟩ := noOwn_rs wf wg r1 h1
  exact ⟨a, va, rfl, .inl (SqL.of hA), fun p hp => fin_list wf wg ra hq p hp⟩
theorem Rs.rev0 {ds : List D} {vs : List V} (rs : Rs K CT F G H ds vs []) : Rs K CT F G H ds.reverse vs.reverse [] := by
  obtain ⟨fp', h1, _, h2⟩ := Rs.rev ds rs List.nodup_nil
  have : fp' = [] := List.eq_nil_iff_forall_not_mem.mpr fun x hx => nomatch (h2 x hx)
  rw [this] at h1; exact h1
/-- readings of the special forms -/
def rRev (K : PySem.W.Frag) : V → Hp → VK → Prop := fun x H1 Q => ∃ a xs, x = .ref a ∧ SqL K H1 a xs ∧ ∀ p, H1 p = none → Q (.ref p) (upd H1 p (.lst xs.reverse))
theorem OS_rev : OS K CT (One (rRev K)) .rev := by
  intro F G H ds vs d rd wf wg he Q hq
  obtain ⟨m, xs, hds, he2⟩ := l1_some he
  clear he
  have he := he2
  clear he2
  subst hds
  obtain ⟨h1, rfl⟩ := okN_some he
  obtain ⟨v, _, rfl, r1⟩ := rd1 rd
  obtain ⟨a, va, rfl, hA, ra⟩ := noOwn_rs wf wg r1 h1
  exact ⟨_, rfl, a, va, rfl, SqL.of hA, fun p hp => fin_list wf wg (Rs.rev0 ra) hq p hp⟩
theorem OS_sl00 : OS K CT (One fun x H Q => rSlL K x none none H Q) (.slL false false) := by
  intro F G H ds vs d rd wf wg he Q hq
  obtain ⟨m, xs, hds, he2⟩ := l1_some he
  clear he
  have he := he2
  clear he2
  subst hds
  obtain ⟨h1, rfl⟩ := okN_some he
  obtain ⟨v, _, rfl, r1⟩ := rd1 rd
  obtain ⟨a, va, rfl, hA, ra⟩ := noOwn_rs wf wg r1 h1
  exact ⟨_, rfl, a, va, rfl, SqL.of hA, fun p hp => fin_list wf wg (cut_rs ra _ _) hq p hp⟩
theorem OS_sl10 : OS K CT (Two fun x y H Q => ∃ i, y = .int i ∧ rSlL K x (some i) none H Q) (.slL true false) := by
  intro F G H ds vs d rd wf wg he Q hq
  obtain ⟨m, xs, i, hds, he2⟩ := li_some he
  clear he
  have he := he2
  clear he2
  subst hds
  obtain ⟨h1, rfl⟩ := okN_some he
  obtain ⟨v, _, v2, _, rfl, r1, r2⟩ := rd2 rd
  simp only [R] at r2
  obtain ⟨rfl, _⟩ := r2
  obtain ⟨a, va, rfl, hA, ra⟩ := noOwn_rs wf wg r1 h1
  exact ⟨_, _, rfl, i, rfl, a, va, rfl, SqL.of hA, fun p hp => fin_list wf wg (cut_rs ra _ _) hq p hp⟩
theorem OS_sl01 : OS K CT (Two fun x y H Q => ∃ i, y = .int i ∧ rSlL K x none (some i) H Q) (.slL false true) := by
  intro F G H ds vs d rd wf wg he Q hq
  obtain ⟨m, xs, i, hds, he2⟩ := li_some he
  clear he
  have he := he2
  clear he2
  subst hds
  obtain ⟨h1, rfl⟩ := okN_some he
  obtain ⟨v, _, v2, _, rfl, r1, r2⟩ := rd2 rd
  simp only [R] at r2
  obtain ⟨rfl, _⟩ := r2
  obtain ⟨a, va, rfl, hA, ra⟩ := noOwn_rs wf wg r1 h1
  exact ⟨_, _, rfl, i, rfl, a, va, rfl, SqL.of hA, fun p hp => fin_list wf wg (cut_rs ra _ _) hq p hp⟩
theorem atoms_v {G' : Hp} : ∀ (ds : List D) {vs : List V} {fp : List Addr}, Rs K CT F G' H ds vs fp → ds.all D.atom = true → vs = ds.map D.toV
  | [], _, _, h, _ => by simp only [Rs] at h; exact h.1
  | d :: ds, _, _, h, n => by
    simp only [Rs] at h
    obtain ⟨v, vr, f1, f2, rfl, r1, r2, _⟩ := h
    rw [List.all_cons, Bool.and_eq_true] at n
    rw [List.map_cons, (R.atomV n.1 r1).1, atoms_v ds r2 n.2]
theorem flat_atom {d : D} (h : d.atom = true) : flatV d.toV = true := by
  cases d <;> first | rfl | (cases h)
theorem flat_all : ∀ (ds : List D), ds.all D.atom = true → (ds.map D.toV).all flatV = true
  | [], _ => rfl
  | d :: ds, h => by
    rw [List.all_cons, Bool.and_eq_true] at h
    rw [List.map_cons, List.all_cons, flat_atom h.1, flat_all ds h.2]; rfl
theorem OS_inL : OS K CT (Two (rIn K false)) .inL := by
  intro F G H ds vs d rd wf wg he Q hq
  obtain ⟨x, m, xs, hds, he2⟩ := dl_some he
  clear he
  have he := he2
  clear he2
  subst hds
  obtain ⟨h1, rfl⟩ := okN_some he
  rw [Bool.and_eq_true] at h1
  obtain ⟨v, _, v2, _, rfl, r1, r2⟩ := rd2 rd
  obtain ⟨rfl, _⟩ := R.atomV h1.1 r1
  obtain ⟨a, va, G', fp', rfl, hA, ra, _⟩ := lst_r wf wg r2
  have := atoms_v xs ra h1.2
  subst this
  exact ⟨_, _, rfl, a, _, rfl, .inl (SqL.of hA), flat_atom h1.1, flat_all xs h1.2, fin_atom (d := .bl _) rfl hq⟩
theorem OS_ninL : OS K CT (Two (rIn K true)) .ninL := by
  intro F G H ds vs d rd wf wg he Q hq
  obtain ⟨x, m, xs, hds, he2⟩ := dl_some he
  clear he
  have he := he2
  clear he2
  subst hds
  obtain ⟨h1, rfl⟩ := okN_some he
  rw [Bool.and_eq_true] at h1
  obtain ⟨v, _, v2, _, rfl, r1, r2⟩ := rd2 rd
  obtain ⟨rfl, _⟩ := R.atomV h1.1 r1
  obtain ⟨a, va, G', fp', rfl, hA, ra, _⟩ := lst_r wf wg r2
  have := atoms_v xs ra h1.2
  subst this
  exact ⟨_, _, rfl, a, _, rfl, .inl (SqL.of hA), flat_atom h1.1, flat_all xs h1.2, fin_atom (d := .bl _) rfl hq⟩
theorem bls_v {G' : Hp} : ∀ (ds : List D) {vs : List V} {fp : List Addr} {bs : List Bool}, Rs K CT F G' H ds vs fp → asBls ds = some bs → vs = bs.map V.bl
  | [], _, _, _, h, e => by simp only [Rs] at h; simp only [asBls, Option.some.injEq] at e; rw [h.1, ← e]; rfl
  | d :: ds, _, _, _, h, e => by
    simp only [Rs] at h
    obtain ⟨v, vr, f1, f2, rfl, r1, r2, _⟩ := h
    cases d with
    | bl b =>
      simp only [asBls, Option.bind_eq_some_iff, Option.some.injEq] at e
      obtain ⟨bs', h1, rfl⟩ := e
      simp only [R] at r1
      rw [List.map_cons, r1.1, bls_v ds r2 h1]
    | _ => cases e
theorem OS_all : OS K CT (rAll K) .all := by
  intro F G H ds vs d rd wf wg he Q hq
  simp only [opS] at he
  obtain ⟨m, xs, hds, he2⟩ := l1_some he
  clear he
  have he := he2
  clear he2
  subst hds
  simp only [Option.bind_eq_some_iff] at he
  obtain ⟨bs, h1, h2⟩ := he
  cases h2
  obtain ⟨v, _, rfl, r1⟩ := rd1 rd
  obtain ⟨a, va, G', fp', rfl, hA, ra, _⟩ := lst_r wf wg r1
  have := bls_v xs ra h1
  subst this
  exact ⟨a, bs, rfl, SqL.of hA, fin_atom (d := .bl _) rfl hq⟩
theorem OS_any : OS K CT (rAny K) .any := by
  intro F G H ds vs d rd wf wg he Q hq
  simp only [opS] at he
  obtain ⟨m, xs, hds, he2⟩ := l1_some he
  clear he
  have he := he2
  clear he2
  subst hds
  simp only [Option.bind_eq_some_iff] at he
  obtain ⟨bs, h1, h2⟩ := he
  cases h2
  obtain ⟨v, _, rfl, r1⟩ := rd1 rd
  obtain ⟨a, va, G', fp', rfl, hA, ra, _⟩ := lst_r wf wg r1
  have := bls_v xs ra h1
  subst this
  exact ⟨a, bs, rfl, SqL.of hA, fin_atom (d := .bl _) rfl hq⟩
mutual
theorem py_dp {G' : Hp} (wf : WLe F H) (wg : WLe G' H) : ∀ (d : D) {v : V} {fp : List Addr} {x : PyData}, R K CT F G' H d v fp → d.py = some x → Dp K H v x
  | .non, _, _, _, h, e => by simp only [R] at h; simp only [D.py, Option.some.injEq] at e; subst e; rw [h.1]; exact .non
  | .bl b, _, _, _, h, e => by simp only [R] at h; simp only [D.py, Option.some.injEq] at e; subst e; rw [h.1]; exact .bl b
  | .int b, _, _, _, h, e => by simp only [R] at h; simp only [D.py, Option.some.injEq] at e; subst e; rw [h.1]; exact .int b
  | .str b, _, _, _, h, e => by simp only [R] at h; simp only [D.py, Option.some.injEq] at e; subst e; rw [h.1]; exact .str b
  | .scr _, _, _, _, _, e => by simp [D.py] at e
  | .tup ds, _, _, _, h, e => by
    simp only [D.py, Option.bind_eq_some_iff, Option.some.injEq] at e
    obtain ⟨xs, h1, rfl⟩ := e
    obtain ⟨a, vs, rfl, hH, rs⟩ := tup_r wf h
    exact .tup (SqT.of hH) (pys_dp wf (HLe.e0 _).w ds rs h1)
  | .lst m ds, _, _, _, h, e => by
    simp only [D.py, Option.bind_eq_some_iff, Option.some.injEq] at e
    obtain ⟨xs, h1, rfl⟩ := e
    obtain ⟨a, vs, G2, fp', rfl, hH, rs, wl⟩ := lst_r wf wg h
    exact .lst (SqL.of hH) (pys_dp wf (wl.trans wg) ds rs h1)
  | .dct _ _, _, _, _, _, e => by simp [D.py] at e
  | .ins _ _ _, _, _, _, _, e => by simp [D.py] at e
theorem pys_dp {G' : Hp} (wf : WLe F H) (wg : WLe G' H) : ∀ (ds : List D) {vs : List V} {fp : List Addr} {xs : List PyData}, Rs K CT F G' H ds vs fp → pys ds = some xs → DpAll K H vs xs
  | [], _, _, _, h, e => by simp only [Rs] at h; simp only [pys, Option.some.injEq] at e; subst e; rw [h.1]; exact .nil
  | d :: ds, _, _, _, h, e => by
    simp only [Rs] at h
    obtain ⟨v, vr, f1, f2, rfl, r1, r2, _⟩ := h
    simp only [pys, Option.bind_eq_some_iff, Option.some.injEq] at e
    obtain ⟨x, h1, xs, h2, rfl⟩ := e
    exact .cons (py_dp wf wg d r1 h1) (pys_dp wf wg ds r2 h2)
end
theorem OS_eqP : OS K CT (Two (rEqD K)) .eqP := by
  intro F G H ds vs d rd wf wg he Q hq
  simp only [opS] at he
  obtain ⟨a, b, hds, he2⟩ := d2_some he
  clear he
  have he := he2
  clear he2
  subst hds
  simp only [Option.bind_eq_some_iff] at he
  obtain ⟨x, h1, y, h2, h3⟩ := he
  obtain ⟨h4, rfl⟩ := okN_some h3
  rw [Bool.and_eq_true] at h4
  obtain ⟨v, _, v2, _, rfl, r1, r2⟩ := rd2 rd
  exact ⟨_, _, rfl, x, y, py_dp wf wg a r1 h1, py_dp wf wg b r2 h2, h4.1, h4.2, fin_atom (d := .bl _) rfl hq⟩
theorem OS_neP : OS K CT (Two (rNeD K)) .neP := by
  intro F G H ds vs d rd wf wg he Q hq
  simp only [opS] at he
  obtain ⟨a, b, hds, he2⟩ := d2_some he
  clear he
  have he := he2
  clear he2
  subst hds
  simp only [Option.bind_eq_some_iff] at he
  obtain ⟨x, h1, y, h2, h3⟩ := he
  obtain ⟨h4, rfl⟩ := okN_some h3
  rw [Bool.and_eq_true] at h4
  obtain ⟨v, _, v2, _, rfl, r1, r2⟩ := rd2 rd
  exact ⟨_, _, rfl, x, y, py_dp wf wg a r1 h1, py_dp wf wg b r2 h2, h4.1, h4.2, fin_atom (d := .bl _) rfl hq⟩
end
end Pv

set_option Elab.async false
set_option linter.all false
set_option maxRecDepth 100000
set_option maxHeartbeats 1000000
namespace Pv
open PySem L2 PyProof.Rows

section
variable {X : Cx}
/-- sorted of a list of texts, however long -/
def rSrtS (K : PySem.W.Frag) : List V → Hp → VK → Prop := fun vs H Q => ∃ (l : Addr) (ws : List Str), vs = [V.ref l] ∧ SqL K H l (ws.map V.str) ∧ ws.length ≤ sizeLine ∧
  ∀ (zs : List Str) (b : Addr), zs.Perm ws → sortedS zs = true → H b = none → Q (.ref b) (upd H b (.lst (zs.map V.str)))
theorem cr_srtS : CallR X (.builtin "sorted") (rSrtS X.K) := by
  intro pins s σ H args us Q inv rel h
  obtain ⟨l, ws, rfl, sq, hz, q⟩ := h
  obtain ⟨items, rv, pl, _⟩ := inv.list sq
  have el := rv.length
  rw [List.length_map] at el
  rw [Vals.ref1 rel]
  refine sorted_strsAny pl.isList rv.strs (by omega) fun res zs g1 g2 g3 => ?_
  obtain ⟨e, he⟩ := sortedAll_at s.heap items res
  have hl : (zs.map V.str).length ≤ sizeLine := by
    rw [List.length_map, g2.length_eq]; exact hz
  refine ⟨.ref _, upd H (s.heap.objs.size + 1) (.lst (zs.map V.str)), ?_, rfl, q zs _ g2 g3 (inv.hok.fresh (Nat.le_succ _))⟩
  exact inv.laid (t' := s.toks) (fun _ _ => sortedAll_old) (Nat.le_succ _) ⟨hl, res.toList, e, vals_of_strs g1, he⟩
/-- sorted of a dict whose keys are texts, however many -/
def rSrtK : List V → Hp → VK → Prop := fun vs H Q => ∃ (l : Addr) (ps : List (Key × V)) (ws : List Str), vs = [.ref l] ∧ Rd H l (.dK ps) ∧ ps.map (·.1) = ws.map Sum.inr ∧
  ∀ (zs : List Str) (b : Addr), zs.Perm ws → sortedS zs = true → H b = none → Q (.ref b) (upd H b (.lst (zs.map V.str)))
theorem cr_srtK (calm : X.calm = true) : CallR X (.builtin "sorted") rSrtK := by
  intro pins s σ H args us Q inv rel h
  obtain ⟨l, ps, ws, rfl, rd, ekeys, q⟩ := h
  obtain ⟨u, rfl, ru⟩ := vals1 rel
  cases ru
  obtain ⟨zl, lo, es, kv, dof⟩ := dk_rd inv.hok rd
  obtain ⟨pv, at_⟩ := dof.dictAt
  have ek : es.map (·.1) = ws.map Sum.inr := kv.keys.symm.trans ekeys
  have len1 : es.length = ws.length := by
    have := congrArg List.length ek
    simpa using this
  have len2 : es.length ≤ sizeLine := by rw [← kv.length]; exact zl
  refine Calls.call_function_entry kind_sorted plain_sorted entry_sorted (args_sorted1 _) ?_
  unfold Builtin.«sorted»
  refine wpAny_bind (m := checkCount "sorted" 1 1 _) (wpAny_pure ?_)
  refine wpAny_bind (PySem.W.kdu_collect (A := X.A.in1) (PySem.W.kdl_dict (knd := mixKind X.prog X.w) (kvs := es) (ep := pv) lo) (inv.ok.hd calm) at_ len2 fun h2 t2 col kept hcol => ?_)
  have clen : col.toList.length = ws.length := by rw [Array.length_toList, hcol.1, len1]
  have are : StrsAre col.toList ws := strs_at clen fun j v e => by
    obtain ⟨k, x, p1, p2⟩ := hcol.2 j v (by rw [← Array.getElem?_toList]; exact e)
    have p3 : (es.map (·.1))[j]? = some k := by rw [List.getElem?_map, p1]; rfl
    rw [ek, List.getElem?_map] at p3
    cases p4 : ws[j]? with
    | none => rw [p4] at p3; cases p3
    | some y =>
      rw [p4] at p3
      obtain rfl : Sum.inr y = k := Option.some.inj p3
      obtain ⟨t, ev⟩ := Value.isStrOf_shape (x := y) (v := v) p2
      exact ⟨y, t, rfl, ev⟩
  have inv2 : Inv X pins σ H { s with heap := h2, toks := t2 } := inv.kept kept
  refine wpAny_bind (wpAny_newList ?_ (by omega))
  have hnew : (h2.push (seqObj "list" col.toList.toArray 0)).get? h2.objs.size = some (seqObj "list" col.toList.toArray 0) := Heap.get?_push_size _ rfl
  show wpAny _ _ _ _ _ { s with heap := h2.push (seqObj "list" col.toList.toArray 0), toks := t2 }
  refine wpAny_bind (wpAny_holding (wpAny_call_entry slot_list_sort ⟨_, hnew, rfl⟩ entry_list_sort (list_sort_treeKAny strKind_oneLt
    (s := { s with heap := h2.push (seqObj "list" col.toList.toArray 0), toks := t2 }) hnew are.keysOf
    (fun a1 a2 rest e => keyKind_strs (by rw [← e]; exact are)) (by omega) fun st' hp hs => ⟨_, rfl, ?_⟩) (args_list_sort _)))
  obtain ⟨zs, g1, g2, g3⟩ := sorted_out_str are hp hs
  obtain ⟨e', he'⟩ := sortedHeap_at (vs := col.toList) (out := (arrOf st').map (·.2)) hnew
  have hl : (zs.map V.str).length ≤ sizeLine := by
    rw [List.length_map, g2.length_eq]; omega
  refine wpAny_pure ⟨_, rfl, .ref h2.objs.size, upd H h2.objs.size (.lst (zs.map V.str)), ?_, rfl, q zs _ g2 g3 (inv2.hok.fresh (Nat.le_refl _))⟩
  refine inv2.laid (t' := t2) (fun b u e => ?_) (Nat.le_refl _) (show ObjOk X.prog X.w _ _ _ (.lst (zs.map V.str)) from ⟨hl, _, e', vals_of_strs g1, by rw [Array.toArray_toList]; exact he'⟩)
  have hb : b < h2.objs.size := Heap.lt_size e
  rw [sortedHeap_old (Nat.ne_of_lt hb) (by rw [size_push']; exact Nat.lt_succ_of_lt hb)]
  exact Heap.get?_push_of_some _ e
end

section
variable {K : PySem.W.Frag} {CT : Nat → Addr} {F G H : Hp}
theorem asStrs_v {G' : Hp} : ∀ (ds : List D) {vs : List V} {fp : List Addr} {ws : List Str}, Rs K CT F G' H ds vs fp → asStrs ds = some ws → vs = ws.map V.str
  | [], _, _, _, h, e => by simp only [Rs] at h; simp only [asStrs, Option.some.injEq] at e; rw [h.1, ← e]; rfl
  | d :: ds, _, _, _, h, e => by
    simp only [Rs] at h
    obtain ⟨v, vr, f1, f2, rfl, r1, r2, _⟩ := h
    cases d with
    | str b =>
      simp only [asStrs, Option.bind_eq_some_iff, Option.some.injEq] at e
      obtain ⟨bs', h1, rfl⟩ := e
      simp only [R] at r1
      rw [List.map_cons, r1.1, asStrs_v ds r2 h1]
    | _ => cases e
theorem keyStrs_v : ∀ (ks : List (Key × D)) {ws : List Str}, keyStrs ks = some ws → ks.map Prod.fst = ws.map Sum.inr
  | [], _, e => by simp only [keyStrs, Option.some.injEq] at e; rw [← e]; rfl
  | (k, d) :: ks, _, e => by
    cases k with
    | inr s =>
      simp only [keyStrs, Option.bind_eq_some_iff, Option.some.injEq] at e
      obtain ⟨ws, h1, rfl⟩ := e
      rw [List.map_cons, List.map_cons, keyStrs_v ks h1]
    | inl i => cases e
theorem strs_rs : ∀ ws : List Str, Rs K CT F G H (ws.map D.str) (ws.map V.str) []
  | [] => by simp only [List.map_nil, Rs, and_self]
  | w :: ws => by simp only [List.map_cons, Rs]; exact ⟨_, _, [], [], rfl, by simp only [R, and_self], strs_rs ws, rfl⟩
theorem strLe_total (a b : Str) : (strLe a b || strLe b a) = true := by
  unfold strLe
  rcases List.le_total a.cps.toList b.cps.toList with h | h
  · rw [decide_eq_true h]; rfl
  · rw [decide_eq_true h, Bool.or_true]
theorem strLe_trans (a b c : Str) (h1 : strLe a b = true) (h2 : strLe b c = true) : strLe a c = true :=
  decide_eq_true (List.le_trans (of_decide_eq_true h1) (of_decide_eq_true h2))
theorem strLe_anti (a b : Str) (h1 : strLe a b = true) (h2 : strLe b a = true) : a = b := by
  have h : a.cps.toList = b.cps.toList := List.le_antisymm (of_decide_eq_true h1) (of_decide_eq_true h2)
  obtain ⟨x⟩ := a
  obtain ⟨y⟩ := b
  exact congrArg Str.mk (Array.toList_inj.mp h)
theorem not_ltCps {x y : Str} (h : (!Spec.ltCps x.cps.toList y.cps.toList) = true) : strLe y x = true := by
  rw [ltCps_eq] at h
  simp only [Bool.not_eq_true', decide_eq_false_iff_not] at h
  exact decide_eq_true (List.not_lt.mp h)
theorem rising_pw : ∀ (p : Str) (l : List Str), risingS p l = true → (∀ y ∈ l, strLe p y = true) ∧ l.Pairwise fun a b => strLe a b = true
  | _, [], _ => ⟨fun _ h => (nomatch h), .nil⟩
  | p, x :: r, h => by
    simp only [risingS, Bool.and_eq_true] at h
    obtain ⟨h1, h2⟩ := rising_pw x r h.2
    have hp := not_ltCps h.1
    refine ⟨fun y hy => ?_, List.pairwise_cons.mpr ⟨h1, h2⟩⟩
    rcases List.mem_cons.mp hy with rfl | hy
    · exact hp
    · exact strLe_trans _ _ _ hp (h1 y hy)
theorem sortedS_pw (l : List Str) (h : sortedS l = true) : l.Pairwise fun a b => strLe a b = true := by
  cases l with
  | nil => exact .nil
  | cons x r =>
    obtain ⟨h1, h2⟩ := rising_pw x r h
    exact List.pairwise_cons.mpr ⟨h1, h2⟩
theorem pw_one : ∀ (l m : List Str), l.Perm m → l.Pairwise (fun a b => strLe a b = true) → m.Pairwise (fun a b => strLe a b = true) → l = m
  | [], m, h, _, _ => h.nil_eq
  | a :: l, [], h, _, _ => absurd h.symm.nil_eq (by simp)
  | a :: l, b :: m, h, h1, h2 => by
    obtain ⟨p1, p2⟩ := List.pairwise_cons.mp h1
    obtain ⟨q1, q2⟩ := List.pairwise_cons.mp h2
    have e : a = b := by
      have ha : a ∈ b :: m := h.subset List.mem_cons_self
      have hb : b ∈ a :: l := h.symm.subset List.mem_cons_self
      rcases List.mem_cons.mp ha with e | ha
      · exact e
      · rcases List.mem_cons.mp hb with e | hb
        · exact e.symm
        · exact strLe_anti _ _ (p1 b hb) (q1 a ha)
    subst e
    rw [pw_one l m (List.perm_cons _ |>.mp h) p2 q2]
theorem sortS_pw (l : List Str) : (sortS l).Pairwise fun a b => strLe a b = true := List.pairwise_mergeSort strLe_trans strLe_total l
theorem sortS_perm (l : List Str) : (sortS l).Perm l := List.mergeSort_perm l _
theorem sortS_one {zs ws : List Str} (h : zs.Perm ws) (k : sortedS zs = true) : zs = sortS ws := pw_one _ _ (h.trans (sortS_perm ws).symm) (sortedS_pw zs k) (sortS_pw ws)
theorem OS_srtS : OS K CT (rSrtS K) .srtS := by
  intro F G H ds vs d rd wf wg he Q hq
  obtain ⟨m, xs, hds, he2⟩ := l1_some he
  clear he
  subst hds
  simp only [Option.bind_eq_some_iff] at he2
  obtain ⟨ws, h1, h2⟩ := he2
  obtain ⟨h3, rfl⟩ := okN_some h2
  obtain ⟨v, _, rfl, r1⟩ := rd1 rd
  obtain ⟨a, va, G', fp', rfl, hA, ra, _⟩ := lst_r wf wg r1
  have := asStrs_v xs ra h1
  subst this
  refine ⟨a, ws, rfl, SqL.of hA, Nat.le_trans (of_decide_eq_true h3) line_big, fun zs p hp hs hn => ?_⟩
  rw [sortS_one hp hs]
  exact fin_list wf wg (strs_rs _) hq p hn
theorem OS_srtK : OS K CT rSrtK .srtK := by
  intro F G H ds vs d rd wf wg he Q hq
  obtain ⟨m, xs, hds, he2⟩ := k1_some he
  clear he
  subst hds
  simp only [Option.bind_eq_some_iff] at he2
  obtain ⟨ws, h1, h2⟩ := he2
  obtain ⟨h3, rfl⟩ := okN_some h2
  obtain ⟨v, _, rfl, r1⟩ := rd1 rd
  obtain ⟨a, va, G', fp', rfl, hA, ra, _, _, _⟩ := dct_r wf wg r1
  refine ⟨a, va, ws, rfl, hA, (Rk.keys xs ra).trans (keyStrs_v xs h1), fun zs p hp hs hn => ?_⟩
  rw [sortS_one hp hs]
  exact fin_list wf wg (strs_rs _) hq p hn
theorem rd_cases {a : Addr} {vs : List (Key × V)} (h : Rd H a (.dK vs)) : H a = some (.dK vs) ∨ ∃ o, H a = some (.frz o (.dK vs)) := h
/-- len of a dict, locked or not -/
def rLenK : List V → Hp → VK → Prop := fun xs H Q => ∃ a kvs, xs = [V.ref a] ∧ Rd H a (.dK kvs) ∧ Q (.int kvs.length) H
theorem OS_lenK : OS K CT rLenK .lenK := by
  intro F G H ds vs d rd wf wg he Q hq
  obtain ⟨m, xs, hds, he2⟩ := k1_some he
  clear he
  subst hds
  cases he2
  obtain ⟨v, _, rfl, r1⟩ := rd1 rd
  obtain ⟨a, va, G', fp', rfl, hA, ra, _, _, _⟩ := dct_r wf wg r1
  refine ⟨a, va, rfl, hA, ?_⟩
  rw [Rk.len xs ra]
  exact fin_atom (d := .int _) rfl hq
/-- d[k], k in d, k not in d: by values -/
theorem OS_ixK : OS K CT (Two fun x y H Q => ∃ a v, x = .ref a ∧ DGet H a y (some v) ∧ Q v H) .ixK := by
  intro F G H ds vs d rd wf wg he Q hq
  obtain ⟨m, xs, k, hds, he2⟩ := kd_some he
  clear he
  subst hds
  simp only [Option.bind_eq_some_iff] at he2
  obtain ⟨key, h1, d', h2, h3⟩ := he2
  obtain ⟨hno, rfl⟩ := okN_some h3
  obtain ⟨v, _, v2, _, rfl, r1, r2⟩ := rd2 rd
  obtain ⟨a, va, G', fp', rfl, hA, ra, wl, _, _⟩ := dct_r wf wg r1
  have hk := key_v r2 h1
  obtain ⟨w, fp3, q1, q2, _⟩ := Rk.val xs ra h2
  have z := q2.noOwn hno
  subst z
  exact ⟨_, _, rfl, a, w, rfl, .inl ⟨va, key, hA, hk, q1.symm⟩, fin_item (R.mono (HLe.refl _) d' wl (fun _ h => nomatch h) q2) hq⟩
theorem OS_inK : OS K CT (Two fun y x H Q => ∃ a o, x = .ref a ∧ DGet H a y o ∧ Q (.bl o.isSome) H) .inK := by
  intro F G H ds vs d rd wf wg he Q hq
  obtain ⟨k, m, xs, hds, he2⟩ := dk_some he
  clear he
  subst hds
  simp only [Option.bind_eq_some_iff] at he2
  obtain ⟨key, h1, h2⟩ := he2
  cases h2
  obtain ⟨v, _, v2, _, rfl, r1, r2⟩ := rd2 rd
  obtain ⟨a, va, G', fp', rfl, hA, ra, wl, _, _⟩ := dct_r wf wg r2
  have hk := key_v r1 h1
  refine ⟨_, _, rfl, a, valV va key, rfl, .inl ⟨va, key, hA, hk, rfl⟩, ?_⟩
  rw [Rk.some_ xs ra]
  exact fin_atom (d := .bl _) rfl hq
theorem OS_ninK : OS K CT (Two fun y x H Q => ∃ a o, x = .ref a ∧ DGet H a y o ∧ Q (.bl (!o.isSome)) H) .ninK := by
  intro F G H ds vs d rd wf wg he Q hq
  obtain ⟨k, m, xs, hds, he2⟩ := dk_some he
  clear he
  subst hds
  simp only [Option.bind_eq_some_iff] at he2
  obtain ⟨key, h1, h2⟩ := he2
  cases h2
  obtain ⟨v, _, v2, _, rfl, r1, r2⟩ := rd2 rd
  obtain ⟨a, va, G', fp', rfl, hA, ra, wl, _, _⟩ := dct_r wf wg r2
  have hk := key_v r1 h1
  refine ⟨_, _, rfl, a, valV va key, rfl, .inl ⟨va, key, hA, hk, rfl⟩, ?_⟩
  rw [Rk.some_ xs ra]
  exact fin_atom (d := .bl _) rfl hq
theorem Rk.noOwn {G' : Hp} : ∀ (ks : List (Key × D)) {vs : List (Key × V)} {fp : List Addr}, Rk K CT F G' H ks vs fp → (ks.all fun p => p.2.noOwn) = true → fp = []
  | [], _, _, h, _ => by simp only [Rk] at h; exact h.2
  | (k, d) :: ks, _, _, h, n => by
    simp only [Rk] at h
    obtain ⟨v, vr, g1, g2, rfl, h1, h2, rfl⟩ := h
    rw [List.all_cons, Bool.and_eq_true] at n
    rw [h1.noOwn n.1, Rk.noOwn ks h2 n.2]; rfl
theorem OS_cpK : OS K CT (fun xs H Q => ∃ (a : Addr) (kvs : List (Key × V)), xs = [.ref a] ∧ Rd H a (.dK kvs) ∧ ∀ p, H p = none → Q (.ref p) (upd H p (.dK kvs))) .cpK := by
  intro F G H ds vs d rd wf wg he Q hq
  obtain ⟨m, xs, hds, he2⟩ := k1_some he
  clear he
  subst hds
  obtain ⟨h1, rfl⟩ := okN_some he2
  obtain ⟨v, _, rfl, r1⟩ := rd1 rd
  obtain ⟨a, va, G', fp', rfl, hA, ra, wl, nk, _⟩ := dct_r wf wg r1
  have := Rk.noOwn xs ra h1
  subst this
  exact ⟨a, va, rfl, hA, fun p hp => fin_dict wf wg nk (Rk.mono (HLe.refl _) xs wl (fun _ h => nomatch h) ra) hq p hp⟩
/-- dict of a list of pairs -/
theorem pairs_rk {G' : Hp} (wf : WLe F H) : ∀ (ds : List D) {vs : List V} {fp : List Addr} {ks : List (Key × D)}, Rs K CT F G' H ds vs fp → pairsD ds = some ks →
    ∃ (ps : List Addr) (kvs : List (Key × V)), vs = ps.map V.ref ∧ Paired (fun p kv => SqT K H p [kV kv.1, kv.2]) ps kvs ∧ Rk K CT F e0 H ks kvs []
  | [], _, _, _, h, e => by
    simp only [Rs] at h
    simp only [pairsD, Option.some.injEq] at e
    subst e
    exact ⟨[], [], h.1, .nil, by simp only [Rk, and_self]⟩
  | .tup [k, d] :: ds, _, _, _, h, e => by
    simp only [pairsD, Option.bind_eq_some_iff, Option.some.injEq] at e
    obtain ⟨key, h1, ks, h2, rfl⟩ := e
    simp only [Rs] at h
    obtain ⟨v, vr, g1, g2, rfl, r1, r2, _⟩ := h
    obtain ⟨a, vs2, rfl, hH, rs⟩ := tup_r wf r1
    simp only [Rs] at rs
    obtain ⟨kv, _, f1, f2, rfl, rk, ⟨dv, _, f3, f4, rfl, rdv, ⟨rfl, rfl⟩, z2⟩, z1⟩ := rs
    obtain ⟨rfl, e2⟩ := List.append_eq_nil_iff.mp z1.symm
    subst e2
    obtain ⟨rfl, _⟩ := List.append_eq_nil_iff.mp z2.symm
    obtain ⟨ps, kvs, rfl, hp, hr⟩ := pairs_rk wf ds r2 h2
    refine ⟨a :: ps, (key, dv) :: kvs, rfl, .cons ?_ hp, ?_⟩
    · rw [key_v rk h1] at hH; exact SqT.of hH
    · simp only [Rk]; exact ⟨dv, kvs, [], [], rfl, rdv, hr, rfl⟩
  | .tup [] :: ds, _, _, _, _, e => by simp [pairsD] at e
  | .tup [_] :: ds, _, _, _, _, e => by simp [pairsD] at e
  | .tup (_ :: _ :: _ :: _) :: ds, _, _, _, _, e => by simp [pairsD] at e
  | .non :: _, _, _, _, _, e => by simp [pairsD] at e
  | .bl _ :: _, _, _, _, _, e => by simp [pairsD] at e
  | .int _ :: _, _, _, _, _, e => by simp [pairsD] at e
  | .str _ :: _, _, _, _, _, e => by simp [pairsD] at e
  | .scr _ :: _, _, _, _, _, e => by simp [pairsD] at e
  | .lst _ _ :: _, _, _, _, _, e => by simp [pairsD] at e
  | .dct _ _ :: _, _, _, _, _, e => by simp [pairsD] at e
  | .ins _ _ _ :: _, _, _, _, _, e => by simp [pairsD] at e
theorem merge_rk {G' : Hp} : ∀ (ms : List (Key × D)) {ks : List (Key × D)} {vs ws : List (Key × V)}, Rk K CT F G' H ks vs [] → (ks.map Prod.fst).Nodup → Rk K CT F G' H ms ws [] →
    Rk K CT F G' H (mergeA ks ms) (mergeK vs ws) [] ∧ ((mergeA ks ms).map Prod.fst).Nodup
  | [], _, _, _, h, nk, hm => by simp only [Rk] at hm; rw [hm.1]; exact ⟨h, nk⟩
  | (k, d) :: ms, ks, vs, _, h, nk, hm => by
    simp only [Rk] at hm
    obtain ⟨v, vr, g1, g2, rfl, h1, h2, z⟩ := hm
    obtain ⟨rfl, rfl⟩ := List.append_eq_nil_iff.mp z.symm
    obtain ⟨fp', w1, _, w3⟩ := Rk.put h1 k ks h (by simp)
    have : fp' = [] := List.eq_nil_iff_forall_not_mem.mpr fun x hx => by rcases w3 x hx with z | z <;> cases z
    subst this
    have nk2 := (putA_nodup k d ks nk).1
    have e : mergeK vs ((k, v) :: vr) = mergeK (putA vs k v) vr := by
      show mergeK (putK vs k v) vr = _
      rw [putK_eq vs k v (by rw [Rk.keys ks h]; exact nk)]
    rw [e]
    exact merge_rk ms w1 nk2 h2
theorem OS_mkK : OS K CT (fun xs H Q => ∃ (a : Addr) (ps : List Addr) (kvs : List (Key × V)), xs = [.ref a] ∧ SqL K H a (ps.map V.ref) ∧ Paired (fun p kv => SqT K H p [kV kv.1, kv.2]) ps kvs ∧
    ∀ p, H p = none → Q (.ref p) (upd H p (.dK (mergeK [] kvs)))) .mkK := by
  intro F G H ds vs d rd wf wg he Q hq
  obtain ⟨m, xs, hds, he2⟩ := l1_some he
  clear he
  subst hds
  simp only [Option.bind_eq_some_iff] at he2
  obtain ⟨ks, h1, h2⟩ := he2
  obtain ⟨h3, rfl⟩ := okN_some h2
  obtain ⟨v, _, rfl, r1⟩ := rd1 rd
  obtain ⟨a, va, G', fp', rfl, hA, ra, _⟩ := lst_r wf wg r1
  obtain ⟨ps, kvs, rfl, hp, hr⟩ := pairs_rk wf xs ra h1
  obtain ⟨m1, m2⟩ := merge_rk ks (ks := []) (vs := []) (by simp only [Rk, and_self]) (by simp) hr
  exact ⟨a, ps, kvs, rfl, SqL.of hA, hp, fun p hn => fin_dict wf wg m2 (Rk.mono (HLe.refl _) _ (HLe.e0 _).w (fun _ h => nomatch h) m1) hq p hn⟩
end
end Pv

set_option Elab.async false
set_option linter.all false
set_option maxRecDepth 100000
set_option maxHeartbeats 1000000
namespace Pv
open PySem L2 PyProof.Rows

section
variable {K : PySem.W.Frag} {CT : Nat → Addr}
mutual
theorem R.noG {F G G' H : Hp} : ∀ (d : D) {v : V} {fp : List Addr}, d.noBor = true → (∀ a ∈ fp, G' a = none) → R K CT F G H d v fp → R K CT F G' H d v fp
  | .non, _, _, _, _, h => by simp only [R] at h ⊢; exact h
  | .bl _, _, _, _, _, h => by simp only [R] at h ⊢; exact h
  | .int _, _, _, _, _, h => by simp only [R] at h ⊢; exact h
  | .str _, _, _, _, _, h => by simp only [R] at h ⊢; exact h
  | .scr _, _, _, n, _, h => by simp [D.noBor] at n
  | .tup ds, _, _, _, _, h => by simp only [R] at h ⊢; exact h
  | .lst m ds, _, _, n, hf, h => by
    cases m with
    | own =>
      simp only [R] at h ⊢
      simp only [D.noBor] at n
      obtain ⟨b, vs, fp', e, q, h1, h2, r, rfl⟩ := h
      exact ⟨b, vs, fp', e, q, h1, hf b List.mem_cons_self, Rs.noG ds n (fun a ha => hf a (List.mem_cons_of_mem _ ha)) r, rfl⟩
    | frz => simp only [R] at h ⊢; exact h
    | bor => simp [D.noBor] at n
  | .dct m ds, _, _, n, hf, h => by
    cases m with
    | own =>
      simp only [R] at h ⊢
      simp only [D.noBor] at n
      obtain ⟨hk, b, vs, fp', e, q, h1, h2, r, rfl⟩ := h
      exact ⟨hk, b, vs, fp', e, q, h1, hf b List.mem_cons_self, Rk.noG ds n (fun a ha => hf a (List.mem_cons_of_mem _ ha)) r, rfl⟩
    | frz => simp only [R] at h ⊢; exact h
    | bor => simp [D.noBor] at n
  | .ins m c ds, _, _, n, hf, h => by
    cases m with
    | own =>
      simp only [R] at h ⊢
      simp only [D.noBor] at n
      obtain ⟨b, dx, vs, fp', e, q, h1, h2, r, rfl⟩ := h
      exact ⟨b, dx, vs, fp', e, q, h1, hf b List.mem_cons_self, Rk.noG ds n (fun a ha => hf a (List.mem_cons_of_mem _ ha)) r, rfl⟩
    | frz => simp only [R] at h ⊢; exact h
    | bor => simp [D.noBor] at n
theorem Rs.noG {F G G' H : Hp} : ∀ (d : List D) {v : List V} {fp : List Addr}, noBors d = true → (∀ a ∈ fp, G' a = none) → Rs K CT F G H d v fp → Rs K CT F G' H d v fp
  | [], _, _, _, _, h => by simp only [Rs] at h ⊢; exact h
  | d :: ds, _, _, n, hf, h => by
    simp only [Rs] at h ⊢
    simp only [noBors, Bool.and_eq_true] at n
    obtain ⟨v, vr, f1, f2, e, r, rs, rfl⟩ := h
    exact ⟨v, vr, f1, f2, e, R.noG d n.1 (fun a ha => hf a (List.mem_append_left _ ha)) r, Rs.noG ds n.2 (fun a ha => hf a (List.mem_append_right _ ha)) rs, rfl⟩
theorem Rk.noG {F G G' H : Hp} : ∀ (d : List (Key × D)) {v : List (Key × V)} {fp : List Addr}, noBork d = true → (∀ a ∈ fp, G' a = none) → Rk K CT F G H d v fp → Rk K CT F G' H d v fp
  | [], _, _, _, _, h => by simp only [Rk] at h ⊢; exact h
  | (k, d) :: ds, _, _, n, hf, h => by
    simp only [Rk] at h ⊢
    simp only [noBork, Bool.and_eq_true] at n
    obtain ⟨v, vr, f1, f2, e, r, rs, rfl⟩ := h
    exact ⟨v, vr, f1, f2, e, R.noG d n.1 (fun a ha => hf a (List.mem_append_left _ ha)) r, Rk.noG ds n.2 (fun a ha => hf a (List.mem_append_right _ ha)) rs, rfl⟩
end
end

/-- how a body ends -/
def finF (io : Bool) (d : D) (ρ : Env) : Option (D × Option D) :=
  if d.noBor = true then if io = true then (get ρ 0).bind fun d1 => if d1.noBor = true then some (d, some d1) else none else some (d, none) else none
def runF (N : Nat) (Γ : Fns) (b : List PS) (n : Nat) (io : Bool) (ds : List D) : Option (D × Option D) :=
  (execs N Γ b (ds.map some ++ List.replicate (n - ds.length) none)).bind fun q => match q.2 with
    | .nx => finF io .non q.1
    | .rt d => finF io d q.1
    | _ => none

section
variable {K : PySem.W.Frag} {CT : Nat → Addr} {Γ : Fns}
theorem Rs.at {F G H : Hp} : ∀ (ds : List D) {vs : List V} {fp : List Addr} {i : Nat} {d : D}, Rs K CT F G H ds vs fp → ds[i]? = some d → ∃ v f, vs[i]? = some v ∧ R K CT F G H d v f ∧ (fp = [] → f = [])
  | [], _, _, _, _, _, e => by cases e
  | d0 :: ds, _, _, 0, d, h, e => by
    simp only [Rs] at h
    obtain ⟨v, vr, f1, f2, rfl, r, _, rfl⟩ := h
    cases e
    exact ⟨v, f1, rfl, r, fun z => (List.append_eq_nil_iff.mp z).1⟩
  | d0 :: ds, _, _, i + 1, d, h, e => by
    simp only [Rs] at h
    obtain ⟨v, vr, f1, f2, rfl, _, rs, rfl⟩ := h
    obtain ⟨w, f, q1, q2, q3⟩ := Rs.at ds rs (i := i) e
    exact ⟨w, f, q1, q2, fun z => q3 (List.append_eq_nil_iff.mp z).2⟩
theorem pad_get {α : Type} {xs : List α} {n i : Nat} {d : α} (h : (xs.map some ++ List.replicate n none)[i]? = some (some d)) : xs[i]? = some d := by
  by_cases hi : i < xs.length
  · rw [List.getElem?_append_left (by rw [List.length_map]; exact hi), List.getElem?_map] at h
    cases e : xs[i]? with
    | none => rw [e] at h; cases h
    | some x => rw [e] at h; cases h; rfl
  · rw [List.getElem?_append_right (by rw [List.length_map]; omega)] at h
    have q := List.mem_of_getElem? h
    rw [List.mem_replicate] at q
    cases q.2
theorem get_pad {α : Type} {xs : List α} {n i : Nat} {d : α} (h : xs[i]? = some d) : (xs.map some ++ List.replicate n none)[i]? = some (some d) := by
  have hi : i < xs.length := (List.getElem?_eq_some_iff.mp h).1
  rw [List.getElem?_append_left (by rw [List.length_map]; exact hi), List.getElem?_map, h]; rfl
/-- the state at a def's entry -/
theorem entry {F G H : Hp} {N : List Str} {ds : List D} {vs : List V} {f : Nat → List Addr} (hl : vs.length = ds.length) (hn : ds.length ≤ N.length)
    (h : ∀ i d, ds[i]? = some d → ∃ v, vs[i]? = some v ∧ R K CT F G H d v (f i)) (nd : ∀ i, (f i).Nodup) (dj : ∀ i j a, a ∈ f i → a ∈ f j → i = j) (em : ∀ i, ds[i]? = none → f i = []) (wf : WLe F H) (wg : WLe G H) :
    Ste K CT F G H (ds.map some ++ List.replicate (N.length - ds.length) none) (L2.start N vs) f where
  len := by unfold L2.start; simp only [List.length_append, List.length_map, List.length_replicate, hl]
  at_ := fun i d e => by
    obtain ⟨v, q, r⟩ := h i d (pad_get e)
    exact ⟨v, get_pad q, r⟩
  nd := nd
  dj := dj
  em := fun i e => em i (by
    cases q : ds[i]? with
    | none => rfl
    | some d => exact absurd (get_pad q) (e d))
  wf := wf
  wg := wg
theorem hide_w {H : Hp} (A : List Addr) : WLe (hide H A) H := fun a u e => by
  unfold hide at e
  split at e
  · cases e
  · exact .inl e
variable {P : Program} {w : World} {mg : Str → Option Value} {base : Heap}
theorem fn_ok {x qual : Str} {st : Stmt} {f : Addr} {fd : FuncData} {N ps : List Str} {k n : Nat} {S : List D → Option (D × Option D)} {b : List PS} {io : Bool} (F : L2.Fun K x qual st f fd) (sc : FnScope N ps (defScope st)) (hn : ps.length = n) (hN : n ≤ N.length)
    (hio : io = true → asdS b 0 = false)
    (hb : ∀ (fuel : Nat) (cdv : Value) (A : Around) (outer : List PySem.Env) (s : Shared) (H : Hp) (E : XK), Room k (A.deeper (envOfC qual (defScope st) s.heap.objs.size f cdv)) →
      PSs (cxOf CX0 P w K mg base N qual (defScope st) f cdv A outer s H E).nox (defBody st) (TS_ K CT fuel Γ b))
    (hS : ∀ ds r o, S ds = some (r, o) → o.isSome = io ∧ ∃ fuel, runF fuel Γ b N.length io ds = some (r, o)) : FnOk P w K mg base CX0 (k + 1) f fd ps (spV K CT S n) := by
  refine F.ok sc (fun vs H Q E h => by rw [hn]; exact h.1) (fun cdv A outer s H vs Q E hr h => ?_)
  obtain ⟨hlen, F0, ds, r, o, A0, wf, nd, hSd, ha, hq⟩ := h
  obtain ⟨ho, fuel, hrun⟩ := hS ds r o hSd
  refine ⟨_, hb fuel cdv A outer s H E hr, ?_⟩
  -- the entry
  have hent : ∃ G ff, Ste K CT F0 G H (ds.map some ++ List.replicate (N.length - ds.length) none) (L2.start N vs) ff ∧ ff 0 = A0 ∧ (∀ i a, a ∈ ff i → a ∈ A0) := by
    cases o with
    | none =>
      obtain ⟨rfl, rs⟩ := ha
      have hl := Rs.len ds rs
      refine ⟨H, fun _ => [], entry hl (by omega) (fun i d e => ?_) (fun _ => List.nodup_nil) (fun _ _ _ h => (nomatch h)) (fun _ _ => rfl) wf (WLe.refl H), rfl, fun _ _ h => h⟩
      obtain ⟨v, f1, q1, q2, q3⟩ := Rs.at ds rs e
      rw [q3 rfl] at q2
      exact ⟨v, q1, q2⟩
    | some d1 =>
      obtain ⟨d0, dr, v0, vr, rfl, rfl, r0, rs⟩ := ha
      have hl := Rs.len dr rs
      refine ⟨hide H A0, fun i => if i = 0 then A0 else [], entry (by simp only [List.length_cons, hl]) (by simp only [List.length_cons] at hlen ⊢; omega) (fun i d e => ?_) (fun i => ?_) (fun i j a h1 h2 => ?_) (fun i e => ?_) wf (hide_w A0), if_pos rfl, fun i a h => ?_⟩
      · cases i with
        | zero => cases e; exact ⟨v0, rfl, r0⟩
        | succ i =>
          obtain ⟨v, f1, q1, q2, q3⟩ := Rs.at dr rs (i := i) e
          rw [q3 rfl] at q2
          exact ⟨v, q1, q2⟩
      · show (if i = 0 then A0 else []).Nodup
        split
        · exact nd
        · exact List.nodup_nil
      · have g1 : a ∈ (if i = 0 then A0 else []) := h1
        have g2 : a ∈ (if j = 0 then A0 else []) := h2
        split at g1
        · split at g2
          · rename_i q1 q2; rw [q1, q2]
          · cases g2
        · cases g1
      · show (if i = 0 then A0 else []) = []
        rw [if_neg]
        rintro rfl
        cases e
      · have g1 : a ∈ (if i = 0 then A0 else []) := h
        split at g1
        · exact g1
        · cases g1
  obtain ⟨G, ff, hs, hf0, hff⟩ := hent
  have hd : ds.length = n := by
    rw [← hlen]
    cases o with
    | none => exact (Rs.len ds ha.2).symm
    | some d1 =>
      obtain ⟨d0, dr, v0, vr, rfl, rfl, r0, rs⟩ := ha
      simp only [List.length_cons, Rs.len dr rs]
  simp only [runF, Option.bind_eq_some_iff] at hrun
  obtain ⟨⟨ρ', fl⟩, he, hfin⟩ := hrun
  refine ⟨F0, G, _, ff, ρ', fl, hs, he, fun σ' F' H' f' S' => ?_⟩
  have key : ∀ d v fp, finF io d ρ' = some (r, o) → R K CT F' G H' d v fp → fp.Nodup → (∀ a ∈ fp, (∀ i, a ∉ f' i) ∧ ((∃ j, a ∈ ff j) ∨ H a = none)) → Q v H' := by
    intro d v fp hf hr nfp hfp
    unfold finF at hf
    split at hf
    · rename_i nb
      have hA' : ∀ a ∈ f' 0, a ∈ A0 ∨ H a = none := fun a ha => by
        rcases S'.sp.own 0 a ha with ⟨j, hj⟩ | hj
        · exact .inl (hff j a hj)
        · exact .inr hj
      have hFin : ∀ A' : List Addr, (∀ a ∈ A', a ∈ f' 0) → Fin F0 H A0 F' H' A' := fun A' hsub => by
        refine ⟨S'.sp.le, fun a u e na => S'.sp.keep a u e fun i hi => na (hff i a hi), fun a h => ?_, fun a ha => hA' a (hsub a ha), S'.sp.live, S'.st.wf⟩
        rcases S'.sp.new a h with q | q | ⟨i, q⟩
        · exact .inl q
        · exact .inr (.inl q)
        · exact .inr (.inr (hff i a q))
      have hfr : ∀ a ∈ fp, a ∈ A0 ∨ H a = none := fun a ha => by
        rcases (hfp a ha).2 with ⟨j, hj⟩ | hj
        · exact .inl (hff j a hj)
        · exact .inr hj
      split at hf
      · rename_i hi
        simp only [Option.bind_eq_some_iff] at hf
        obtain ⟨d1, g1, hf⟩ := hf
        split at hf
        · rename_i nb1
          cases hf
          obtain ⟨v1, q1, r1⟩ := S'.st.get g1
          have hv1 := q1
          rw [S'.sg 0 (hio hi)] at hv1
          obtain ⟨d0, dr, v0, vr, rfl, rfl, r0, rs⟩ := ha
          have : v0 = v1 := by
            have z : (L2.start N (v0 :: vr))[0]? = some (some v0) := rfl
            rw [hv1] at z; cases z; rfl
          subst this
          refine hq v F' H' fp (f' 0) (hFin _ fun _ h => h) (R.noG _ nb (fun _ _ => rfl) hr) ?_ hfr ⟨v0, vr, rfl, R.noG d1 nb1 (fun _ _ => rfl) r1⟩
          exact List.nodup_append.mpr ⟨nfp, S'.st.nd 0, fun a h1 b h2 e => (hfp a h1).1 0 (e ▸ h2)⟩
        · cases hf
      · cases hf
        refine hq v F' H' fp [] (hFin _ fun _ h => (nomatch h)) (R.noG _ nb (fun _ _ => rfl) hr) (by rw [List.append_nil]; exact nfp) hfr rfl
    · cases hf
  cases fl with
  | nx => exact key .non .non [] hfin (by simp [R]) List.nodup_nil fun _ h => (nomatch h)
  | bk => cases hfin
  | ct => cases hfin
  | rt d => exact fun v fp hr nfp hfp => key d v fp hfin hr nfp hfp
end
end Pv

set_option Elab.async false
set_option linter.all false
set_option maxRecDepth 100000
set_option maxHeartbeats 1000000
namespace Pv
open PySem PySem.Spec L2 PyProof.Rows

def D.tyN : D → String
  | .non => "NoneType"
  | .bl _ => "bool"
  | .int _ => "int"
  | .str _ => "str"
  | .scr _ => "list"
  | .tup _ => "tuple"
  | .lst _ _ => "list"
  | .dct _ _ => "dict"
  | .ins _ _ _ => "object"
section
variable {K : PySem.W.Frag} {CT : Nat → Addr}
theorem ty_r {F G H : Hp} {d : D} {v : V} {fp : List Addr} (wf : WLe F H) (wg : WLe G H) (h : R K CT F G H d v fp) (hb : d.bi = true) : TyX K H v (.type d.tyN) := by
  cases d with
  | non => simp only [R] at h; rw [h.1]; exact .base .non
  | bl b => simp only [R] at h; rw [h.1]; exact .base (.bl b)
  | int b => simp only [R] at h; rw [h.1]; exact .base (.int b)
  | str b => simp only [R] at h; rw [h.1]; exact .base (.str b)
  | scr b => cases hb
  | ins m c fs => cases hb
  | tup ds =>
    obtain ⟨a, vs, rfl, hH, _⟩ := tup_r wf h
    exact .base (.tup hH)
  | lst m ds =>
    obtain ⟨a, vs, G', fp', rfl, hH, _⟩ := lst_r wf wg h
    exact .base (.lst hH)
  | dct m ks =>
    obtain ⟨a, vs, G', fp', rfl, hH, _⟩ := dct_r wf wg h
    rcases rd_cases hH with q | ⟨o, q⟩
    · exact .base (.dK q)
    · exact .fDict q
/-- isinstance of one class -/
def rIs (K : PySem.W.Frag) (u : Value) : V → Hp → VK → Prop := fun x H Q => ∃ t b, TyX K H x t ∧ PySem.W.kitOne K t u = some b ∧ Q (.bl b) H
theorem OS_is {o : Op} {u : Value} {p : D → Bool} (e : ∀ ds, opS o ds = d1 (fun d => okN d.bi (.bl (p d))) ds) (hk : ∀ d : D, d.bi = true → PySem.W.kitOne K (.type d.tyN) u = some (p d)) : OS K CT (One (rIs K u)) o := by
  intro F G H ds vs d rd wf wg he Q hq
  rw [e] at he
  obtain ⟨a, hds, he2⟩ := d1_some he
  clear he
  subst hds
  obtain ⟨hb, rfl⟩ := okN_some he2
  obtain ⟨v, _, rfl, r1⟩ := rd1 rd
  exact ⟨_, rfl, _, p a, ty_r wf wg r1 hb, hk a hb, fin_atom (d := .bl _) rfl hq⟩
theorem kinds {u : String} {p : D → Bool} (h1 : kitB "NoneType" u = some (p .non)) (h2 : ∀ b, kitB "bool" u = some (p (.bl b))) (h3 : ∀ b, kitB "int" u = some (p (.int b))) (h4 : ∀ b, kitB "str" u = some (p (.str b)))
    (h5 : ∀ b, kitB "tuple" u = some (p (.tup b))) (h6 : ∀ m b, kitB "list" u = some (p (.lst m b))) (h7 : ∀ m b, kitB "dict" u = some (p (.dct m b))) : ∀ d : D, d.bi = true → PySem.W.kitOne K (.type d.tyN) (.type u) = some (p d)
  | .non, _ => kit_ty h1
  | .bl b, _ => kit_ty (h2 b)
  | .int b, _ => kit_ty (h3 b)
  | .str b, _ => kit_ty (h4 b)
  | .scr b, h => by cases h
  | .tup b, _ => kit_ty (h5 b)
  | .lst m b, _ => kit_ty (h6 m b)
  | .dct m b, _ => kit_ty (h7 m b)
  | .ins _ _ _, h => by cases h
theorem OS_isDict : OS K CT (One (rIs K (.type "dict"))) .isDict := OS_is (fun _ => rfl) (kinds (p := D.isDct) ((by decide +kernel : kitB "NoneType" "dict" = some false)) (fun _ => (by decide +kernel : kitB "bool" "dict" = some false)) (fun _ => (by decide +kernel : kitB "int" "dict" = some false)) (fun _ => (by decide +kernel : kitB "str" "dict" = some false)) (fun _ => (by decide +kernel : kitB "tuple" "dict" = some false)) (fun _ _ => (by decide +kernel : kitB "list" "dict" = some false)) (fun _ _ => (by decide +kernel : kitB "dict" "dict" = some true)))
theorem OS_isStr : OS K CT (One (rIs K (.type "str"))) .isStr := OS_is (fun _ => rfl) (kinds (p := D.isStr) ((by decide +kernel : kitB "NoneType" "str" = some false)) (fun _ => (by decide +kernel : kitB "bool" "str" = some false)) (fun _ => (by decide +kernel : kitB "int" "str" = some false)) (fun _ => (by decide +kernel : kitB "str" "str" = some true)) (fun _ => (by decide +kernel : kitB "tuple" "str" = some false)) (fun _ _ => (by decide +kernel : kitB "list" "str" = some false)) (fun _ _ => (by decide +kernel : kitB "dict" "str" = some false)))
theorem OS_isBool : OS K CT (One (rIs K (.type "bool"))) .isBool := OS_is (fun _ => rfl) (kinds (p := D.isBl) ((by decide +kernel : kitB "NoneType" "bool" = some false)) (fun _ => (by decide +kernel : kitB "bool" "bool" = some true)) (fun _ => (by decide +kernel : kitB "int" "bool" = some false)) (fun _ => (by decide +kernel : kitB "str" "bool" = some false)) (fun _ => (by decide +kernel : kitB "tuple" "bool" = some false)) (fun _ _ => (by decide +kernel : kitB "list" "bool" = some false)) (fun _ _ => (by decide +kernel : kitB "dict" "bool" = some false)))
theorem OS_isList : OS K CT (One (rIs K (.type "list"))) .isList := OS_is (fun _ => rfl) (kinds (p := D.isLst) ((by decide +kernel : kitB "NoneType" "list" = some false)) (fun _ => (by decide +kernel : kitB "bool" "list" = some false)) (fun _ => (by decide +kernel : kitB "int" "list" = some false)) (fun _ => (by decide +kernel : kitB "str" "list" = some false)) (fun _ => (by decide +kernel : kitB "tuple" "list" = some false)) (fun _ _ => (by decide +kernel : kitB "list" "list" = some true)) (fun _ _ => (by decide +kernel : kitB "dict" "list" = some false)))
theorem OS_isTup : OS K CT (One (rIs K (.type "tuple"))) .isTup := OS_is (fun _ => rfl) (kinds (p := D.isTup) ((by decide +kernel : kitB "NoneType" "tuple" = some false)) (fun _ => (by decide +kernel : kitB "bool" "tuple" = some false)) (fun _ => (by decide +kernel : kitB "int" "tuple" = some false)) (fun _ => (by decide +kernel : kitB "str" "tuple" = some false)) (fun _ => (by decide +kernel : kitB "tuple" "tuple" = some true)) (fun _ _ => (by decide +kernel : kitB "list" "tuple" = some false)) (fun _ _ => (by decide +kernel : kitB "dict" "tuple" = some false)))
theorem OS_isInt : OS K CT (One (rIs K (.type "int"))) .isInt := OS_is (fun _ => rfl) (kinds (p := D.isInt) ((by decide +kernel : kitB "NoneType" "int" = some false)) (fun _ => (by decide +kernel : kitB "bool" "int" = some true)) (fun _ => (by decide +kernel : kitB "int" "int" = some true)) (fun _ => (by decide +kernel : kitB "str" "int" = some false)) (fun _ => (by decide +kernel : kitB "tuple" "int" = some false)) (fun _ _ => (by decide +kernel : kitB "list" "int" = some false)) (fun _ _ => (by decide +kernel : kitB "dict" "int" = some false)))
/-- what is asked of a class -/
structure KCls (K : PySem.W.Frag) (C : Addr) : Prop where
  cl : Cls K C
  ha : PySem.W.findIn K (.ref C) "__class__" = some (some (.builtin "object.__class__"))
  hn : PySem.W.specialIn K (.builtin "object.__class__") "__get__" = some (some (.builtin "getset_descriptor.__get__"))
  htk : PySem.W.takesIn K (.builtin "object.__class__") = some true
  hm : PySem.W.mroIn K C (.type "object") = some true
  me : PySem.W.kitOne K (.ref C) (.ref C) = some true
  t1 : PySem.W.kitOne K (.type "NoneType") (.ref C) = some false
  t2 : PySem.W.kitOne K (.type "bool") (.ref C) = some false
  t3 : PySem.W.kitOne K (.type "int") (.ref C) = some false
  t4 : PySem.W.kitOne K (.type "str") (.ref C) = some false
  t5 : PySem.W.kitOne K (.type "tuple") (.ref C) = some false
  t6 : PySem.W.kitOne K (.type "list") (.ref C) = some false
  t7 : PySem.W.kitOne K (.type "dict") (.ref C) = some false
theorem ins_r {F G H : Hp} {m : Fl} {c : Nat} {ks : List (Key × D)} {v : V} {fp : List Addr} (wf : WLe F H) (wg : WLe G H) (h : R K CT F G H (.ins m c ks) v fp) : ∃ a dx vs G' fp', v = .ref a ∧ H a = some (.ins (CT c) dx vs) ∧ Rk K CT F G' H ks (vs.map fk) fp' ∧ WLe G' G := by
  cases m with
  | own =>
    simp only [R] at h
    obtain ⟨a, dx, vs, fp', e1, e2, _, _, e3, _⟩ := h
    exact ⟨a, dx, vs, G, fp', e1, e2, e3, WLe.refl _⟩
  | frz =>
    simp only [R] at h
    obtain ⟨⟨a, dx, vs, e1, e2, e3⟩, _⟩ := h
    exact ⟨a, dx, vs, e0, [], e1, wf.ins e2, e3, (HLe.e0 _).w⟩
  | bor =>
    simp only [R] at h
    obtain ⟨⟨a, dx, vs, e1, e2, e3⟩, _⟩ := h
    exact ⟨a, dx, vs, G, [], e1, wg.ins e2, e3, WLe.refl _⟩
theorem OS_isCls {c : Nat} (kc : KCls K (CT c)) : OS K CT (One (rIs K (.ref (CT c)))) (.isCls c) := by
  intro F G H ds vs d rd wf wg he Q hq
  simp only [opS] at he
  obtain ⟨a, hds, he2⟩ := d1_some he
  clear he
  subst hds
  obtain ⟨v, _, rfl, r1⟩ := rd1 rd
  cases a with
  | ins m c' ks =>
    obtain ⟨h1, rfl⟩ := okN_some he2
    have h1 := of_decide_eq_true h1
    subst h1
    obtain ⟨a, dx, vs, G', fp', rfl, hH, _⟩ := ins_r wf wg r1
    exact ⟨_, rfl, _, true, .base (.ins hH kc.cl kc.ha kc.hn kc.htk kc.hm), kc.me, fin_atom (d := .bl _) rfl hq⟩
  | scr b => exact absurd (okN_some he2).1 (by simp [D.bi])
  | non => obtain ⟨hb, rfl⟩ := okN_some he2; exact ⟨_, rfl, _, false, ty_r wf wg r1 hb, kc.t1, fin_atom (d := .bl _) rfl hq⟩
  | bl b => obtain ⟨hb, rfl⟩ := okN_some he2; exact ⟨_, rfl, _, false, ty_r wf wg r1 hb, kc.t2, fin_atom (d := .bl _) rfl hq⟩
  | int b => obtain ⟨hb, rfl⟩ := okN_some he2; exact ⟨_, rfl, _, false, ty_r wf wg r1 hb, kc.t3, fin_atom (d := .bl _) rfl hq⟩
  | str b => obtain ⟨hb, rfl⟩ := okN_some he2; exact ⟨_, rfl, _, false, ty_r wf wg r1 hb, kc.t4, fin_atom (d := .bl _) rfl hq⟩
  | tup b => obtain ⟨hb, rfl⟩ := okN_some he2; exact ⟨_, rfl, _, false, ty_r wf wg r1 hb, kc.t5, fin_atom (d := .bl _) rfl hq⟩
  | lst m b => obtain ⟨hb, rfl⟩ := okN_some he2; exact ⟨_, rfl, _, false, ty_r wf wg r1 hb, kc.t6, fin_atom (d := .bl _) rfl hq⟩
  | dct m b => obtain ⟨hb, rfl⟩ := okN_some he2; exact ⟨_, rfl, _, false, ty_r wf wg r1 hb, kc.t7, fin_atom (d := .bl _) rfl hq⟩

inductive HitV (K : PySem.W.Frag) (H : Hp) (ls : List (Key × V)) : List (Key × V) → Bool → Prop where
  | nil : HitV K H ls [] true
  | miss {k : Key} {v : V} {r : List (Key × V)} : valV ls k = none → HitV K H ls ((k, v) :: r) false
  | hit {k : Key} {v y : V} {r : List (Key × V)} {d e : PyData} {b : Bool} : valV ls k = some y → Dp K H v d → Dp K H y e → SeqAt.shaped d = true → SeqAt.shaped e = true → HitV K H ls r b → HitV K H ls ((k, v) :: r) (PyData.eqv d e && b)
def rEqK (K : PySem.W.Frag) : R2 := fun x y H Q => ∃ a b ks ls r, x = .ref a ∧ y = .ref b ∧ Rd H a (.dK ks) ∧ Rd H b (.dK ls) ∧ HitV K H ls ks r ∧ Q (.bl (decide (ks.length = ls.length) && r)) H
def rNeK (K : PySem.W.Frag) : R2 := fun x y H Q => ∃ a b ks ls r, x = .ref a ∧ y = .ref b ∧ Rd H a (.dK ks) ∧ Rd H b (.dK ls) ∧ HitV K H ls ks r ∧ Q (.bl (!(decide (ks.length = ls.length) && r))) H
theorem RelO.none_of {o : Option Value} (h : RelO none o) : o = none := by
  cases o with
  | none => rfl
  | some u => exact h.elim
theorem hitV_keq {X : Cx} {pins : List (Addr × Obj)} {σ : L2.St} {H : Hp} {s : Shared} (I : Inv X pins σ H s) (hu : X.A.in1.units + 64 < cLine) {ls : List (Key × V)} {vb : List (Key × Value)} (rb : KV ls vb) :
    ∀ {ks : List (Key × V)} {va : List (Key × Value)} {r : Bool}, KV ks va → HitV X.K H ls ks r → PySem.W.KeqHits X.A.in1 s vb va r := by
  intro ks va r ra
  unfold KV at ra
  intro h
  induction h generalizing va with
  | nil => cases ra; exact .nil
  | @miss k v t hm =>
    cases ra with
    | @cons p q ps qs h1 h2 =>
      obtain ⟨e1, _⟩ := h1
      obtain ⟨k', v'⟩ := q
      have e1 : k = k' := e1
      subst e1
      refine .miss ?_
      have z := rb.val k
      rw [hm] at z
      exact RelO.none_of z
  | @hit k v y t d e b hm dv de sv se _ ih =>
    cases ra with
    | @cons p q ps qs h1 h2 =>
      obtain ⟨e1, rv⟩ := h1
      obtain ⟨k', v'⟩ := q
      have e1 : k = k' := e1
      subst e1
      have z := rb.val k
      rw [hm] at z
      obtain ⟨y', hy, ry⟩ := z.some_of
      obtain ⟨as, q1⟩ := Dp.reads I d v v' dv rv
      obtain ⟨bs, q2⟩ := Dp.reads I e y y' de ry
      exact .hit hy (PySem.W.keq_at q1 q2 sv se hu) (ih h2)
theorem op_eqK {X : Cx} (hu : X.A.units < cLine) (hu2 : X.A.in1.units + 64 < cLine) : OpR X (compareOp .Eq) (rEqK X.K) := by
  intro pins s σ H x y v u Q I rx ry h
  obtain ⟨a, b, ks, ls, r, rfl, rfl, ea, eb, hh, q⟩ := h
  obtain rfl : v = Value.ref a := rx
  obtain rfl : u = Value.ref b := ry
  obtain ⟨_, ya, va, ra, da⟩ := dk_rd I.hok ea
  obtain ⟨_, yb, vb, rb, db⟩ := dk_rd I.hok eb
  exact PySem.W.keq_eq (knd := mixKind X.prog X.w) (r := r) ya yb da db hu (fun _ => hitV_keq I hu2 rb ra hh) (fin_bl I q (by rw [Paired.length ra, Paired.length rb]; first | rfl | simp | (cases r <;> simp)))
theorem op_neK {X : Cx} (hu : X.A.units < cLine) (hu2 : X.A.in1.units + 64 < cLine) : OpR X (compareOp .NotEq) (rNeK X.K) := by
  intro pins s σ H x y v u Q I rx ry h
  obtain ⟨a, b, ks, ls, r, rfl, rfl, ea, eb, hh, q⟩ := h
  obtain rfl : v = Value.ref a := rx
  obtain rfl : u = Value.ref b := ry
  obtain ⟨_, ya, va, ra, da⟩ := dk_rd I.hok ea
  obtain ⟨_, yb, vb, rb, db⟩ := dk_rd I.hok eb
  exact PySem.W.keq_ne (knd := mixKind X.prog X.w) (r := r) ya yb da db hu (fun _ => hitV_keq I hu2 rb ra hh) (fin_bl I q (by rw [Paired.length ra, Paired.length rb]; first | rfl | simp | (cases r <;> simp)))
theorem D.shp_some {d : D} (h : d.shp = true) : ∃ x, d.py = some x ∧ SeqAt.shaped x = true := by
  unfold D.shp at h
  cases e : d.py with
  | none => rw [e] at h; cases h
  | some x => rw [e] at h; exact ⟨x, rfl, h⟩
theorem hits_r {F H : Hp} {G1 G2 : Hp} (wf : WLe F H) (w1 : WLe G1 H) (w2 : WLe G2 H) {bs : List (Key × D)} {vb : List (Key × V)} {fb : List Addr} (rb : Rk K CT F G2 H bs vb fb) (sb : (bs.all fun p => p.2.shp) = true) :
    ∀ (as : List (Key × D)) {va : List (Key × V)} {fa : List Addr}, Rk K CT F G1 H as va fa → (as.all fun p => p.2.shp) = true →
      HitV K H vb va (as.all fun p => match valA bs p.1 with | some d => eqvD p.2 d | none => false)
  | [], _, _, h, _ => by simp only [Rk] at h; rw [h.1]; exact .nil
  | (k, d) :: as, _, _, h, s => by
    simp only [Rk] at h
    obtain ⟨v, vr, f1, f2, rfl, r1, r2, _⟩ := h
    rw [List.all_cons, Bool.and_eq_true] at s
    obtain ⟨s1, s2⟩ := s
    rw [List.all_cons]
    cases e : valA bs k with
    | none =>
      have hm : valV vb k = none := by
        have z := Rk.some_ bs (k := k) rb
        rw [e] at z
        cases q : valV vb k with
        | none => rfl
        | some _ => rw [q] at z; cases z
      show HitV K H vb _ (false && _)
      exact .miss hm
    | some d2 =>
      obtain ⟨w, fp', q1, q2, _⟩ := Rk.val bs rb e
      have hs2 : d2.shp = true := by
        rw [List.all_eq_true] at sb
        unfold valA at e
        simp only [Option.map_eq_some_iff] at e
        obtain ⟨p, hp, rfl⟩ := e
        exact sb p (List.mem_of_find?_eq_some hp)
      obtain ⟨x1, e1, h1⟩ := D.shp_some s1
      obtain ⟨x2, e2, h2⟩ := D.shp_some hs2
      have ee : eqvD d d2 = PyData.eqv x1 x2 := by unfold eqvD; rw [e1, e2]
      show HitV K H vb _ (eqvD d d2 && _)
      rw [ee]
      exact .hit q1 (py_dp wf w1 d r1 e1) (py_dp wf w2 d2 q2 e2) h1 h2 (hits_r wf w1 w2 rb sb as r2 s2)
theorem OS_eqK : OS K CT (Two (rEqK K)) .eqK := by
  intro F G H ds vs d rd wf wg he Q hq
  simp only [opS] at he
  obtain ⟨m, a, n, b, hds, he2⟩ := kk_some he
  clear he
  subst hds
  obtain ⟨h1, rfl⟩ := okN_some he2
  rw [Bool.and_eq_true] at h1
  obtain ⟨v, _, v2, _, rfl, r1, r2⟩ := rd2 rd
  obtain ⟨p, va, G1, f1, rfl, hA, ra, wa, _⟩ := dct_r wf wg r1
  obtain ⟨p2, vb, G2, f2, rfl, hB, rb, wb, _⟩ := dct_r wf wg r2
  refine ⟨_, _, rfl, p, p2, va, vb, _, rfl, rfl, hA, hB, hits_r wf (wa.trans wg) (wb.trans wg) rb h1.2 a ra h1.1, ?_⟩
  rw [Rk.len a ra, Rk.len b rb]
  exact fin_atom (d := .bl _) rfl hq
theorem OS_neK : OS K CT (Two (rNeK K)) .neK := by
  intro F G H ds vs d rd wf wg he Q hq
  simp only [opS] at he
  obtain ⟨m, a, n, b, hds, he2⟩ := kk_some he
  clear he
  subst hds
  obtain ⟨h1, rfl⟩ := okN_some he2
  rw [Bool.and_eq_true] at h1
  obtain ⟨v, _, v2, _, rfl, r1, r2⟩ := rd2 rd
  obtain ⟨p, va, G1, f1, rfl, hA, ra, wa, _⟩ := dct_r wf wg r1
  obtain ⟨p2, vb, G2, f2, rfl, hB, rb, wb, _⟩ := dct_r wf wg r2
  refine ⟨_, _, rfl, p, p2, va, vb, _, rfl, rfl, hA, hB, hits_r wf (wa.trans wg) (wb.trans wg) rb h1.2 a ra h1.1, ?_⟩
  rw [Rk.len a ra, Rk.len b rb]
  exact fin_atom (d := .bl _) rfl hq
theorem cr_lenK {X : Cx} : CallR X (.builtin "len") rLenK := by
  intro pins s σ H xs us Q I r h
  obtain ⟨a, kvs, rfl, ha, q⟩ := h
  obtain ⟨u, rfl, ru⟩ := vals1 r
  cases ru
  exact d_len I ha fun t s' I' => ⟨.int kvs.length, H, I', ⟨t, rfl⟩, q⟩
end
end Pv

set_option Elab.async false
set_option linter.all false
set_option maxRecDepth 100000
set_option maxHeartbeats 1000000
namespace Pv
open PySem L2 PyProof.Rows

/-- the names of the built-ins stand for themselves -/
structure Bn (mg : Str → Option Value) : Prop where
  len : mg "len" = none
  sorted : mg "sorted" = none
  max : mg "max" = none
  min : mg "min" = none
  all : mg "all" = none
  any : mg "any" = none
  dict : mg "dict" = none
  list : mg "list" = none
  int : mg "int" = none
  str : mg "str" = none
  bool : mg "bool" = none
  tuple : mg "tuple" = none
  isinstance : mg "isinstance" = none
  range : mg "range" = none
  reversed : mg "reversed" = none
  zip : mg "zip" = none
  enumerate : mg "enumerate" = none

section
variable {X : Cx} {CT : Nat → Addr} {Γ : Fns} {a b c o e : Expr} {es : List Expr} {p q r : PX} {ps : List PX} {pos pos2 pos3 pos4 : Pos} {x : Str}
theorem g_var (j : Nat) (hN : X.N[j]? = some x := by rfl) (hv : Vis X.env.scope x := by first | exact Or.inl rfl | exact Or.inr (Or.inl rfl) | exact Or.inr (Or.inr rfl)) (hd : (x == ("__debug__" : Str)) = false := by decide)
    (hcd : (x == ("__classdict__" : Str)) = false := by decide) : PE X (.Name x pos) (TI X.K CT Γ (.var j)) := PE.imp (pe_var hN hv hd hcd) fun _ _ _ h => TI_var h
theorem g_mov (j : Nat) (hN : X.N[j]? = some x := by rfl) (hv : Vis X.env.scope x := by first | exact Or.inl rfl | exact Or.inr (Or.inl rfl) | exact Or.inr (Or.inr rfl)) (hd : (x == ("__debug__" : Str)) = false := by decide)
    (hcd : (x == ("__classdict__" : Str)) = false := by decide) : PE X (.Name x pos) (TI X.K CT Γ (.mov j)) := PE.imp (pe_var hN hv hd hcd) fun _ _ _ h => TI_mov h
theorem v_var (j : Nat) (hN : X.N[j]? = some x := by rfl) (hv : Vis X.env.scope x := by first | exact Or.inl rfl | exact Or.inr (Or.inl rfl) | exact Or.inr (Or.inr rfl)) (hd : (x == ("__debug__" : Str)) = false := by decide)
    (hcd : (x == ("__classdict__" : Str)) = false := by decide) : PE X (.Name x pos) (tVar j) := pe_var hN hv hd hcd
theorem g_pre {j : Nat} {ns : List Str} (h : PE X a (TI X.K CT Γ p)) : PE X a (TI X.K CT Γ (.pre j ns p)) := PE.imp h fun _ _ _ h => TI_pre h
theorem g_frz (h : PE X a (TI X.K CT Γ p)) : PE X a (TI X.K CT Γ (.frzE p)) := PE.imp h fun _ _ _ h => TI_frzE h
theorem g_int {i : Int} {k} : PE X (.Constant (.int i) k pos) (TI X.K CT Γ (.cst (.int i))) := PE.imp pe_int fun _ _ _ h => TI_cst h
theorem g_bl {i : Bool} {k} : PE X (.Constant (.bool i) k pos) (TI X.K CT Γ (.cst (.bl i))) := PE.imp pe_bl fun _ _ _ h => TI_cst h
theorem g_non {k} : PE X (.Constant .none k pos) (TI X.K CT Γ (.cst .non)) := PE.imp pe_non fun _ _ _ h => TI_cst h
theorem g_str {i : Str} {k} : PE X (.Constant (.str i) k pos) (TI X.K CT Γ (.cst (.str i))) := PE.imp pe_str fun _ _ _ h => TI_cst h
/-- a constant of the module -/
theorem g_gc {d : Pv.D} {u : Value} (hm : X.mg x = some u) (r : RelV d.toV u) (hg : Gl X x := by rfl) (hd : (x == ("__debug__" : Str)) = false := by decide) : PE X (.Name x pos) (TI X.K CT Γ (.cst d)) :=
  PE.imp (C8.pe_gc hg ⟨u, hm, r⟩ hd) fun _ _ _ h => TI_cst h
theorem g_lst (h : PA X es (TIs X.K CT Γ ps)) : PE X (.List es pos) (TI X.K CT Γ (.lst ps)) := PE.imp (pe_lst h) fun _ _ _ h => TI_lst h
theorem g_tup {x1} (h : PA X es (TIs X.K CT Γ ps)) : PE X (.Tuple es x1 pos) (TI X.K CT Γ (.tup ps)) := PE.imp (pe_tup h) fun _ _ _ h => TI_tup h
theorem a_nil : PA X [] (TIs X.K CT Γ []) := PA.imp pa_nil fun _ _ _ h => TIs_nil h
theorem a_cons (ha : PE X a (TI X.K CT Γ p)) (hr : PA X es (TIs X.K CT Γ ps)) (hs : starEach (a :: es) X.env = (false, eval a X.env) :: starEach es X.env := by rfl) : PA X (a :: es) (TIs X.K CT Γ (p :: ps)) :=
  PA.imp (pa_cons ha hr hs) fun _ _ _ h => TIs_cons h
theorem g_bin {op : Operator} {k : Op} {r : R2} (ho : OpR X (binaryOp op) r) (hs : OS X.K CT (Two r) k) (ha : PE X a (TI X.K CT Γ p)) (hb : PE X b (TI X.K CT Γ q)) : PE X (.BinOp a op b pos) (TI X.K CT Γ (.op k [p, q])) :=
  PE.imp (pe_op ho ha hb) fun _ _ _ h => TI_op2 hs h
theorem g_un {op : UnaryOp} {k : Op} {r : V → Hp → VK → Prop} (ho : UnR X (unaryOp op) r) (hs : OS X.K CT (One r) k) (ha : PE X a (TI X.K CT Γ p)) : PE X (.UnaryOp op a pos) (TI X.K CT Γ (.op k [p])) :=
  PE.imp (pe_un ho ha) fun _ _ _ h => TI_op1 hs h
theorem g_cmp {op : CmpOp} {k : Op} {r : R2} (ho : OpR X (compareOp op) r) (hs : OS X.K CT (Two r) k) (ha : PE X a (TI X.K CT Γ p)) (hb : PE X b (TI X.K CT Γ q)) (hm : behindInMarks op b = false := by with_unfolding_all rfl) :
    PE X (.Compare a [op] [b] pos) (TI X.K CT Γ (.op k [p, q])) := PE.imp (pe_cmpR ho ha hb hm) fun _ _ _ h => TI_op2 hs h
theorem t_cmp {op : CmpOp} {k : Op} {r : R2} (ho : OpR X (compareOp op) r) (hs : OS X.K CT (Two r) k) (ha : PE X a (TI X.K CT Γ p)) (hb : PE X b (TI X.K CT Γ q)) (hm : behindInMarks op b = false := by with_unfolding_all rfl) :
    PT X (.Compare a [op] [b] pos) (TB X.K CT Γ (.op k [p, q])) := PT.imp (pt_cmpR ho ha hb hm) fun _ _ _ h => TI_op2 hs h
theorem g_isN {k} (ha : PE X a (TI X.K CT Γ p)) : PE X (.Compare a [.Is] [.Constant .none k pos2] pos) (TI X.K CT Γ (.op .isN [p])) := PE.imp (pe_cmp (pc_isN ha)) fun _ _ _ h => TI_op1 OS_isN h
theorem t_isN {k} (ha : PE X a (TI X.K CT Γ p)) : PT X (.Compare a [.Is] [.Constant .none k pos2] pos) (TB X.K CT Γ (.op .isN [p])) := PT.imp (pt_cmp (pc_isN ha)) fun _ _ _ h => TI_op1 OS_isN h
theorem g_notN {k} (ha : PE X a (TI X.K CT Γ p)) : PE X (.Compare a [.IsNot] [.Constant .none k pos2] pos) (TI X.K CT Γ (.op .notN [p])) := PE.imp (pe_cmp (pc_notN ha)) fun _ _ _ h => TI_op1 OS_notN h
theorem t_notN {k} (ha : PE X a (TI X.K CT Γ p)) : PT X (.Compare a [.IsNot] [.Constant .none k pos2] pos) (TB X.K CT Γ (.op .notN [p])) := PT.imp (pt_cmp (pc_notN ha)) fun _ _ _ h => TI_op1 OS_notN h
/-- a test -/
theorem t_val (h : PE X a (TI X.K CT Γ p)) (he : ∀ whole, isTrue a X.env whole = (do let v ← whole; standAt a.pos; holding [v] (truthy v)) := by intro _; rfl) : PT X a (TB X.K CT Γ p) := pt_val h he
theorem g_and (ha : PE X a (TI X.K CT Γ p)) (hb : PE X (.BoolOp .And (b :: es) pos) (TI X.K CT Γ q)) : PE X (.BoolOp .And (a :: b :: es) pos) (TI X.K CT Γ (.and p q)) := PE.imp (pe_and ha hb) fun _ _ _ h => TI_andV h
theorem g_or (ha : PE X a (TI X.K CT Γ p)) (hb : PE X (.BoolOp .Or (b :: es) pos) (TI X.K CT Γ q)) : PE X (.BoolOp .Or (a :: b :: es) pos) (TI X.K CT Γ (.or p q)) := PE.imp (pe_or ha hb) fun _ _ _ h => TI_orV h
theorem g_one {op} (ha : PE X a (TI X.K CT Γ p)) : PE X (.BoolOp op [a] pos) (TI X.K CT Γ p) := pe_one ha
theorem g_not (ha : PE X a (TI X.K CT Γ p)) : PE X (.UnaryOp .Not a pos) (TI X.K CT Γ (.not p)) := PE.imp (pe_not ha) fun _ _ _ h => TI_notV h
theorem PW.imp {X : Cx} {e : Expr} {t t' : TT} (h : PW X e t) (k : ∀ σ H Q, t' σ H Q → t σ H Q) : PW X e t' := ⟨fun wh pins s σ H Q I q => h.run wh pins s σ H Q I (k _ _ _ q)⟩
theorem w_and (ha : PT X a (TB X.K CT Γ p)) (hb : PW X (.BoolOp .And (b :: es) pos) (TB X.K CT Γ q)) : PW X (.BoolOp .And (a :: b :: es) pos) (TB X.K CT Γ (.and p q)) := PW.imp (pw_and ha hb) fun _ _ _ h => TB_and h
theorem w_or (ha : PT X a (TB X.K CT Γ p)) (hb : PW X (.BoolOp .Or (b :: es) pos) (TB X.K CT Γ q)) : PW X (.BoolOp .Or (a :: b :: es) pos) (TB X.K CT Γ (.or p q)) := PW.imp (pw_or ha hb) fun _ _ _ h => TB_or h
theorem w_and1 (ha : PT X a (TB X.K CT Γ p)) : PW X (.BoolOp .And [a] pos) (TB X.K CT Γ p) := pw_and1 ha
theorem w_or1 (ha : PT X a (TB X.K CT Γ p)) : PW X (.BoolOp .Or [a] pos) (TB X.K CT Γ p) := pw_or1 ha
theorem t_w (h : PW X a (TB X.K CT Γ p)) : PT X a (TB X.K CT Γ p) := h.pt
theorem t_not (ha : PT X a (TB X.K CT Γ p)) : PT X (.UnaryOp .Not a pos) (TB X.K CT Γ (.not p)) := PT.imp (pt_not ha) fun _ _ _ h => TB_not h
theorem g_ife (hc : PT X c (TB X.K CT Γ r)) (ha : PE X a (TI X.K CT Γ p)) (hb : PE X b (TI X.K CT Γ q)) : PE X (.IfExp c a b pos) (TI X.K CT Γ (.ife r p q)) := PE.imp (pe_ifExp hc ha hb) fun _ _ _ h => TI_ifE h
theorem g_chain {op op' : CmpOp} {k k' : Op} {r1 r2 : R2} (ho : OpR X (compareOp op) r1) (ho' : OpR X (compareOp op') r2) (hs : OS X.K CT (Two r1) k) (hs' : OS X.K CT (Two r2) k') (ha : PE X a (TI X.K CT Γ p)) (hb : PE X b (TI X.K CT Γ q)) (hc : PE X c (TI X.K CT Γ r))
    (hm : lastMarks [op, op'] [b, c] = false := by with_unfolding_all rfl) : PE X (.Compare a [op, op'] [b, c] pos) (TI X.K CT Γ (.chain k k' p q r)) := PE.imp (pe_chain ho ho' ha hb hc hm) fun _ _ _ h => TI_chain hs hs' h
theorem t_chain {op op' : CmpOp} {k k' : Op} {r1 r2 : R2} (ho : OpR X (compareOp op) r1) (ho' : OpR X (compareOp op') r2) (hs : OS X.K CT (Two r1) k) (hs' : OS X.K CT (Two r2) k') (ha : PE X a (TI X.K CT Γ p)) (hb : PE X b (TI X.K CT Γ q)) (hc : PE X c (TI X.K CT Γ r))
    (hm : lastMarks [op, op'] [b, c] = false := by with_unfolding_all rfl) : PT X (.Compare a [op, op'] [b, c] pos) (TB X.K CT Γ (.chain k k' p q r)) := PT.imp (pt_chain ho ho' ha hb hc hm) fun _ _ _ h => TI_chain hs hs' h
theorem g_ix {k : Op} {r : R2} (hr : IxR X r) (hs : OS X.K CT (Two r) k) (ha : PE X a (TI X.K CT Γ p)) (hb : PE X b (TI X.K CT Γ q)) (hp : PlainIx b := by intro _ _; rfl) : PE X (.Subscript a b pos) (TI X.K CT Γ (.op k [p, q])) :=
  PE.imp (pe_ix hr ha hb hp) fun _ _ _ h => TI_op2 hs h
theorem g_ixK (hu : X.A.units + 1 < cLine) (ha : PE X a (TI X.K CT Γ p)) (hb : PE X b (TI X.K CT Γ q)) (hp : NoSl b := by intro _ _; rfl) : PE X (.Subscript a b pos) (TI X.K CT Γ (.op .ixK [p, q])) :=
  PE.imp (pe_dget hu ha hb hp) fun _ _ _ h => TI_op2 OS_ixK h
theorem g_inK (hu : X.A.units + 1 < cLine) (ha : PE X a (TI X.K CT Γ p)) (hb : PE X b (TI X.K CT Γ q)) (hm : behindInMarks .In b = false := by with_unfolding_all rfl) : PE X (.Compare a [.In] [b] pos) (TI X.K CT Γ (.op .inK [p, q])) :=
  PE.imp (pe_cmp (pc_din hu ha hb) hm) fun _ _ _ h => TI_op2 OS_inK h
theorem t_inK (hu : X.A.units + 1 < cLine) (ha : PE X a (TI X.K CT Γ p)) (hb : PE X b (TI X.K CT Γ q)) (hm : behindInMarks .In b = false := by with_unfolding_all rfl) : PT X (.Compare a [.In] [b] pos) (TB X.K CT Γ (.op .inK [p, q])) :=
  PT.imp (pt_cmp (pc_din hu ha hb) hm) fun _ _ _ h => TI_op2 OS_inK h
theorem g_ninK (hu : X.A.units + 1 < cLine) (ha : PE X a (TI X.K CT Γ p)) (hb : PE X b (TI X.K CT Γ q)) (hm : behindInMarks .NotIn b = false := by with_unfolding_all rfl) : PE X (.Compare a [.NotIn] [b] pos) (TI X.K CT Γ (.op .ninK [p, q])) :=
  PE.imp (pe_cmp (pc_dnotin hu ha hb) hm) fun _ _ _ h => TI_op2 OS_ninK h
theorem t_ninK (hu : X.A.units + 1 < cLine) (ha : PE X a (TI X.K CT Γ p)) (hb : PE X b (TI X.K CT Γ q)) (hm : behindInMarks .NotIn b = false := by with_unfolding_all rfl) : PT X (.Compare a [.NotIn] [b] pos) (TB X.K CT Γ (.op .ninK [p, q])) :=
  PT.imp (pt_cmp (pc_dnotin hu ha hb) hm) fun _ _ _ h => TI_op2 OS_ninK h
theorem g_sl10 (ha : PE X a (TI X.K CT Γ p)) (hb : PE X b (TI X.K CT Γ q)) : PE X (.Subscript a (.Slice (some b) none none pos2) pos) (TI X.K CT Γ (.op (.slL true false) [p, q])) :=
  PE.imp (pe_slice sl_list ha (po_some hb) po_none) fun _ _ _ h => (TI_op2 OS_sl10 h).imp fun _ _ h => h.imp fun _ _ ⟨i, e, z⟩ => ⟨i, e, z⟩
theorem g_sl01 (ha : PE X a (TI X.K CT Γ p)) (hb : PE X b (TI X.K CT Γ q)) : PE X (.Subscript a (.Slice none (some b) none pos2) pos) (TI X.K CT Γ (.op (.slL false true) [p, q])) :=
  PE.imp (pe_slice sl_list ha po_none (po_some hb)) fun _ _ _ h => (TI_op2 OS_sl01 h).imp fun _ _ h => h.imp fun _ _ ⟨i, e, z⟩ => ⟨i, e, z⟩
theorem g_rev {k : Nat} {p1 p2 p3 : Pos} (ha : PE X a (TI X.K CT Γ p)) : PE X (.Subscript a (.Slice none none (some (.UnaryOp .USub (.Constant (.int 1) k p1) p2)) p3) pos) (TI X.K CT Γ (.op .rev [p])) :=
  PE.imp (pe_revL ha) fun _ _ _ h => TI_op1 OS_rev h
theorem g_B {id : String} {k : Op} {r : List V → Hp → VK → Prop} (hc : CallR X (.builtin id) r) (hs : OS X.K CT r k) (hm : X.mg x = none) (ha : PA X (a :: es) (TIs X.K CT Γ (p :: ps))) (hg : Gl X x := by rfl) (hv : bootBuiltins x = some (.builtin id) := by rfl)
    (hn : x ≠ "__name__" := by decide) (hdb : (x == ("__debug__" : Str)) = false := by decide) (he : starEach (a :: es) X.env = (false, eval a X.env) :: starEach es X.env := by rfl) (hpl : (backTo pos (starEach es X.env)).any (·.1) = false := by rfl) :
    PE X (.Call (.Name x pos2) (a :: es) [] pos) (TI X.K CT Γ (.op k (p :: ps))) :=
  PE.imp (pe_callB hc hg hm hv ha hn hdb he hpl) fun _ _ _ h => TI_op hs h
theorem g_Ty {T : String} {k : Op} {r : List V → Hp → VK → Prop} (hc : CallR X (.type T) r) (hs : OS X.K CT r k) (hm : X.mg x = none) (ha : PA X (a :: es) (TIs X.K CT Γ (p :: ps))) (hg : Gl X x := by rfl) (hv : bootBuiltins x = some (.type T) := by rfl)
    (hn : x ≠ "__name__" := by decide) (hdb : (x == ("__debug__" : Str)) = false := by decide) (he : starEach (a :: es) X.env = (false, eval a X.env) :: starEach es X.env := by rfl) (hpl : (backTo pos (starEach es X.env)).any (·.1) = false := by rfl) :
    PE X (.Call (.Name x pos2) (a :: es) [] pos) (TI X.K CT Γ (.op k (p :: ps))) :=
  PE.imp (pe_callTy hc hg hm hv ha hn hdb he hpl) fun _ _ _ h => TI_op hs h
/-- isinstance(a, T) -/
theorem g_is {y : Str} {T : String} {k : Op} (hs : OS X.K CT (One (rIs X.K (.type T))) k) (hi : X.mg "isinstance" = none) (hy : X.mg y = none) (ha : PE X a (TI X.K CT Γ p)) (hv : bootBuiltins y = some (.type T) := by rfl) (hg : Gl X "isinstance" := by rfl) (hg2 : Gl X y := by rfl)
    (hn : y ≠ "__name__" := by decide) (hdb : (y == ("__debug__" : Str)) = false := by decide) (h1 : starEach [a, .Name y pos3] X.env = (false, eval a X.env) :: starEach [.Name y pos3] X.env := by rfl) (h2 : starEach [.Name y pos3] X.env = (false, eval (.Name y pos3) X.env) :: starEach [] X.env := by rfl)
    (hpl : (backTo pos (starEach [.Name y pos3] X.env)).any (·.1) = false := by rfl) : PE X (.Call (.Name "isinstance" pos2) [a, .Name y pos3] [] pos) (TI X.K CT Γ (.op k [p])) :=
  PE.imp (pe_callB call_isi hg hi (by rfl) (pa_cons ha (pa_cons (pe_bltn (v := .ty T) hg2 hy hv rfl hn hdb) pa_nil h2) h1) (by decide) (by decide) h1 hpl) fun _ _ _ h => (TI_op1 hs h).imp fun v H1 ⟨t, b, z1, z2, z3⟩ => ⟨v, .ty T, t, .type T, b, rfl, .ty T, z1, z2, z3⟩
/-- isinstance(a, C) -/
theorem g_isC {y : Str} {k : Nat} (kc : KCls X.K (CT k)) (hi : X.mg "isinstance" = none) (hy : X.mg y = some (.ref (CT k))) (ha : PE X a (TI X.K CT Γ p)) (hg : Gl X "isinstance" := by rfl) (hg2 : Gl X y := by rfl)
    (hdb : (y == ("__debug__" : Str)) = false := by decide) (h1 : starEach [a, .Name y pos3] X.env = (false, eval a X.env) :: starEach [.Name y pos3] X.env := by rfl) (h2 : starEach [.Name y pos3] X.env = (false, eval (.Name y pos3) X.env) :: starEach [] X.env := by rfl)
    (hpl : (backTo pos (starEach [.Name y pos3] X.env)).any (·.1) = false := by rfl) : PE X (.Call (.Name "isinstance" pos2) [a, .Name y pos3] [] pos) (TI X.K CT Γ (.op (.isCls k) [p])) :=
  PE.imp (pe_callB call_isi hg hi (by rfl) (pa_cons ha (pa_cons (pe_glob (v := .ref (CT k)) hg2 hy rfl hdb) pa_nil h2) h1) (by decide) (by decide) h1 hpl) fun _ _ _ h => (TI_op1 (OS_isCls kc) h).imp fun v H1 ⟨t, b, z1, z2, z3⟩ => ⟨v, .ref (CT k), t, .ref (CT k), b, rfl, .own (CT k), z1, z2, z3⟩
theorem g_fld {f : Str} (hc : ∀ cl, Cls X.K (CT cl)) (hn : ∀ cl, NoAttr X.K (CT cl) f) (ha : PE X a (TI X.K CT Γ p)) (hb : attributeBase a f X.env (eval a X.env) = eval a X.env := by rfl) : PE X (.Attribute a f pos) (TI X.K CT Γ (.fld p f)) :=
  PE.imp (pe_fld ha hb) fun _ _ _ h => TI_fld hc hn h
theorem g_call {x : Str} {k j g : Nat} {n : Nat} (cl : C8.Cal X.prog X.w X.K X.mg X.base k x (spV X.K CT (Γ g) n) []) (hr : Room j X.A) (ha : PA X (a :: es) (TIs X.K CT Γ (p :: ps))) (hn : (p :: ps).length = n := by rfl) (hk : k ≤ j := by decide) (hg : Gl X x := by rfl)
    (hdb : (x == ("__debug__" : Str)) = false := by decide) (he : starEach (a :: es) X.env = (false, eval a X.env) :: starEach es X.env := by rfl) (hpl : (backTo pos (starEach es X.env)).any (·.1) = false := by rfl) :
    PE X (.Call (.Name x pos2) (a :: es) [] pos) (TI X.K CT Γ (.call g (p :: ps))) := by
  subst hn
  exact PE.imp (C8.pe_c cl hr hk hg ha hdb he hpl) fun _ _ _ h => TI_call h
theorem g_callio {x : Str} {k j g i : Nat} {n : Nat} (cl : C8.Cal X.prog X.w X.K X.mg X.base k x (spV X.K CT (Γ g) n) []) (hr : Room j X.A) (hv : PE X a (tVar i)) (ha : PA X es (TIs X.K CT Γ ps)) (hn : ps.length + 1 = n := by rfl) (hk : k ≤ j := by decide) (hg : Gl X x := by rfl)
    (hdb : (x == ("__debug__" : Str)) = false := by decide) (he : starEach (a :: es) X.env = (false, eval a X.env) :: starEach es X.env := by rfl) (hpl : (backTo pos (starEach es X.env)).any (·.1) = false := by rfl) :
    PE X (.Call (.Name x pos2) (a :: es) [] pos) (TI X.K CT Γ (.callio g i ps)) := by
  subst hn
  exact PE.imp (C8.pe_c cl hr hk hg (pa_cons hv ha he) hdb he hpl) fun _ _ _ h => TI_callio h
theorem g_mk {x : Str} {k j g i : Nat} {n : Nat} (cl : C8.Mak X.prog X.w X.K X.mg X.base k x (CT i) (spV X.K CT (Γ g) n) []) (hr : Room j X.A) (ha : PA X (a :: es) (TIs X.K CT Γ (p :: ps))) (hn : (p :: ps).length + 1 = n := by rfl) (hk : k + 1 ≤ j := by decide) (hg : Gl X x := by rfl)
    (hdb : (x == ("__debug__" : Str)) = false := by decide) (he : starEach (a :: es) X.env = (false, eval a X.env) :: starEach es X.env := by rfl) (hpl : (backTo pos (starEach es X.env)).any (·.1) = false := by rfl) :
    PE X (.Call (.Name x pos2) (a :: es) [] pos) (TI X.K CT Γ (.mk i g (p :: ps))) := by
  subst hn
  exact PE.imp (C8.pe_mk cl hr hk hg ha hdb he hpl) fun _ _ _ h => TI_mk h
end
end Pv

set_option Elab.async false
set_option linter.all false
set_option maxRecDepth 100000
set_option maxHeartbeats 1000000
namespace Pv
open PySem L2 PyProof.Rows

section
variable {K : PySem.W.Frag} {CT : Nat → Addr} {N : Nat} {Γ : Fns} {σ : L2.St} {H : Hp} {Q : VK} {e : PX} {es : List PX}
theorem call_sp {g : Nat} {E : XK} {F G : Hp} {ρ : Env} {f : Nat → List Addr} {T : Nat → Bool} {r : List Rv × Env} {vs : List V} {F1 H1 : Hp} {f1 : Nat → List Addr} {fp1 : List Addr} {ds : List Pv.D} {x : Pv.D} {n : Nat} (hs : Ste K CT F G H ρ σ f) (p : Pst K CT T F G H ρ σ f r.2 r.1 vs F1 H1 f1 fp1)
    (hn : vs.length = n) (h2 : args r.2 r.1 = some ds) (h3 : Γ g ds = some (x, none)) (hq : ∀ v F' H' f' fp, Pst K CT T F G H ρ σ f r.2 [.val x] [v] F' H' f' fp → Q v H') : spV K CT (Γ g) n vs H1 Q E := by
  simp only [args, Option.map_eq_some_iff] at h2
  obtain ⟨ds', h5, rfl⟩ := h2
  refine ⟨hn, F1, _, _, _, [], p.st.wf, List.nodup_nil, h3, ⟨rfl, bors_rs p.st p.st.wg p.vr h5 (fun _ _ => rfl) fun _ _ _ _ => rfl⟩, ?_⟩
  intro v F2 H2 fp A' fin hr nd fr out
  obtain rfl : A' = [] := out
  rw [List.append_nil] at nd
  have al : Alo F1 H1 F2 H2 := by
    refine ⟨fin.le, fun a u e => fin.keep a u e List.not_mem_nil, fun a h => ?_, fun _ => fin.w⟩
    rcases fin.new a h with z | z | z
    · exact .inl z
    · exact .inr z
    · cases z
  have fr' : ∀ a ∈ fp, H1 a = none := fun a ha => (fr a ha).elim (fun z => absurd z List.not_mem_nil) id
  refine hq _ _ _ _ _ (Pst.made p al ?_ nd fun a ha => .inr (fr' a ha))
  exact R.mono (HLe.refl _) x (HLe.e0 _).w (fun a ha => ⟨rfl, (R.own x hr a ha).2.1, p.st.wg.none (fr' a ha)⟩) hr
theorem lookup_none {vs : List (Str × V)} {ks : List (Key × Pv.D)} {F G : Hp} {fp : List Addr} {m : Str} (h : Rk K CT F G H ks (vs.map fk) fp) (e : (valA ks (Sum.inr m)).isNone = true) : vs.lookup m = none := by
  have z := Rk.some_ ks (k := Sum.inr m) h
  rw [fk_val] at z
  cases q : vs.lookup m with
  | none => rfl
  | some y =>
    rw [q] at z
    cases q2 : valA ks (Sum.inr m) with
    | none => rw [q2] at z; cases z
    | some y => rw [q2] at e; cases e
theorem TI_meth {c g : Nat} {m : Str} {o : PX} {E : XK} (h : TI K CT Γ (.meth c m g o es) σ H Q) : tMeth (CT c) m (spV K CT (Γ g) (es.length + 1)) [] E (TI K CT Γ o) (TIs K CT Γ es) σ H Q := by
  obtain ⟨F, G, ρ, f, rv, ρ', hs, he, hq⟩ := h
  simp only [ev, Option.bind_eq_some_iff] at he
  obtain ⟨r0, h0, d0, hv, he⟩ := he
  split at he
  case isFalse => cases he
  rename_i hi
  simp only [Option.bind_eq_some_iff] at he
  obtain ⟨r, h1, ds, h2, q, h3, h4⟩ := he
  obtain ⟨x, ox⟩ := q
  cases ox with
  | some _ => cases h4
  | none =>
    cases h4
    refine ⟨F, G, ρ, f, r0.1, r0.2, hs, h0, fun v F1 H1 f1 fp1 p => ?_⟩
    obtain ⟨fp', rr⟩ := view_r p.st (vr1 p.vr) hv
    cases d0 with
    | ins mm c' ks =>
      simp only [isIns, Bool.and_eq_true, decide_eq_true_eq] at hi
      obtain ⟨rfl, hm⟩ := hi
      obtain ⟨a, dx, us, G', fp2, rfl, hH, rk, _⟩ := ins_r p.st.wf p.st.wg rr
      refine ⟨a, dx, us, rfl, hH, lookup_none rk hm, F1, G, r0.2, f1, r.1, r.2, p.st, h1, fun vs F2 H2 f2 fp3 p2 => ?_⟩
      show spV K CT (Γ g) (es.length + 1) (V.ref a :: (vs ++ [])) H2 Q E
      rw [List.append_nil]
      have pp : Pst K CT (PX.meth c' m g o es).tch F G H ρ σ f r.2 (r0.1 :: r.1) (V.ref a :: vs) F2 H2 f2 _ := (p.mono fun i hi => by simp only [PX.tch, Bool.or_eq_false_iff] at hi; exact hi.1).cons (p2.mono fun i hi => by simp only [PX.tch, Bool.or_eq_false_iff] at hi; exact hi.2)
      refine call_sp (r := (r0.1 :: r.1, r.2)) hs pp ?_ h2 h3 hq
      rw [List.length_cons, (VRs.len p2.vr).trans (evs_len es h1)]
    | _ => cases hi
def rEqO (K : PySem.W.Frag) (C : Addr) (sp : Sp) (E : XK) : R2 := fun x y H Q => ∃ a dx fs t, x = .ref a ∧ H a = some (.ins C dx fs) ∧ TyX K H y t ∧ PySem.W.notFirst K C t = true ∧ sp [x, y] H Q E
theorem op_eqO {X : Cx} {CX : CXT} {C f : Addr} {fd : FuncData} {ps : List Str} {n : Nat} {sp : Sp} {E : XK} (F : FnOk X.prog X.w X.K X.mg X.base CX n f fd ps sp) (hr : Room n X.A)
    (hs : PySem.W.findIn X.K (.ref C) "__eq__" = some (some (.ref f))) (hf : PySem.W.isFn X.K (.ref f) = true) (hb : Binds X.K fd ps []) (hx : Passes CX X E) : OpR X (compareOp .Eq) (rEqO X.K C sp E) := by
  intro pins s σ H x y v u Q I rx ry h
  obtain ⟨a, dx, fs, t, rfl, ha, ty, hn, q⟩ := h
  cases (show v = Value.ref a from rx)
  obtain ⟨mA, O, _⟩ := ins_get I.hok ha
  obtain ⟨od, J, _⟩ := O.look
  obtain ⟨P, Z, p, _⟩ := kit_of I ry ty
  obtain ⟨m, hF⟩ := I.fr
  show wpAny (model X.prog X.w) X.A (richCompare .Eq (.ref a) u) (EP X pins σ Q) X.xe s
  refine PySem.W.cmp_K (op := .Eq) (tb := t) hr.units0 hF I.ok.mod.kin J (Z.ty _ s.heap I.kIn p) hn hs hf ?_
  refine wpAny_mono (run_fn (us := [.ref a, u]) (vs := [.ref a, y]) F hr hb .nil hx I (.cons rfl (.cons ry .nil)) q) (fun w s' z => ?_) fun _ _ x => x
  obtain ⟨z', H', I', rz, qz⟩ := z
  exact SlX.cmpback rz ⟨z', H', I', rz, qz⟩
structure KEq (K : PySem.W.Frag) (C : Addr) : Prop where
  kc : KCls K C
  n0 : PySem.W.notFirst K C (.ref C) = true
  n1 : PySem.W.notFirst K C (.type "NoneType") = true
  n2 : PySem.W.notFirst K C (.type "bool") = true
  n3 : PySem.W.notFirst K C (.type "int") = true
  n4 : PySem.W.notFirst K C (.type "str") = true
  n5 : PySem.W.notFirst K C (.type "tuple") = true
  n6 : PySem.W.notFirst K C (.type "list") = true
  n7 : PySem.W.notFirst K C (.type "dict") = true
theorem KEq.bi {C : Addr} (k : KEq K C) : ∀ {d : Pv.D}, d.bi = true → PySem.W.notFirst K C (.type d.tyN) = true
  | .non, _ => k.n1
  | .bl b, _ => k.n2
  | .int b, _ => k.n3
  | .str b, _ => k.n4
  | .scr b, h => by cases h
  | .tup b, _ => k.n5
  | .lst m b, _ => k.n6
  | .dct m b, _ => k.n7
  | .ins _ _ _, h => by cases h
theorem okEq_cases {c : Nat} {ws : List Pv.D} (h : okEq c ws = true) : (∃ m ks m2 ks2, ws = [.ins m c ks, .ins m2 c ks2]) ∨ (∃ m ks d, ws = [.ins m c ks, d] ∧ d.bi = true) := by
  unfold okEq at h
  split at h
  · simp only [Bool.and_eq_true, decide_eq_true_eq] at h
    obtain ⟨rfl, rfl⟩ := h
    exact .inl ⟨_, _, _, _, rfl⟩
  · simp only [Bool.and_eq_true, decide_eq_true_eq] at h
    obtain ⟨rfl, h⟩ := h
    exact .inr ⟨_, _, _, rfl, h⟩
  · cases h
theorem TI_eqO {c g : Nat} {a b : PX} {E : XK} (k : KEq K (CT c)) (h : TI K CT Γ (.eqO c g a b) σ H Q) : tOp (rEqO K (CT c) (spV K CT (Γ g) 2) E) (TI K CT Γ a) (TI K CT Γ b) σ H Q := by
  obtain ⟨F, G, ρ, f, rv, ρ', hs, he, hq⟩ := h
  simp only [ev, Option.bind_eq_some_iff] at he
  obtain ⟨r0, h0, r, h1, ws, hv, he⟩ := he
  split at he
  case isFalse => cases he
  rename_i hi
  simp only [Option.bind_eq_some_iff] at he
  obtain ⟨ds, h2, q, h3, h4⟩ := he
  obtain ⟨x, ox⟩ := q
  cases ox with
  | some _ => cases h4
  | none =>
    cases h4
    refine ⟨F, G, ρ, f, r0.1, r0.2, hs, h0, fun v F1 H1 f1 fp1 p => ⟨F1, G, r0.2, f1, r.1, r.2, p.st, h1, fun v2 F2 H2 f2 fp2 p2 => ?_⟩⟩
    have pp : Pst K CT (PX.eqO c g a b).tch F G H ρ σ f r.2 [r0.1, r.1] [v, v2] F2 H2 f2 _ := (p.mono fun i hi => by simp only [PX.tch, Bool.or_eq_false_iff] at hi; exact hi.1).cons (p2.mono fun i hi => by simp only [PX.tch, Bool.or_eq_false_iff] at hi; exact hi.2)
    have rd := views_rd pp.st pp.vr hv
    have sp := call_sp (E := E) (r := ([r0.1, r.1], r.2)) hs pp rfl h2 h3 hq
    have go : ∀ (m : Fl) (ks : List (Key × Pv.D)) (d : Pv.D), ws = [.ins m c ks, d] → (∃ t, (∀ v fp, R K CT F2 G H2 d v fp → TyX K H2 v t) ∧ PySem.W.notFirst K (CT c) t = true) → rEqO K (CT c) (spV K CT (Γ g) 2) E v v2 H2 Q := by
      intro m ks d e ⟨t, ht, hn⟩
      subst e
      obtain ⟨u1, fu, u2, fu2, e1, q1, q2⟩ := rd2 rd
      cases e1
      obtain ⟨a', dx, us, G', fp3, rfl, hH, _⟩ := ins_r p2.st.wf p2.st.wg q1
      exact ⟨a', dx, us, t, rfl, hH, ht _ _ q2, hn, sp⟩
    have kc := k.kc
    rcases okEq_cases hi with ⟨m, ks, m2, ks2, e⟩ | ⟨m, ks, d, e, hb⟩
    · refine go m ks _ e ⟨.ref (CT c), fun v fp q => ?_, k.n0⟩
      obtain ⟨a', dx, us, G', fp3, rfl, hH, _⟩ := ins_r p2.st.wf p2.st.wg q
      exact .base (.ins hH kc.cl kc.ha kc.hn kc.htk kc.hm)
    · exact go m ks d e ⟨_, fun v fp q => ty_r p2.st.wf p2.st.wg q hb, k.bi hb⟩
theorem Rs.split {F G : Hp} : ∀ (as : List Pv.D) {bs : List Pv.D} {vs : List V} {fp : List Addr}, Rs K CT F G H (as ++ bs) vs fp → ∃ v1 v2 f1 f2, vs = v1 ++ v2 ∧ fp = f1 ++ f2 ∧ Rs K CT F G H as v1 f1 ∧ Rs K CT F G H bs v2 f2
  | [], bs, vs, fp, h => ⟨[], vs, [], fp, rfl, rfl, ⟨rfl, rfl⟩, h⟩
  | a :: as, bs, vs, fp, h => by
    simp only [List.cons_append, Rs] at h
    obtain ⟨v, vr, g1, g2, rfl, h1, h2, rfl⟩ := h
    obtain ⟨v1, v2, f1, f2, rfl, rfl, h3, h4⟩ := Rs.split as h2
    refine ⟨v :: v1, v2, g1 ++ f1, f2, rfl, (List.append_assoc _ _ _).symm, ?_, h4⟩
    simp only [Rs]
    exact ⟨v, v1, g1, f1, rfl, h1, h3, rfl⟩
theorem last_split {α : Type} {ds : List α} {x : α} (h : ds.getLast? = some x) : ds = ds.dropLast ++ [x] := by
  cases ds with
  | nil => cases h
  | cons a r =>
    rw [List.getLast?_eq_some_getLast (by simp)] at h
    cases h
    exact (List.dropLast_concat_getLast (by simp)).symm
theorem TI_pop {j : Nat} (h : TI K CT Γ (.pop j) σ H Q) : tBM0 K "list" rPop (tVar j) σ H Q := by
  obtain ⟨F, G, ρ, f, rv, ρ', hs, he, hq⟩ := h
  simp only [ev, Option.bind_eq_some_iff] at he
  obtain ⟨d, hg, he⟩ := he
  split at he
  case h_2 => cases he
  rename_i ds
  simp only [Option.bind_eq_some_iff] at he
  obtain ⟨x, hx, he⟩ := he
  split at he
  case isFalse => cases he
  rename_i hno
  cases he
  obtain ⟨v, e1, rr⟩ := hs.get hg
  have rr0 := rr
  simp only [R] at rr
  obtain ⟨a, vs, fp0, rfl, hH, hF0, hG0, rs, hfp⟩ := rr
  have hsp := last_split hx
  rw [hsp] at rs
  obtain ⟨v1, v2, f1, f2, rfl, rfl, r1, r2⟩ := Rs.split _ rs
  simp only [Rs] at r2
  obtain ⟨y, _, g1, g2, rfl, ry, ⟨rfl, rfl⟩, rfl⟩ := r2
  have hz := ry.noOwn hno
  subst hz
  refine ⟨.ref a, e1, .inl ⟨rfl, _, SqL.of hH⟩, a, v1 ++ [y], y, rfl, rfl, hH, by simp, ?_⟩
  rw [List.dropLast_concat]
  obtain ⟨f', s3, t3⟩ := upd_core (o' := .lst v1) (n' := .lst .own ds.dropLast) (ex := []) (ks := []) hs (Stp.refl (PX.pop j).tch F H ρ f) (by simp [PX.tch]) hg e1 rfl rfl (fun _ h => (nomatch h)) (fun _ h => (nomatch h)) (fun fn rn nd hx => by
    simp only [R] at rn
    obtain ⟨a2, vs2, fp2, ea, e3, e4, e5, e6, rfl⟩ := rn
    cases ea
    rw [hH] at e3; cases e3
    obtain ⟨na, nd2⟩ := List.nodup_cons.mp nd
    rw [hsp] at e6
    obtain ⟨w1, w2, k1, k2, ew, rfl, q1, q2⟩ := Rs.split _ e6
    have hlen := Rs.len _ q1
    have hlen2 := Rs.len _ r1
    have : w1 = v1 := (List.append_inj ew.symm (by rw [hlen, hlen2])).1
    subst this
    have na1 : a ∉ k1 := fun z => na (List.mem_append_left _ z)
    refine ⟨List.mem_cons_self, a :: k1, ?_, List.nodup_cons.mpr ⟨na1, (List.nodup_append.mp nd2).1⟩, fun z hz => ?_⟩
    · simp only [R]
      exact ⟨a, _, _, rfl, upd_same, e4, e5, q1.up na1, rfl⟩
    · rcases List.mem_cons.mp hz with rfl | hz
      · exact .inl List.mem_cons_self
      · exact .inl (List.mem_cons_of_mem _ (List.mem_append_left _ hz)))
  exact hq _ _ _ _ [] ⟨s3, t3, VR.one (R.mono (HLe.refl _) x (WLe.refl _) (fun _ h => (nomatch h)) ry), List.nodup_nil, fun _ h => (nomatch h), fun _ h => (nomatch h)⟩
theorem Rk.drop {F G : Hp} (k : Key) : ∀ (ks : List (Key × Pv.D)) {vs : List (Key × V)} {fp : List Addr}, Rk K CT F G H ks vs fp → fp.Nodup → ∃ fp', Rk K CT F G H (dropA ks k) (dropK vs k) fp' ∧ fp'.Nodup ∧ ∀ a ∈ fp', a ∈ fp
  | [], _, _, h, nd => by
    simp only [Rk] at h
    obtain ⟨rfl, rfl⟩ := h
    exact ⟨[], by simp [dropA, dropK, Rk], List.nodup_nil, fun _ h => h⟩
  | (k0, d0) :: ks, _, _, h, nd => by
    simp only [Rk] at h
    obtain ⟨v, vr, g1, g2, rfl, h1, h2, rfl⟩ := h
    obtain ⟨n1, n2, n3⟩ := List.nodup_append.mp nd
    obtain ⟨fp', w1, w2, w3⟩ := Rk.drop k ks h2 n2
    by_cases hk : k0 = k
    · refine ⟨fp', ?_, w2, fun a ha => List.mem_append_right _ (w3 a ha)⟩
      simp only [dropA, dropK] at w1 ⊢
      rw [List.filter_cons, List.filter_cons, if_neg (by simp [hk]), if_neg (by simp [hk])]
      exact w1
    · refine ⟨g1 ++ fp', ?_, List.nodup_append.mpr ⟨n1, w2, fun a ha b hb => n3 a ha b (w3 b hb)⟩, fun a ha => ?_⟩
      · simp only [dropA, dropK] at w1 ⊢
        rw [List.filter_cons, List.filter_cons, if_pos (by simp [hk]), if_pos (by simp [hk])]
        simp only [Rk]
        exact ⟨v, _, g1, fp', rfl, h1, w1, rfl⟩
      · rcases List.mem_append.mp ha with z | z
        · exact List.mem_append_left _ z
        · exact List.mem_append_right _ (w3 a z)
theorem dropA_nodup {β : Type} (k : Key) (ks : List (Key × β)) (h : (ks.map Prod.fst).Nodup) : ((dropA ks k).map Prod.fst).Nodup :=
  List.Nodup.sublist (List.Sublist.map _ List.filter_sublist) h
theorem TI_popK {j : Nat} {k : PX} (h : TI K CT Γ (.popK j k) σ H Q) : tDPop1 (tVar j) (TI K CT Γ k) σ H Q := by
  obtain ⟨F, G, ρ, f, rv, ρ', hs, he, hq⟩ := h
  simp only [ev, Option.bind_eq_some_iff] at he
  obtain ⟨d0, hg0, he⟩ := he
  split at he
  case isTrue => cases he
  rename_i hk0
  simp only [Option.bind_eq_some_iff] at he
  obtain ⟨q, h1, kk, ⟨kd, h2, h3⟩, he⟩ := he
  split at he
  case isFalse => cases he
  rename_i ht
  simp only [Option.bind_eq_some_iff] at he
  obtain ⟨d, hg, he⟩ := he
  split at he
  case h_2 => cases he
  rename_i ks
  simp only [Option.bind_eq_some_iff] at he
  obtain ⟨x, hx, he⟩ := he
  split at he
  case isFalse => cases he
  rename_i hno
  cases he
  obtain ⟨v, e1, rr⟩ := hs.get hg0
  obtain ⟨a, ks0, vs0, fp0, rfl, rfl, hH0, _, _⟩ := isK_ref rr (by cases e : d0.isK with | true => rfl | false => exact absurd e hk0)
  refine ⟨.ref a, e1, ?_⟩
  have key : ∀ (w : V) F1 H1 f1 fp1, Pst K CT k.tch F G H ρ σ f q.2 [q.1] [w] F1 H1 f1 fp1 → ∃ vs fp0, H1 a = some (.dK vs) ∧ Rk K CT F1 G H1 ks vs fp0 ∧ f1 j = a :: fp0 := fun w F1 H1 f1 fp1 p => by
    obtain ⟨v', e3, rr⟩ := p.st.get hg
    rw [e1] at e3; cases e3
    simp only [R] at rr
    obtain ⟨_, a', vs, fp0, ea, hH, _, _, rk, hfp⟩ := rr
    cases ea
    exact ⟨vs, fp0, hH, rk, hfp⟩
  refine ⟨a, rfl, .inl ⟨vs0, .inl hH0⟩, F, G, ρ, f, q.1, q.2, hs, h1, fun w F1 H1 f1 fp1 p => ?_⟩
  obtain ⟨vs, fp2, hH, rk, hf⟩ := key w F1 H1 f1 fp1 p
  obtain ⟨fz, rz⟩ := view_r p.st (vr1 p.vr) h2
  have hw := key_v rz h3
  subst hw
  obtain ⟨y, fy, q1, ry, _⟩ := Rk.val ks rk hx
  have hz := ry.noOwn hno
  subst hz
  refine ⟨vs, kk, y, hH, rfl, q1, ?_⟩
  obtain ⟨f', s3, t3⟩ := upd_core (o' := .dK (dropK vs kk)) (n' := .dct .own (dropA ks kk)) (ex := []) (ks := []) p.st (p.sp.mono (T' := (PX.popK j k).tch) fun i hi => by simp only [PX.tch, Bool.or_eq_false_iff] at hi; exact hi.2) (by simp [PX.tch]) hg e1 rfl rfl (fun _ h => (nomatch h)) (fun _ h => (nomatch h)) (fun fn rn nd hx => by
    simp only [R] at rn
    obtain ⟨hkn, a2, vs2, fp2, ea, e3, e4, e5, e6, rfl⟩ := rn
    cases ea
    rw [hH] at e3; cases e3
    obtain ⟨na, nd2⟩ := List.nodup_cons.mp nd
    obtain ⟨k1, w1, w2, w3⟩ := Rk.drop kk ks e6 nd2
    have na1 : a ∉ k1 := fun z => na (w3 a z)
    refine ⟨List.mem_cons_self, a :: k1, ?_, List.nodup_cons.mpr ⟨na1, w2⟩, fun z hz => ?_⟩
    · simp only [R]
      exact ⟨dropA_nodup kk ks hkn, a, _, _, rfl, upd_same, e4, e5, w1.up na1, rfl⟩
    · rcases List.mem_cons.mp hz with rfl | hz
      · exact .inl List.mem_cons_self
      · exact .inl (List.mem_cons_of_mem _ (w3 z hz)))
  exact hq _ _ _ _ [] ⟨s3, t3, VR.one (R.mono (HLe.refl _) x (WLe.refl _) (fun _ h => (nomatch h)) ry), List.nodup_nil, fun _ h => (nomatch h), fun _ h => (nomatch h)⟩
end
end Pv

set_option Elab.async false
set_option linter.all false
set_option maxRecDepth 100000
set_option maxHeartbeats 1000000
namespace Pv
open PySem L2 PyProof.Rows
section
variable {K : PySem.W.Frag} {CT : Nat → Addr} {N : Nat} {Γ : Fns} {σ : L2.St} {H : Hp} {Q : VK} {es : List PX}
theorem putA_len {β : Type} : ∀ (ks : List (Key × β)) (k : Key) (v : β), (putA ks k v).length ≤ ks.length + 1
  | [], k, v => by simp [putA]
  | p :: r, k, v => by
    simp only [putA]
    split
    · simp
    · simp only [List.length_cons]; exact Nat.succ_le_succ (putA_len r k v)
/-- a held dict, its items own things of its own -/
structure AccK (K : PySem.W.Frag) (CT : Nat → Addr) (F0 H0 : Hp) (f0 : Nat → List Addr) (F G H : Hp) (f : Nat → List Addr) (a : Addr) (ds : List (Key × Pv.D)) (vs : List (Key × V)) (fp : List Addr) : Prop where
  at_ : H a = some (.dK vs)
  F0a : F a = none
  G0a : G a = none
  off : ∀ i, a ∉ f i
  rs : Rk K CT F G H ds vs fp
  nd : fp.Nodup
  kn : (ds.map Prod.fst).Nodup
  na : a ∉ fp
  ap : ∀ x ∈ fp, ∀ i, x ∉ f i
  fr : ∀ x ∈ fp, (∃ j, x ∈ f0 j) ∨ H0 x = none
theorem AccK.step {T : Nat → Bool} {F0 H0 F G H F' H' : Hp} {f0 f f' : Nat → List Addr} {ρ ρ' : Env} {a : Addr} {ds : List (Key × Pv.D)} {vs : List (Key × V)} {fp : List Addr} (A : AccK K CT F0 H0 f0 F G H f a ds vs fp) (t : Stp T F H ρ f F' H' ρ' f') : AccK K CT F0 H0 f0 F' G H' f' a ds vs fp := by
  have hh := t.held (fp := [a]) (G := G) (fun x hx => by rw [List.mem_singleton.mp hx]; exact ⟨⟨_, A.at_⟩, A.F0a, A.G0a⟩) (fun x hx => by rw [List.mem_singleton.mp hx]; exact A.off)
  obtain ⟨z1, z2, z3⟩ := hh a (List.mem_singleton.mpr rfl)
  have back : ∀ x, (∃ o, H x = some o) → (∀ i, x ∉ f i) → ∀ i, x ∉ f' i := fun x ⟨o, e⟩ n i hi => by
    rcases t.own i x hi with ⟨j, hj⟩ | hj
    · exact n j hj
    · rw [e] at hj; cases hj
  exact ⟨z1.trans A.at_, z2, z3, back a ⟨_, A.at_⟩ A.off, Rk.mono t.le ds (WLe.refl G) (t.held (Rk.own ds A.rs) A.ap) A.rs, A.nd, A.kn, A.na, fun x hx => back x (Rk.own ds A.rs x hx).1 (A.ap x hx), A.fr⟩

theorem dcomp_core {js : List Nat} {ik : IK} {ies : List PX} {c : Option PX} {k e : PX} {wi : L2.TI} {g : TG} {F G : Hp} {ρ : Env} {f : Nat → List Addr} {r : List Rv × Env} {els : List (List Pv.D)} {z : List (Key × Pv.D) × Env}
    (hfree : freeAt r.2 js = true) (h5 : dcompLoop js (fun ρ => evO Γ c ρ) (fun ρ => (ev Γ k ρ).bind asK) (fun ρ => (ev Γ e ρ).bind asD) els r.2 [] = some z) (hlen : els.length ≤ 1000000)
    (hw : ∀ Rp : It → Hp → Prop, (∀ J F' H' f' S, Pst K CT (tchs ies) F G H ρ σ f r.2 [] [] F' H' f' [] → Wk K CT F' G H' S J g js els → (∀ a ∈ S, (∃ o, H' a = some o) ∧ ∀ i, (tchO c i || k.tch i || e.tch i || js.contains i) = true → a ∉ f' i) → Rp J H') → wi σ H Rp)
    (hq : ∀ v F' H' f' fp, Pst K CT (PX.dcomp js ik ies c k e).tch F G H ρ σ f (backE z.2 r.2 js) [.val (.dct .own z.1)] [v] F' H' f' fp → Q v H') : tDc wi g (TBO K CT Γ c) (TI K CT Γ k) (TI K CT Γ e) js σ H Q := by
  refine hw _ fun J F' H' f' S p wk hS => ?_
  intro A hA
  have hTjs : ∀ j ∈ js, (fun i => tchO c i || k.tch i || e.tch i || js.contains i) j = true := fun j hj => by simp only [List.contains_iff_mem.mpr hj, Bool.or_true]
  have al0 : Alo F' H' F' (upd H' A (.dK [])) := Alo.obj hA
  refine ⟨fun i m H1 => m = els.length - i ∧ i ≤ els.length ∧ ∃ F1 ρ1 f1 ds1 vs1 fp1, Ste K CT F1 G H1 (wipeE ρ1 js) (wipe σ js) f1 ∧ Stp (fun i => tchO c i || k.tch i || e.tch i || js.contains i) F' H' r.2 f' F1 H1 (wipeE ρ1 js) f1 ∧ AccK K CT F' H' f' F1 G H1 f1 A ds1 vs1 fp1 ∧
      dcompLoop js (fun ρ => evO Γ c ρ) (fun ρ => (ev Γ k ρ).bind asK) (fun ρ => (ev Γ e ρ).bind asD) (els.drop i) ρ1 ds1 = some z ∧ ds1.length ≤ i, ⟨els.length, by omega, Nat.zero_le _, F', r.2, _, [], [], [], (p.st.alo al0).wipe js, (al0.stp p.st).wipe hTjs, ?_, h5, Nat.le_refl _⟩, fun i m H1 ⟨hm, hi, F1, ρ1, f1, ds1, vs1, fp1, s1, t1, A1, e1, ez⟩ => ?_⟩
  · refine ⟨upd_same, p.st.wf.none hA, p.st.wg.none hA, fun i hi => ?_, ⟨rfl, rfl⟩, List.nodup_nil, List.nodup_nil, List.not_mem_nil, fun _ h => (nomatch h), fun _ h => (nomatch h)⟩
    split at hi
    · cases hi
    · obtain ⟨⟨o, z1⟩, _⟩ := p.st.ow i A hi
      rw [hA] at z1; cases z1
  · have hagree := t1.agree hS
    by_cases hlt : i < els.length
    · refine .inr ⟨wk.go i H1 hagree hlt, fun H2 => ∃ F2 ρ2 f2 ds2 vs2 fp2, Ste K CT F2 G H2 (wipeE ρ2 js) (wipe σ js) f2 ∧ Stp (fun i => tchO c i || k.tch i || e.tch i || js.contains i) F' H' r.2 f' F2 H2 (wipeE ρ2 js) f2 ∧ AccK K CT F' H' f' F2 G H2 f2 A ds2 vs2 fp2 ∧
        dcompLoop js (fun ρ => evO Γ c ρ) (fun ρ => (ev Γ k ρ).bind asK) (fun ρ => (ev Γ e ρ).bind asD) (els.drop (i + 1)) ρ2 ds2 = some z ∧ ds2.length ≤ i + 1, fun H2 ⟨F2, ρ2, f2, ds2, vs2, fp2, w⟩ => ⟨els.length - (i + 1), by omega, rfl, hlt, F2, ρ2, f2, ds2, vs2, fp2, w⟩, fun x Hx hy => ?_⟩
      rw [List.drop_eq_getElem_cons hlt] at e1
      simp only [dcompLoop, Option.bind_eq_some_iff] at e1
      obtain ⟨ρa, e2, q, e3, e4⟩ := e1
      refine wk.yl i H1 x Hx els[i] (wipe σ js) _ hagree (WLe.h_trans t1.le s1.wf) (List.getElem?_eq_getElem hlt) hy (setAt_len e2) fun vs H2 hle rs => ⟨wipe_setV js vs σ, ?_⟩
      have sA := s1.alo hle.alo
      obtain ⟨fb, sB, tB, _⟩ := Ste.bindN (T := fun i => tchO c i || k.tch i || e.tch i || js.contains i) (vs := vs) sA hTjs (Rs.mono t1.le els[i] (WLe.refl G) (fun _ h => nomatch h) rs) e2
      have t2 := (hle.alo.stp (T := fun i => tchO c i || k.tch i || e.tch i || js.contains i) s1).trans tB
      refine TBO_run (q := q) sB e3 fun F3 H3 f3 s3 t3 => ?_
      have t13 := t2.trans (t3.mono (T' := fun i => tchO c i || k.tch i || e.tch i || js.contains i) fun i hi => by simp only [Bool.or_eq_false_iff] at hi; exact hi.1.1.1)
      have A3 := A1.step t13
      cases hb : q.1 with
      | false =>
        rw [hb] at e4
        simp only [Bool.false_eq_true, if_false] at e4 ⊢
        have s4 := s3.wipe js
        rw [wipe_setV] at s4
        have tw : Stp (fun i => tchO c i || k.tch i || e.tch i || js.contains i) F3 H3 q.2 f3 F3 H3 (wipeE q.2 js) _ := (Stp.refl _ F3 H3 q.2 f3).wipe hTjs
        exact ⟨F3, q.2, _, ds1, vs1, fp1, s4, (t1.trans t13).wipe hTjs, A3.step tw, e4, Nat.le_succ_of_le ez⟩
      | true =>
        rw [hb] at e4
        simp only [if_true, Option.bind_eq_some_iff] at e4 ⊢
        obtain ⟨kp, ⟨rk, k5, k6⟩, pd, ⟨re, e5, e6⟩, e7⟩ := e4
        simp only [asK, Option.map_eq_some_iff, Option.bind_eq_some_iff] at k6
        obtain ⟨key, ⟨kd, k7, k8⟩, rfl⟩ := k6
        refine ⟨F3, G, q.2, f3, rk.1, rk.2, s3, k5, fun yk Fk Hk fk fpk pk => ⟨Fk, G, rk.2, fk, re.1, re.2, pk.st, e5, fun y F4 H4 f4 fpd p4 => ?_⟩⟩
        obtain ⟨fz, rz⟩ := view_r pk.st (vr1 pk.vr) k7
        have hyk := key_v rz k8
        subst hyk
        simp only [asD, Option.map_eq_some_iff] at e6
        obtain ⟨d, e9, rfl⟩ := e6
        have tkk := pk.sp.mono (T' := fun i => tchO c i || k.tch i || e.tch i || js.contains i) fun i hi => by simp only [Bool.or_eq_false_iff] at hi; exact hi.1.1.2
        have Ak := A3.step tkk
        have rd := take_r p4.st (vr1 p4.vr) e9
        have t14 := (t13.trans tkk).trans (p4.sp.mono (T' := fun i => tchO c i || k.tch i || e.tch i || js.contains i) fun i hi => by simp only [Bool.or_eq_false_iff] at hi; exact hi.1.2)
        have A4 := A1.step t14
        have t04 := t1.trans t14
        have rsl := Rk.len _ A4.rs
        have hvk : (vs1.map Prod.fst).Nodup := by rw [Rk.keys ds1 A4.rs]; exact A4.kn
        refine ⟨vs1, key, rfl, A4.at_, ?_, ?_⟩
        · rw [rsl]
          exact Nat.lt_of_lt_of_le (Nat.lt_of_le_of_lt ez (Nat.lt_of_lt_of_le hlt hlen)) line_big
        · have frd : ∀ x ∈ fpd, (∃ j, x ∈ f' j) ∨ H' x = none := fun x hx => by
            rcases p4.fr x hx with ⟨j, hj⟩ | hj
            · exact ((t1.trans t13).trans tkk).own j x hj
            · cases e : H' x with
              | none => exact .inr rfl
              | some o =>
                obtain ⟨o', e'⟩ := ((t1.trans t13).trans tkk).live x o e
                rw [e'] at hj; cases hj
          have live3 : ∀ x, x ∈ A :: fp1 → ∃ o, Hk x = some o := fun x hx => by
            rcases List.mem_cons.mp hx with rfl | hx
            · exact ⟨_, Ak.at_⟩
            · exact (Rk.own ds1 Ak.rs x hx).1
          have off3 : ∀ x, x ∈ A :: fp1 → ∀ i, x ∉ fk i := fun x hx => by
            rcases List.mem_cons.mp hx with rfl | hx
            · exact Ak.off
            · exact Ak.ap x hx
          have apart : ∀ x ∈ A :: fp1, x ∉ fpd := fun x hx hd => by
            rcases p4.fr x hd with ⟨j, hj⟩ | hj
            · exact off3 x hx j hj
            · obtain ⟨o, e'⟩ := live3 x hx
              rw [hj] at e'; cases e'
          have s5 := (p4.st.updOff (o := .dK (putK vs1 key y)) A4.off A4.F0a A4.G0a).wipe js
          rw [wipe_setV] at s5
          have t5 := (Stp.updOff (o := .dK (putK vs1 key y)) p.st t04 hA).wipe hTjs
          obtain ⟨fp', w1, w2, w3⟩ := Rk.put rd key ds1 A4.rs (List.nodup_append.mpr ⟨A4.nd, p4.nd, fun x hx y' hy' e => apart x (List.mem_cons_of_mem _ hx) (e ▸ hy')⟩)
          have naA : A ∉ fp' := fun z => by
            rcases w3 A z with z | z
            · exact A4.na z
            · exact apart A List.mem_cons_self z
          refine ⟨F4, re.2, _, putA ds1 key d, putA vs1 key y, fp', s5, t5, ?_, e7, Nat.le_trans (putA_len ds1 key d) (Nat.succ_le_succ ez)⟩
          refine ⟨by rw [putK_eq vs1 key y hvk]; exact upd_same, A4.F0a, A4.G0a, fun i hi => ?_, w1.up naA, w2, (putA_nodup key d ds1 A4.kn).1, naA, fun x hx i hi => ?_, fun x hx => ?_⟩
          · split at hi
            · cases hi
            · exact A4.off i hi
          · split at hi
            · cases hi
            · rcases w3 x hx with z | z
              · exact A4.ap x z i hi
              · exact p4.ap x z i hi
          · rcases w3 x hx with z | z
            · exact A4.fr x z
            · exact frd x z
    · refine .inl ⟨wk.st i H1 hagree (by omega), ?_⟩
      rw [List.drop_eq_nil_of_le (by omega)] at e1
      simp only [dcompLoop, Option.some.injEq] at e1
      subst e1
      have sF := Ste.restore (σ := σ) p.st s1 (fun i hi => by rw [wipe_get, if_neg hi]) (by have a := s1.len; have b := p.st.len; rw [wipe_length] at a; omega) t1.le hfree
      rw [backE_wipe] at sF
      have tF := t1.backT (ρ0 := r.2) hTjs
      rw [backE_wipe] at tF
      refine hq _ F1 H1 _ (A :: fp1) ⟨sF, (p.sp.mono fun i hi => ?_).trans (tF.mono fun i hi => ?_), VR.one ?_, List.nodup_cons.mpr ⟨A1.na, A1.nd⟩, fun a ha i hi => ?_, fun a ha => ?_⟩
      · simp only [PX.tch, Bool.or_eq_false_iff] at hi; exact hi.1.1.1.2
      · simp only [PX.tch, Bool.or_eq_false_iff] at hi; simp only [hi.1.2, hi.2, hi.1.1.2, hi.1.1.1.1, Bool.or_self]
      · show R K CT F1 G H1 (.dct .own ds1) (.ref A) (A :: fp1)
        simp only [R]
        exact ⟨A1.kn, A, vs1, fp1, rfl, A1.at_, A1.F0a, A1.G0a, A1.rs, rfl⟩
      · split at hi
        · cases hi
        · rcases List.mem_cons.mp ha with rfl | ha
          · exact A1.off i hi
          · exact A1.ap a ha i hi
      · have hfr : (∃ j, a ∈ f' j) ∨ H' a = none := by
          rcases List.mem_cons.mp ha with rfl | ha
          · exact .inr hA
          · exact A1.fr a ha
        rcases hfr with ⟨j, hj⟩ | hj
        · exact p.sp.own j a hj
        · cases e : H a with
          | none => exact .inr rfl
          | some o =>
            obtain ⟨o', e'⟩ := p.sp.live a o e
            rw [e'] at hj; cases hj
/-- {k: e for .. in .. if c} -/
theorem TI_dcomp {js : List Nat} {ik : IK} {ies : List PX} {c : Option PX} {k e : PX} {wi : L2.TI} {g : TG} (hw : WI K CT Γ wi g js ik ies) (h : TI K CT Γ (.dcomp js ik ies c k e) σ H Q) : tDc wi g (TBO K CT Γ c) (TI K CT Γ k) (TI K CT Γ e) js σ H Q := by
  obtain ⟨F, G, ρ, f, rv, ρ', hs, he, hq⟩ := h
  simp only [ev, Option.bind_eq_some_iff] at he
  obtain ⟨r, h1, ds, h2, els, h3, h4⟩ := he
  split at h4
  case isFalse => cases h4
  rename_i hokf
  rw [Bool.and_eq_true] at hokf
  obtain ⟨hok, hfree⟩ := hokf
  simp only [Option.bind_eq_some_iff] at h4
  obtain ⟨z, h5, h6⟩ := h4
  split at h6
  case isFalse => cases h6
  rename_i hlen
  cases h6
  exact dcomp_core (ik := ik) hfree h5 hlen (fun Rp k => hw _ σ H Rp F G ρ f r.1 r.2 ds els hs h1 h2 h3 hok k) hq

theorem WI_chars {e : PX} {j : Nat} : WI K CT Γ (iStr (TI K CT Γ e)) (gName j) [j] .chars [e] := by
  intro T σ H Rp F G ρ f rvs ρ' ds els hs he hv hi hok hk
  obtain ⟨rv, hr, he1⟩ := evs1 he
  simp only at hr he1
  subst hr
  obtain ⟨d, hd, rfl⟩ := views1 hv
  refine TIs_one hs he1 fun v F' H' f' fp p => ?_
  obtain ⟨fz, rz⟩ := view_r p.st (vr1 p.vr) hd
  cases d with
  | str z =>
    simp only [iterS, Option.some.injEq] at hi
    subst hi
    simp only [R] at rz
    obtain ⟨rfl, _⟩ := rz
    refine ⟨z, rfl, hk _ F' H' f' [] p.drop ⟨fun i H1 ha hlt => ?_, fun i H1 ha hge => ?_, fun i H1 x Hx ys σ1 P ha wfl hy hyl hl hP => ?_⟩ fun _ h => (nomatch h)⟩
    · show i < z.cps.size
      simpa using hlt
    · show z.cps.size ≤ i
      simpa using hge
    · obtain ⟨rfl, c, hc, rfl⟩ := hyl
      rw [List.getElem?_map, Option.map_eq_some_iff] at hy
      obtain ⟨c', hc', rfl⟩ := hy
      have : c' = c := by
        rw [Array.getElem?_toList, hc] at hc'
        exact (Option.some.inj hc').symm
      subst this
      exact hP [_] _ (HLe.refl _) (R.one (R.atom (d := .str _) rfl))
  | _ => simp [iterS] at hi
theorem unT_get : ∀ {xs : List Pv.D} {els : List (List Pv.D)}, unT xs = some els → xs = els.map Pv.D.tup
  | [], _, h => by simp only [unT, Option.some.injEq] at h; subst h; rfl
  | x :: r, _, h => by
    cases x with
    | tup ds =>
      simp only [unT, Option.bind_eq_some_iff, Option.some.injEq] at h
      obtain ⟨xs, h1, rfl⟩ := h
      rw [List.map_cons, ← unT_get h1]
    | _ => simp [unT] at h
/-- a tuple's target -/
theorem gN {n : Nat} {js : List Nat} {vs : List V} {T : Addr} {σ : L2.St} {P : L2.St → Hp → Prop} {H : Hp} (hn : js.length = n) (hl : vs.length = n) (hT : SqT K H T vs) (h : P (setV js vs σ) H) : gTup K n (js.foldr (fun j t => gCons (gName j) t) gNil) (.ref T) σ H P := by
  refine ⟨T, vs, rfl, hT, hl, ?_⟩
  subst hn
  clear hT
  induction js generalizing vs σ with
  | nil =>
    cases vs with
    | nil => exact ⟨rfl, h⟩
    | cons _ _ => cases hl
  | cons j js ih =>
    cases vs with
    | nil => cases hl
    | cons v vs => exact ⟨v, vs, rfl, ih h (Nat.succ.inj hl)⟩
theorem WI_seqU {e : PX} {js : List Nat} {n : Nat} (hn : js.length = n) : WI K CT Γ (iList K (TI K CT Γ e)) (gTup K n (js.foldr (fun j t => gCons (gName j) t) gNil)) js .seqU [e] := by
  intro T σ H Rp F G ρ f rvs ρ' ds els hs he hv hi hok hk
  obtain ⟨rv, hr, he1⟩ := evs1 he
  simp only at hr he1
  subst hr
  obtain ⟨d, hd, rfl⟩ := views1 hv
  simp only [iterS, Option.bind_eq_some_iff] at hi
  obtain ⟨xs, hi, hu⟩ := hi
  have hxs := unT_get hu
  refine TIs_one hs he1 fun v F' H' f' fp p => ?_
  have hi' : (∃ m, d = .lst m xs ∧ xs.all Pv.D.noOwn = true) ∨ ∃ ns, d = .scr ns ∧ xs = ns.map Pv.D.int := by
    cases d with
    | lst m ys =>
      simp only [items1] at hi
      split at hi
      · rename_i hn; cases hi; exact .inl ⟨m, rfl, hn⟩
      · cases hi
    | scr ns => simp only [items1, Option.some.injEq] at hi; exact .inr ⟨ns, rfl, hi.symm⟩
    | _ => simp [items1] at hi
  obtain ⟨a, vs, S, rfl, hS, rs, hS2⟩ := lst_src p.st (vr1 p.vr) hd p.ap hok hi'
  have hlen : els.length = vs.length := by rw [Rs.len xs rs, hxs, List.length_map]
  refine ⟨a, rfl, ⟨vs, hS H' fun _ _ => rfl⟩, hk _ F' H' f' S p.drop ⟨fun i H1 ha hlt => ?_, fun i H1 ha hge => ⟨vs, hS H1 ha, by omega⟩, fun i H1 x Hx ys σ1 P ha wfl hy hyl hl hP => ?_⟩ hS2⟩
  · exact ⟨vs, vs[i], hS H1 ha, List.getElem?_eq_getElem (by omega)⟩
  · obtain ⟨rfl, hx⟩ := hyl
    have hx := hx vs (hS _ ha)
    have hd : xs[i]? = some (.tup ys) := by rw [hxs, List.getElem?_map, hy]; rfl
    have r := Rs.get xs rs hd hx
    simp only [R] at r
    obtain ⟨⟨t, us, rfl, hF, ru⟩, _⟩ := r
    exact gN hn (by rw [Rs.len ys ru, ← hl, hn]) (SqT.of (wfl.tup hF)) (hP us _ (HLe.refl _) (Rs.mono (HLe.refl _) ys (HLe.e0 _).w (fun _ h => (nomatch h)) ru))
end
end Pv

set_option Elab.async false
set_option linter.all false
set_option maxRecDepth 100000
set_option maxHeartbeats 1000000
namespace Pv
open PySem L2 PyProof.Rows

section
variable {K : PySem.W.Frag} {CT : Nat → Addr} {N : Nat} {Γ : Fns} {σ : L2.St} {H : Hp} {Q : VK} {es : List PX}
def pairTI (K : PySem.W.Frag) (CT : Nat → Addr) (Γ : Fns) : List PX → List (TE × TE)
  | k :: v :: r => (TI K CT Γ k, TI K CT Γ v) :: pairTI K CT Γ r
  | _ => []
def pairV : List V → List (V × V)
  | a :: b :: r => (a, b) :: pairV r
  | _ => []
theorem tPairs_of : ∀ (es : List PX) {σ : L2.St} {H : Hp} {Q : List (V × V) → Hp → Prop}, es.length % 2 = 0 → TIs K CT Γ es σ H (fun vs H' => Q (pairV vs) H') → tPairs (pairTI K CT Γ es) σ H Q
  | [], _, _, _, _, h => TIs_nil h
  | [x], _, _, _, e, _ => absurd e (by simp)
  | k :: v :: r, σ, H, Q, e, h => (TIs_cons h).imp fun x H1 z => (TIs_cons z).imp fun y H2 w => tPairs_of r (by simp only [List.length_cons] at e; omega) w
theorem pairUp_even : ∀ {ds : List Pv.D} {ks : List (Key × Pv.D)}, pairUp ds = some ks → ds.length % 2 = 0
  | [], _, _ => rfl
  | [_], _, h => by simp [pairUp] at h
  | k :: d :: r, _, h => by
    simp only [pairUp, Option.bind_eq_some_iff] at h
    obtain ⟨_, _, _, h2, _⟩ := h
    have := pairUp_even h2
    simp only [List.length_cons]; omega
theorem key_fp {F G : Hp} {d : Pv.D} {v : V} {fp : List Addr} {k : Key} (h : R K CT F G H d v fp) (e : d.key = some k) : fp = [] := by
  cases d with
  | int _ => simp only [R] at h; exact h.2
  | str _ => simp only [R] at h; exact h.2
  | _ => cases e
theorem pairUp_rk {F G : Hp} : ∀ {ds : List Pv.D} {ks : List (Key × Pv.D)} {vs : List V} {fp : List Addr}, Rs K CT F G H ds vs fp → pairUp ds = some ks → ∃ kvs : List (Key × V), pairV vs = kvs.map (fun kv => (kV kv.1, kv.2)) ∧ Rk K CT F G H ks kvs fp
  | [], _, _, _, h, e => by
    simp only [pairUp, Option.some.injEq] at e
    subst e
    simp only [Rs] at h
    obtain ⟨rfl, rfl⟩ := h
    exact ⟨[], rfl, rfl, rfl⟩
  | [_], _, _, _, _, e => by simp [pairUp] at e
  | k :: d :: r, _, _, _, h, e => by
    simp only [pairUp, Option.bind_eq_some_iff, Option.some.injEq] at e
    obtain ⟨key, h1, xs, h2, rfl⟩ := e
    simp only [Rs] at h
    obtain ⟨v, _, f1, _, rfl, r1, ⟨w, vr, f2, f3, rfl, r2, r3, rfl⟩, rfl⟩ := h
    obtain ⟨kvs, e1, q⟩ := pairUp_rk r3 h2
    have := key_fp r1 h1
    subst this
    refine ⟨(key, w) :: kvs, by simp only [pairV, List.map_cons, e1, key_v r1 h1], ?_⟩
    simp only [Rk]
    exact ⟨w, kvs, f2, f3, rfl, r2, q, rfl⟩
theorem merge_self : ∀ (ms acc : List (Key × V)), ((acc ++ ms).map Prod.fst).Nodup → mergeK acc ms = acc ++ ms
  | [], acc, _ => by rw [List.append_nil]; rfl
  | (k, v) :: ms, acc, nd => by
    have hk : putK acc k v = acc ++ [(k, v)] := by
      have nda : (acc.map Prod.fst).Nodup := by rw [List.map_append] at nd; exact (List.nodup_append.mp nd).1
      have hn : ∀ p ∈ acc, p.1 ≠ k := fun p hp e => by
        rw [List.map_append] at nd
        exact (List.nodup_append.mp nd).2.2 p.1 (List.mem_map_of_mem hp) k (by simp) e
      rw [putK_eq acc k v nda]
      clear nd nda
      induction acc with
      | nil => rfl
      | cons p r ih =>
        simp only [putA, List.cons_append]
        rw [if_neg (hn p List.mem_cons_self), ih fun q hq => hn q (List.mem_cons_of_mem _ hq)]
    show mergeK (putK acc k v) ms = _
    rw [hk, merge_self ms (acc ++ [(k, v)]) (by rw [List.append_assoc]; exact nd), List.append_assoc]
    rfl
theorem TI_dct (h : TI K CT Γ (.dct es) σ H Q) : tDisp (pairTI K CT Γ es) σ H Q := by
  obtain ⟨F, G, ρ, f, rv, ρ', hs, he, hq⟩ := h
  simp only [ev, Option.bind_eq_some_iff] at he
  obtain ⟨r, h1, ds, h2, ks, h3, h4⟩ := he
  split at h4
  case isFalse => cases h4
  rename_i hc
  cases h4
  intro p hp
  have al : Alo F H F (upd H p (.dK [])) := Alo.obj hp
  have off : ∀ i, p ∉ f i := fun i hi => by
    obtain ⟨⟨o, z⟩, _⟩ := hs.ow i p hi
    rw [hp] at z; cases z
  have hev : es.length % 2 = 0 := by
    have hl := evs_len es h1
    have hl2 : ds.length = r.1.length := by
      have : ∀ (rs : List Rv) {ds : List Pv.D}, takes r.2 rs = some ds → ds.length = rs.length := by
        intro rs
        induction rs with
        | nil => intro ds h; simp only [takes, Option.some.injEq] at h; subst h; rfl
        | cons a rs ih =>
          intro ds h
          simp only [takes, Option.bind_eq_some_iff, Option.some.injEq] at h
          obtain ⟨d, _, xs, h2, rfl⟩ := h
          rw [List.length_cons, List.length_cons, ih h2]
      exact this _ h2
    rw [← hl, ← hl2]
    exact pairUp_even h3
  refine tPairs_of es hev ⟨F, G, ρ, f, r.1, r.2, hs.alo al, h1, fun vs F2 H2 f2 fp pp => ?_⟩
  obtain ⟨z1, z2, z3⟩ := pp.sp.held (G := G) (fp := [p]) (fun x hx => by rw [List.mem_singleton.mp hx]; exact ⟨⟨_, upd_same⟩, hs.wf.none hp, hs.wg.none hp⟩) (fun x hx => by rw [List.mem_singleton.mp hx]; exact off) p (List.mem_singleton.mpr rfl)
  rw [upd_same] at z1
  have rs := takes_rs pp.st pp.vr h2
  obtain ⟨kvs, e1, rk⟩ := pairUp_rk rs h3
  have hlen := Rk.len ks rk
  have npf : p ∉ fp := fun hx => by
    rcases pp.fr p hx with ⟨j, hj⟩ | hj
    · exact off j hj
    · rw [upd_same] at hj; cases hj
  have off2 : ∀ i, p ∉ f2 i := fun i hi => by
    rcases pp.sp.own i p hi with ⟨j, hj⟩ | hj
    · exact off j hj
    · rw [upd_same] at hj; cases hj
  refine ⟨z1, kvs, e1, by rw [hlen]; exact hc.1, ?_⟩
  have hm : mergeK [] kvs = kvs := by
    have := merge_self kvs [] (by rw [List.nil_append, Rk.keys ks rk]; exact hc.2)
    rw [List.nil_append] at this; exact this
  rw [hm]
  refine hq _ F2 _ f2 (p :: fp) ⟨pp.st.updOff off2 z2 z3, Stp.updOff hs (((al.stp (T := (PX.dct es).tch) hs)).trans (pp.sp.mono fun i hi => hi)) hp, VR.one ?_, List.nodup_cons.mpr ⟨npf, pp.nd⟩, fun a ha i hi => ?_, fun a ha => ?_⟩
  · show R K CT F2 G (upd H2 p (.dK kvs)) (.dct .own ks) (.ref p) (p :: fp)
    simp only [R]
    exact ⟨hc.2, p, kvs, fp, rfl, upd_same, z2, z3, rk.up npf, rfl⟩
  · rcases List.mem_cons.mp ha with rfl | ha
    · exact off2 i hi
    · exact pp.ap a ha i hi
  · rcases List.mem_cons.mp ha with rfl | ha
    · exact .inr hp
    · rcases pp.fr a ha with z | z
      · exact .inl z
      · refine .inr ?_
        rw [upd_ne fun q => npf (by rw [← q]; exact ha)] at z
        exact z
theorem TI_dct0 (h : TI K CT Γ (.dct []) σ H Q) : tDNewK σ H Q := by
  intro p hp
  obtain ⟨z, kvs, e, _, q⟩ := TI_dct h p hp
  cases kvs with
  | cons a r => simp at e
  | nil =>
    have : upd (upd H p (.dK [])) p (.dK (mergeK [] [])) = upd H p (.dK []) := by
      funext a
      by_cases ha : a = p
      · rw [ha, upd_same, upd_same]; rfl
      · rw [upd_ne ha]
    rw [this] at q
    exact q
end

section
variable {X : Cx} {CT : Nat → Addr} {Γ : Fns} {N : Nat} {a b c o e : Expr} {es : List Expr} {p q r : PX} {ps : List PX} {pos pos2 pos3 pos4 : Pos} {x : Str} {st : Stmt} {rest : List Stmt} {s : PS} {ss : List PS}
theorem PE.or {t1 t2 : TE} (h1 : PE X e t1) (h2 : PE X e t2) : PE X e (fun σ H Q => t1 σ H Q ∨ t2 σ H Q) := ⟨fun pins s σ H Q I h => h.elim (h1.run pins s σ H Q I) (h2.run pins s σ H Q I)⟩
theorem PS.or {t1 t2 : TS} (h1 : L2.PS X st t1) (h2 : L2.PS X st t2) : L2.PS X st (fun D σ H => t1 D σ H ∨ t2 D σ H) := ⟨fun pins s σ H D I h => h.elim (h1.run pins s σ H D I) (h2.run pins s σ H D I)⟩
/-- the pairs of a display -/
theorem d_nil : PPs X pos [] [] (pairTI X.K CT Γ []) := pps_nil
theorem d_cons {ks : List (Option Expr)} {vs : List Expr} (hk : PE X a (TI X.K CT Γ p)) (hv : PE X b (TI X.K CT Γ q)) (hr : PPs X pos ks vs (pairTI X.K CT Γ ps)) : PPs X pos (some a :: ks) (b :: vs) (pairTI X.K CT Γ (p :: q :: ps)) := pps_cons hk hv hr
theorem g_dct {keys : List (Option Expr)} {values : List Expr} (h : PPs X pos keys values (pairTI X.K CT Γ ps)) (hall : keys.all (·.isSome) = true := by rfl) (hl : keys.length = values.length := by rfl) (h0 : keys ≠ [] := by exact fun h => nomatch h) (h15 : keys.length ≤ 15 := by decide) :
    PE X (.Dict keys values pos) (TI X.K CT Γ (.dct ps)) := PE.imp (pe_disp h hall hl h0 h15) fun _ _ _ h => TI_dct h
theorem g_dct0 : PE X (.Dict [] [] pos) (TI X.K CT Γ (.dct [])) := PE.imp pe_dnewK fun _ _ _ h => TI_dct0 h
theorem g_meth {m : Str} {k j g i : Nat} {n : Nat} {pl : Sem Bool} {apos : Pos} (cl : C8.Met X.prog X.w X.K X.mg X.base k (CT i) m (spV X.K CT (Γ g) n) []) (hr : Room j X.A) (ho : PE X o (TI X.K CT Γ p)) (ha : PA X (a :: es) (TIs X.K CT Γ (q :: ps))) (hn : (q :: ps).length + 1 = n := by rfl) (hk : k ≤ j := by decide)
    (hst : starEach (a :: es) X.env = (false, eval a X.env) :: starEach es X.env := by rfl) (hpl : (backTo pos (starEach es X.env)).any (·.1) = false := by rfl)
    (ht : eval (.Call (.Attribute o m apos) (a :: es) [] pos) X.env = (do
      let ov ← eval o X.env
      standAt apos.atName
      let (f, first) ← holding [ov] (getMethod ov m pl)
      callWith pos f first (backTo pos (starEach (a :: es) X.env)) (backToKw pos (keywordEach [] X.env))) := by rfl) :
    PE X (.Call (.Attribute o m apos) (a :: es) [] pos) (TI X.K CT Γ (.meth i m g p (q :: ps))) := by
  subst hn
  exact PE.imp (C8.pe_mt cl hr hk ho ha hst hpl ht) fun _ _ _ h => TI_meth h
theorem g_meth0 {m : Str} {k j g i : Nat} {n : Nat} {pl : Sem Bool} {apos : Pos} (cl : C8.Met X.prog X.w X.K X.mg X.base k (CT i) m (spV X.K CT (Γ g) n) []) (hr : Room j X.A) (ho : PE X o (TI X.K CT Γ p)) (hn : 1 = n := by rfl) (hk : k ≤ j := by decide)
    (ht : eval (.Call (.Attribute o m apos) [] [] pos) X.env = (do
      let ov ← eval o X.env
      standAt apos.atName
      let (f, first) ← holding [ov] (getMethod ov m pl)
      callWith pos f first (backTo pos (starEach [] X.env)) (backToKw pos (keywordEach [] X.env))) := by rfl) :
    PE X (.Call (.Attribute o m apos) [] [] pos) (TI X.K CT Γ (.meth i m g p [])) := by
  subst hn
  exact PE.imp (C8.pe_mt0 cl hr hk ho ht) fun _ _ _ h => (TI_meth (E := C8.E0) h).imp fun x H1 ⟨a, dx, fs, e1, e2, e3, z⟩ => ⟨a, dx, fs, e1, e2, e3, TIs_nil z⟩
theorem g_eqO {C f : Addr} {fd : FuncData} {qs : List Str} {k n g : Nat} (kq : KEq X.K (CT k)) (F : FnOk X.prog X.w X.K X.mg X.base CX0 n f fd qs (spV X.K CT (Γ g) 2)) (hs : PySem.W.findIn X.K (.ref (CT k)) "__eq__" = some (some (.ref f))) (hf : PySem.W.isFn X.K (.ref f) = true) (hb : Binds X.K fd qs []) (hr : Room n X.A)
    (ha : PE X a (TI X.K CT Γ p)) (hb' : PE X b (TI X.K CT Γ q)) (hm : behindInMarks .Eq b = false := by with_unfolding_all rfl) : PE X (.Compare a [.Eq] [b] pos) (TI X.K CT Γ (.eqO k g p q)) :=
  PE.imp (pe_cmpR (op_eqO F hr hs hf hb pass0) ha hb' hm) fun _ _ _ h => TI_eqO kq h
theorem t_eqO {C f : Addr} {fd : FuncData} {qs : List Str} {k n g : Nat} (kq : KEq X.K (CT k)) (F : FnOk X.prog X.w X.K X.mg X.base CX0 n f fd qs (spV X.K CT (Γ g) 2)) (hs : PySem.W.findIn X.K (.ref (CT k)) "__eq__" = some (some (.ref f))) (hf : PySem.W.isFn X.K (.ref f) = true) (hb : Binds X.K fd qs []) (hr : Room n X.A)
    (ha : PE X a (TI X.K CT Γ p)) (hb' : PE X b (TI X.K CT Γ q)) (hm : behindInMarks .Eq b = false := by with_unfolding_all rfl) : PT X (.Compare a [.Eq] [b] pos) (TB X.K CT Γ (.eqO k g p q)) :=
  PT.imp (pt_cmpR (op_eqO F hr hs hf hb pass0) ha hb' hm) fun _ _ _ h => TI_eqO kq h
theorem g_pop {j : Nat} {apos : Pos} (ho : PE X o (tVar j)) (hbase : attributeBase o "pop" X.env (eval o X.env) = eval o X.env := by rfl) (hline : (apos.endLine == pos.line) = true := by rfl) : PE X (.Call (.Attribute o "pop" apos) [] [] pos) (TI X.K CT Γ (.pop j)) :=
  PE.imp (pe_bm0 PySem.F.plainAttrs_list PySem.F.slot_list_pop PySem.F.type_list_pop mt_pop ho hbase hline) fun _ _ _ h => TI_pop h
theorem g_popK {j : Nat} {apos : Pos} (ho : PE X o (tVar j)) (he : PE X a (TI X.K CT Γ p)) (h1 : attributeBase o "pop" X.env (eval o X.env) = eval o X.env := by rfl) (h2 : ((backTo pos (starEach [a] X.env)).all (fun x => !x.1) && (backToKw pos (keywordEach [] X.env)).all (fun x => x.1.isSome)
    && decide (([a] : List Expr).length + ([] : List Keyword).length + (if ([] : List Keyword).isEmpty then 0 else 1) < 30)) = true := by rfl) (h3 : (apos.endLine == pos.line) = true := by rfl) (h4 : backTo pos (starEach [a] X.env) = [(false, eval a X.env)] := by rfl) : PE X (.Call (.Attribute o "pop" apos) [a] [] pos) (TI X.K CT Γ (.popK j p)) :=
  PE.imp (pe_dpop1 ho he ⟨h1, h2, h3, h4⟩) fun _ _ _ h => TI_popK h
theorem f_fld {j : Nat} {f : Str} (ho : PE X o (tVar j)) (hb : attributeBase o f X.env (eval o X.env) = eval o X.env := by rfl) : PE X (.Attribute o f pos) (tFld X.K (tVar j) f) := pe_fld ho hb
theorem g_ixKF {j : Nat} {n : Str} (hu : X.A.units + 1 < cLine) (hc : ∀ cl, Cls X.K (CT cl)) (hn : ∀ cl, NoAttr X.K (CT cl) n) (ha : PE X a (tFld X.K (tVar j) n)) (hb : PE X b (TI X.K CT Γ q)) (hp : NoSl b := by intro _ _; rfl) : PE X (.Subscript a b pos) (TI X.K CT Γ (.opF .ixK j n [q])) :=
  PE.imp (pe_dget hu ha hb hp) fun _ _ _ h => TI_opF2 hc hn OS_ixK h
theorem pt_none : PTs X [] (TBO X.K CT Γ none) := pts_nil
theorem pt_some (h : PT X c (TB X.K CT Γ p)) : PTs X [c] (TBO X.K CT Γ (some p)) := pts_one h
theorem g_comp {elt tg iter : Expr} {ifs : List Expr} {scope : Scope} {own : List (Str × Nat)} {js : List Nat} {ik : IK} {ies : List PX} {cc : Option PX} {wi : L2.TI} {g : TG} (hw : WI X.K CT Γ wi g js ik ies) (hN : X.N.Nodup) (hi : PI X tg iter wi) (ok : BlkOk X.N X.env.scope scope own)
    (hg : ∀ (s : Shared) (H : Hp) (C : Addr) (cl : List (Str × Addr)) (fp : List Addr), PG (X.blk s H scope (compEnvC scope cl C X.env) fp) tg g) (ht : ∀ (s : Shared) (H : Hp) (C : Addr) (cl : List (Str × Addr)) (fp : List Addr), PTs (X.blk s H scope (compEnvC scope cl C X.env) fp) ifs (TBO X.K CT Γ cc))
    (he : ∀ (s : Shared) (H : Hp) (C : Addr) (cl : List (Str × Addr)) (fp : List Addr), PE (X.blk s H scope (compEnvC scope cl C X.env) fp) elt (TI X.K CT Γ p)) (hc : X.calm = true := by rfl) (hj : own.map (·.2) = js := by rfl) (hs : ∀ x, foldedSetIterable iter X.env x = pure x := by intro _; rfl) :
    PE X (.ListComp elt [⟨tg, iter, ifs, 0⟩] scope pos) (TI X.K CT Γ (.comp js ik ies cc p)) := by
  subst hj
  exact PE.imp (pe_lc hc hN hi ok hg ht he hs) fun _ _ _ h => TI_comp hw h
theorem g_compK {elt tg iter : Expr} {ifs : List Expr} {scope : Scope} {own : List (Str × Nat)} {js : List Nat} {ik : IK} {ie : PX} {cc : Option PX} {te : TE} {wiK : TE → L2.TI} {g : TG} (kw : KW X.K CT ik wiK g js) (loc : Loc X.K CT Γ ie te) (hk : ik = .keys ∨ ik = .items ∨ ik = .values) (hN : X.N.Nodup) (hi : PI X tg iter (wiK te)) (ok : BlkOk X.N X.env.scope scope own)
    (hg : ∀ (s : Shared) (H : Hp) (C : Addr) (cl : List (Str × Addr)) (fp : List Addr), PG (X.blk s H scope (compEnvC scope cl C X.env) fp) tg g) (ht : ∀ (s : Shared) (H : Hp) (C : Addr) (cl : List (Str × Addr)) (fp : List Addr), PTs (X.blk s H scope (compEnvC scope cl C X.env) fp) ifs (TBO X.K CT Γ cc))
    (he : ∀ (s : Shared) (H : Hp) (C : Addr) (cl : List (Str × Addr)) (fp : List Addr), PE (X.blk s H scope (compEnvC scope cl C X.env) fp) elt (TI X.K CT Γ p)) (hc : X.calm = true := by rfl) (hj : own.map (·.2) = js := by rfl) (hs : ∀ x, foldedSetIterable iter X.env x = pure x := by intro _; rfl) :
    PE X (.ListComp elt [⟨tg, iter, ifs, 0⟩] scope pos) (TI X.K CT Γ (.comp js ik [ie] cc p)) := by
  subst hj
  exact PE.imp (PE.or (pe_lock (pe_lc hc hN hi ok hg ht he hs)) (pe_lc hc hN hi ok hg ht he hs)) fun _ _ _ h => TI_compK hk kw loc h
theorem g_dcomp {kx vx tg iter : Expr} {ifs : List Expr} {scope : Scope} {own : List (Str × Nat)} {js : List Nat} {ik : IK} {ies : List PX} {cc : Option PX} {wi : L2.TI} {g : TG} (hw : WI X.K CT Γ wi g js ik ies) (hN : X.N.Nodup) (hi : PI X tg iter wi) (ok : BlkOk X.N X.env.scope scope own)
    (hg : ∀ (s : Shared) (H : Hp) (C : Addr) (cl : List (Str × Addr)) (fp : List Addr), PG (X.blk s H scope (compEnvC scope cl C X.env) fp) tg g) (ht : ∀ (s : Shared) (H : Hp) (C : Addr) (cl : List (Str × Addr)) (fp : List Addr), PTs (X.blk s H scope (compEnvC scope cl C X.env) fp) ifs (TBO X.K CT Γ cc))
    (hk : ∀ (s : Shared) (H : Hp) (C : Addr) (cl : List (Str × Addr)) (fp : List Addr), PE (X.blk s H scope (compEnvC scope cl C X.env) fp) kx (TI X.K CT Γ q)) (he : ∀ (s : Shared) (H : Hp) (C : Addr) (cl : List (Str × Addr)) (fp : List Addr), PE (X.blk s H scope (compEnvC scope cl C X.env) fp) vx (TI X.K CT Γ p))
    (hc : X.calm = true := by rfl) (hj : own.map (·.2) = js := by rfl) (hs : ∀ x, foldedSetIterable iter X.env x = pure x := by intro _; rfl) : PE X (.DictComp kx vx [⟨tg, iter, ifs, 0⟩] scope pos) (TI X.K CT Γ (.dcomp js ik ies cc q p)) := by
  subst hj
  exact PE.imp (pe_dc hc hN hi ok hg ht hk he hs) fun _ _ _ h => TI_dcomp hw h
theorem s_set (j : Nat) (hN : X.N.Nodup) (he : PE X e (TI X.K CT Γ p)) (hi : X.N[j]? = some x := by rfl) (hx : L2.Loc X.env.scope x := by first | exact Or.inl rfl | exact Or.inr rfl) (hs : swapsWith e (some (.Name x pos2)) pos.line X.env = pure false := by rfl)
    (hf : X.fn x = true ∨ X.env.scope.names.lookup x = some .local := by first | exact .inl rfl | exact .inr rfl) : L2.PS X (.Assign [.Name x pos2] e pos) (T1 X.K CT N Γ (.asg j p)) := PS.imp (ps_set hN hi hx he hs hf) fun _ _ _ h => T1_asg h
theorem s_setLc (j : Nat) {elt tg iter : Expr} {ifs : List Expr} {scope : Scope} {own : List (Str × Nat)} {js : List Nat} {ik : IK} {ies : List PX} {cc : Option PX} {wi : L2.TI} {g : TG} (hw : WI X.K CT Γ wi g js ik ies) (hN : X.N.Nodup) (hi : PI X tg iter wi) (ok : BlkOk X.N X.env.scope scope own)
    (hg : ∀ (s : Shared) (H : Hp) (C : Addr) (cl : List (Str × Addr)) (fp : List Addr), PG (X.blk s H scope (compEnvC scope cl C X.env) fp) tg g) (ht : ∀ (s : Shared) (H : Hp) (C : Addr) (cl : List (Str × Addr)) (fp : List Addr), PTs (X.blk s H scope (compEnvC scope cl C X.env) fp) ifs (TBO X.K CT Γ cc))
    (he : ∀ (s : Shared) (H : Hp) (C : Addr) (cl : List (Str × Addr)) (fp : List Addr), PE (X.blk s H scope (compEnvC scope cl C X.env) fp) elt (TI X.K CT Γ p)) (hy : X.N[j]? = some x := by rfl) (hyl : X.env.scope.names.lookup x = some .local := by rfl) (hsw : swapsWith (.ListComp elt [⟨tg, iter, ifs, 0⟩] scope pos2) (some (.Name x pos3)) pos.line X.env = pure true := by rfl)
    (hc : X.calm = true := by rfl) (hj : own.map (·.2) = js := by rfl) (hs : ∀ x, foldedSetIterable iter X.env x = pure x := by intro _; rfl) :
    L2.PS X (.Assign [.Name x pos3] (.ListComp elt [⟨tg, iter, ifs, 0⟩] scope pos2) pos) (T1 X.K CT N Γ (.asg j (.comp js ik ies cc p))) := by
  subst hj
  exact PS.imp (ps_setLc hc hN hy hyl hsw hi ok hg ht he hs) fun _ _ _ h => TI_comp hw (T1_asg h)
theorem s_setLcK (j : Nat) {elt tg iter : Expr} {ifs : List Expr} {scope : Scope} {own : List (Str × Nat)} {js : List Nat} {ik : IK} {ie : PX} {cc : Option PX} {te : TE} {wiK : TE → L2.TI} {g : TG} (kw : KW X.K CT ik wiK g js) (loc : Loc X.K CT Γ ie te) (hk : ik = .keys ∨ ik = .items ∨ ik = .values) (hN : X.N.Nodup) (hi : PI X tg iter (wiK te)) (ok : BlkOk X.N X.env.scope scope own)
    (hg : ∀ (s : Shared) (H : Hp) (C : Addr) (cl : List (Str × Addr)) (fp : List Addr), PG (X.blk s H scope (compEnvC scope cl C X.env) fp) tg g) (ht : ∀ (s : Shared) (H : Hp) (C : Addr) (cl : List (Str × Addr)) (fp : List Addr), PTs (X.blk s H scope (compEnvC scope cl C X.env) fp) ifs (TBO X.K CT Γ cc))
    (he : ∀ (s : Shared) (H : Hp) (C : Addr) (cl : List (Str × Addr)) (fp : List Addr), PE (X.blk s H scope (compEnvC scope cl C X.env) fp) elt (TI X.K CT Γ p)) (hy : X.N[j]? = some x := by rfl) (hyl : X.env.scope.names.lookup x = some .local := by rfl) (hsw : swapsWith (.ListComp elt [⟨tg, iter, ifs, 0⟩] scope pos2) (some (.Name x pos3)) pos.line X.env = pure true := by rfl)
    (hc : X.calm = true := by rfl) (hj : own.map (·.2) = js := by rfl) (hs : ∀ x, foldedSetIterable iter X.env x = pure x := by intro _; rfl) :
    L2.PS X (.Assign [.Name x pos3] (.ListComp elt [⟨tg, iter, ifs, 0⟩] scope pos2) pos) (T1 X.K CT N Γ (.asg j (.comp js ik [ie] cc p))) := by
  subst hj
  exact PS.imp (PS.or (ps_lock (ps_setLc hc hN hy hyl hsw hi ok hg ht he hs)) (ps_setLc hc hN hy hyl hsw hi ok hg ht he hs)) fun _ _ _ h => TI_compK hk kw loc (T1_asg h)
theorem p_slot (j : Nat) (h : PE X a (tVar j)) : PE X a (TPl X.K CT Γ (.slot j)) := PE.imp h fun _ _ _ h => TPl_slot h
theorem p_fld {pl : Pl} {f : Str} (hc : ∀ cl, Cls X.K (CT cl)) (hn : ∀ cl, NoAttr X.K (CT cl) f) (h : PE X a (TPl X.K CT Γ pl)) (hb : attributeBase a f X.env (eval a X.env) = eval a X.env := by rfl) : PE X (.Attribute a f pos) (TPl X.K CT Γ (.fld pl f)) := PE.imp (pe_fld h hb) fun _ _ _ h => TPl_fld hc hn h
theorem p_key {pl : Pl} (hu : X.A.units + 1 < cLine) (h : PE X a (TPl X.K CT Γ pl)) (hb : PE X b (TI X.K CT Γ q)) (hp : NoSl b := by intro _ _; rfl) : PE X (.Subscript a b pos) (TPl X.K CT Γ (.key pl q)) := PE.imp (pe_dget hu h hb hp) fun _ _ _ h => TPl_key h
theorem s_app {pl : Pl} {apos : Pos} (ho : PE X o (TPl X.K CT Γ pl)) (he : PE X a (TI X.K CT Γ p)) (hbase : attributeBase o "append" X.env (eval o X.env) = eval o X.env := by rfl)
    (hfew : ((backTo pos2 (starEach [a] X.env)).all (fun x => !x.1) && (backToKw pos2 (keywordEach [] X.env)).all (fun x => x.1.isSome) && decide ([a].length + ([] : List Keyword).length + (if ([] : List Keyword).isEmpty then 0 else 1) < 30)) = true := by rfl)
    (hline : (apos.endLine == pos2.line) = true := by rfl) (hs1 : starEach [a] X.env = (false, eval a X.env) :: starEach [] X.env := by rfl) (hplain : (backTo pos2 (starEach [] X.env)).any (·.1) = false := by rfl) (hs : swapsWith (.Call (.Attribute o "append" apos) [a] [] pos2) none pos.line X.env = pure false := by rfl) :
    L2.PS X (.Expr (.Call (.Attribute o "append" apos) [a] [] pos2) pos) (T1 X.K CT N Γ (.app pl p)) :=
  PS.imp (ps_expr (pe_bm PySem.F.plainAttrs_list PySem.F.slot_list_append PySem.F.type_list_append mt_append ho (a_cons he a_nil hs1) hbase hfew hline hs1 hplain) hs) fun _ _ _ h => T1_app h
theorem s_ext {pl : Pl} {apos : Pos} (ho : PE X o (TPl X.K CT Γ pl)) (he : PE X a (TI X.K CT Γ p)) (hbase : attributeBase o "extend" X.env (eval o X.env) = eval o X.env := by rfl)
    (hfew : ((backTo pos2 (starEach [a] X.env)).all (fun x => !x.1) && (backToKw pos2 (keywordEach [] X.env)).all (fun x => x.1.isSome) && decide ([a].length + ([] : List Keyword).length + (if ([] : List Keyword).isEmpty then 0 else 1) < 30)) = true := by rfl)
    (hline : (apos.endLine == pos2.line) = true := by rfl) (hs1 : starEach [a] X.env = (false, eval a X.env) :: starEach [] X.env := by rfl) (hplain : (backTo pos2 (starEach [] X.env)).any (·.1) = false := by rfl) (hs : swapsWith (.Call (.Attribute o "extend" apos) [a] [] pos2) none pos.line X.env = pure false := by rfl) :
    L2.PS X (.Expr (.Call (.Attribute o "extend" apos) [a] [] pos2) pos) (T1 X.K CT N Γ (.ext pl p)) :=
  PS.imp (ps_expr (pe_bm PySem.F.plainAttrs_list PySem.F.slot_list_extend PySem.F.type_list_extend mt_extend ho (a_cons he a_nil hs1) hbase hfew hline hs1 hplain) hs) fun _ _ _ h => T1_ext h
theorem s_revL {pl : Pl} {apos : Pos} (ho : PE X o (TPl X.K CT Γ pl)) (hbase : attributeBase o "reverse" X.env (eval o X.env) = eval o X.env := by rfl) (hline : (apos.endLine == pos2.line) = true := by rfl) (hs : swapsWith (.Call (.Attribute o "reverse" apos) [] [] pos2) none pos.line X.env = pure false := by rfl) :
    L2.PS X (.Expr (.Call (.Attribute o "reverse" apos) [] [] pos2) pos) (T1 X.K CT N Γ (.revL pl)) :=
  PS.imp (ps_expr (pe_bm0 PySem.F.plainAttrs_list PySem.F.slot_list_reverse PySem.F.type_list_reverse mt_reverse ho hbase hline) hs) fun _ _ _ h => T1_revL h
theorem s_clrL {pl : Pl} {apos : Pos} (ho : PE X o (TPl X.K CT Γ pl)) (hbase : attributeBase o "clear" X.env (eval o X.env) = eval o X.env := by rfl) (hline : (apos.endLine == pos2.line) = true := by rfl) (hs : swapsWith (.Call (.Attribute o "clear" apos) [] [] pos2) none pos.line X.env = pure false := by rfl) :
    L2.PS X (.Expr (.Call (.Attribute o "clear" apos) [] [] pos2) pos) (T1 X.K CT N Γ (.clrL pl)) :=
  PS.imp (ps_expr (pe_bm0 PySem.F.plainAttrs_list PySem.F.slot_list_clear PySem.F.type_list_clear mt_clear ho hbase hline) hs) fun _ _ _ h => T1_clrL h
theorem s_clrK {pl : Pl} {apos : Pos} (ho : PE X o (TPl X.K CT Γ pl)) (hbase : attributeBase o "clear" X.env (eval o X.env) = eval o X.env := by rfl) (hline : (apos.endLine == pos2.line) = true := by rfl) (hs : swapsWith (.Call (.Attribute o "clear" apos) [] [] pos2) none pos.line X.env = pure false := by rfl) :
    L2.PS X (.Expr (.Call (.Attribute o "clear" apos) [] [] pos2) pos) (T1 X.K CT N Γ (.clrK pl)) :=
  PS.imp (ps_expr (pe_dclear ho hbase hline) hs) fun _ _ _ h => T1_clrK h
theorem s_setK {pl : Pl} (hu : X.A.units + 1 < cLine) (ho : PE X o (TPl X.K CT Γ pl)) (hk : PE X b (TI X.K CT Γ q)) (he : PE X e (TI X.K CT Γ p)) (hs : swapsWith e (some (.Subscript o b pos2)) pos.line X.env = pure false := by rfl) : L2.PS X (.Assign [.Subscript o b pos2] e pos) (T1 X.K CT N Γ (.setK pl q p)) :=
  PS.imp (ps_dput hu ho hk he hs) fun _ _ _ h => T1_setK h
theorem s_setL {pl : Pl} (ho : PE X o (TPl X.K CT Γ pl)) (hk : PE X b (TI X.K CT Γ q)) (he : PE X e (TI X.K CT Γ p)) (hs : swapsWithSole [.Subscript o b pos2] e pos.line X.env = pure false := by rfl) (hw : swappedStores [.Subscript o b pos2] e X.env = pure none := by rfl)
    (h1 : (assignEach [.Subscript o b pos2] X.env).map (·.2) = [assign (.Subscript o b pos2) X.env] := by rfl)
    (ha : ∀ v, assign (.Subscript o b pos2) X.env v = (do
      let ov ← holding [v] (eval o X.env)
      let iv ← holding [v, ov] (eval b X.env)
      standAt pos2
      holding [v, ov, iv] (setItem ov iv v)
      release [v, ov, iv] []) := by intro _; rfl) : L2.PS X (.Assign [.Subscript o b pos2] e pos) (T1 X.K CT N Γ (.setL pl q p)) :=
  PS.imp (ps_asg he (pg_sub ho hk set_list ha) hs hw h1) fun _ _ _ h => T1_setL h
theorem s_setF {pl : Pl} {f : Str} (hc : ∀ cl, Cls X.K (CT cl)) (hn : ∀ cl, NoAttr X.K (CT cl) f) (ho : PE X o (TPl X.K CT Γ pl)) (he : PE X e (TI X.K CT Γ p)) (hs : swapsWith e (some (.Attribute o f pos2)) pos.line X.env = pure false := by rfl) :
    L2.PS X (.Assign [.Attribute o f pos2] e pos) (T1 X.K CT N Γ (.setF pl f p)) := PS.imp (ps_fld ho he hs) fun _ _ _ h => T1_setF hc hn h
theorem s_asgt {tes : List Expr} {js : List Nat} {k n : Nat} {tpos : Pos} (hn : js.length = n) (hg : PG X (.Tuple tes k tpos) (gTup X.K n (js.foldr (fun j t => gCons (gName j) t) gNil))) (he : PE X e (TI X.K CT Γ p)) (hs : swapsWithSole [.Tuple tes k tpos] e pos.line X.env = pure false := by rfl)
    (hw : swappedStores [.Tuple tes k tpos] e X.env = pure none := by rfl) (h1 : (assignEach [.Tuple tes k tpos] X.env).map (·.2) = [assign (.Tuple tes k tpos) X.env] := by rfl) : L2.PS X (.Assign [.Tuple tes k tpos] e pos) (T1 X.K CT N Γ (.asgt js p)) :=
  PS.imp (ps_asg he hg hs hw h1) fun _ _ _ h => T1_asgt hn h
theorem s_expr (he : PE X e (TI X.K CT Γ p)) (hs : swapsWith e none pos.line X.env = pure false := by rfl) : L2.PS X (.Expr e pos) (T1 X.K CT N Γ (.expr p)) := PS.imp (ps_expr he hs) fun _ _ _ h => T1_expr h
theorem s_ret (he : PE X e (TI X.K CT Γ p)) : L2.PS X (.Return (some e) pos) (T1 X.K CT N Γ (.ret p)) := PS.imp (ps_ret he) fun _ _ _ h => T1_ret h
theorem s_retN : L2.PS X (.Return none pos) (T1 X.K CT N Γ .retN) := PS.imp ps_retN fun _ _ _ h => T1_retN h
theorem s_pass : L2.PS X (.Pass pos) (T1 X.K CT N Γ .pass) := PS.imp ps_pass fun _ _ _ h => T1_pass h
theorem s_brk : L2.PS X (.Break pos) (T1 X.K CT N Γ .brk) := PS.imp ps_break fun _ _ _ h => T1_brk h
theorem s_cnt : L2.PS X (.Continue pos) (T1 X.K CT N Γ .cnt) := PS.imp ps_continue fun _ _ _ h => T1_cnt h
theorem s_never : L2.PS X st (T1 X.K CT N Γ .never) := PS.imp ps_never fun _ _ _ h => T1_never (t := tNever) h
theorem s_pre {j : Nat} {ns : List Str} (h : L2.PS X st (T1 X.K CT N Γ s)) : L2.PS X st (T1 X.K CT N Γ (.pre j ns s)) := PS.imp h fun _ _ _ h => T1_pre h
theorem ss_nil : PSs X [] (TS_ X.K CT N Γ []) := PSs.imp pss_nil fun _ _ _ h => TS_nil h
theorem ss_cons (h1 : L2.PS X st (T1 X.K CT N Γ s)) (h2 : PSs X rest (TS_ X.K CT N Γ ss)) : PSs X (st :: rest) (TS_ X.K CT N Γ (s :: ss)) := PSs.imp (pss_cons h1 h2) fun _ _ _ h => TS_seq h
theorem ss_one (h1 : L2.PS X st (T1 X.K CT N Γ s)) : PSs X [st] (TS_ X.K CT N Γ [s]) := PSs.imp (pss_one h1) fun _ _ _ h => TS_one h
/-- text in front that says nothing -/
theorem ss_doc {y : Str} {k pos2 pos3} (h : PSs X rest (TS_ X.K CT N Γ ss)) : PSs X (.Expr (.Constant (.str y) k pos2) pos3 :: rest) (TS_ X.K CT N Γ ss) := PSs.imp (pss_cons ps_doc h) fun _ _ _ h => h
theorem s_ife {x1 x2 : List Stmt} {s1 s2 : List PS} (hc : PT X c (TB X.K CT Γ r)) (ha : PSs X x1 (TS_ X.K CT N Γ s1)) (hb : PSs X x2 (TS_ X.K CT N Γ s2)) : L2.PS X (.If c x1 x2 pos) (T1 X.K CT N Γ (.ife r s1 s2)) := PS.imp (ps_if hc ha hb) fun _ _ _ h => T1_ife h
theorem s_while {x1 : List Stmt} {s1 : List PS} (hc : PT X c (TB X.K CT Γ r)) (ha : PSs X x1 (TS_ X.K CT N Γ s1)) (hp : PassesOwn (model X.prog X.w) X.A X.env X.xe := by exact PassesOwn.never) : L2.PS X (.While c x1 [] pos) (T1 X.K CT N Γ (.whl r s1)) := PS.imp (ps_while hp hc ha) fun _ _ _ h => T1_whl h
theorem s_for {tg iter : Expr} {x1 : List Stmt} {s1 : List PS} {js : List Nat} {ik : IK} {ies : List PX} {wi : L2.TI} {g : TG} (hw : WI X.K CT Γ wi g js ik ies) (hi : PI X tg iter wi) (hg : PG X tg g) (ha : PSs X x1 (TS_ X.K CT N Γ s1)) (hc : X.calm = true := by rfl) (hp : PassesOwn (model X.prog X.w) X.A X.env X.xe := by exact PassesOwn.never)
    (hs : ∀ x, foldedSetIterable iter X.env x = pure x := by intro _; rfl) : L2.PS X (.For tg iter x1 [] pos) (T1 X.K CT N Γ (.for_ js ik ies s1)) := PS.imp (ps_for hp hc hi hg ha hs) fun _ _ _ h => T1_for hw h
theorem s_forK {tg iter : Expr} {x1 : List Stmt} {s1 : List PS} {js : List Nat} {ik : IK} {ie : PX} {te : TE} {wiK : TE → L2.TI} {g : TG} (kw : KW X.K CT ik wiK g js) (loc : Loc X.K CT Γ ie te) (hk : ik = .keys ∨ ik = .items ∨ ik = .values) (hi : PI X tg iter (wiK te)) (hg : PG X tg g) (ha : PSs X x1 (TS_ X.K CT N Γ s1)) (hc : X.calm = true := by rfl)
    (hp : PassesOwn (model X.prog X.w) X.A X.env X.xe := by exact PassesOwn.never) (hs : ∀ x, foldedSetIterable iter X.env x = pure x := by intro _; rfl) : L2.PS X (.For tg iter x1 [] pos) (T1 X.K CT N Γ (.for_ js ik [ie] s1)) :=
  PS.imp (PS.or (ps_lock (ps_for hp hc hi hg ha hs)) (ps_for hp hc hi hg ha hs)) fun _ _ _ h => T1_forK hk kw loc h
end
end Pv

set_option Elab.async false
set_option linter.all false
set_option maxRecDepth 100000
set_option maxHeartbeats 1000000
namespace Pv
open PySem L2 PyProof.Rows
theorem Room.hu {k : Nat} {A : Around} (r : Room k A) : A.units + 1 < cLine := hu_of r
theorem Room.u0 {k : Nat} {A : Around} (r : Room k A) : A.units < cLine := r.units0
theorem Room.u64 {k : Nat} {A : Around} (r : Room k A) : A.units + 64 < cLine := r.units
theorem Room.i64 {k : Nat} {A : Around} (r : Room k A) : A.in1.units + 64 < cLine := by
  have := r.un
  show A.units + 1 + 64 < cLine
  omega
section
variable {K : PySem.W.Frag} {CT : Nat → Addr} {N : Nat} {Γ : Fns} {σ : L2.St} {H : Hp} {D : Ends}
/-- a, b = x, y -/
theorem T1_par {j k : Nat} {a b : PX} (h : T1 K CT N Γ (.par j k a b) D σ H) : tPar j k (TIs K CT Γ [a, b]) D σ H := by
  obtain ⟨F, G, ρ, f, ρ', fl, hs, he, hq⟩ := h
  simp only [exec, Option.bind_eq_some_iff] at he
  obtain ⟨r, h1, ds, h2, h3⟩ := he
  split at h3
  case h_2 => cases h3
  rename_i x y
  split at h3
  case isFalse => cases h3
  rename_i hc
  obtain ⟨c1, c2, c3⟩ := hc
  cases h3
  refine ⟨F, G, ρ, f, r.1, r.2, hs, h1, fun vs F1 H1 f1 fp p => ?_⟩
  have rs := takes_rs p.st p.vr h2
  simp only [Rs] at rs
  obtain ⟨v, _, g1, _, rfl, r1, ⟨w, _, g2, _, rfl, r2, ⟨rfl, rfl⟩, rfl⟩, rfl⟩ := rs
  rw [List.append_nil] at p
  obtain ⟨n1, n2, n3⟩ := List.nodup_append.mp p.nd
  refine ⟨v, w, rfl, ?_⟩
  have tp : Stp (PS.par j k a b).tch F H ρ f F1 H1 r.2 f1 := p.sp.mono fun i hi => by simp only [PS.tch, Bool.or_eq_false_iff] at hi; exact hi.2
  have s1 := p.st.bind c1 r1 n1 fun a ha => p.ap a (List.mem_append_left _ ha)
  have t1 := Stp.bind (o := some x) tp (j := j) (by simp [PS.tch]) fun a ha => p.fr a (List.mem_append_left _ ha)
  have s2 := s1.bind (j := k) (by rw [List.length_set]; exact c2) r2 n2 fun a ha i hi => by
    split at hi
    · exact n3 a hi a ha rfl
    · exact p.ap a (List.mem_append_right _ ha) i hi
  have t2 := Stp.bind (o := some y) t1 (j := k) (by simp [PS.tch]) fun a ha => p.fr a (List.mem_append_right _ ha)
  refine hq _ F1 H1 _ ⟨s2, t2, fun i hi => ?_⟩
  simp only [PS.asd, Bool.or_eq_false_iff, beq_eq_false_iff_ne] at hi
  rw [List.getElem?_set_ne (Ne.symm hi.2), List.getElem?_set_ne (Ne.symm hi.1)]
end
def rItm : V → Hp → VK → Prop := fun x H Q => ∃ (a : Addr) (ps : List (Key × V)), x = .ref a ∧ Rd H a (.dK ps) ∧
  ∀ (H2 : Hp) (l : Addr) (us : List Addr), (∀ z o, H z = some o → H2 z = some o) → H l = none → (∀ z ∈ us, H z = none) → l ∉ us → H2 l = some (.lst (us.map V.ref)) → Paired (fun (z : Addr) (q : Key × V) => H2 z = some (.tup [kV q.1, q.2])) us ps → Q (.ref l) H2
theorem pe_itm {X : Cx} {e : Expr} {te : TE} {p ap cp po : Pos} (hc : X.calm = true) (he : PE X e te) (hg : Gl X "list") (hm : X.mg "list" = none) (hv : bootBuiltins "list" = some (.type "list"))
    (hb : attributeBase e "items" X.env (eval e X.env) = eval e X.env := by rfl) (hl : (ap.endLine == cp.line) = true := by rfl)
    (hs : starEach [.Call (.Attribute e "items" ap) [] [] cp] X.env = (false, eval (.Call (.Attribute e "items" ap) [] [] cp) X.env) :: starEach [] X.env := by rfl) :
    PE X (.Call (.Name "list" p) [.Call (.Attribute e "items" ap) [] [] cp] [] po) (fun σ H Q => te σ H fun x H1 => rItm x H1 Q) := ⟨fun pins s σ H Q I hq => by
  refine wpAny_Call_Name_kw (ld_blt I hg hm hv (PyProof.Rows.callWith_type1 ?_ hs rfl)); rw [hs]
  refine (show wpAny _ _ (spliced ((false, eval (.Call (.Attribute e "items" ap) [] [] cp) X.env) :: backTo po (starEach [] X.env))) _ _ s from Calls.spliced_cons ?_)
  refine wpAny_Call_method (T := "dict") (id := "dict.items") hb rfl hl PySem.F.plainAttrs_dict PySem.F.slot_dict_items PySem.F.type_dict_items (thn (he.run pins s σ H _ I hq) ?_)
  rintro u t1 ⟨x, G1, J1, rx, a, ps, ex, hd, q⟩
  cases ex; cases (show u = Value.ref a from rx)
  obtain ⟨z, lo, ws, rel, dd⟩ := dk_rd J1.hok hd
  obtain ⟨ep, hat⟩ := dd.dictAt
  have len := Paired.length rel
  have J2 : Inv X pins σ G1 { t1 with heap := t1.heap.push { cls := .type "dict_items", data := .fields #[.ref a] } } := J1.kept (t' := t1.toks) fun y oy q => Heap.get?_push_of_some _ q
  refine ⟨dd.typeIs, dd.mapOf.noDict, (show wpAny _ _ (callWith cp (.builtin "dict.items") [.ref a] [] []) _ X.xe t1 from ?_)⟩
  refine PySem.method_meetsIn PySem.F.slot_dict_items PySem.F.entry_dict_items rfl (PySem.evalArgs_none ⟨rfl, dd.typeIs, PySem.F.args_dict_items_1 _, _, PySem.meets_dict_items (mixKind X.prog X.w) a lo, ⟨ws, dd⟩, Calls.spliced_nil ?_⟩)
  refine PySem.W.kdx_call (knd := mixKind X.prog X.w) (kvs := ws) (ep := ep) (J1.ok.hd hc) ⟨_, Heap.get?_push_size _ rfl, rfl, rfl⟩ (hat.push _) (by omega) ?_
  intro h2 tk acc c us g1 g2 g3 g4 g5
  obtain ⟨H2, k1, k2, k3, k4, k5, k6, J⟩ := LiI.items_laid (tk := tk) J2 z rel g1 g2 g3 g4 g5
  exact ⟨.ref _, H2, J, rfl, q H2 _ us k1 k2 k3 k4 k5 k6⟩⟩
section
variable {K : PySem.W.Frag} {CT : Nat → Addr}
theorem itm_rs {F0 F G' H H2 : Hp} (hF0 : HLe F F0) : ∀ (ks : List (Key × Pv.D)) {vs : List (Key × V)} {us : List Addr}, Rk K CT F G' H ks vs [] → (ks.all fun p => p.2.noOwn && p.2.noBor) = true → Paired (fun (z : Addr) (q : Key × V) => F0 z = some (.tup [kV q.1, q.2])) us vs →
    Rs K CT F0 e0 H2 (ks.map fun p => .tup [keyD p.1, p.2]) (us.map V.ref) []
  | [], _, _, h, _, hp => by
    simp only [Rk] at h
    obtain ⟨rfl, _⟩ := h
    cases hp
    simp only [List.map_nil, Rs, and_self]
  | (k, d) :: ks, _, _, h, n, hp => by
    simp only [Rk] at h
    obtain ⟨v, vr, f1, f2, rfl, h1, h2, z⟩ := h
    obtain ⟨rfl, rfl⟩ := List.append_eq_nil_iff.mp z.symm
    rw [List.all_cons, Bool.and_eq_true, Bool.and_eq_true] at n
    cases hp with
    | @cons a b as bs q t =>
      simp only [List.map_cons, Rs]
      refine ⟨.ref a, _, [], [], rfl, ?_, itm_rs hF0 ks h2 n.2 t, rfl⟩
      simp only [R]
      refine ⟨⟨a, _, rfl, q, ?_⟩, trivial⟩
      simp only [Rs]
      refine ⟨kV k, _, [], [], rfl, ?_, ⟨v, [], [], [], rfl, R.noG d n.1.2 (fun _ h => (nomatch h)) (R.mono hF0 d (WLe.refl _) (fun _ h => (nomatch h)) h1), ⟨rfl, rfl⟩, rfl⟩, rfl⟩
      cases k with
      | inl i => exact R.atom (d := .int i) rfl
      | inr i => exact R.atom (d := .str i) rfl
theorem OS_itm : OS K CT (One rItm) .itm := by
  intro F G H ds vs d rd wf wg he Q hq
  simp only [opS] at he
  obtain ⟨m, xs, hds, he2⟩ := k1_some he
  clear he
  subst hds
  obtain ⟨h1, rfl⟩ := okN_some he2
  obtain ⟨v, _, rfl, r1⟩ := rd1 rd
  obtain ⟨a, va, G', fp', rfl, hA, ra, wl, _, _⟩ := dct_r wf wg r1
  have hno : (xs.all fun p => p.2.noOwn) = true := by
    rw [List.all_eq_true] at h1 ⊢
    intro p hp
    have := h1 p hp
    rw [Bool.and_eq_true] at this
    exact this.1
  have hz := Rk.noOwn xs ra hno
  subst hz
  refine ⟨_, rfl, a, va, rfl, hA, fun H2 l us k1 k2 k3 k4 k5 k6 => ?_⟩
  have hF : HLe F (fun z => if z ∈ us then H2 z else F z) := fun z o e => by
    show (if z ∈ us then H2 z else F z) = some o
    have : z ∉ us := fun hz => by
      have := wf.none (k3 z hz)
      rw [this] at e; cases e
    rw [if_neg this]; exact e
  have hk6 : Paired (fun (z : Addr) (q : Key × V) => (if z ∈ us then H2 z else F z) = some (.tup [kV q.1, q.2])) us va := by
    have aux : ∀ (ws : List Addr) (qs : List (Key × V)), (∀ z ∈ ws, z ∈ us) → Paired (fun (z : Addr) (q : Key × V) => H2 z = some (.tup [kV q.1, q.2])) ws qs → Paired (fun (z : Addr) (q : Key × V) => (if z ∈ us then H2 z else F z) = some (.tup [kV q.1, q.2])) ws qs := by
      intro ws qs hsub h
      induction h with
      | nil => exact .nil
      | @cons z q zs qs h t ih => exact .cons (by rw [if_pos (hsub z List.mem_cons_self)]; exact h) (ih fun z hz => hsub z (List.mem_cons_of_mem _ hz))
    exact aux us va (fun _ h => h) k6
  have rs := itm_rs (H2 := H2) hF xs ra h1 hk6
  have hl : (if l ∈ us then H2 l else F l) = none := by rw [if_neg k4]; exact wf.none k2
  have al : Alo F H (fun z => if z ∈ us then H2 z else F z) H2 := by
    refine ⟨hF, k1, fun z h => ?_, fun w z o e => ?_⟩
    · by_cases hz : z ∈ us
      · exact .inr (k3 z hz)
      · refine .inl fun q => h ?_
        show (if z ∈ us then H2 z else F z) = none
        rw [if_neg hz]; exact q
    · have e : (if z ∈ us then H2 z else F z) = some o := e
      by_cases hz : z ∈ us
      · rw [if_pos hz] at e; exact .inl e
      · rw [if_neg hz] at e
        rcases w z o e with q | ⟨o', ks, q1, q2⟩
        · exact .inl (k1 z _ q)
        · exact .inr ⟨o', ks, q1, k1 z _ q2⟩
  refine hq (.ref l) _ H2 [l] al ?_ (by simp) fun x hx => by rw [List.mem_singleton.mp hx]; exact k2
  simp only [R]
  exact ⟨l, us.map V.ref, [], rfl, k5, hl, wg.none k2, Rs.mono (HLe.refl _) _ (HLe.e0 _).w (fun _ h => (nomatch h)) rs, rfl⟩
end
section
variable {X : Cx} {CT : Nat → Addr} {Γ : Fns} {a b : Expr} {p q : PX} {pos pos2 pos3 pos4 : Pos} {N : Nat}
theorem g_itm {cp ap : Pos} (hm : X.mg "list" = none) (ha : PE X a (TI X.K CT Γ p)) (hc : X.calm = true := by rfl) (hg : Gl X "list" := by rfl) (hb : attributeBase a "items" X.env (eval a X.env) = eval a X.env := by rfl) (hl : (ap.endLine == cp.line) = true := by rfl)
    (hs : starEach [.Call (.Attribute a "items" ap) [] [] cp] X.env = (false, eval (.Call (.Attribute a "items" ap) [] [] cp) X.env) :: starEach [] X.env := by rfl) :
    PE X (.Call (.Name "list" pos2) [.Call (.Attribute a "items" ap) [] [] cp] [] pos) (TI X.K CT Γ (.op .itm [p])) := PE.imp (pe_itm hc ha hg hm (by rfl) hb hl hs) fun _ _ _ h => TI_op1 OS_itm h
theorem s_par (j k : Nat) {x y : Str} {kt k2 : Nat} {pt pt2 : Pos} (hN : X.N.Nodup) (ha : PE X a (TI X.K CT Γ p)) (hb : PE X b (TI X.K CT Γ q)) (hi : X.N[j]? = some x := by rfl) (hj : X.N[k]? = some y := by rfl) (hij : j ≠ k := by decide) (hx : X.env.scope.names.lookup x = some .local := by rfl) (hy : X.env.scope.names.lookup y = some .local := by rfl)
    (hc : X.calm = true := by rfl) (hw : swappedStores [.Tuple [.Name x pos2, .Name y pos3] kt pt] (.Tuple [a, b] k2 pt2) X.env = pure (some [x, y]) := by rfl) (hs : swapsWithSole [.Tuple [.Name x pos2, .Name y pos3] kt pt] (.Tuple [a, b] k2 pt2) pos.line X.env = pure false := by rfl)
    (h1 : starEach [a, b] X.env = (false, eval a X.env) :: starEach [b] X.env := by rfl) (h2 : starEach [b] X.env = (false, eval b X.env) :: starEach [] X.env := by rfl) :
    L2.PS X (.Assign [.Tuple [.Name x pos2, .Name y pos3] kt pt] (.Tuple [a, b] k2 pt2) pos) (T1 X.K CT N Γ (.par j k p q)) := PS.imp (ps_par hc hN hi hj hij hx hy (a_cons ha (a_cons hb a_nil h2) h1) hw hs) fun _ _ _ h => T1_par h
end
section
variable {X : Cx} {CT : Nat → Addr} {Γ : Fns} {a b c o e : Expr} {es : List Expr} {p q r : PX} {ps : List PX} {pos pos2 pos3 pos4 : Pos} {x : Str} {k : Nat}
theorem g_glob {d : Pv.D} (h : ∃ u, X.mg x = some u ∧ RelV d.toV u) (hg : Gl X x := by rfl) (hd : (x == ("__debug__" : Str)) = false := by decide) : PE X (.Name x pos) (TI X.K CT Γ (.cst d)) := by
  obtain ⟨u, h1, h2⟩ := h
  exact g_gc h1 h2 hg hd
theorem b_add (ha : PE X a (TI X.K CT Γ p)) (hb : PE X b (TI X.K CT Γ q)) : PE X (.BinOp a .Add b pos) (TI X.K CT Γ (.op .add [p, q])) := g_bin op_add OS_add ha hb
theorem b_addS (ha : PE X a (TI X.K CT Γ p)) (hb : PE X b (TI X.K CT Γ q)) : PE X (.BinOp a .Add b pos) (TI X.K CT Γ (.op .addS [p, q])) := g_bin op_add_str OS_addS ha hb
theorem b_cat (ha : PE X a (TI X.K CT Γ p)) (hb : PE X b (TI X.K CT Γ q)) : PE X (.BinOp a .Add b pos) (TI X.K CT Γ (.op .cat [p, q])) := g_bin op_cat OS_cat ha hb
theorem b_sub (ha : PE X a (TI X.K CT Γ p)) (hb : PE X b (TI X.K CT Γ q)) : PE X (.BinOp a .Sub b pos) (TI X.K CT Γ (.op .sub [p, q])) := g_bin op_sub OS_sub ha hb
theorem b_mul (ha : PE X a (TI X.K CT Γ p)) (hb : PE X b (TI X.K CT Γ q)) : PE X (.BinOp a .Mult b pos) (TI X.K CT Γ (.op .mul [p, q])) := g_bin op_mul OS_mul ha hb
theorem b_fdiv (ha : PE X a (TI X.K CT Γ p)) (hb : PE X b (TI X.K CT Γ q)) : PE X (.BinOp a .FloorDiv b pos) (TI X.K CT Γ (.op .fdiv [p, q])) := g_bin op_fdivW OS_fdiv ha hb
theorem b_mod (ha : PE X a (TI X.K CT Γ p)) (hb : PE X b (TI X.K CT Γ q)) : PE X (.BinOp a .Mod b pos) (TI X.K CT Γ (.op .mod [p, q])) := g_bin op_mod OS_mod ha hb
theorem b_pow (ha : PE X a (TI X.K CT Γ p)) (hb : PE X b (TI X.K CT Γ q)) : PE X (.BinOp a .Pow b pos) (TI X.K CT Γ (.op .pow [p, q])) := g_bin op_pow OS_pow ha hb
theorem u_neg (ha : PE X a (TI X.K CT Γ p)) : PE X (.UnaryOp .USub a pos) (TI X.K CT Γ (.op .neg [p])) := g_un un_neg OS_neg ha
theorem x_L (ha : PE X a (TI X.K CT Γ p)) (hb : PE X b (TI X.K CT Γ q)) (hp : PlainIx b := by intro _ _; rfl) : PE X (.Subscript a b pos) (TI X.K CT Γ (.op .ixL [p, q])) := g_ix ix_list OS_ixL ha hb hp
theorem x_T (ha : PE X a (TI X.K CT Γ p)) (hb : PE X b (TI X.K CT Γ q)) (hp : PlainIx b := by intro _ _; rfl) : PE X (.Subscript a b pos) (TI X.K CT Γ (.op .ixT [p, q])) := g_ix ix_tup OS_ixT ha hb hp
theorem x_S (ha : PE X a (TI X.K CT Γ p)) (hb : PE X b (TI X.K CT Γ q)) (hp : PlainIx b := by intro _ _; rfl) : PE X (.Subscript a b pos) (TI X.K CT Γ (.op .ixS [p, q])) := g_ix ix_str OS_ixS ha hb hp
theorem x_C (ha : PE X a (TI X.K CT Γ p)) (hb : PE X b (TI X.K CT Γ q)) (hp : PlainIx b := by intro _ _; rfl) : PE X (.Subscript a b pos) (TI X.K CT Γ (.op .ixC [p, q])) := g_ix ix_list OS_ixC ha hb hp
variable (B : Bn X.mg)
include B
theorem f_lenL (ha : PA X (a :: es) (TIs X.K CT Γ (p :: ps))) (hg : Gl X "len" := by rfl) (he : starEach (a :: es) X.env = (false, eval a X.env) :: starEach es X.env := by rfl) (hpl : (backTo pos (starEach es X.env)).any (·.1) = false := by rfl) :
    PE X (.Call (.Name "len" pos2) (a :: es) [] pos) (TI X.K CT Γ (.op .lenL (p :: ps))) := g_B call_len_seq OS_lenL B.len ha hg (by rfl) (by decide) (by decide) he hpl
theorem f_lenC (ha : PA X (a :: es) (TIs X.K CT Γ (p :: ps))) (hg : Gl X "len" := by rfl) (he : starEach (a :: es) X.env = (false, eval a X.env) :: starEach es X.env := by rfl) (hpl : (backTo pos (starEach es X.env)).any (·.1) = false := by rfl) :
    PE X (.Call (.Name "len" pos2) (a :: es) [] pos) (TI X.K CT Γ (.op .lenC (p :: ps))) := g_B call_len_seq OS_lenC B.len ha hg (by rfl) (by decide) (by decide) he hpl
theorem f_lenS (ha : PA X (a :: es) (TIs X.K CT Γ (p :: ps))) (hg : Gl X "len" := by rfl) (he : starEach (a :: es) X.env = (false, eval a X.env) :: starEach es X.env := by rfl) (hpl : (backTo pos (starEach es X.env)).any (·.1) = false := by rfl) :
    PE X (.Call (.Name "len" pos2) (a :: es) [] pos) (TI X.K CT Γ (.op .lenS (p :: ps))) := g_B call_len_str OS_lenS B.len ha hg (by rfl) (by decide) (by decide) he hpl
theorem f_lenK (ha : PA X (a :: es) (TIs X.K CT Γ (p :: ps))) (hg : Gl X "len" := by rfl) (he : starEach (a :: es) X.env = (false, eval a X.env) :: starEach es X.env := by rfl) (hpl : (backTo pos (starEach es X.env)).any (·.1) = false := by rfl) :
    PE X (.Call (.Name "len" pos2) (a :: es) [] pos) (TI X.K CT Γ (.op .lenK (p :: ps))) := g_B cr_lenK OS_lenK B.len ha hg (by rfl) (by decide) (by decide) he hpl
theorem f_srtS (ha : PA X (a :: es) (TIs X.K CT Γ (p :: ps))) (hg : Gl X "sorted" := by rfl) (he : starEach (a :: es) X.env = (false, eval a X.env) :: starEach es X.env := by rfl) (hpl : (backTo pos (starEach es X.env)).any (·.1) = false := by rfl) :
    PE X (.Call (.Name "sorted" pos2) (a :: es) [] pos) (TI X.K CT Γ (.op .srtS (p :: ps))) := g_B cr_srtS OS_srtS B.sorted ha hg (by rfl) (by decide) (by decide) he hpl
theorem f_max2 (ha : PA X (a :: es) (TIs X.K CT Γ (p :: ps))) (hc : X.calm = true := by rfl) (hg : Gl X "max" := by rfl) (he : starEach (a :: es) X.env = (false, eval a X.env) :: starEach es X.env := by rfl) (hpl : (backTo pos (starEach es X.env)).any (·.1) = false := by rfl) :
    PE X (.Call (.Name "max" pos2) (a :: es) [] pos) (TI X.K CT Γ (.op .max2 (p :: ps))) := g_B (call_max2 hc) OS_max2 B.max ha hg (by rfl) (by decide) (by decide) he hpl
theorem f_min2 (ha : PA X (a :: es) (TIs X.K CT Γ (p :: ps))) (hc : X.calm = true := by rfl) (hg : Gl X "min" := by rfl) (he : starEach (a :: es) X.env = (false, eval a X.env) :: starEach es X.env := by rfl) (hpl : (backTo pos (starEach es X.env)).any (·.1) = false := by rfl) :
    PE X (.Call (.Name "min" pos2) (a :: es) [] pos) (TI X.K CT Γ (.op .min2 (p :: ps))) := g_B (call_min2 hc) OS_min2 B.min ha hg (by rfl) (by decide) (by decide) he hpl
theorem f_all (ha : PA X (a :: es) (TIs X.K CT Γ (p :: ps))) (hc : X.calm = true := by rfl) (hg : Gl X "all" := by rfl) (he : starEach (a :: es) X.env = (false, eval a X.env) :: starEach es X.env := by rfl) (hpl : (backTo pos (starEach es X.env)).any (·.1) = false := by rfl) :
    PE X (.Call (.Name "all" pos2) (a :: es) [] pos) (TI X.K CT Γ (.op .all (p :: ps))) := g_B (cr_all hc) OS_all B.all ha hg (by rfl) (by decide) (by decide) he hpl
theorem f_any (ha : PA X (a :: es) (TIs X.K CT Γ (p :: ps))) (hc : X.calm = true := by rfl) (hg : Gl X "any" := by rfl) (he : starEach (a :: es) X.env = (false, eval a X.env) :: starEach es X.env := by rfl) (hpl : (backTo pos (starEach es X.env)).any (·.1) = false := by rfl) :
    PE X (.Call (.Name "any" pos2) (a :: es) [] pos) (TI X.K CT Γ (.op .any (p :: ps))) := g_B (cr_any hc) OS_any B.any ha hg (by rfl) (by decide) (by decide) he hpl
theorem f_srtK (ha : PA X (a :: es) (TIs X.K CT Γ (p :: ps))) (hc : X.calm = true := by rfl) (hg : Gl X "sorted" := by rfl) (he : starEach (a :: es) X.env = (false, eval a X.env) :: starEach es X.env := by rfl) (hpl : (backTo pos (starEach es X.env)).any (·.1) = false := by rfl) :
    PE X (.Call (.Name "sorted" pos2) (a :: es) [] pos) (TI X.K CT Γ (.op .srtK (p :: ps))) := g_B (cr_srtK hc) OS_srtK B.sorted ha hg (by rfl) (by decide) (by decide) he hpl
theorem f_cpL (ha : PA X (a :: es) (TIs X.K CT Γ (p :: ps))) (hg : Gl X "list" := by rfl) (he : starEach (a :: es) X.env = (false, eval a X.env) :: starEach es X.env := by rfl) (hpl : (backTo pos (starEach es X.env)).any (·.1) = false := by rfl) :
    PE X (.Call (.Name "list" pos2) (a :: es) [] pos) (TI X.K CT Γ (.op .cpL (p :: ps))) := g_Ty call_list_of OS_cpL B.list ha hg (by rfl) (by decide) (by decide) he hpl
theorem f_int1 (ha : PA X (a :: es) (TIs X.K CT Γ (p :: ps))) (hg : Gl X "int" := by rfl) (he : starEach (a :: es) X.env = (false, eval a X.env) :: starEach es X.env := by rfl) (hpl : (backTo pos (starEach es X.env)).any (·.1) = false := by rfl) :
    PE X (.Call (.Name "int" pos2) (a :: es) [] pos) (TI X.K CT Γ (.op .int1 (p :: ps))) := g_Ty call_int1 OS_int1 B.int ha hg (by rfl) (by decide) (by decide) he hpl
theorem f_cpK (ha : PA X (a :: es) (TIs X.K CT Γ (p :: ps))) (hg : Gl X "dict" := by rfl) (he : starEach (a :: es) X.env = (false, eval a X.env) :: starEach es X.env := by rfl) (hpl : (backTo pos (starEach es X.env)).any (·.1) = false := by rfl) :
    PE X (.Call (.Name "dict" pos2) (a :: es) [] pos) (TI X.K CT Γ (.op .cpK (p :: ps))) := g_Ty call_dictD OS_cpK B.dict ha hg (by rfl) (by decide) (by decide) he hpl
theorem f_mkK (ha : PA X (a :: es) (TIs X.K CT Γ (p :: ps))) (hc : X.calm = true := by rfl) (hg : Gl X "dict" := by rfl) (he : starEach (a :: es) X.env = (false, eval a X.env) :: starEach es X.env := by rfl) (hpl : (backTo pos (starEach es X.env)).any (·.1) = false := by rfl) :
    PE X (.Call (.Name "dict" pos2) (a :: es) [] pos) (TI X.K CT Γ (.op .mkK (p :: ps))) := g_Ty (call_dictP hc) OS_mkK B.dict ha hg (by rfl) (by decide) (by decide) he hpl
end
end Pv

set_option Elab.async false
set_option linter.all false
set_option maxRecDepth 100000
set_option maxHeartbeats 1000000
namespace Pv
open PySem L2 PyProof.Rows
section
variable {K : PySem.W.Frag} {CT : Nat → Addr} {N : Nat} {Γ : Fns} {σ : L2.St} {H : Hp} {Q : VK}
/-- a held list of pairs, its items own things of its own -/
structure AccP (K : PySem.W.Frag) (CT : Nat → Addr) (F0 H0 : Hp) (f0 : Nat → List Addr) (F G H : Hp) (f : Nat → List Addr) (a : Addr) (ds : List (Key × Pv.D)) (vs : List (Key × V)) (ps : List Addr) (fp : List Addr) : Prop where
  at_ : H a = some (.lst (ps.map V.ref))
  tp : Paired (fun (p : Addr) (q : Key × V) => F p = some (.tup [kV q.1, q.2])) ps vs
  F0a : F a = none
  G0a : G a = none
  off : ∀ i, a ∉ f i
  rs : Rk K CT F G H ds vs fp
  nd : fp.Nodup
  na : a ∉ fp
  ap : ∀ x ∈ fp, ∀ i, x ∉ f i
  fr : ∀ x ∈ fp, (∃ j, x ∈ f0 j) ∨ H0 x = none
theorem AccP.step {T : Nat → Bool} {F0 H0 F G H F' H' : Hp} {f0 f f' : Nat → List Addr} {ρ ρ' : Env} {a : Addr} {ds : List (Key × Pv.D)} {vs : List (Key × V)} {ps : List Addr} {fp : List Addr} (A : AccP K CT F0 H0 f0 F G H f a ds vs ps fp) (t : Stp T F H ρ f F' H' ρ' f') : AccP K CT F0 H0 f0 F' G H' f' a ds vs ps fp := by
  have hh := t.held (fp := [a]) (G := G) (fun x hx => by rw [List.mem_singleton.mp hx]; exact ⟨⟨_, A.at_⟩, A.F0a, A.G0a⟩) (fun x hx => by rw [List.mem_singleton.mp hx]; exact A.off)
  obtain ⟨z1, z2, z3⟩ := hh a (List.mem_singleton.mpr rfl)
  have back : ∀ x, (∃ o, H x = some o) → (∀ i, x ∉ f i) → ∀ i, x ∉ f' i := fun x ⟨o, e⟩ n i hi => by
    rcases t.own i x hi with ⟨j, hj⟩ | hj
    · exact n j hj
    · rw [e] at hj; cases hj
  exact ⟨z1.trans A.at_, L2.Paired.mapP A.tp fun _ _ h => t.le _ _ h, z2, z3, back a ⟨_, A.at_⟩ A.off, Rk.mono t.le ds (WLe.refl G) (t.held (Rk.own ds A.rs) A.ap) A.rs, A.nd, A.na, fun x hx => back x (Rk.own ds A.rs x hx).1 (A.ap x hx), A.fr⟩

theorem AccP.alo {F0 H0 F G H F' H' : Hp} {f0 f : Nat → List Addr} {ρ : Env} {a : Addr} {ds : List (Key × Pv.D)} {vs : List (Key × V)} {ps : List Addr} {fp : List Addr} (A : AccP K CT F0 H0 f0 F G H f a ds vs ps fp) (s : Ste K CT F G H ρ σ f) (al : Alo F H F' H') : AccP K CT F0 H0 f0 F' G H' f a ds vs ps fp :=
  A.step (al.stp (T := fun _ => false) s)
theorem Rk.append {F G : Hp} : ∀ (ds : List (Key × Pv.D)) {es : List (Key × Pv.D)} {vs ws : List (Key × V)} {f1 f2 : List Addr}, Rk K CT F G H ds vs f1 → Rk K CT F G H es ws f2 → Rk K CT F G H (ds ++ es) (vs ++ ws) (f1 ++ f2)
  | [], _, _, _, _, _, h, k => by
    simp only [Rk] at h
    obtain ⟨rfl, rfl⟩ := h
    exact k
  | (k0, d) :: ds, _, _, _, _, _, h, k => by
    simp only [Rk] at h
    obtain ⟨v, vr, g1, g2, rfl, h1, h2, rfl⟩ := h
    simp only [List.cons_append, Rk]
    exact ⟨v, _, g1, _, rfl, h1, Rk.append ds h2 k, by rw [List.append_assoc]⟩
theorem Rk.one {F G : Hp} {k : Key} {d : Pv.D} {v : V} {fp : List Addr} (r : R K CT F G H d v fp) : Rk K CT F G H [(k, d)] [(k, v)] fp := by
  simp only [Rk]
  exact ⟨v, [], fp, [], rfl, r, ⟨rfl, rfl⟩, by simp⟩
theorem Rk.merge {F G : Hp} : ∀ (ms : List (Key × Pv.D)) {ks : List (Key × Pv.D)} {vs ws : List (Key × V)} {f1 f2 : List Addr}, Rk K CT F G H ks vs f1 → (ks.map Prod.fst).Nodup → Rk K CT F G H ms ws f2 → (f1 ++ f2).Nodup →
    ∃ fp', Rk K CT F G H (mergeA ks ms) (mergeK vs ws) fp' ∧ fp'.Nodup ∧ (∀ x ∈ fp', x ∈ f1 ++ f2) ∧ ((mergeA ks ms).map Prod.fst).Nodup
  | [], _, _, _, f1, _, h, nk, hm, nd => by
    simp only [Rk] at hm
    obtain ⟨rfl, rfl⟩ := hm
    rw [List.append_nil] at nd
    exact ⟨f1, h, nd, fun x hx => List.mem_append_left _ hx, nk⟩
  | (k, d) :: ms, ks, vs, _, f1, _, h, nk, hm, nd => by
    simp only [Rk] at hm
    obtain ⟨v, vr, g1, g2, rfl, h1, h2, rfl⟩ := hm
    have nd' : ((f1 ++ g1) ++ g2).Nodup := by rw [List.append_assoc]; exact nd
    obtain ⟨fp', w1, w2, w3⟩ := Rk.put h1 k ks h (List.nodup_append.mp nd').1
    have e : mergeK vs ((k, v) :: vr) = mergeK (putA vs k v) vr := by
      show mergeK (putK vs k v) vr = _
      rw [putK_eq vs k v (by rw [Rk.keys ks h]; exact nk)]
    rw [e]
    obtain ⟨fq, q1, q2, q3, q4⟩ := Rk.merge ms w1 (putA_nodup k d ks nk).1 h2 (List.nodup_append.mpr ⟨w2, (List.nodup_append.mp nd').2.1, fun x hx y hy e => by
      subst e
      have hxx : x ∈ f1 ++ g1 := by rcases w3 x hx with z | z; exact List.mem_append_left _ z; exact List.mem_append_right _ z
      exact (List.nodup_append.mp nd').2.2 x hxx x hy rfl⟩)
    refine ⟨fq, q1, q2, fun x hx => ?_, q4⟩
    rcases List.mem_append.mp (q3 x hx) with z | z
    · rcases w3 x z with z | z
      · exact List.mem_append_left _ z
      · exact List.mem_append_right _ (List.mem_append_left _ z)
    · exact List.mem_append_right _ (List.mem_append_right _ z)
def rDP (K : PySem.W.Frag) (Q : VK) : VK := fun x H1 => ∃ (a : Addr) (ps : List Addr) (kvs : List (Key × V)), [x] = [V.ref a] ∧ SqL K H1 a (ps.map V.ref) ∧ Paired (fun p kv => SqT K H1 p [kV kv.1, kv.2]) ps kvs ∧ ∀ p, H1 p = none → Q (.ref p) (upd H1 p (.dK (mergeK [] kvs)))
/-- what a list of pairs leaves -/
structure PcS (K : PySem.W.Frag) (CT : Nat → Addr) (T : Nat → Bool) (F G H : Hp) (ρ : Env) (σ : L2.St) (f : Nat → List Addr) (ρ' : Env) (F1 H1 : Hp) (f1 : Nat → List Addr) (A : Addr) (ds : List (Key × Pv.D)) (vs : List (Key × V)) (ps : List Addr) (fp : List Addr) : Prop where
  p : Pst K CT T F G H ρ σ f ρ' [] [] F1 H1 f1 []
  at_ : H1 A = some (.lst (ps.map V.ref))
  tp : Paired (fun (p : Addr) (q : Key × V) => F1 p = some (.tup [kV q.1, q.2])) ps vs
  FA : F1 A = none
  GA : G A = none
  rs : Rk K CT F1 G H1 ds vs fp
  nd : fp.Nodup
  ap : ∀ x ∈ fp, ∀ i, x ∉ f1 i
  fr : ∀ x ∈ fp, (∃ j, x ∈ f j) ∨ H x = none
theorem PcS.fin {T : Nat → Bool} {F G : Hp} {ρ ρ' : Env} {f : Nat → List Addr} {F1 H1 : Hp} {f1 : Nat → List Addr} {A : Addr} {ds : List (Key × Pv.D)} {vs : List (Key × V)} {ps fp : List Addr} (S : PcS K CT T F G H ρ σ f ρ' F1 H1 f1 A ds vs ps fp)
    (hq : ∀ v F' H' f' fp, Pst K CT T F G H ρ σ f ρ' [.val (.dct .own (mergeA [] ds))] [v] F' H' f' fp → Q v H') : rDP K Q (.ref A) H1 := by
  obtain ⟨fq, q1, q2, q3, q4⟩ := Rk.merge ds (ks := []) (vs := []) (f1 := []) (by simp only [Rk, and_self]) List.nodup_nil S.rs (by simpa using S.nd)
  refine ⟨A, ps, vs, rfl, SqL.of S.at_, L2.Paired.mapP S.tp fun a b h => SqT.of (S.p.st.wf.tup h), fun P hP => ?_⟩
  have alP : Alo F1 H1 F1 (upd H1 P (.dK (mergeK [] vs))) := Alo.obj hP
  have q3' : ∀ x ∈ fq, x ∈ fp := fun x hx => by simpa using q3 x hx
  have naP : P ∉ fq := fun z => by
    obtain ⟨⟨o, e⟩, _⟩ := Rk.own ds S.rs P (q3' P z)
    rw [hP] at e; cases e
  have offP : ∀ i, P ∉ f1 i := fun i hi => by
    obtain ⟨⟨o, e⟩, _⟩ := S.p.st.ow i P hi
    rw [hP] at e; cases e
  refine hq _ F1 _ f1 (P :: fq) ⟨S.p.st.alo alP, S.p.sp.trans (alP.stp S.p.st), VR.one ?_, List.nodup_cons.mpr ⟨naP, q2⟩, fun a ha i hi => ?_, fun a ha => ?_⟩
  · show R K CT F1 G _ (.dct .own (mergeA [] ds)) (.ref P) (P :: fq)
    simp only [R]
    exact ⟨q4, P, _, fq, rfl, upd_same, S.p.st.wf.none hP, S.p.st.wg.none hP, q1.up naP, rfl⟩
  · rcases List.mem_cons.mp ha with rfl | ha
    · exact offP i hi
    · exact S.ap a (q3' a ha) i hi
  · rcases List.mem_cons.mp ha with rfl | ha
    · cases e : H a with
      | none => exact .inr rfl
      | some o =>
        obtain ⟨o', e'⟩ := S.p.sp.live a o e
        rw [e'] at hP; cases hP
    · exact S.fr a (q3' a ha)
theorem pcomp_core {js : List Nat} {ik : IK} {ies : List PX} {c : Option PX} {k e : PX} {wi : L2.TI} {g : TG} {F G : Hp} {ρ : Env} {f : Nat → List Addr} {r : List Rv × Env} {els : List (List Pv.D)} {z : List (Key × Pv.D) × Env}
    (hfree : freeAt r.2 js = true) (h5 : dcompLoop js (fun ρ => evO Γ c ρ) (fun ρ => (ev Γ k ρ).bind asK) (fun ρ => (ev Γ e ρ).bind asD) els r.2 [] = some z) (hlen : els.length ≤ 1000000)
    (hw : ∀ Rp : It → Hp → Prop, (∀ J F' H' f' S, Pst K CT (tchs ies) F G H ρ σ f r.2 [] [] F' H' f' [] → Wk K CT F' G H' S J g js els → (∀ a ∈ S, (∃ o, H' a = some o) ∧ ∀ i, (tchO c i || k.tch i || e.tch i || js.contains i) = true → a ∉ f' i) → Rp J H') → wi σ H Rp)
    (hq : ∀ A F1 H1 f1 ds vs ps fp, mergeA [] ds = z.1 → PcS K CT (PX.dcomp js ik ies c k e).tch F G H ρ σ f (backE z.2 r.2 js) F1 H1 f1 A ds vs ps fp → Q (.ref A) H1) : tLc wi g (TBO K CT Γ c) (tTup (tCons (TI K CT Γ k) (tCons (TI K CT Γ e) tNil))) js σ H Q := by
  refine hw _ fun J F' H' f' S p wk hS => ?_
  intro A hA
  have hTjs : ∀ j ∈ js, (fun i => tchO c i || k.tch i || e.tch i || js.contains i) j = true := fun j hj => by simp only [List.contains_iff_mem.mpr hj, Bool.or_true]
  have al0 : Alo F' H' F' (upd H' A (.lst [])) := Alo.obj hA
  refine ⟨fun i m H1 => m = els.length - i ∧ i ≤ els.length ∧ ∃ F1 ρ1 f1 ds1 vs1 ps1 fp1, Ste K CT F1 G H1 (wipeE ρ1 js) (wipe σ js) f1 ∧ Stp (fun i => tchO c i || k.tch i || e.tch i || js.contains i) F' H' r.2 f' F1 H1 (wipeE ρ1 js) f1 ∧ AccP K CT F' H' f' F1 G H1 f1 A ds1 vs1 ps1 fp1 ∧
      dcompLoop js (fun ρ => evO Γ c ρ) (fun ρ => (ev Γ k ρ).bind asK) (fun ρ => (ev Γ e ρ).bind asD) (els.drop i) ρ1 (mergeA [] ds1) = some z ∧ ds1.length ≤ i, ⟨els.length, by omega, Nat.zero_le _, F', r.2, _, [], [], [], [], (p.st.alo al0).wipe js, (al0.stp p.st).wipe hTjs, ?_, h5, Nat.le_refl _⟩, fun i m H1 ⟨hm, hi, F1, ρ1, f1, ds1, vs1, ps1, fp1, s1, t1, A1, e1, ez⟩ => ?_⟩
  · refine ⟨upd_same, .nil, p.st.wf.none hA, p.st.wg.none hA, fun i hi => ?_, ⟨rfl, rfl⟩, List.nodup_nil, List.not_mem_nil, fun _ h => (nomatch h), fun _ h => (nomatch h)⟩
    split at hi
    · cases hi
    · obtain ⟨⟨o, z1⟩, _⟩ := p.st.ow i A hi
      rw [hA] at z1; cases z1
  · have hagree := t1.agree hS
    by_cases hlt : i < els.length
    · refine .inr ⟨wk.go i H1 hagree hlt, fun H2 => ∃ F2 ρ2 f2 ds2 vs2 ps2 fp2, Ste K CT F2 G H2 (wipeE ρ2 js) (wipe σ js) f2 ∧ Stp (fun i => tchO c i || k.tch i || e.tch i || js.contains i) F' H' r.2 f' F2 H2 (wipeE ρ2 js) f2 ∧ AccP K CT F' H' f' F2 G H2 f2 A ds2 vs2 ps2 fp2 ∧
        dcompLoop js (fun ρ => evO Γ c ρ) (fun ρ => (ev Γ k ρ).bind asK) (fun ρ => (ev Γ e ρ).bind asD) (els.drop (i + 1)) ρ2 (mergeA [] ds2) = some z ∧ ds2.length ≤ i + 1, fun H2 ⟨F2, ρ2, f2, ds2, vs2, ps2, fp2, w⟩ => ⟨els.length - (i + 1), by omega, rfl, hlt, F2, ρ2, f2, ds2, vs2, ps2, fp2, w⟩, fun x Hx hy => ?_⟩
      rw [List.drop_eq_getElem_cons hlt] at e1
      simp only [dcompLoop, Option.bind_eq_some_iff] at e1
      obtain ⟨ρa, e2, q, e3, e4⟩ := e1
      refine wk.yl i H1 x Hx els[i] (wipe σ js) _ hagree (WLe.h_trans t1.le s1.wf) (List.getElem?_eq_getElem hlt) hy (setAt_len e2) fun vs H2 hle rs => ⟨wipe_setV js vs σ, ?_⟩
      have sA := s1.alo hle.alo
      obtain ⟨fb, sB, tB, _⟩ := Ste.bindN (T := fun i => tchO c i || k.tch i || e.tch i || js.contains i) (vs := vs) sA hTjs (Rs.mono t1.le els[i] (WLe.refl G) (fun _ h => nomatch h) rs) e2
      have t2 := (hle.alo.stp (T := fun i => tchO c i || k.tch i || e.tch i || js.contains i) s1).trans tB
      refine TBO_run (q := q) sB e3 fun F3 H3 f3 s3 t3 => ?_
      have t13 := t2.trans (t3.mono (T' := fun i => tchO c i || k.tch i || e.tch i || js.contains i) fun i hi => by simp only [Bool.or_eq_false_iff] at hi; exact hi.1.1.1)
      have A3 := A1.step t13
      cases hb : q.1 with
      | false =>
        rw [hb] at e4
        simp only [Bool.false_eq_true, if_false] at e4 ⊢
        have s4 := s3.wipe js
        rw [wipe_setV] at s4
        have tw : Stp (fun i => tchO c i || k.tch i || e.tch i || js.contains i) F3 H3 q.2 f3 F3 H3 (wipeE q.2 js) _ := (Stp.refl _ F3 H3 q.2 f3).wipe hTjs
        exact ⟨F3, q.2, _, ds1, vs1, ps1, fp1, s4, (t1.trans t13).wipe hTjs, A3.step tw, e4, Nat.le_succ_of_le ez⟩
      | true =>
        rw [hb] at e4
        simp only [if_true, Option.bind_eq_some_iff] at e4 ⊢
        obtain ⟨kp, ⟨rk, k5, k6⟩, pd, ⟨re, e5, e6⟩, e7⟩ := e4
        simp only [asK, Option.map_eq_some_iff, Option.bind_eq_some_iff] at k6
        obtain ⟨key, ⟨kd, k7, k8⟩, rfl⟩ := k6
        refine ⟨F3, G, q.2, f3, rk.1, rk.2, s3, k5, fun yk Fk Hk fk fpk pk => ⟨Fk, G, rk.2, fk, re.1, re.2, pk.st, e5, fun y F4 H4 f4 fpd p4 => ⟨by show 2 ≤ sizeLine; decide, fun T hT => ?_⟩⟩⟩
        obtain ⟨fz, rz⟩ := view_r pk.st (vr1 pk.vr) k7
        have hyk := key_v rz k8
        subst hyk
        simp only [asD, Option.map_eq_some_iff] at e6
        obtain ⟨d, e9, rfl⟩ := e6
        have tkk := pk.sp.mono (T' := fun i => tchO c i || k.tch i || e.tch i || js.contains i) fun i hi => by simp only [Bool.or_eq_false_iff] at hi; exact hi.1.1.2
        have Ak := A3.step tkk
        have rd0 := take_r p4.st (vr1 p4.vr) e9
        have t14 := (t13.trans tkk).trans (p4.sp.mono (T' := fun i => tchO c i || k.tch i || e.tch i || js.contains i) fun i hi => by simp only [Bool.or_eq_false_iff] at hi; exact hi.1.2)
        have alT : Alo F4 H4 (upd F4 T (.tup [kV key, y])) (upd H4 T (.tup [kV key, y])) := Alo.frz hT (p4.st.wf.none hT)
        have sT := p4.st.alo alT
        have tT := alT.stp (T := fun i => tchO c i || k.tch i || e.tch i || js.contains i) p4.st
        have rd : R K CT (upd F4 T (.tup [kV key, y])) G (upd H4 T (.tup [kV key, y])) d y fpd := R.mono alT.le d (WLe.refl G) (tT.held (R.own d rd0) p4.ap) rd0
        have t15 := t14.trans tT
        have A5 := A1.step t15
        have t05 := t1.trans t15
        have rsl := Rk.len _ A5.rs
        have psl := A5.tp.length
        refine ⟨ps1.map V.ref, A5.at_, ?_, ?_⟩
        · rw [List.length_map, psl, rsl]
          exact Nat.lt_of_lt_of_le (Nat.lt_of_le_of_lt ez (Nat.lt_of_lt_of_le hlt hlen)) line_big
        · have frd : ∀ x ∈ fpd, (∃ j, x ∈ f' j) ∨ H' x = none := fun x hx => by
            rcases p4.fr x hx with ⟨j, hj⟩ | hj
            · exact ((t1.trans t13).trans tkk).own j x hj
            · cases e : H' x with
              | none => exact .inr rfl
              | some o =>
                obtain ⟨o', e'⟩ := ((t1.trans t13).trans tkk).live x o e
                rw [e'] at hj; cases hj
          have live3 : ∀ x, x ∈ A :: fp1 → ∃ o, Hk x = some o := fun x hx => by
            rcases List.mem_cons.mp hx with rfl | hx
            · exact ⟨_, Ak.at_⟩
            · exact (Rk.own ds1 Ak.rs x hx).1
          have off3 : ∀ x, x ∈ A :: fp1 → ∀ i, x ∉ fk i := fun x hx => by
            rcases List.mem_cons.mp hx with rfl | hx
            · exact Ak.off
            · exact Ak.ap x hx
          have apart : ∀ x ∈ A :: fp1, x ∉ fpd := fun x hx hd => by
            rcases p4.fr x hd with ⟨j, hj⟩ | hj
            · exact off3 x hx j hj
            · obtain ⟨o, e'⟩ := live3 x hx
              rw [hj] at e'; cases e'
          have s5 := (sT.updOff (o := .lst (ps1.map V.ref ++ [.ref T])) A5.off A5.F0a A5.G0a).wipe js
          rw [wipe_setV] at s5
          have t5 := (Stp.updOff (o := .lst (ps1.map V.ref ++ [.ref T])) p.st t05 hA).wipe hTjs
          have nd2 : (fp1 ++ fpd).Nodup := List.nodup_append.mpr ⟨A5.nd, p4.nd, fun x hx y' hy' e => apart x (List.mem_cons_of_mem _ hx) (e ▸ hy')⟩
          have naA : A ∉ fp1 ++ fpd := fun z => by
            rcases List.mem_append.mp z with z | z
            · exact A5.na z
            · exact apart A List.mem_cons_self z
          have rka : Rk K CT (upd F4 T (.tup [kV key, y])) G (upd H4 T (.tup [kV key, y])) (ds1 ++ [(key, d)]) (vs1 ++ [(key, y)]) (fp1 ++ fpd) := Rk.append ds1 A5.rs (Rk.one rd)
          refine ⟨_, re.2, _, ds1 ++ [(key, d)], vs1 ++ [(key, y)], ps1 ++ [T], fp1 ++ fpd, s5, t5, ?_, ?_, by rw [List.length_append]; exact Nat.succ_le_succ ez⟩
          · refine ⟨by rw [List.map_append]; exact upd_same, A5.tp.snoc upd_same, A5.F0a, A5.G0a, fun i hi => ?_, rka.up naA, nd2, naA, fun x hx i hi => ?_, fun x hx => ?_⟩
            · split at hi
              · cases hi
              · exact A5.off i hi
            · split at hi
              · cases hi
              · rcases List.mem_append.mp hx with z | z
                · exact A5.ap x z i hi
                · exact p4.ap x z i hi
            · rcases List.mem_append.mp hx with z | z
              · exact A5.fr x z
              · exact frd x z
          · unfold mergeA
            rw [List.foldl_append]
            exact e7
    · refine .inl ⟨wk.st i H1 hagree (by omega), ?_⟩
      rw [List.drop_eq_nil_of_le (by omega)] at e1
      simp only [dcompLoop, Option.some.injEq] at e1
      subst e1
      have sF := Ste.restore (σ := σ) p.st s1 (fun i hi => by rw [wipe_get, if_neg hi]) (by have a := s1.len; have b := p.st.len; rw [wipe_length] at a; omega) t1.le hfree
      rw [backE_wipe] at sF
      have tF := t1.backT (ρ0 := r.2) hTjs
      rw [backE_wipe] at tF
      refine hq A F1 H1 _ ds1 vs1 ps1 fp1 rfl ⟨⟨sF, (p.sp.mono fun i hi => ?_).trans (tF.mono fun i hi => ?_), ⟨rfl, rfl⟩, List.nodup_nil, fun _ h => (nomatch h), fun _ h => (nomatch h)⟩, A1.at_, A1.tp, A1.F0a, A1.G0a, A1.rs, A1.nd, fun a ha i hi => ?_, fun a ha => ?_⟩
      · simp only [PX.tch, Bool.or_eq_false_iff] at hi; exact hi.1.1.1.2
      · simp only [PX.tch, Bool.or_eq_false_iff] at hi; simp only [hi.1.2, hi.2, hi.1.1.2, hi.1.1.1.1, Bool.or_self]
      · split at hi
        · cases hi
        · exact A1.ap a ha i hi
      · rcases A1.fr a ha with ⟨j, hj⟩ | hj
        · exact p.sp.own j a hj
        · cases e : H a with
          | none => exact .inr rfl
          | some o =>
            obtain ⟨o', e'⟩ := p.sp.live a o e
            rw [e'] at hj; cases hj
/-- dict([(k, e) for .. in .. if c]) -/
theorem TI_pcomp {js : List Nat} {ik : IK} {ies : List PX} {c : Option PX} {k e : PX} {wi : L2.TI} {g : TG} (hw : WI K CT Γ wi g js ik ies) (h : TI K CT Γ (.dcomp js ik ies c k e) σ H Q) : tLc wi g (TBO K CT Γ c) (tTup (tCons (TI K CT Γ k) (tCons (TI K CT Γ e) tNil))) js σ H (rDP K Q) := by
  obtain ⟨F, G, ρ, f, rv, ρ', hs, he, hq⟩ := h
  simp only [ev, Option.bind_eq_some_iff] at he
  obtain ⟨r, h1, ds, h2, els, h3, h4⟩ := he
  split at h4
  case isFalse => cases h4
  rename_i hokf
  rw [Bool.and_eq_true] at hokf
  obtain ⟨hok, hfree⟩ := hokf
  simp only [Option.bind_eq_some_iff] at h4
  obtain ⟨z, h5, h6⟩ := h4
  split at h6
  case isFalse => cases h6
  rename_i hlen
  cases h6
  exact pcomp_core (ik := ik) hfree h5 hlen (fun Rp k => hw _ σ H Rp F G ρ f r.1 r.2 ds els hs h1 h2 h3 hok k) fun A F1 H1 f1 ds vs ps fp em S => S.fin fun v F' H' f' fp' p => hq v F' H' f' fp' (by rw [← em]; exact p)
theorem TI_pcompK {js : List Nat} {ik : IK} {ie : PX} {te : TE} {c : Option PX} {k e : PX} {wiK : TE → L2.TI} {g : TG} (hk : ik = .keys ∨ ik = .items ∨ ik = .values) (kw : KW K CT ik wiK g js) (loc : Loc K CT Γ ie te) (h : TI K CT Γ (.dcomp js ik [ie] c k e) σ H Q) :
    tLockE (tLc (wiK te) g (TBO K CT Γ c) (tTup (tCons (TI K CT Γ k) (tCons (TI K CT Γ e) tNil))) js) σ H (rDP K Q) ∨ tLc (wiK te) g (TBO K CT Γ c) (tTup (tCons (TI K CT Γ k) (tCons (TI K CT Γ e) tNil))) js σ H (rDP K Q) := by
  obtain ⟨F, G, ρ, f, rv, ρ', hs, he, hq⟩ := h
  simp only [ev, Option.bind_eq_some_iff] at he
  obtain ⟨r, h1, ds, h2, els, h3, h4⟩ := he
  split at h4
  case isFalse => cases h4
  rename_i hokf
  rw [Bool.and_eq_true] at hokf
  obtain ⟨_, hfree⟩ := hokf
  simp only [Option.bind_eq_some_iff] at h4
  obtain ⟨z, h5, h6⟩ := h4
  split at h6
  case isFalse => cases h6
  rename_i hlen
  cases h6
  obtain ⟨rv1, hr, he1⟩ := evs1 h1
  obtain ⟨hρ, v, hv, hloc⟩ := loc σ H F G ρ f rv1 r.2 hs he1
  rw [hr] at h2
  obtain ⟨d, hd, rfl⟩ := views1 h2
  obtain ⟨m, ks, ed, hm⟩ := iterS_dict hk h3
  cases ed
  rw [hρ] at hd h5 hfree
  obtain ⟨a, vs, rfl, hH, rk, hfg⟩ := dict_src hs hv hd hm
  have hr2 : r.2 = ρ := hρ
  have run : ∀ (HL : Hp) (o : Obj) (Q' : VK), Ste K CT F G HL ρ σ f → (∀ i x, x ∈ f i → HL x = H x) → HL a = some (.frz o (.dK vs)) → Rk K CT F G HL ks vs [] →
      (∀ A F1 H1 f1 ds vs ps fp, mergeA [] ds = z.1 → PcS K CT (PX.dcomp js ik [ie] c k e).tch F G HL ρ σ f (backE z.2 ρ js) F1 H1 f1 A ds vs ps fp → Q' (.ref A) H1) → tLc (wiK te) g (TBO K CT Γ c) (tTup (tCons (TI K CT Γ k) (tCons (TI K CT Γ e) tNil))) js σ HL Q' := fun HL o Q' sL hx hdL rkL hqL =>
    pcomp_core (ik := ik) (ies := [ie]) (r := ([rv1], ρ)) hfree h5 hlen (fun Rp k => kw te σ HL Rp F G ks vs a o m els (fun Q q => hloc HL Q sL hx q) hdL rkL h3 fun J wk => k J F HL f [a] (Pst.nil sL) wk fun x hx => by
      rw [List.mem_singleton.mp hx]
      exact ⟨⟨_, hdL⟩, fun i _ => lock_off sL hfg i⟩) hqL
  rcases hH with hH | ⟨o, hH⟩
  · refine .inl ⟨a, .dK vs, hH, trivial, fun od => ?_⟩
    have sL := lock_ste hs hH hfg od
    have hx : ∀ i x, x ∈ f i → upd H a (.frz od (.dK vs)) x = H x := fun i x hx => upd_ne fun z => lock_off hs hfg i (z ▸ hx)
    refine run _ od _ sL hx upd_same (rk.up List.not_mem_nil) fun A F1 H1 f1 ds1 vs1 ps1 fp1 em S => ?_
    obtain ⟨z1, z2, z3, z4⟩ := lock_new hs hH hfg S.p.sp
    have hAa : A ≠ a := fun e => by
      subst e
      rcases z2 with q | q
      · exact q S.FA
      · exact q S.GA
    have ha1 : a ∉ fp1 := fun w => by
      obtain ⟨_, y1, y2⟩ := Rk.own ds1 S.rs a w
      rcases z2 with q | q
      · exact q y1
      · exact q y2
    refine ⟨z1, PcS.fin (F := F) (G := G) (ρ := ρ) (f := f) (ds := ds1) (vs := vs1) (fp := fp1) (ρ' := backE z.2 ρ js) (T := (PX.dcomp js ik [ie] c k e).tch) (F1 := F1) (f1 := f1) ⟨⟨unlock_ste (od := od) S.p.st z2 z3 z4, unlock_stp hs hH hfg S.p.sp, ⟨rfl, rfl⟩, List.nodup_nil, fun _ h => (nomatch h), fun _ h => (nomatch h)⟩, (upd_ne hAa).trans S.at_, S.tp, S.FA, S.GA, S.rs.up ha1, S.nd, S.ap, fun x hx => ?_⟩ fun v F' H' f' fp' p => hq v F' H' f' fp' (by rw [hr2, ← em]; exact p)⟩
    rcases S.fr x hx with q | q
    · exact .inl q
    · refine .inr ?_
      by_cases hxa : x = a
      · rw [hxa, upd_same] at q; cases q
      · rwa [upd_ne hxa] at q
  · refine .inr (run H o _ hs (fun _ _ _ => rfl) hH rk fun A F1 H1 f1 ds1 vs1 ps1 fp1 em S => S.fin fun v F' H' f' fp' p => hq v F' H' f' fp' (by rw [hr2, ← em]; exact p))
end
section
variable {X : Cx} {CT : Nat → Addr} {Γ : Fns} {p q : PX} {pos pos2 pos3 pos4 : Pos}
theorem g_pcompK {nctx : Nat} {kx vx tg iter : Expr} {ifs : List Expr} {scope : Scope} {own : List (Str × Nat)} {js : List Nat} {ik : IK} {ie : PX} {cc : Option PX} {te : TE} {wiK : TE → L2.TI} {g : TG} (hm : X.mg "dict" = none) (kw : KW X.K CT ik wiK g js) (loc : Loc X.K CT Γ ie te) (hk : ik = .keys ∨ ik = .items ∨ ik = .values) (hN : X.N.Nodup) (hi : PI X tg iter (wiK te)) (ok : BlkOk X.N X.env.scope scope own)
    (hg : ∀ (s : Shared) (H : Hp) (C : Addr) (cl : List (Str × Addr)) (fp : List Addr), PG (X.blk s H scope (compEnvC scope cl C X.env) fp) tg g) (ht : ∀ (s : Shared) (H : Hp) (C : Addr) (cl : List (Str × Addr)) (fp : List Addr), PTs (X.blk s H scope (compEnvC scope cl C X.env) fp) ifs (TBO X.K CT Γ cc))
    (hkx : ∀ (s : Shared) (H : Hp) (C : Addr) (cl : List (Str × Addr)) (fp : List Addr), PE (X.blk s H scope (compEnvC scope cl C X.env) fp) kx (TI X.K CT Γ q)) (hvx : ∀ (s : Shared) (H : Hp) (C : Addr) (cl : List (Str × Addr)) (fp : List Addr), PE (X.blk s H scope (compEnvC scope cl C X.env) fp) vx (TI X.K CT Γ p))
    (hc : X.calm = true := by rfl) (hj : own.map (·.2) = js := by rfl) (hs : ∀ x, foldedSetIterable iter X.env x = pure x := by intro _; rfl) (hgl : Gl X "dict" := by rfl)
    (he : starEach [.ListComp (.Tuple [kx, vx] nctx pos3) [⟨tg, iter, ifs, 0⟩] scope pos2] X.env = (false, eval (.ListComp (.Tuple [kx, vx] nctx pos3) [⟨tg, iter, ifs, 0⟩] scope pos2) X.env) :: starEach [] X.env := by rfl)
    (hpl : (backTo pos (starEach [] X.env)).any (·.1) = false := by rfl)
    (h1 : ∀ (s : Shared) (H : Hp) (C : Addr) (cl : List (Str × Addr)) (fp : List Addr), starEach [kx, vx] (X.blk s H scope (compEnvC scope cl C X.env) fp).env = (false, eval kx (X.blk s H scope (compEnvC scope cl C X.env) fp).env) :: starEach [vx] (X.blk s H scope (compEnvC scope cl C X.env) fp).env := by intros; rfl)
    (h2 : ∀ (s : Shared) (H : Hp) (C : Addr) (cl : List (Str × Addr)) (fp : List Addr), starEach [vx] (X.blk s H scope (compEnvC scope cl C X.env) fp).env = (false, eval vx (X.blk s H scope (compEnvC scope cl C X.env) fp).env) :: starEach [] (X.blk s H scope (compEnvC scope cl C X.env) fp).env := by intros; rfl) :
    PE X (.Call (.Name "dict" pos4) [.ListComp (.Tuple [kx, vx] nctx pos3) [⟨tg, iter, ifs, 0⟩] scope pos2] [] pos) (TI X.K CT Γ (.dcomp js ik [ie] cc q p)) := by
  subst hj
  have he' : ∀ (s : Shared) (H : Hp) (C : Addr) (cl : List (Str × Addr)) (fp : List Addr), PE (X.blk s H scope (compEnvC scope cl C X.env) fp) (.Tuple [kx, vx] nctx pos3) (tTup (tCons (TI X.K CT Γ q) (tCons (TI X.K CT Γ p) tNil))) := fun s H C cl fp => pe_tup (pa_cons (hkx s H C cl fp) (pa_cons (hvx s H C cl fp) pa_nil (h2 s H C cl fp)) (h1 s H C cl fp))
  have hl := PE.or (pe_lock (pe_lc (pos := pos2) hc hN hi ok hg ht he' hs)) (pe_lc (pos := pos2) hc hN hi ok hg ht he' hs)
  refine PE.imp (pe_callTy (call_dictP hc) hgl hm (by rfl) (pa_cons hl pa_nil he) (by decide) (by decide) he hpl) fun σ H Q h => ?_
  exact TI_pcompK hk kw loc h
end
end Pv

set_option Elab.async false
set_option linter.all false
set_option maxRecDepth 100000
set_option maxHeartbeats 1000000
namespace Pv
open PySem L2

theorem bindC {α β : Type} {a a' : Option α} {f : α → Option β} (h : a = a') : a.bind f = a'.bind f := by rw [h]
theorem get_z (o : Option D) (ρ : Env) : get (o :: ρ) 0 = o := rfl
theorem get_s (o : Option D) (ρ : Env) (j : Nat) : get (o :: ρ) (j + 1) = get ρ j := rfl
section
set_option autoImplicit true
set_option relaxedAutoImplicit true
variable {Γ : Fns} {N : Nat} {ρ : Env} {w : Option D}
theorem ec0  : ev Γ (.var j) (w :: ρ) = (get (w :: ρ) j).bind fun _ => some (.ref j, (w :: ρ)) := by first | (simp only [ev]; done) | (simp only [ev]; rfl) | rfl
theorem ec1  : ev Γ (.mov j) (w :: ρ) = (get (w :: ρ) j).bind fun d => some (.val d, (w :: ρ).set j none) := by first | (simp only [ev]; done) | (simp only [ev]; rfl) | rfl
theorem ec2  : ev Γ (.pre j ns e) (w :: ρ) = (frzAt (w :: ρ) j ns).bind fun ρ' => ev Γ e ρ' := by first | (simp only [ev]; done) | (simp only [ev]; rfl) | rfl
theorem ec3  : ev Γ (.frzE e) (w :: ρ) = (ev Γ e (w :: ρ)).bind fun r => match r.1 with
    | .val d => if d.noBor = true then some (.val d.frz, r.2) else none
    | .ref _ => none := by first | (simp only [ev]; done) | (simp only [ev]; rfl) | rfl
theorem ec4  : ev Γ (.cst d) (w :: ρ) = if d.atom = true then some (.val d, (w :: ρ)) else none := by first | (simp only [ev]; done) | (simp only [ev]; rfl) | rfl
theorem ec5  : ev Γ (.tup es) (w :: ρ) = (evs Γ es (w :: ρ)).bind fun r => (takes r.2 r.1).bind fun ds => if ds.length ≤ sizeLine ∧ noBors ds = true then some (.val (.tup (frzs ds)), r.2) else none := by first | (simp only [ev]; done) | (simp only [ev]; rfl) | rfl
theorem ec6  : ev Γ (.lst es) (w :: ρ) = (evs Γ es (w :: ρ)).bind fun r => (takes r.2 r.1).bind fun ds => if ds.length ≤ sizeLine then some (.val (.lst .own ds), r.2) else none := by first | (simp only [ev]; done) | (simp only [ev]; rfl) | rfl
theorem ec7  : ev Γ (.dct es) (w :: ρ) = (evs Γ es (w :: ρ)).bind fun r => (takes r.2 r.1).bind fun ds => (pairUp ds).bind fun ks => if ks.length ≤ 15 ∧ (ks.map (·.1)).Nodup then some (.val (.dct .own ks), r.2) else none := by first | (simp only [ev]; done) | (simp only [ev]; rfl) | rfl
theorem ec8  : ev Γ (.op o es) (w :: ρ) = (evs Γ es (w :: ρ)).bind fun r => (views r.2 r.1).bind fun ds => (opS o ds).bind fun d => some (.val d, r.2) := by first | (simp only [ev]; done) | (simp only [ev]; rfl) | rfl
theorem ec9  : ev Γ (.opF o j n es) (w :: ρ) = (nodeAt (w :: ρ) j [.f n]).bind fun _ => (evs Γ es (w :: ρ)).bind fun r => if tchs es j = false then (nodeAt r.2 j [.f n]).bind fun x => (views r.2 r.1).bind fun ds => (opS o (x :: ds)).bind fun d => some (.val d, r.2) else none := by first | (simp only [ev]; done) | (simp only [ev]; rfl) | rfl
theorem ec10  : ev Γ (.fld e n) (w :: ρ) = (ev Γ e (w :: ρ)).bind fun r => (r.1.view r.2).bind fun d => match d with
    | .ins _ _ fs => (valA fs (.inr n)).bind fun x => if x.noOwn = true then some (.val x, r.2) else none
    | _ => none := by first | (simp only [ev]; done) | (simp only [ev]; rfl) | rfl
theorem ec11  : ev Γ (.and a b) (w :: ρ) = ((ev Γ a (w :: ρ)).bind asB).bind fun q => if q.1 = true then ev Γ b q.2 else some (.val (.bl false), q.2) := by first | (simp only [ev]; done) | (simp only [ev]; rfl) | rfl
theorem ec12  : ev Γ (.or a b) (w :: ρ) = ((ev Γ a (w :: ρ)).bind asB).bind fun q => if q.1 = true then some (.val (.bl true), q.2) else ev Γ b q.2 := by first | (simp only [ev]; done) | (simp only [ev]; rfl) | rfl
theorem ec13  : ev Γ (.not a) (w :: ρ) = ((ev Γ a (w :: ρ)).bind asB).bind fun q => some (.val (.bl (!q.1)), q.2) := by first | (simp only [ev]; done) | (simp only [ev]; rfl) | rfl
theorem ec14  : ev Γ (.ife c a b) (w :: ρ) = ((ev Γ c (w :: ρ)).bind asB).bind fun q => if q.1 = true then ev Γ a q.2 else ev Γ b q.2 := by first | (simp only [ev]; done) | (simp only [ev]; rfl) | rfl
theorem ec15  : ev Γ (.chain o o' a b c) (w :: ρ) = (ev Γ a (w :: ρ)).bind fun ra => (ra.1.view ra.2).bind fun x => (ev Γ b ra.2).bind fun rb => (rb.1.view rb.2).bind fun y =>
    if (x.atom && y.atom) = true then (opS o [x, y]).bind fun z => match z with
      | .bl true => (ev Γ c rb.2).bind fun rc => (rc.1.view rc.2).bind fun w => (opS o' [y, w]).bind fun z => some (.val z, rc.2)
      | .bl false => some (.val (.bl false), rb.2)
      | _ => none
    else none := by first | (simp only [ev]; done) | (simp only [ev]; rfl) | rfl
theorem ec16  : ev Γ (.call g es) (w :: ρ) = (evs Γ es (w :: ρ)).bind fun r => (args r.2 r.1).bind fun ds => (Γ g ds).bind fun q => match q.2 with
    | none => some (.val q.1, r.2)
    | some _ => none := by first | (simp only [ev]; done) | (simp only [ev]; rfl) | rfl
theorem ec17  : ev Γ (.callio g j es) (w :: ρ) = (get (w :: ρ) j).bind fun _ => (evs Γ es (w :: ρ)).bind fun r => if noRef j r.1 = true then (args r.2 r.1).bind fun ds => (get r.2 j).bind fun d => (Γ g (d :: ds)).bind fun q => match q.2 with
    | none => none
    | some d' => some (.val q.1, r.2.set j (some d'))
    else none := by first | (simp only [ev]; done) | (simp only [ev]; rfl) | rfl
theorem ec18  : ev Γ (.mk c g es) (w :: ρ) = (evs Γ es (w :: ρ)).bind fun r => (args r.2 r.1).bind fun ds => (Γ g (.ins .own c [] :: ds)).bind fun q => match q.1, q.2 with
    | .non, some d => some (.val d, r.2)
    | _, _ => none := by first | (simp only [ev]; done) | (simp only [ev]; rfl) | rfl
theorem ec19  : ev Γ (.meth c m g o es) (w :: ρ) = (ev Γ o (w :: ρ)).bind fun r0 => (r0.1.view r0.2).bind fun d0 => if isIns c m d0 = true then (evs Γ es r0.2).bind fun r => (args r.2 (r0.1 :: r.1)).bind fun ds => (Γ g ds).bind fun q => match q.2 with
    | none => some (.val q.1, r.2)
    | some _ => none
    else none := by first | (simp only [ev]; done) | (simp only [ev]; rfl) | rfl
theorem ec20  : ev Γ (.eqO c g a b) (w :: ρ) = (ev Γ a (w :: ρ)).bind fun r0 => (ev Γ b r0.2).bind fun r => (views r.2 [r0.1, r.1]).bind fun vs => if okEq c vs = true then (args r.2 [r0.1, r.1]).bind fun ds => (Γ g ds).bind fun q => match q.2 with
    | none => some (.val q.1, r.2)
    | some _ => none
    else none := by first | (simp only [ev]; done) | (simp only [ev]; rfl) | rfl
theorem ec21  : ev Γ (.pop j) (w :: ρ) = (get (w :: ρ) j).bind fun d => match d with
    | .lst .own ds => (ds.getLast?).bind fun x => if x.noOwn = true then some (.val x, (w :: ρ).set j (some (.lst .own ds.dropLast))) else none
    | _ => none := by first | (simp only [ev]; done) | (simp only [ev]; rfl) | rfl
theorem ec22  : ev Γ (.popK j k) (w :: ρ) = (get (w :: ρ) j).bind fun d0 => if d0.isK = false then none else (ev Γ k (w :: ρ)).bind fun q => ((q.1.view q.2).bind D.key).bind fun kk => if k.tch j = false then (get q.2 j).bind fun d => match d with
    | .dct .own ks => (valA ks kk).bind fun x => if x.noOwn = true then some (.val x, q.2.set j (some (.dct .own (dropA ks kk)))) else none
    | _ => none
    else none := by first | (simp only [ev]; done) | (simp only [ev]; rfl) | rfl
theorem ec23  : ev Γ (.comp js ik ies c e) (w :: ρ) = (evs Γ ies (w :: ρ)).bind fun r => (views r.2 r.1).bind fun ds => (iterS ik ds).bind fun els =>
    if (okIt r.2 (fun i => tchO c i || e.tch i || js.contains i) r.1 && freeAt r.2 js) = true then
      (compLoop js (fun s_ => (evO Γ c s_)) (fun s_ => (ev Γ e s_).bind asD) els r.2).bind fun z =>
        if z.1.length ≤ 1000000 then some (.val (.lst .own z.1), backE z.2 r.2 js) else none
    else none := by first | (simp only [ev]; done) | (simp only [ev]; rfl) | rfl
theorem ec24  : ev Γ (.dcomp js ik ies c k e) (w :: ρ) = (evs Γ ies (w :: ρ)).bind fun r => (views r.2 r.1).bind fun ds => (iterS ik ds).bind fun els =>
    if (okIt r.2 (fun i => tchO c i || k.tch i || e.tch i || js.contains i) r.1 && freeAt r.2 js) = true then
      (dcompLoop js (fun s_ => (evO Γ c s_)) (fun s_ => (ev Γ k s_).bind asK) (fun s_ => (ev Γ e s_).bind asD) els r.2 []).bind fun z =>
        if els.length ≤ 1000000 then some (.val (.dct .own z.1), backE z.2 r.2 js) else none
    else none := by first | (simp only [ev]; done) | (simp only [ev]; rfl) | rfl
theorem ec25  : evs Γ ([]) (w :: ρ) = some ([], (w :: ρ)) := by first | (simp only [evs]; done) | (simp only [evs]; rfl) | rfl
theorem ec26  : evs Γ (e :: es) (w :: ρ) = (ev Γ e (w :: ρ)).bind fun r => (evs Γ es r.2).bind fun q => some (r.1 :: q.1, q.2) := by first | (simp only [evs]; done) | (simp only [evs]; rfl) | rfl
theorem ec27  : evO Γ (none) (w :: ρ) = some (true, (w :: ρ)) := by first | (simp only [evO]; done) | (simp only [evO]; rfl) | rfl
theorem ec28  : evO Γ (some e) (w :: ρ) = (ev Γ e (w :: ρ)).bind asB := by first | (simp only [evO]; done) | (simp only [evO]; rfl) | rfl
theorem ec29  : exec N Γ (.asg j e) (w :: ρ) = (ev Γ e (w :: ρ)).bind fun r => (r.1.take r.2).bind fun d => if j < r.2.length then some (r.2.set j (some d), .nx) else none := by first | (simp only [exec]; done) | (simp only [exec]; rfl) | rfl
theorem ec30  : exec N Γ (.asgt js e) (w :: ρ) = (ev Γ e (w :: ρ)).bind fun r => (r.1.view r.2).bind fun d => match d with
    | .tup ds => (setAt js ds r.2).bind fun ρ' => some (ρ', .nx)
    | _ => none := by first | (simp only [exec]; done) | (simp only [exec]; rfl) | rfl
theorem ec31  : exec N Γ (.app p e) (w :: ρ) = (evL Γ p (w :: ρ)).bind fun r => (ev Γ e r.2).bind fun q => (q.1.take q.2).bind fun x =>
    if (p.safe && !e.tch p.root) = true then (atP q.2 p.root r.1 fun n => nodeApp n x).bind fun ρ' => some (ρ', .nx) else none := by first | (simp only [exec]; done) | (simp only [exec]; rfl) | rfl
theorem ec32  : exec N Γ (.setK p k e) (w :: ρ) = (ev Γ e (w :: ρ)).bind fun q => (evN Γ p q.2).bind fun r => (ev Γ k r.2).bind fun kk => (q.1.take kk.2).bind fun x => ((kk.1.view kk.2).bind D.key).bind fun key =>
    if (p.safe && !k.tch p.root) = true then (atP kk.2 p.root r.1 fun n => nodeSetK n key x).bind fun ρ' => some (ρ', .nx) else none := by first | (simp only [exec]; done) | (simp only [exec]; rfl) | rfl
theorem ec33  : exec N Γ (.setL p k e) (w :: ρ) = (ev Γ e (w :: ρ)).bind fun q => (evN Γ p q.2).bind fun r => (ev Γ k r.2).bind fun kk => (q.1.take kk.2).bind fun x => (kk.1.view kk.2).bind fun kd =>
    if (p.safe && !k.tch p.root) = true then (match kd with | .int i => (atP kk.2 p.root r.1 fun n => nodeSetL n i x).bind fun ρ' => some (ρ', .nx) | _ => none) else none := by first | (simp only [exec]; done) | (simp only [exec]; rfl) | rfl
theorem ec34  : exec N Γ (.setF p f e) (w :: ρ) = (ev Γ e (w :: ρ)).bind fun q => (evN Γ p q.2).bind fun r => (q.1.take r.2).bind fun x =>
    if p.safe = true then (atP r.2 p.root r.1 fun n => nodeFld n f x).bind fun ρ' => some (ρ', .nx) else none := by first | (simp only [exec]; done) | (simp only [exec]; rfl) | rfl
theorem ec35  : exec N Γ (.ext p e) (w :: ρ) = (evL Γ p (w :: ρ)).bind fun r => (ev Γ e r.2).bind fun q => (q.1.view q.2).bind fun x =>
    if (p.safe && !e.tch p.root) = true then (atP q.2 p.root r.1 fun n => nodeExt n x).bind fun ρ' => some (ρ', .nx) else none := by first | (simp only [exec]; done) | (simp only [exec]; rfl) | rfl
theorem ec36  : exec N Γ (.clrL p) (w :: ρ) = (evL Γ p (w :: ρ)).bind fun r => if p.safe = true then (atP r.2 p.root r.1 nodeClr).bind fun ρ' => some (ρ', .nx) else none := by first | (simp only [exec]; done) | (simp only [exec]; rfl) | rfl
theorem ec37  : exec N Γ (.clrK p) (w :: ρ) = (evK Γ p (w :: ρ)).bind fun r => if p.safe = true then (atP r.2 p.root r.1 nodeClrK).bind fun ρ' => some (ρ', .nx) else none := by first | (simp only [exec]; done) | (simp only [exec]; rfl) | rfl
theorem ec38  : exec N Γ (.revL p) (w :: ρ) = (evL Γ p (w :: ρ)).bind fun r => if p.safe = true then (atP r.2 p.root r.1 nodeRev).bind fun ρ' => some (ρ', .nx) else none := by first | (simp only [exec]; done) | (simp only [exec]; rfl) | rfl
theorem ec39  : exec N Γ (.expr e) (w :: ρ) = (ev Γ e (w :: ρ)).bind fun r => some (r.2, .nx) := by first | (simp only [exec]; done) | (simp only [exec]; rfl) | rfl
theorem ec40 {a b : List PS} : exec N Γ (.ife c a b) (w :: ρ) = ((ev Γ c (w :: ρ)).bind asB).bind fun q => if q.1 = true then execs N Γ a q.2 else execs N Γ b q.2 := by first | (simp only [exec]; done) | (simp only [exec]; rfl) | rfl
theorem ec41 {b : List PS} : exec N Γ (.whl c b) (w :: ρ) = whileL (fun s_ => (ev Γ c s_).bind asB) (fun s_ => execs N Γ b s_) N (w :: ρ) := by first | (simp only [exec]; done) | (simp only [exec]; rfl) | rfl
theorem ec42 {b : List PS} : exec N Γ (.for_ js ik ies b) (w :: ρ) = (evs Γ ies (w :: ρ)).bind fun r => (views r.2 r.1).bind fun ds => (iterS ik ds).bind fun els =>
    if okIt r.2 (fun i => tchS b i || js.contains i) r.1 = true then forL js (fun s_ => execs N Γ b s_) els r.2 else none := by first | (simp only [exec]; done) | (simp only [exec]; rfl) | rfl
theorem ec43  : exec N Γ (.ret e) (w :: ρ) = (ev Γ e (w :: ρ)).bind fun r => (r.1.take r.2).bind fun d => some (r.2, .rt d) := by first | (simp only [exec]; done) | (simp only [exec]; rfl) | rfl
theorem ec44  : exec N Γ (.retN) (w :: ρ) = some ((w :: ρ), .rt .non) := by first | (simp only [exec]; done) | (simp only [exec]; rfl) | rfl
theorem ec45  : exec N Γ (.pass) (w :: ρ) = some ((w :: ρ), .nx) := by first | (simp only [exec]; done) | (simp only [exec]; rfl) | rfl
theorem ec46  : exec N Γ (.brk) (w :: ρ) = some ((w :: ρ), .bk) := by first | (simp only [exec]; done) | (simp only [exec]; rfl) | rfl
theorem ec47  : exec N Γ (.cnt) (w :: ρ) = some ((w :: ρ), .ct) := by first | (simp only [exec]; done) | (simp only [exec]; rfl) | rfl
theorem ec48  : exec N Γ (.pre j ns s) (w :: ρ) = (frzAt (w :: ρ) j ns).bind fun ρ' => exec N Γ s ρ' := by first | (simp only [exec]; done) | (simp only [exec]; rfl) | rfl
theorem ec49 {j k : Nat} : exec N Γ (.par j k a b) (w :: ρ) = (evs Γ [a, b] (w :: ρ)).bind fun r => (takes r.2 r.1).bind fun ds => match ds with
    | [x, y] => if j < r.2.length ∧ k < r.2.length ∧ j ≠ k then some ((r.2.set j (some x)).set k (some y), .nx) else none
    | _ => none := by first | (simp only [exec]; done) | (simp only [exec]; rfl) | rfl
theorem ec50  : exec N Γ (.never) (w :: ρ) = none := by first | (simp only [exec]; done) | (simp only [exec]; rfl) | rfl
theorem ec51  : execs N Γ ([]) (w :: ρ) = some ((w :: ρ), .nx) := by first | (simp only [execs]; done) | (simp only [execs]; rfl) | rfl
theorem ec52 {p : PS} : execs N Γ (p :: r) (w :: ρ) = (exec N Γ p (w :: ρ)).bind fun q => match q.2 with
    | .nx => execs N Γ r q.1
    | f => some (q.1, f) := by first | (simp only [execs]; done) | (simp only [execs]; rfl) | rfl
theorem ec53  : evP Γ (.slot j) (w :: ρ) = (get (w :: ρ) j).bind fun _ => some ([], (w :: ρ)) := by first | (simp only [evP]; done) | (simp only [evP]; rfl) | rfl
theorem ec54  : evP Γ (.fld p n) (w :: ρ) = (evP Γ p (w :: ρ)).bind fun r => some (r.1 ++ [Sk.f n], r.2) := by first | (simp only [evP]; done) | (simp only [evP]; rfl) | rfl
theorem ec55  : evP Γ (.key p e) (w :: ρ) = (evP Γ p (w :: ρ)).bind fun r => (nodeAt r.2 p.root r.1).bind fun _ => (ev Γ e r.2).bind fun q => ((q.1.view q.2).bind D.key).bind fun k => some (r.1 ++ [Sk.k k], q.2) := by first | (simp only [evP]; done) | (simp only [evP]; rfl) | rfl
end
section
variable {b : Bool} {i : Int} {s : PySem.Str} {ns : List Int} {ds : List D} {ks : List (L2.Key × D)} {c : Nat}
theorem no_non : D.noOwn .non = true := rfl
theorem nb_non : D.noBor .non = true := rfl
theorem bo_non : D.bor .non = .non := rfl
theorem no_bl : D.noOwn (.bl b) = true := rfl
theorem nb_bl : D.noBor (.bl b) = true := rfl
theorem bo_bl : D.bor (.bl b) = (.bl b) := rfl
theorem no_int : D.noOwn (.int i) = true := rfl
theorem nb_int : D.noBor (.int i) = true := rfl
theorem bo_int : D.bor (.int i) = (.int i) := rfl
theorem no_str : D.noOwn (.str s) = true := rfl
theorem nb_str : D.noBor (.str s) = true := rfl
theorem bo_str : D.bor (.str s) = (.str s) := rfl
theorem no_scr : D.noOwn (.scr ns) = true := rfl
theorem nb_scr : D.noBor (.scr ns) = false := rfl
theorem bo_scr : D.bor (.scr ns) = (.scr ns) := rfl
theorem no_tup : D.noOwn (.tup ds) = true := rfl
theorem nb_tup : D.noBor (.tup ds) = true := rfl
theorem bo_tup : D.bor (.tup ds) = (.tup ds) := rfl
theorem no_lst_own : D.noOwn (.lst .own ds) = false := rfl
theorem nb_lst_own : D.noBor (.lst .own ds) = noBors ds := rfl
theorem bo_lst_own : D.bor (.lst .own ds) = .lst .bor (bors ds) := rfl
theorem no_lst_frz : D.noOwn (.lst .frz ds) = true := rfl
theorem nb_lst_frz : D.noBor (.lst .frz ds) = true := rfl
theorem bo_lst_frz : D.bor (.lst .frz ds) = (.lst .frz ds) := rfl
theorem no_lst_bor : D.noOwn (.lst .bor ds) = true := rfl
theorem nb_lst_bor : D.noBor (.lst .bor ds) = false := rfl
theorem bo_lst_bor : D.bor (.lst .bor ds) = (.lst .bor ds) := rfl
theorem no_dct_own : D.noOwn (.dct .own ks) = false := rfl
theorem nb_dct_own : D.noBor (.dct .own ks) = noBork ks := rfl
theorem bo_dct_own : D.bor (.dct .own ks) = .dct .bor (bork ks) := rfl
theorem no_dct_frz : D.noOwn (.dct .frz ks) = true := rfl
theorem nb_dct_frz : D.noBor (.dct .frz ks) = true := rfl
theorem bo_dct_frz : D.bor (.dct .frz ks) = (.dct .frz ks) := rfl
theorem no_dct_bor : D.noOwn (.dct .bor ks) = true := rfl
theorem nb_dct_bor : D.noBor (.dct .bor ks) = false := rfl
theorem bo_dct_bor : D.bor (.dct .bor ks) = (.dct .bor ks) := rfl
theorem no_ins_own : D.noOwn (.ins .own c ks) = false := rfl
theorem nb_ins_own : D.noBor (.ins .own c ks) = noBork ks := rfl
theorem bo_ins_own : D.bor (.ins .own c ks) = .ins .bor c (bork ks) := rfl
theorem no_ins_frz : D.noOwn (.ins .frz c ks) = true := rfl
theorem nb_ins_frz : D.noBor (.ins .frz c ks) = true := rfl
theorem bo_ins_frz : D.bor (.ins .frz c ks) = (.ins .frz c ks) := rfl
theorem no_ins_bor : D.noOwn (.ins .bor c ks) = true := rfl
theorem nb_ins_bor : D.noBor (.ins .bor c ks) = false := rfl
theorem bo_ins_bor : D.bor (.ins .bor c ks) = (.ins .bor c ks) := rfl
end
section
variable {Γ : Fns} {N : Nat}
theorem forL_inv {js : List Nat} {b : Env → Option (Env × Flw)} {els : List (List D)} {ρ : Env} (P : List (List D) → Env → Prop) (h0 : P [] ρ)
    (hs : ∀ pre xs suf ρ, els = pre ++ xs :: suf → P pre ρ → ∃ ρ1 ρ2, setAt js xs ρ = some ρ1 ∧ (b ρ1 = some (ρ2, .nx) ∨ b ρ1 = some (ρ2, .ct)) ∧ P (pre ++ [xs]) ρ2) : ∃ ρ', forL js b els ρ = some (ρ', .nx) ∧ P els ρ' := by
  have go : ∀ (suf pre : List (List D)) (ρ : Env), els = pre ++ suf → P pre ρ → ∃ ρ', forL js b suf ρ = some (ρ', .nx) ∧ P els ρ' := by
    intro suf
    induction suf with
    | nil =>
      intro pre ρ e p
      rw [List.append_nil] at e
      exact ⟨ρ, rfl, e ▸ p⟩
    | cons x suf ih =>
      intro pre ρ e p
      obtain ⟨ρ1, ρ2, h1, h2, h3⟩ := hs pre x suf ρ e p
      obtain ⟨ρ', h4, h5⟩ := ih (pre ++ [x]) ρ2 (by rw [e]; simp) h3
      refine ⟨ρ', ?_, h5⟩
      rcases h2 with h2 | h2 <;> simp only [forL, h1, Option.bind_some, h2, h4]
  exact go els [] ρ rfl h0
theorem whileL_inv {c : Env → Option (Bool × Env)} {b : Env → Option (Env × Flw)} (P : Nat → Env → Prop) (Q : Env → Prop)
    (h : ∀ m ρ, P m ρ → (∃ ρ', c ρ = some (false, ρ') ∧ Q ρ') ∨ ∃ ρ1 ρ2 m', m' < m ∧ c ρ = some (true, ρ1) ∧ (b ρ1 = some (ρ2, .nx) ∨ b ρ1 = some (ρ2, .ct)) ∧ P m' ρ2) :
    ∀ (n m : Nat) (ρ : Env), P m ρ → m < n → ∃ ρ', whileL c b n ρ = some (ρ', .nx) ∧ Q ρ' := by
  intro n
  induction n with
  | zero => intro m ρ _ h; omega
  | succ n ih =>
    intro m ρ p hm
    rcases h m ρ p with ⟨ρ', h1, h2⟩ | ⟨ρ1, ρ2, m', h1, h2, h3, h4⟩
    · exact ⟨ρ', by simp only [whileL, h1, Option.bind_some, Bool.false_eq_true, if_false], h2⟩
    · obtain ⟨ρ', h5, h6⟩ := ih m' ρ2 h4 (by omega)
      refine ⟨ρ', ?_, h6⟩
      rcases h3 with h3 | h3 <;> simp only [whileL, h2, Option.bind_some, h3, if_true, h5]
theorem compLoop_run {js : List Nat} {c : Env → Option (Bool × Env)} {e : Env → Option (D × Env)} {ρ : Env} (st : List D → Env) (tst : List D → Bool) (val : List D → D) :
    ∀ (els : List (List D)) (ρ0 : Env), wipeE ρ0 js = wipeE ρ js → (∀ xs ∈ els, setAt js xs (wipeE ρ js) = some (st xs) ∧ wipeE (st xs) js = wipeE ρ js ∧ c (st xs) = some (tst xs, st xs) ∧ (tst xs = true → e (st xs) = some (val xs, st xs))) →
      ∃ ρ', compLoop js c e els ρ0 = some ((els.filter tst).map val, ρ') ∧ wipeE ρ' js = wipeE ρ js
  | [], ρ0, h0, _ => ⟨ρ0, rfl, h0⟩
  | x :: els, ρ0, h0, h => by
    obtain ⟨h1, h2, h3, h4⟩ := h x List.mem_cons_self
    obtain ⟨ρ', h5, h6⟩ := compLoop_run st tst val els (st x) h2 fun xs hx => h xs (List.mem_cons_of_mem _ hx)
    refine ⟨ρ', ?_, h6⟩
    cases hb : tst x with
    | true => simp only [compLoop, h0, h1, Option.bind_some, h3, hb, if_true, h4 hb, h5, List.filter_cons, List.map_cons]
    | false => simp only [compLoop, h0, h1, Option.bind_some, h3, hb, Bool.false_eq_true, if_false, h5, List.filter_cons]
theorem backE_of_wipe {ρ ρ' : Env} {js : List Nat} (h : wipeE ρ' js = wipeE ρ js) (hl : ρ'.length = ρ.length) : backE ρ' ρ js = ρ := by
  refine List.ext_getElem? fun i => ?_
  rw [backE_get]
  have q := congrArg (fun l => l[i]?) h
  simp only [wipeE_get] at q
  by_cases hi : i ∈ js
  · rw [if_pos hi]
    by_cases hlt : i < ρ.length
    · have h1 : i < ρ'.length := by omega
      rw [List.getElem?_eq_getElem h1, List.getElem?_eq_getElem hlt]
      show some (get ρ i) = _
      unfold get
      rw [List.getElem?_eq_getElem hlt]
      rfl
    · rw [List.getElem?_eq_none (by omega), List.getElem?_eq_none (by omega)]; rfl
  · rw [if_neg hi] at q ⊢
    rw [if_neg hi] at q
    exact q
theorem wipeE_length (ρ : Env) : ∀ js : List Nat, (wipeE ρ js).length = ρ.length
  | [] => rfl
  | j :: js => by simp only [wipeE, List.length_set, wipeE_length ρ js]
theorem map_one (tst : D → Bool) (val : D → D) : ∀ xs : List D, ((xs.map fun x => [x]).filter (fun xs => match xs with | [x] => tst x | _ => false)).map (fun xs => match xs with | [x] => val x | _ => D.non) = (xs.filter tst).map val
  | [] => rfl
  | x :: xs => by
    have ih := map_one tst val xs
    rw [List.map_cons, List.filter_cons, List.filter_cons]
    by_cases hb : tst x = true
    · rw [if_pos hb]
      show _ = List.map val (if tst x = true then _ else _)
      rw [if_pos hb, List.map_cons, List.map_cons, ih]
    · rw [if_neg hb]
      show _ = List.map val (if tst x = true then _ else _)
      rw [if_neg hb, ih]
/-- [e for x in xs if c], one name -/
theorem compLoop1 {j : Nat} {c : Env → Option (Bool × Env)} {e : Env → Option (D × Env)} {ρ : Env} (hj : j < ρ.length) (tst : D → Bool) (val : D → D) (xs : List D)
    (hc : ∀ x ∈ xs, c (ρ.set j (some x)) = some (tst x, ρ.set j (some x))) (he : ∀ x ∈ xs, tst x = true → e (ρ.set j (some x)) = some (val x, ρ.set j (some x))) :
    ∃ ρ', compLoop [j] c e (xs.map fun x => [x]) ρ = some ((xs.filter tst).map val, ρ') ∧ backE ρ' ρ [j] = ρ := by
  obtain ⟨ρ', h1, h2⟩ := compLoop_run (js := [j]) (c := c) (e := e) (ρ := ρ) (fun xs => match xs with | [x] => ρ.set j (some x) | _ => ρ) (fun xs => match xs with | [x] => tst x | _ => false) (fun xs => match xs with | [x] => val x | _ => .non) (xs.map fun x => [x]) ρ rfl (by
    intro ys hy
    obtain ⟨x, hx, rfl⟩ := List.mem_map.mp hy
    refine ⟨?_, ?_, hc x hx, he x hx⟩
    · simp only [setAt, wipeE, List.length_set, if_pos hj, List.set_set]
    · simp only [wipeE, List.set_set])
  refine ⟨ρ', ?_, backE_of_wipe h2 ?_⟩
  · rw [h1]
    rw [map_one tst val xs]
  · have := congrArg List.length h2
    rw [wipeE_length, wipeE_length] at this
    exact this
/-- a comprehension whose parts change nothing -/
theorem ev_comp {α : Type} {js : List Nat} {ik : IK} {ies : List PX} {c : Option PX} {e : PX} {ρ ρ2 : Env} {rvs : List Rv} {ds : List D} (xs : List α) (f : α → List D) (E : α → Env) (tst : α → Bool) (val : α → D)
    (h1 : evs Γ ies ρ = some (rvs, ρ2)) (h2 : views ρ2 rvs = some ds) (h3 : iterS ik ds = some (xs.map f)) (h4 : okIt ρ2 (fun i => tchO c i || e.tch i || js.contains i) rvs = true) (h5 : freeAt ρ2 js = true)
    (hE : ∀ x ∈ xs, setAt js (f x) (wipeE ρ2 js) = some (E x) ∧ wipeE (E x) js = wipeE ρ2 js) (hc : ∀ x ∈ xs, evO Γ c (E x) = some (tst x, E x)) (he : ∀ x ∈ xs, tst x = true → (ev Γ e (E x)).bind asD = some (val x, E x)) (hl : xs.length ≤ 1000000) :
    ev Γ (.comp js ik ies c e) ρ = some (.val (.lst .own ((xs.filter tst).map val)), ρ2) := by
  have go : ∀ (ys : List α) (ρ0 : Env), (∀ y ∈ ys, y ∈ xs) → wipeE ρ0 js = wipeE ρ2 js → ∃ ρ', compLoop js (fun ρ => evO Γ c ρ) (fun ρ => (ev Γ e ρ).bind asD) (ys.map f) ρ0 = some ((ys.filter tst).map val, ρ') ∧ wipeE ρ' js = wipeE ρ2 js := by
    intro ys
    induction ys with
    | nil => intro ρ0 _ h0; exact ⟨ρ0, rfl, h0⟩
    | cons y ys ih =>
      intro ρ0 hs h0
      have hy := hs y List.mem_cons_self
      obtain ⟨ρ', q1, q2⟩ := ih (E y) (fun z hz => hs z (List.mem_cons_of_mem _ hz)) (hE y hy).2
      refine ⟨ρ', ?_, q2⟩
      cases hb : tst y with
      | true => simp only [List.map_cons, compLoop, h0, (hE y hy).1, Option.bind_some, hc y hy, hb, if_true, he y hy hb, q1, List.filter_cons]
      | false => simp only [List.map_cons, compLoop, h0, (hE y hy).1, Option.bind_some, hc y hy, hb, Bool.false_eq_true, if_false, q1, List.filter_cons]
  obtain ⟨ρ', q1, q2⟩ := go xs ρ2 (fun _ h => h) rfl
  have hlen : ρ'.length = ρ2.length := by
    have := congrArg List.length q2
    rw [wipeE_length, wipeE_length] at this
    exact this
  have hl2 : ((xs.filter tst).map val).length ≤ 1000000 := by
    rw [List.length_map]
    exact Nat.le_trans (List.length_filter_le _ _) hl
  simp only [ev, h1, h2, h3, Option.bind_some, h4, h5, Bool.and_self, if_true, q1, hl2, backE_of_wipe q2 hlen]
theorem ev_comp1 {j : Nat} {ik : IK} {ies : List PX} {c : Option PX} {e : PX} {ρ ρ2 : Env} {rvs : List Rv} {ds : List D} (xs : List D) (tst : D → Bool) (val : D → D)
    (h1 : evs Γ ies ρ = some (rvs, ρ2)) (h2 : views ρ2 rvs = some ds) (h3 : iterS ik ds = some (xs.map fun x => [x])) (h4 : okIt ρ2 (fun i => tchO c i || e.tch i || [j].contains i) rvs = true) (h5 : freeAt ρ2 [j] = true) (hj : j < ρ2.length)
    (hc : ∀ x ∈ xs, evO Γ c (ρ2.set j (some x)) = some (tst x, ρ2.set j (some x))) (he : ∀ x ∈ xs, tst x = true → (ev Γ e (ρ2.set j (some x))).bind asD = some (val x, ρ2.set j (some x))) (hl : xs.length ≤ 1000000) :
    ev Γ (.comp [j] ik ies c e) ρ = some (.val (.lst .own ((xs.filter tst).map val)), ρ2) :=
  ev_comp xs (fun x => [x]) (fun x => ρ2.set j (some x)) tst val h1 h2 h3 h4 h5 (fun x _ => ⟨by simp only [setAt, wipeE, List.length_set, if_pos hj, List.set_set], by simp only [wipeE, List.set_set]⟩) hc he hl
theorem execs_nx {s : PS} {r : List PS} {ρ ρ1 : Env} (h : exec N Γ s ρ = some (ρ1, .nx)) : execs N Γ (s :: r) ρ = execs N Γ r ρ1 := by simp only [execs, h, Option.bind_some]
theorem execs_rt {s : PS} {r : List PS} {ρ ρ1 : Env} {d : D} (h : exec N Γ s ρ = some (ρ1, .rt d)) : execs N Γ (s :: r) ρ = some (ρ1, .rt d) := by simp only [execs, h, Option.bind_some]
theorem exec_ret {e : PX} {ρ ρ1 : Env} {d : D} (h : ev Γ e ρ = some (.val d, ρ1)) : exec N Γ (.ret e) ρ = some (ρ1, .rt d) := by simp only [exec, h, Option.bind_some, Rv.take]
theorem exec_asg {j : Nat} {e : PX} {ρ ρ1 : Env} {d : D} (h : ev Γ e ρ = some (.val d, ρ1)) (hj : j < ρ1.length) : exec N Γ (.asg j e) ρ = some (ρ1.set j (some d), .nx) := by simp only [exec, h, Option.bind_some, Rv.take, if_pos hj]
theorem runF_rt {b : List PS} {n : Nat} {io : Bool} {ds : List D} {ρ : Env} {d : D} (h : execs N Γ b (ds.map some ++ List.replicate (n - ds.length) none) = some (ρ, .rt d)) : runF N Γ b n io ds = finF io d ρ := by simp only [runF, h, Option.bind_some]
end
end Pv

set_option Elab.async false
set_option linter.all false
set_option maxRecDepth 100000
set_option maxHeartbeats 1000000
namespace Pv
open PySem L2

/-- what is known of a slot: nothing; nothing of its own; this -/
inductive Sl where
  | any
  | free
  | is (d : D)
abbrev Spec := List Sl
def Sl.ok : Sl → Option D → Prop
  | .any, _ => True
  | .free, o => ∀ d, o = some d → d.noOwn = true
  | .is d, o => o = some d
inductive Le : Spec → Env → Prop
  | nil : Le [] []
  | cons {s : Sl} {o : Option D} {σ : Spec} {ρ : Env} : s.ok o → Le σ ρ → Le (s :: σ) (o :: ρ)
theorem Le.len : ∀ {σ : Spec} {ρ : Env}, Le σ ρ → ρ.length = σ.length
  | _, _, .nil => rfl
  | _, _, .cons _ h => by rw [List.length_cons, List.length_cons, h.len]
theorem Le.at : ∀ {σ : Spec} {ρ : Env} {j : Nat} {s : Sl}, Le σ ρ → σ[j]? = some s → ∃ o, ρ[j]? = some o ∧ s.ok o
  | _, _, 0, _, .cons (o := o) h _, e => by
    simp only [List.getElem?_cons_zero, Option.some.injEq] at e
    subst e
    exact ⟨o, rfl, h⟩
  | _, _, j + 1, _, .cons _ h, e => by
    simp only [List.getElem?_cons_succ] at e ⊢
    exact h.at e
theorem Le.set : ∀ {σ : Spec} {ρ : Env} {j : Nat} {s : Sl} {o : Option D}, Le σ ρ → s.ok o → Le (σ.set j s) (ρ.set j o)
  | _, _, _, _, _, .nil, _ => .nil
  | _, _, 0, _, _, .cons _ h, k => .cons k h
  | _, _, j + 1, _, _, .cons h t, k => .cons h (t.set k)
theorem Le.of {σ : Spec} {ρ : Env} (hl : ρ.length = σ.length) (h : ∀ (j : Nat) (s : Sl), σ[j]? = some s → s.ok (Pv.get ρ j)) : Le σ ρ := by
  induction σ generalizing ρ with
  | nil => cases ρ with
    | nil => exact .nil
    | cons _ _ => cases hl
  | cons s σ ih =>
    cases ρ with
    | nil => cases hl
    | cons o ρ =>
      refine .cons ?_ (ih (by simpa using hl) fun j t e => ?_)
      · exact h 0 s (by rw [List.getElem?_cons_zero])
      · exact h (j + 1) t (by rw [List.getElem?_cons_succ]; exact e)
theorem Le.setI {σ : Spec} {ρ : Env} {j : Nat} {d : D} (l : Le σ ρ) : Le (σ.set j (.is d)) (ρ.set j (some d)) := l.set (s := .is d) (o := some d) rfl
theorem Le.setF {σ : Spec} {ρ : Env} {j : Nat} (l : Le σ ρ) : Le (σ.set j .free) (ρ.set j none) := l.set (s := .free) (o := none) fun _ e => nomatch e
def gS (σ : Spec) (j : Nat) : Option D := match σ[j]? with
  | some (.is d) => some d
  | _ => none
theorem gS_at {σ : Spec} {j : Nat} {d : D} (h : gS σ j = some d) : σ[j]? = some (.is d) := by
  unfold gS at h
  split at h
  · rename_i d' e
    cases h; exact e
  · cases h
theorem Le.get {σ : Spec} {ρ : Env} {j : Nat} {d : D} (l : Le σ ρ) (h : gS σ j = some d) : Pv.get ρ j = some d := by
  obtain ⟨o, h1, h2⟩ := l.at (gS_at h)
  unfold Pv.get
  rw [h1, show o = some d from h2]
  rfl
def vS (σ : Spec) : Rv → Option D
  | .val d => some d
  | .ref j => gS σ j
def tS (σ : Spec) : Rv → Option D
  | .val d => some d
  | .ref j => (gS σ j).bind fun d => if d.noOwn = true then some d else none
def vSs (σ : Spec) : List Rv → Option (List D)
  | [] => some []
  | r :: rs => (vS σ r).bind fun d => (vSs σ rs).bind fun ds => some (d :: ds)
def tSs (σ : Spec) : List Rv → Option (List D)
  | [] => some []
  | r :: rs => (tS σ r).bind fun d => (tSs σ rs).bind fun ds => some (d :: ds)
theorem Le.view {σ : Spec} {ρ : Env} {r : Rv} {d : D} (l : Le σ ρ) (h : vS σ r = some d) : r.view ρ = some d := by
  cases r with
  | val x => exact h
  | ref j => exact l.get h
theorem Le.take {σ : Spec} {ρ : Env} {r : Rv} {d : D} (l : Le σ ρ) (h : tS σ r = some d) : r.take ρ = some d := by
  cases r with
  | val x => exact h
  | ref j =>
    simp only [tS, Option.bind_eq_some_iff] at h
    obtain ⟨x, h1, h2⟩ := h
    simp only [Rv.take, l.get h1, Option.bind_some]
    exact h2
theorem Le.views {σ : Spec} {ρ : Env} (l : Le σ ρ) : ∀ {rs : List Rv} {ds : List D}, vSs σ rs = some ds → Pv.views ρ rs = some ds
  | [], _, h => h
  | r :: rs, _, h => by
    simp only [vSs, Option.bind_eq_some_iff] at h
    obtain ⟨d, h1, ds, h2, h3⟩ := h
    simp only [Pv.views, l.view h1, l.views h2, Option.bind_some]
    exact h3
theorem Le.takes {σ : Spec} {ρ : Env} (l : Le σ ρ) : ∀ {rs : List Rv} {ds : List D}, tSs σ rs = some ds → Pv.takes ρ rs = some ds
  | [], _, h => h
  | r :: rs, _, h => by
    simp only [tSs, Option.bind_eq_some_iff] at h
    obtain ⟨d, h1, ds, h2, h3⟩ := h
    simp only [Pv.takes, l.take h1, l.takes h2, Option.bind_some]
    exact h3

def Wn (σ σ' : Spec) : Prop := ∀ ρ, Le σ ρ → Le σ' ρ
theorem wk_refl (σ : Spec) : Wn σ σ := fun _ h => h
theorem wk_nil : Wn [] [] := fun _ h => h
theorem wk_same {s : Sl} {σ σ' : Spec} (h : Wn σ σ') : Wn (s :: σ) (s :: σ') := fun ρ l => by
  cases l with
  | cons a b => exact .cons a (h _ b)
theorem wk_any {s : Sl} {σ σ' : Spec} (h : Wn σ σ') : Wn (s :: σ) (.any :: σ') := fun ρ l => by
  cases l with
  | cons a b => exact .cons trivial (h _ b)
theorem wk_free {d : D} {σ σ' : Spec} (n : d.noOwn = true) (h : Wn σ σ') : Wn (.is d :: σ) (.free :: σ') := fun ρ l => by
  cases l with
  | cons a b => exact .cons (fun x e => by rw [show _ = some d from a] at e; cases e; exact n) (h _ b)
theorem wk_is {d d' : D} {σ σ' : Spec} (n : d = d') (h : Wn σ σ') : Wn (.is d :: σ) (.is d' :: σ') := by subst n; exact wk_same h
theorem wk_eq {σ σ1 σ' : Spec} (n : σ = σ1) (h : Wn σ1 σ') : Wn σ σ' := n ▸ h

def setS : List Nat → List D → Spec → Option Spec
  | [], [], σ => some σ
  | j :: js, d :: ds, σ => if j < σ.length then setS js ds (σ.set j (.is d)) else none
  | _, _, _ => none
theorem Le.setAt : ∀ {js : List Nat} {ds : List D} {σ σ' : Spec} {ρ : Env}, Le σ ρ → setS js ds σ = some σ' → ∃ ρ', Pv.setAt js ds ρ = some ρ' ∧ Le σ' ρ'
  | [], [], σ, σ', ρ, l, h => by simp only [setS, Option.some.injEq] at h; subst h; exact ⟨ρ, rfl, l⟩
  | [], _ :: _, _, _, _, _, h => by simp [setS] at h
  | _ :: _, [], _, _, _, _, h => by simp [setS] at h
  | j :: js, d :: ds, σ, σ', ρ, l, h => by
    simp only [setS] at h
    split at h
    · rename_i hj
      obtain ⟨ρ', h1, h2⟩ := Le.setAt (l.set (j := j) (s := .is d) (o := some d) rfl) h
      refine ⟨ρ', ?_, h2⟩
      simp only [Pv.setAt]
      rw [if_pos (by rw [l.len]; exact hj)]
      exact h1
    · cases h
def mapS (s : Sl) (js : List Nat) (σ : Spec) : Spec := js.foldr (fun j σ => σ.set j s) σ
def wipeS (σ : Spec) (js : List Nat) : Spec := mapS .free js σ
def anyS (σ : Spec) (js : List Nat) : Spec := mapS .any js σ
theorem mapS_get (s : Sl) (σ : Spec) (i : Nat) : ∀ js : List Nat, (mapS s js σ)[i]? = if i ∈ js then σ[i]?.map (fun _ => s) else σ[i]?
  | [] => by simp [mapS]
  | j :: js => by
    have ih := mapS_get s σ i js
    show ((mapS s js σ).set j s)[i]? = _
    rw [List.getElem?_set]
    by_cases e : j = i
    · subst e
      rw [if_pos rfl, if_pos List.mem_cons_self]
      have hl : (mapS s js σ).length = σ.length := by
        clear ih
        induction js with
        | nil => rfl
        | cons a js ih => show ((mapS s js σ).set a s).length = _; rw [List.length_set, ih]
      by_cases hj : j < σ.length
      · rw [if_pos (by rw [hl]; exact hj), List.getElem?_eq_getElem hj]; rfl
      · rw [if_neg (by rw [hl]; exact hj), List.getElem?_eq_none (by omega)]; rfl
    · rw [if_neg e, ih]
      by_cases hm : i ∈ js
      · rw [if_pos hm, if_pos (List.mem_cons_of_mem _ hm)]
      · rw [if_neg hm, if_neg (fun z => by rcases List.mem_cons.mp z with z | z; exact e z.symm; exact hm z)]
theorem mapS_len (s : Sl) (σ : Spec) : ∀ js : List Nat, (mapS s js σ).length = σ.length
  | [] => rfl
  | a :: js => by show ((mapS s js σ).set a s).length = _; rw [List.length_set, mapS_len s σ js]
theorem get_of {ρ : Env} {j : Nat} {o : Option D} (h : ρ[j]? = some o) : Pv.get ρ j = o := by unfold Pv.get; rw [h]; rfl
theorem get_wipe {ρ : Env} {js : List Nat} {i : Nat} : Pv.get (wipeE ρ js) i = if i ∈ js then none else Pv.get ρ i := by
  unfold Pv.get
  rw [wipeE_get]
  split
  · cases ρ[i]? <;> rfl
  · rfl
/-- names wiped -/
theorem Le.wipe {σ : Spec} {js : List Nat} {ρ : Env} (l : Le (anyS σ js) ρ) : Le (wipeS σ js) (wipeE ρ js) := by
  refine Le.of (by rw [wipeE_length, l.len]; unfold anyS wipeS; rw [mapS_len, mapS_len]) fun j s e => ?_
  rw [get_wipe]
  unfold wipeS at e
  rw [mapS_get] at e
  by_cases hj : j ∈ js
  · rw [if_pos hj] at e ⊢
    obtain ⟨_, _, rfl⟩ := Option.map_eq_some_iff.mp e
    intro d hd; cases hd
  · rw [if_neg hj] at e ⊢
    obtain ⟨o, h1, h2⟩ := l.at (j := j) (s := s) (by unfold anyS; rw [mapS_get, if_neg hj]; exact e)
    rw [get_of h1]; exact h2
/-- names put back -/
theorem Le.back {σ σ0 : Spec} {js : List Nat} {ρ ρ0 : Env} (l : Le (anyS σ js) ρ) (l0 : Le σ0 ρ0) (h : ∀ j ∈ js, σ[j]? = σ0[j]?) (hl : σ.length = σ0.length) : Le σ (backE ρ ρ0 js) := by
  have hlen : (backE ρ ρ0 js).length = ρ.length := by
    clear l l0 h hl
    induction js with
    | nil => rfl
    | cons a js ih => show ((backE ρ ρ0 js).set a _).length = _; rw [List.length_set, ih]
  refine Le.of (by rw [hlen, l.len]; unfold anyS; rw [mapS_len]) fun j s e => ?_
  unfold Pv.get
  rw [backE_get]
  by_cases hj : j ∈ js
  · rw [if_pos hj]
    rw [h j hj] at e
    obtain ⟨o, h1, h2⟩ := l0.at e
    have hjl : j < ρ.length := by
      have := l.len
      unfold anyS at this
      rw [mapS_len] at this
      rw [this, hl]
      exact (List.getElem?_eq_some_iff.mp e).1
    rw [List.getElem?_eq_getElem hjl]
    simp only [Option.map_some]
    unfold Pv.get
    rw [h1]
    exact h2
  · rw [if_neg hj]
    obtain ⟨o, h1, h2⟩ := l.at (j := j) (s := s) (by unfold anyS; rw [mapS_get, if_neg hj]; exact e)
    rw [h1]; exact h2
theorem Le.toAny {σ : Spec} {js : List Nat} {ρ : Env} (l : Le σ ρ) : Le (anyS σ js) ρ := by
  refine Le.of (by unfold anyS; rw [mapS_len]; exact l.len) fun j s e => ?_
  unfold anyS at e
  rw [mapS_get] at e
  by_cases hj : j ∈ js
  · rw [if_pos hj] at e
    obtain ⟨_, _, rfl⟩ := Option.map_eq_some_iff.mp e
    trivial
  · rw [if_neg hj] at e
    obtain ⟨o, h1, h2⟩ := l.at e
    rw [get_of h1]; exact h2
def freeS (σ : Spec) : List Nat → Bool
  | [] => true
  | j :: js => (match σ[j]? with
    | some .free => true
    | some (.is d) => d.noOwn
    | _ => false) && freeS σ js
theorem Le.freeAt {σ : Spec} {ρ : Env} (l : Le σ ρ) : ∀ {js : List Nat}, freeS σ js = true → Pv.freeAt ρ js = true
  | [], _ => rfl
  | j :: js, h => by
    simp only [freeS, Bool.and_eq_true] at h
    simp only [Pv.freeAt, Bool.and_eq_true]
    refine ⟨?_, l.freeAt h.2⟩
    have h1 := h.1
    split at h1
    · rename_i e
      obtain ⟨o, e1, e2⟩ := l.at e
      rw [get_of e1]
      cases o with
      | none => rfl
      | some d => exact e2 d rfl
    · rename_i d e
      obtain ⟨o, e1, e2⟩ := l.at e
      rw [get_of e1, show o = some d from e2]
      exact h1
    · cases h1
def okItS (σ : Spec) (T : Nat → Bool) : List Rv → Bool
  | [] => true
  | .val _ :: rs => okItS σ T rs
  | .ref j :: rs => (!T j || match gS σ j with | some d => d.noOwn | none => false) && okItS σ T rs
theorem Le.okIt {σ : Spec} {ρ : Env} {T : Nat → Bool} (l : Le σ ρ) : ∀ {rs : List Rv}, okItS σ T rs = true → Pv.okIt ρ T rs = true
  | [], _ => rfl
  | .val _ :: rs, h => by simp only [okItS] at h; simp only [Pv.okIt]; exact l.okIt h
  | .ref j :: rs, h => by
    simp only [okItS, Bool.and_eq_true, Bool.or_eq_true] at h
    simp only [Pv.okIt, Bool.and_eq_true, Bool.or_eq_true]
    refine ⟨?_, l.okIt h.2⟩
    rcases h.1 with h | h
    · exact .inl h
    · refine .inr ?_
      cases e : gS σ j with
      | none => rw [e] at h; cases h
      | some d => rw [e] at h; rw [l.get e]; exact h

section
variable {Γ : Fns}
def WE (Γ : Fns) (e : PX) (σ : Spec) (Q : Rv → Spec → Prop) : Prop := ∀ ρ, Le σ ρ → ∃ rv ρ' σ', ev Γ e ρ = some (rv, ρ') ∧ Le σ' ρ' ∧ Q rv σ'
def WEs (Γ : Fns) (es : List PX) (σ : Spec) (Q : List Rv → Spec → Prop) : Prop := ∀ ρ, Le σ ρ → ∃ rvs ρ' σ', evs Γ es ρ = some (rvs, ρ') ∧ Le σ' ρ' ∧ Q rvs σ'
variable {σ : Spec} {Q : Rv → Spec → Prop} {Qs : List Rv → Spec → Prop}
theorem ws_nil (h : Qs [] σ) : WEs Γ [] σ Qs := fun ρ l => ⟨[], ρ, σ, rfl, l, h⟩
theorem ws_cons {e : PX} {es : List PX} (h : WE Γ e σ fun r σ1 => WEs Γ es σ1 fun rs σ2 => Qs (r :: rs) σ2) : WEs Γ (e :: es) σ Qs := fun ρ l => by
  obtain ⟨r, ρ1, σ1, h1, l1, h2⟩ := h ρ l
  obtain ⟨rs, ρ2, σ2, h3, l2, h4⟩ := h2 ρ1 l1
  exact ⟨r :: rs, ρ2, σ2, by simp only [evs, h1, h3, Option.bind_some], l2, h4⟩
theorem e_var {j : Nat} {d : D} (h : gS σ j = some d) (q : Q (.ref j) σ) : WE Γ (.var j) σ Q := fun ρ l => ⟨.ref j, ρ, σ, by simp only [ev, l.get h, Option.bind_some], l, q⟩
theorem e_mov {j : Nat} {d : D} (h : gS σ j = some d) (q : Q (.val d) (σ.set j .free)) : WE Γ (.mov j) σ Q := fun ρ l => ⟨.val d, ρ.set j none, _, by simp only [ev, l.get h, Option.bind_some], l.setF, q⟩
theorem e_cst {d : D} (h : d.atom = true) (q : Q (.val d) σ) : WE Γ (.cst d) σ Q := fun ρ l => ⟨.val d, ρ, σ, by simp only [ev, h, if_true], l, q⟩
theorem e_pre {j : Nat} {ns : List Str} {e : PX} {d n : D} (h : gS σ j = some d) (h1 : getP d (ns.map Sk.f) = some n) (h2 : n.noBor = true) (q : WE Γ e (σ.set j (.is (setP d (ns.map Sk.f) n.frz))) Q) : WE Γ (.pre j ns e) σ Q := fun ρ l => by
  obtain ⟨r, ρ1, σ1, e1, l1, q1⟩ := q (ρ.set j (some (setP d (ns.map Sk.f) n.frz))) l.setI
  exact ⟨r, ρ1, σ1, by simp only [ev, frzAt, l.get h, h1, h2, Option.bind_some, if_true, e1], l1, q1⟩
theorem e_frzE {e : PX} (h : WE Γ e σ fun r σ1 => ∃ d, r = .val d ∧ d.noBor = true ∧ Q (.val d.frz) σ1) : WE Γ (.frzE e) σ Q := fun ρ l => by
  obtain ⟨r, ρ1, σ1, e1, l1, d, rfl, h1, q⟩ := h ρ l
  exact ⟨.val d.frz, ρ1, σ1, by simp only [ev, e1, Option.bind_some, h1, if_true], l1, q⟩
theorem e_tup {es : List PX} (h : WEs Γ es σ fun rs σ1 => ∃ ds, tSs σ1 rs = some ds ∧ ds.length ≤ sizeLine ∧ noBors ds = true ∧ Q (.val (.tup (frzs ds))) σ1) : WE Γ (.tup es) σ Q := fun ρ l => by
  obtain ⟨rs, ρ1, σ1, e1, l1, ds, h1, h2, h3, q⟩ := h ρ l
  exact ⟨_, ρ1, σ1, by simp only [ev, e1, Option.bind_some, l1.takes h1, h2, h3, and_self, if_true], l1, q⟩
theorem e_lst {es : List PX} (h : WEs Γ es σ fun rs σ1 => ∃ ds, tSs σ1 rs = some ds ∧ ds.length ≤ sizeLine ∧ Q (.val (.lst .own ds)) σ1) : WE Γ (.lst es) σ Q := fun ρ l => by
  obtain ⟨rs, ρ1, σ1, e1, l1, ds, h1, h2, q⟩ := h ρ l
  exact ⟨_, ρ1, σ1, by simp only [ev, e1, Option.bind_some, l1.takes h1, h2, if_true], l1, q⟩
theorem e_dct {es : List PX} (h : WEs Γ es σ fun rs σ1 => ∃ ds ks, tSs σ1 rs = some ds ∧ pairUp ds = some ks ∧ (ks.length ≤ 15 ∧ (ks.map (·.1)).Nodup) ∧ Q (.val (.dct .own ks)) σ1) : WE Γ (.dct es) σ Q := fun ρ l => by
  obtain ⟨rs, ρ1, σ1, e1, l1, ds, ks, h1, h2, h3, q⟩ := h ρ l
  exact ⟨_, ρ1, σ1, by simp only [ev, e1, Option.bind_some, l1.takes h1, h2, if_pos h3], l1, q⟩
theorem e_op {o : Op} {es : List PX} (h : WEs Γ es σ fun rs σ1 => ∃ ds d, vSs σ1 rs = some ds ∧ opS o ds = some d ∧ Q (.val d) σ1) : WE Γ (.op o es) σ Q := fun ρ l => by
  obtain ⟨rs, ρ1, σ1, e1, l1, ds, d, h1, h2, q⟩ := h ρ l
  exact ⟨_, ρ1, σ1, by simp only [ev, e1, Option.bind_some, l1.views h1, h2], l1, q⟩
theorem e_opF {o : Op} {j : Nat} {n : Str} {es : List PX} (ht : tchs es j = false) {d0 x0 : D} (h0 : gS σ j = some d0) (h00 : getP d0 [.f n] = some x0) (h : WEs Γ es σ fun rs σ1 => ∃ ds d d1 x, gS σ1 j = some d1 ∧ getP d1 [.f n] = some x ∧ vSs σ1 rs = some ds ∧ opS o (x :: ds) = some d ∧ Q (.val d) σ1) : WE Γ (.opF o j n es) σ Q := fun ρ l => by
  obtain ⟨rs, ρ1, σ1, e1, l1, ds, d, d1, x, g1, g2, h1, h2, q⟩ := h ρ l
  exact ⟨_, ρ1, σ1, by simp only [ev, nodeAt, l.get h0, h00, e1, Option.bind_some, ht, if_true, l1.get g1, g2, l1.views h1, h2], l1, q⟩
theorem e_fld {e : PX} {n : Str} (h : WE Γ e σ fun r σ1 => ∃ m c fs x, vS σ1 r = some (.ins m c fs) ∧ valA fs (Sum.inr n) = some x ∧ x.noOwn = true ∧ Q (.val x) σ1) : WE Γ (.fld e n) σ Q := fun ρ l => by
  obtain ⟨r, ρ1, σ1, e1, l1, m, c, fs, x, h1, h2, h3, q⟩ := h ρ l
  exact ⟨_, ρ1, σ1, by simp only [ev, e1, Option.bind_some, l1.view h1, h2, h3, if_true], l1, q⟩
/-- a value that is known, the state as it was -/
def IsV (d : D) (σ : Spec) (r : Rv) (σ' : Spec) : Prop := σ' = σ ∧ vS σ r = some d
theorem WE.imp {e : PX} {Q' : Rv → Spec → Prop} (h : WE Γ e σ Q) (k : ∀ r σ1, Q r σ1 → Q' r σ1) : WE Γ e σ Q' := fun ρ l => by
  obtain ⟨r, ρ1, σ1, e1, l1, q⟩ := h ρ l
  exact ⟨r, ρ1, σ1, e1, l1, k r σ1 q⟩
theorem asB_of {r : Rv} {σ1 : Spec} {ρ1 : Env} {b : Bool} (l : Le σ1 ρ1) (h : vS σ1 r = some (.bl b)) : asB (r, ρ1) = some (b, ρ1) := by
  simp only [asB, l.view h]
theorem e_not {e : PX} (h : WE Γ e σ fun r σ1 => ∃ b, vS σ1 r = some (.bl b) ∧ Q (.val (.bl (!b))) σ1) : WE Γ (.not e) σ Q := fun ρ l => by
  obtain ⟨r, ρ1, σ1, e1, l1, b, h1, q⟩ := h ρ l
  exact ⟨_, ρ1, σ1, by simp only [ev, e1, Option.bind_some, asB_of l1 h1], l1, q⟩
def andO (a : Bool) (b : Option Bool) : Option Bool := if a = true then b else some false
def orO (a : Bool) (b : Option Bool) : Option Bool := if a = true then some true else b
theorem e_and {a b : PX} {x v : Bool} {bo : Option Bool} (ha : WE Γ a σ (IsV (.bl x) σ)) (hb : x = true → ∀ y, bo = some y → WE Γ b σ (IsV (.bl y) σ)) (h : andO x bo = some v) (q : Q (.val (.bl v)) σ) (q2 : ∀ r, vS σ r = some (.bl v) → Q r σ) : WE Γ (.and a b) σ Q := fun ρ l => by
  obtain ⟨r, ρ1, _, e1, l1, rfl, h1⟩ := ha ρ l
  cases x with
  | true =>
    obtain ⟨r2, ρ2, _, e2, l2, rfl, h2⟩ := hb rfl v h ρ1 l1
    exact ⟨r2, ρ2, _, by simp only [ev, e1, Option.bind_some, asB_of l1 h1, if_true, e2], l2, q2 r2 h2⟩
  | false =>
    cases h
    exact ⟨_, ρ1, _, by simp only [ev, e1, Option.bind_some, asB_of l1 h1, Bool.false_eq_true, if_false], l1, q⟩
theorem e_or {a b : PX} {x v : Bool} {bo : Option Bool} (ha : WE Γ a σ (IsV (.bl x) σ)) (hb : x = false → ∀ y, bo = some y → WE Γ b σ (IsV (.bl y) σ)) (h : orO x bo = some v) (q : Q (.val (.bl v)) σ) (q2 : ∀ r, vS σ r = some (.bl v) → Q r σ) : WE Γ (.or a b) σ Q := fun ρ l => by
  obtain ⟨r, ρ1, _, e1, l1, rfl, h1⟩ := ha ρ l
  cases x with
  | false =>
    obtain ⟨r2, ρ2, _, e2, l2, rfl, h2⟩ := hb rfl v h ρ1 l1
    exact ⟨r2, ρ2, _, by simp only [ev, e1, Option.bind_some, asB_of l1 h1, Bool.false_eq_true, if_false, e2], l2, q2 r2 h2⟩
  | true =>
    cases h
    exact ⟨_, ρ1, _, by simp only [ev, e1, Option.bind_some, asB_of l1 h1, if_true], l1, q⟩
theorem e_ife {c a b : PX} {x : Bool} {d : D} (hc : WE Γ c σ (IsV (.bl x) σ)) (ha : x = true → WE Γ a σ (IsV d σ)) (hb : x = false → WE Γ b σ (IsV d σ)) (q : ∀ r, vS σ r = some d → Q r σ) : WE Γ (.ife c a b) σ Q := fun ρ l => by
  obtain ⟨r, ρ1, _, e1, l1, rfl, h1⟩ := hc ρ l
  cases x with
  | true =>
    obtain ⟨r2, ρ2, _, e2, l2, rfl, h2⟩ := ha rfl ρ1 l1
    exact ⟨r2, ρ2, _, by simp only [ev, e1, Option.bind_some, asB_of l1 h1, if_true, e2], l2, q r2 h2⟩
  | false =>
    obtain ⟨r2, ρ2, _, e2, l2, rfl, h2⟩ := hb rfl ρ1 l1
    exact ⟨r2, ρ2, _, by simp only [ev, e1, Option.bind_some, asB_of l1 h1, Bool.false_eq_true, if_false, e2], l2, q r2 h2⟩
/-- the same, the continuation in each branch -/
theorem e_ife2 {c a b : PX} (hc : WE Γ c σ fun r σ1 => ∃ x, vS σ1 r = some (.bl x) ∧ (x = true → WE Γ a σ1 Q) ∧ (x = false → WE Γ b σ1 Q)) : WE Γ (.ife c a b) σ Q := fun ρ l => by
  obtain ⟨r, ρ1, σ1, e1, l1, x, h1, ha, hb⟩ := hc ρ l
  cases x with
  | true =>
    obtain ⟨r2, ρ2, σ2, e2, l2, h2⟩ := ha rfl ρ1 l1
    exact ⟨r2, ρ2, σ2, by simp only [ev, e1, Option.bind_some, asB_of l1 h1, if_true, e2], l2, h2⟩
  | false =>
    obtain ⟨r2, ρ2, σ2, e2, l2, h2⟩ := hb rfl ρ1 l1
    exact ⟨r2, ρ2, σ2, by simp only [ev, e1, Option.bind_some, asB_of l1 h1, Bool.false_eq_true, if_false, e2], l2, h2⟩
theorem e_chain {o o' : Op} {a b c : PX} {x y : D} {p v : Bool} {bo : Option Bool} (ha : WE Γ a σ (IsV x σ)) (hb : WE Γ b σ (IsV y σ)) (hat : (x.atom && y.atom) = true) (ho : opS o [x, y] = some (.bl p)) (hc : p = true → ∀ q, bo = some q → WE Γ c σ fun r σ1 => σ1 = σ ∧ ∃ w, vS σ r = some w ∧ opS o' [y, w] = some (.bl q))
    (h : andO p bo = some v) (q : Q (.val (.bl v)) σ) : WE Γ (.chain o o' a b c) σ Q := fun ρ l => by
  obtain ⟨r, ρ1, _, e1, l1, rfl, h1⟩ := ha ρ l
  obtain ⟨r2, ρ2, _, e2, l2, rfl, h2⟩ := hb ρ1 l1
  cases p with
  | true =>
    obtain ⟨r3, ρ3, _, e3, l3, rfl, w, h3, h4⟩ := hc rfl v h ρ2 l2
    exact ⟨_, ρ3, _, by simp only [ev, e1, Option.bind_some, l1.view h1, e2, l2.view h2, hat, if_true, ho, e3, l3.view h3, h4], l3, q⟩
  | false =>
    cases h
    exact ⟨_, ρ2, _, by simp only [ev, e1, Option.bind_some, l1.view h1, e2, l2.view h2, hat, if_true, ho], l2, q⟩
theorem e_call {g : Nat} {es : List PX} (h : WEs Γ es σ fun rs σ1 => ∃ ds ds' r, vSs σ1 rs = some ds ∧ bors ds = ds' ∧ Γ g ds' = some (r, none) ∧ Q (.val r) σ1) : WE Γ (.call g es) σ Q := fun ρ l => by
  obtain ⟨rs, ρ1, σ1, e1, l1, ds, ds', r, h1, rfl, h2, q⟩ := h ρ l
  exact ⟨_, ρ1, σ1, by simp only [ev, e1, Option.bind_some, args, l1.views h1, Option.map_some, h2], l1, q⟩
theorem e_callio {g j : Nat} {es : List PX} {d0 : D} (h0 : gS σ j = some d0) (h : WEs Γ es σ fun rs σ1 => ∃ ds ds' r d d', noRef j rs = true ∧ vSs σ1 rs = some ds ∧ bors ds = ds' ∧ gS σ1 j = some d ∧ Γ g (d :: ds') = some (r, some d') ∧ Q (.val r) (σ1.set j (.is d'))) : WE Γ (.callio g j es) σ Q := fun ρ l => by
  obtain ⟨rs, ρ1, σ1, e1, l1, ds, ds', r, d, d', hn, h1, rfl, h2, h3, q⟩ := h ρ l
  exact ⟨_, _, _, by simp only [ev, l.get h0, e1, Option.bind_some, hn, if_true, args, l1.views h1, Option.map_some, l1.get h2, h3], l1.setI, q⟩
theorem e_mk {c g : Nat} {es : List PX} (h : WEs Γ es σ fun rs σ1 => ∃ ds ds' d, vSs σ1 rs = some ds ∧ bors ds = ds' ∧ Γ g (.ins .own c [] :: ds') = some (.non, some d) ∧ Q (.val d) σ1) : WE Γ (.mk c g es) σ Q := fun ρ l => by
  obtain ⟨rs, ρ1, σ1, e1, l1, ds, ds', d, h1, rfl, h2, q⟩ := h ρ l
  exact ⟨_, ρ1, σ1, by simp only [ev, e1, Option.bind_some, args, l1.views h1, Option.map_some, h2], l1, q⟩
theorem e_meth {c : Nat} {m : Str} {g : Nat} {o : PX} {es : List PX} (h : WE Γ o σ fun r0 σ0 => ∃ d0, vS σ0 r0 = some d0 ∧ isIns c m d0 = true ∧ WEs Γ es σ0 fun rs σ1 => ∃ ds ds' r, vSs σ1 (r0 :: rs) = some ds ∧ bors ds = ds' ∧ Γ g ds' = some (r, none) ∧ Q (.val r) σ1) : WE Γ (.meth c m g o es) σ Q := fun ρ l => by
  obtain ⟨r0, ρ0, σ0, e0, l0, d0, k1, k2, h⟩ := h ρ l
  obtain ⟨rs, ρ1, σ1, e1, l1, ds, ds', r, h1, rfl, h2, q⟩ := h ρ0 l0
  exact ⟨_, ρ1, σ1, by simp only [ev, e0, Option.bind_some, l0.view k1, k2, if_true, e1, args, l1.views h1, Option.map_some, h2], l1, q⟩
theorem e_eqO {c g : Nat} {a b : PX} (h : WE Γ a σ fun r0 σ0 => WE Γ b σ0 fun r σ1 => ∃ vs ds' x, vSs σ1 [r0, r] = some vs ∧ okEq c vs = true ∧ bors vs = ds' ∧ Γ g ds' = some (x, none) ∧ Q (.val x) σ1) : WE Γ (.eqO c g a b) σ Q := fun ρ l => by
  obtain ⟨r0, ρ0, σ0, e0, l0, h⟩ := h ρ l
  obtain ⟨r, ρ1, σ1, e1, l1, vs, ds', x, h1, h2, rfl, h3, q⟩ := h ρ0 l0
  exact ⟨_, ρ1, σ1, by simp only [ev, e0, e1, Option.bind_some, l1.views h1, h2, if_true, args, Option.map_some, h3], l1, q⟩
theorem e_pop {j : Nat} {ds : List D} {x : D} (h : gS σ j = some (.lst .own ds)) (h1 : ds.getLast? = some x) (h2 : x.noOwn = true) (q : Q (.val x) (σ.set j (.is (.lst .own ds.dropLast)))) : WE Γ (.pop j) σ Q := fun ρ l =>
  ⟨_, _, _, by simp only [ev, l.get h, Option.bind_some, h1, h2, if_true], l.setI, q⟩
theorem e_popK {j : Nat} {k : PX} {ks0 : List (Key × D)} (h0 : gS σ j = some (.dct .own ks0)) (ht : k.tch j = false) (h : WE Γ k σ fun r σ1 => ∃ kd kk ks x, vS σ1 r = some kd ∧ kd.key = some kk ∧ gS σ1 j = some (.dct .own ks) ∧ valA ks kk = some x ∧ x.noOwn = true ∧ Q (.val x) (σ1.set j (.is (.dct .own (dropA ks kk))))) : WE Γ (.popK j k) σ Q := fun ρ l => by
  obtain ⟨r, ρ1, σ1, e1, l1, kd, kk, ks, x, h1, h2, h3, h4, h5, q⟩ := h ρ l
  exact ⟨_, _, _, by simp only [ev, l.get h0, Option.bind_some, D.isK, Bool.true_eq_false, if_false, e1, l1.view h1, h2, ht, if_true, l1.get h3, h4, h5], l1.setI, q⟩
def compG {α β τ : Type} (c : α → τ → Option (Bool × τ)) (e : α → τ → Option (β × τ)) : List α → τ → Option (List β × τ)
  | [], t => some ([], t)
  | x :: xs, t => (c x t).bind fun q => if q.1 = true then (e x q.2).bind fun p => (compG c e xs p.2).bind fun z => some (p.1 :: z.1, z.2) else compG c e xs q.2
/-- a test that may be missing -/
def WEO (Γ : Fns) : Option PX → Spec → (Bool → Spec → Prop) → Prop
  | none, σ, Q => Q true σ
  | some e, σ, Q => WE Γ e σ fun r σ1 => ∃ b, vS σ1 r = some (.bl b) ∧ Q b σ1
theorem WEO.run {c : Option PX} {Qb : Bool → Spec → Prop} (h : WEO Γ c σ Qb) {ρ : Env} (l : Le σ ρ) : ∃ b ρ' σ', evO Γ c ρ = some (b, ρ') ∧ Le σ' ρ' ∧ Qb b σ' := by
  cases c with
  | none => exact ⟨true, ρ, σ, rfl, l, h⟩
  | some e =>
    obtain ⟨r, ρ1, σ1, e1, l1, b, h1, q⟩ := h ρ l
    exact ⟨b, ρ1, σ1, by simp only [evO, e1, Option.bind_some, asB_of l1 h1], l1, q⟩
theorem comp_go {α β τ : Type} {js : List Nat} {c : Option PX} {e : PX} {f : α → List D} {ct : α → τ → Option (Bool × τ)} {et : α → τ → Option (β × τ)} {enc : β → D} (S : τ → Spec)
    (hc : ∀ x t b t', ct x t = some (b, t') → ∃ σ1, setS js (f x) (wipeS (S t) js) = some σ1 ∧ WEO Γ c σ1 fun b' σ2 => b' = b ∧ (b = false → Wn σ2 (anyS (S t') js)) ∧ (b = true → ∀ y t2, et x t' = some (y, t2) → WE Γ e σ2 fun r σ3 => tS σ3 r = some (enc y) ∧ Wn σ3 (anyS (S t2) js))) :
    ∀ (xs : List α) (t t1 : τ) (ys : List β) (ρ : Env), Le (anyS (S t) js) ρ → compG ct et xs t = some (ys, t1) → ∃ ρ', compLoop js (fun ρ => evO Γ c ρ) (fun ρ => (ev Γ e ρ).bind asD) (xs.map f) ρ = some (ys.map enc, ρ') ∧ Le (anyS (S t1) js) ρ'
  | [], t, t1, ys, ρ, l, h => by
    simp only [compG, Option.some.injEq, Prod.mk.injEq] at h
    obtain ⟨rfl, rfl⟩ := h
    exact ⟨ρ, rfl, l⟩
  | x :: xs, t, t1, ys, ρ, l, h => by
    simp only [compG, Option.bind_eq_some_iff] at h
    obtain ⟨⟨b, t'⟩, h1, h2⟩ := h
    obtain ⟨σ1, k1, k2⟩ := hc x t b t' h1
    obtain ⟨ρ1, k3, l1⟩ := l.wipe.setAt k1
    obtain ⟨b1, ρ2, σ2, k4, l2, hb1, k5, k6⟩ := k2.run l1
    subst hb1
    cases b1 with
    | false =>
      obtain ⟨ρ', g1, g2⟩ := comp_go S hc xs t' t1 ys ρ2 (k5 rfl ρ2 l2) h2
      exact ⟨ρ', by simp only [List.map_cons, compLoop, k3, Option.bind_some, k4, Bool.false_eq_true, if_false, g1], g2⟩
    | true =>
      simp only [if_true, Option.bind_eq_some_iff] at h2
      obtain ⟨⟨y, t2⟩, h3, ⟨zs, t3⟩, h4, h5⟩ := h2
      cases h5
      obtain ⟨r, ρ3, σ3, e3, l3, q1, q2⟩ := k6 rfl y t2 h3 ρ2 l2
      obtain ⟨ρ', g1, g2⟩ := comp_go S hc xs t2 _ zs ρ3 (q2 ρ3 l3) h4
      exact ⟨ρ', by simp only [List.map_cons, compLoop, k3, Option.bind_some, k4, if_true, e3, asD, l3.take q1, Option.map_some, g1], g2⟩
theorem e_comp {α β τ : Type} {js : List Nat} {ik : IK} {ies : List PX} {c : Option PX} {e : PX} {xs : List α} {f : α → List D} {ct : α → τ → Option (Bool × τ)} {et : α → τ → Option (β × τ)} {enc : β → D} {t0 t1 : τ} {ys : List β} (S : τ → Spec)
    (hi : WEs Γ ies σ fun rs σ1 => Wn σ1 (S t0) ∧ ∃ ds, vSs (S t0) rs = some ds ∧ iterS ik ds = some (xs.map f) ∧ okItS (S t0) (fun i => tchO c i || e.tch i || js.contains i) rs = true)
    (hf : freeS (S t0) js = true) (hS : ∀ t, (S t).length = (S t0).length ∧ ∀ j ∈ js, (S t)[j]? = (S t0)[j]?)
    (hc : ∀ x t b t', ct x t = some (b, t') → ∃ σ1, setS js (f x) (wipeS (S t) js) = some σ1 ∧ WEO Γ c σ1 fun b' σ2 => b' = b ∧ (b = false → Wn σ2 (anyS (S t') js)) ∧ (b = true → ∀ y t2, et x t' = some (y, t2) → WE Γ e σ2 fun r σ3 => tS σ3 r = some (enc y) ∧ Wn σ3 (anyS (S t2) js)))
    (h1 : compG ct et xs t0 = some (ys, t1)) (hl : ys.length ≤ 1000000) (q : Q (.val (.lst .own (ys.map enc))) (S t1)) : WE Γ (.comp js ik ies c e) σ Q := fun ρ l => by
  obtain ⟨rs, ρ1, σ1, e1, l1, w1, ds, v1, i1, o1⟩ := hi ρ l
  have l2 := w1 ρ1 l1
  obtain ⟨ρ', g1, g2⟩ := comp_go S hc xs t0 t1 ys ρ1 l2.toAny h1
  have lb : Le (S t1) (backE ρ' ρ1 js) := g2.back l2 (hS t1).2 (hS t1).1
  exact ⟨_, _, _, by simp only [ev, e1, Option.bind_some, l2.views v1, i1, l2.okIt o1, l2.freeAt hf, Bool.and_self, if_true, g1, List.length_map, hl], lb, q⟩
def dcompG {α β τ : Type} (c : α → τ → Option (Bool × τ)) (k : α → τ → Option (Str × τ)) (e : α → τ → Option (β × τ)) (put : List (Str × β) → Str → β → List (Str × β)) : List α → τ → List (Str × β) → Option (List (Str × β) × τ)
  | [], t, acc => some (acc, t)
  | x :: xs, t, acc => (c x t).bind fun q => if q.1 = true then (k x q.2).bind fun kk => (e x kk.2).bind fun p => dcompG c k e put xs p.2 (put acc kk.1 p.1) else dcompG c k e put xs q.2 acc
end
end Pv

set_option Elab.async false
set_option linter.all false
set_option maxRecDepth 100000
set_option maxHeartbeats 1000000
namespace Pv
open PySem L2
section
variable {Γ : Fns} {σ : Spec}
def putS_ {β : Type} : List (Str × β) → Str → β → List (Str × β)
  | [], k, v => [(k, v)]
  | p :: r, k, v => if p.1 = k then (p.1, v) :: r else p :: putS_ r k v
def getK {β : Type} : List (Str × β) → Str → Option β
  | [], _ => none
  | p :: r, k => if p.1 = k then some p.2 else getK r k
def dropS_ {β : Type} (l : List (Str × β)) (k : Str) : List (Str × β) := l.filter fun p => decide (p.1 ≠ k)
def eKs {β : Type} (e : β → D) (l : List (Str × β)) : List (Key × D) := l.map fun p => (Sum.inr p.1, e p.2)
theorem valA_eKs {β : Type} (e : β → D) : ∀ (l : List (Str × β)) (k : Str), valA (eKs e l) (Sum.inr k) = (getK l k).map e
  | [], _ => rfl
  | p :: r, k => by
    have ih := valA_eKs e r k
    unfold valA eKs at ih ⊢
    rw [List.map_cons, List.find?_cons]
    by_cases h : p.1 = k
    · rw [decide_eq_true (by rw [h]), getK, if_pos h]; rfl
    · rw [decide_eq_false (by simpa using h), getK, if_neg h]; exact ih
theorem putA_eKs {β : Type} (e : β → D) : ∀ (l : List (Str × β)) (k : Str) (v : β), putA (eKs e l) (Sum.inr k) (e v) = eKs e (putS_ l k v)
  | [], _, _ => rfl
  | p :: r, k, v => by
    have ih := putA_eKs e r k v
    simp only [eKs, List.map_cons, putA, putS_] at ih ⊢
    by_cases h : p.1 = k
    · rw [if_pos (by rw [h]), if_pos h]; rfl
    · rw [if_neg (by simpa using h), if_neg h, ih]; rfl
theorem dropA_eKs {β : Type} (e : β → D) (l : List (Str × β)) (k : Str) : dropA (eKs e l) (Sum.inr k) = eKs e (dropS_ l k) := by
  unfold dropA eKs dropS_
  rw [List.filter_map]
  congr 1
  refine List.filter_congr fun p _ => ?_
  simp
theorem eKs_len {β : Type} (e : β → D) (l : List (Str × β)) : (eKs e l).length = l.length := by unfold eKs; rw [List.length_map]
def dcG {α β τ : Type} (c : α → τ → Option (Bool × τ)) (k : α → τ → Option (Str × τ)) (e : α → τ → Option (β × τ)) : List α → τ → List (Str × β) → Option (List (Str × β) × τ)
  | [], t, acc => some (acc, t)
  | x :: xs, t, acc => (c x t).bind fun q => if q.1 = true then (k x q.2).bind fun kk => (e x kk.2).bind fun p => dcG c k e xs p.2 (putS_ acc kk.1 p.1) else dcG c k e xs q.2 acc
theorem dcomp_go {α β τ : Type} {js : List Nat} {c : Option PX} {k e : PX} {f : α → List D} {ct : α → τ → Option (Bool × τ)} {kt : α → τ → Option (Str × τ)} {et : α → τ → Option (β × τ)} {enc : β → D} (S : τ → Spec)
    (hc : ∀ x t b t', ct x t = some (b, t') → ∃ σ1, setS js (f x) (wipeS (S t) js) = some σ1 ∧ WEO Γ c σ1 fun b' σ2 => b' = b ∧ (b = false → Wn σ2 (anyS (S t') js)) ∧ (b = true → ∀ key tk, kt x t' = some (key, tk) → WE Γ k σ2 fun r σ3 => vS σ3 r = some (.str key) ∧ ∀ y t2, et x tk = some (y, t2) → WE Γ e σ3 fun r σ4 => tS σ4 r = some (enc y) ∧ Wn σ4 (anyS (S t2) js))) :
    ∀ (xs : List α) (t t1 : τ) (acc ys : List (Str × β)) (ρ : Env), Le (anyS (S t) js) ρ → dcG ct kt et xs t acc = some (ys, t1) → ∃ ρ', dcompLoop js (fun ρ => evO Γ c ρ) (fun ρ => (ev Γ k ρ).bind asK) (fun ρ => (ev Γ e ρ).bind asD) (xs.map f) ρ (eKs enc acc) = some (eKs enc ys, ρ') ∧ Le (anyS (S t1) js) ρ'
  | [], t, t1, acc, ys, ρ, l, h => by
    simp only [dcG, Option.some.injEq, Prod.mk.injEq] at h
    obtain ⟨rfl, rfl⟩ := h
    exact ⟨ρ, rfl, l⟩
  | x :: xs, t, t1, acc, ys, ρ, l, h => by
    simp only [dcG, Option.bind_eq_some_iff] at h
    obtain ⟨⟨b, t'⟩, h1, h2⟩ := h
    obtain ⟨σ1, k1, k2⟩ := hc x t b t' h1
    obtain ⟨ρ1, k3, l1⟩ := l.wipe.setAt k1
    obtain ⟨b1, ρ2, σ2, k4, l2, hb1, k5, k6⟩ := k2.run l1
    subst hb1
    cases b1 with
    | false =>
      obtain ⟨ρ', g1, g2⟩ := dcomp_go S hc xs t' t1 acc ys ρ2 (k5 rfl ρ2 l2) h2
      exact ⟨ρ', by simp only [List.map_cons, dcompLoop, k3, Option.bind_some, k4, Bool.false_eq_true, if_false, g1], g2⟩
    | true =>
      simp only [if_true, Option.bind_eq_some_iff] at h2
      obtain ⟨⟨key, tk⟩, h3, ⟨y, t2⟩, h4, h5⟩ := h2
      obtain ⟨r, ρ3, σ3, e3, l3, q1, q2⟩ := k6 rfl key tk h3 ρ2 l2
      obtain ⟨r4, ρ4, σ4, e4, l4, q3, q4⟩ := q2 y t2 h4 ρ3 l3
      obtain ⟨ρ', g1, g2⟩ := dcomp_go S hc xs t2 _ _ ys ρ4 (q4 ρ4 l4) h5
      refine ⟨ρ', ?_, g2⟩
      simp only [List.map_cons, dcompLoop, k3, Option.bind_some, k4, if_true, e3, asK, l3.view q1, D.key, Option.map_some, e4, asD, l4.take q3, putA_eKs, g1]
theorem e_dcomp {Q : Rv → Spec → Prop} {α β τ : Type} {js : List Nat} {ik : IK} {ies : List PX} {c : Option PX} {k e : PX} {xs : List α} {f : α → List D} {ct : α → τ → Option (Bool × τ)} {kt : α → τ → Option (Str × τ)} {et : α → τ → Option (β × τ)} {enc : β → D} {t0 t1 : τ} {ys : List (Str × β)} (S : τ → Spec)
    (hi : WEs Γ ies σ fun rs σ1 => Wn σ1 (S t0) ∧ ∃ ds, vSs (S t0) rs = some ds ∧ iterS ik ds = some (xs.map f) ∧ okItS (S t0) (fun i => tchO c i || k.tch i || e.tch i || js.contains i) rs = true)
    (hf : freeS (S t0) js = true) (hS : ∀ t, (S t).length = (S t0).length ∧ ∀ j ∈ js, (S t)[j]? = (S t0)[j]?)
    (hc : ∀ x t b t', ct x t = some (b, t') → ∃ σ1, setS js (f x) (wipeS (S t) js) = some σ1 ∧ WEO Γ c σ1 fun b' σ2 => b' = b ∧ (b = false → Wn σ2 (anyS (S t') js)) ∧ (b = true → ∀ key tk, kt x t' = some (key, tk) → WE Γ k σ2 fun r σ3 => vS σ3 r = some (.str key) ∧ ∀ y t2, et x tk = some (y, t2) → WE Γ e σ3 fun r σ4 => tS σ4 r = some (enc y) ∧ Wn σ4 (anyS (S t2) js)))
    (h1 : dcG ct kt et xs t0 [] = some (ys, t1)) (hl : xs.length ≤ 1000000) (q : Q (.val (.dct .own (eKs enc ys))) (S t1)) : WE Γ (.dcomp js ik ies c k e) σ Q := fun ρ l => by
  obtain ⟨rs, ρ1, σ1, e1, l1, w1, ds, v1, i1, o1⟩ := hi ρ l
  have l2 := w1 ρ1 l1
  obtain ⟨ρ', g1, g2⟩ := dcomp_go (enc := enc) S hc xs t0 t1 [] ys ρ1 l2.toAny h1
  have lb : Le (S t1) (backE ρ' ρ1 js) := g2.back l2 (hS t1).2 (hS t1).1
  have g1' : dcompLoop js (fun ρ => evO Γ c ρ) (fun ρ => (ev Γ k ρ).bind asK) (fun ρ => (ev Γ e ρ).bind asD) (xs.map f) ρ1 [] = some (eKs enc ys, ρ') := g1
  exact ⟨_, _, _, by simp only [ev, e1, Option.bind_some, l2.views v1, i1, l2.okIt o1, l2.freeAt hf, Bool.and_self, if_true, g1', List.length_map, hl], lb, q⟩

def WP (Γ : Fns) (p : Pl) (σ : Spec) (Q : List Sk → Spec → Prop) : Prop := ∀ ρ, Le σ ρ → ∃ ks ρ' σ', evP Γ p ρ = some (ks, ρ') ∧ Le σ' ρ' ∧ Q ks σ'
def atD (d : D) (ks : List Sk) (u : D → Option D) : Option D := (getP d ks).bind fun n => (u n).map (setP d ks)
def nodeS (σ : Spec) (j : Nat) (ks : List Sk) : Option D := (gS σ j).bind fun d => getP d ks
theorem Le.node {ρ : Env} {j : Nat} {ks : List Sk} {n : D} (l : Le σ ρ) (h : nodeS σ j ks = some n) : nodeAt ρ j ks = some n := by
  unfold nodeS at h
  rw [Option.bind_eq_some_iff] at h
  obtain ⟨d, h1, h2⟩ := h
  unfold nodeAt
  rw [l.get h1]; exact h2
theorem p_sl {Q : List Sk → Spec → Prop} {j : Nat} {d : D} (h : gS σ j = some d) (q : Q [] σ) : WP Γ (.slot j) σ Q := fun ρ l => ⟨[], ρ, σ, by simp only [evP, l.get h, Option.bind_some], l, q⟩
theorem p_fl {Q : List Sk → Spec → Prop} {p : Pl} {n : Str} (h : WP Γ p σ fun ks σ1 => Q (ks ++ [.f n]) σ1) : WP Γ (.fld p n) σ Q := fun ρ l => by
  obtain ⟨ks, ρ1, σ1, e1, l1, q⟩ := h ρ l
  exact ⟨_, ρ1, σ1, by simp only [evP, e1, Option.bind_some], l1, q⟩
theorem p_ky {Q : List Sk → Spec → Prop} {p : Pl} {e : PX} (h : WP Γ p σ fun ks σ1 => (∃ n, nodeS σ1 p.root ks = some n) ∧ WE Γ e σ1 fun r σ2 => ∃ d k, vS σ2 r = some d ∧ d.key = some k ∧ Q (ks ++ [.k k]) σ2) : WP Γ (.key p e) σ Q := fun ρ l => by
  obtain ⟨ks, ρ1, σ1, e1, l1, ⟨n, hn⟩, h⟩ := h ρ l
  obtain ⟨r, ρ2, σ2, e2, l2, d, k, h1, h2, q⟩ := h ρ1 l1
  exact ⟨_, ρ2, σ2, by simp only [evP, e1, Option.bind_some, l1.node hn, e2, l2.view h1, h2], l2, q⟩

def WX (Γ : Fns) (s : PS) (σ : Spec) (Q : Flw → Spec → Prop) : Prop := ∀ ρ, Le σ ρ → ∃ n ρ' fl σ', (∀ N, n ≤ N → exec N Γ s ρ = some (ρ', fl)) ∧ Le σ' ρ' ∧ Q fl σ'
def WXs (Γ : Fns) (ss : List PS) (σ : Spec) (Q : Flw → Spec → Prop) : Prop := ∀ ρ, Le σ ρ → ∃ n ρ' fl σ', (∀ N, n ≤ N → execs N Γ ss ρ = some (ρ', fl)) ∧ Le σ' ρ' ∧ Q fl σ'
variable {Q : Flw → Spec → Prop}
theorem xs_nil (q : Q .nx σ) : WXs Γ [] σ Q := fun ρ l => ⟨0, ρ, .nx, σ, fun _ _ => rfl, l, q⟩
def Seq_ (Γ : Fns) (r : List PS) (Q : Flw → Spec → Prop) : Flw → Spec → Prop
  | .nx, σ => WXs Γ r σ Q
  | f, σ => Q f σ
theorem xs_cons {s : PS} {r : List PS} (h : WX Γ s σ (Seq_ Γ r Q)) : WXs Γ (s :: r) σ Q := fun ρ l => by
  obtain ⟨n, ρ1, fl, σ1, e1, l1, h1⟩ := h ρ l
  cases fl with
  | nx =>
    obtain ⟨n2, ρ2, fl2, σ2, e2, l2, h2⟩ := h1 ρ1 l1
    exact ⟨max n n2, ρ2, fl2, σ2, fun N hN => by simp only [execs, e1 N (by omega), Option.bind_some, e2 N (by omega)], l2, h2⟩
  | bk => exact ⟨n, ρ1, .bk, σ1, fun N hN => by simp only [execs, e1 N hN, Option.bind_some], l1, h1⟩
  | ct => exact ⟨n, ρ1, .ct, σ1, fun N hN => by simp only [execs, e1 N hN, Option.bind_some], l1, h1⟩
  | rt d => exact ⟨n, ρ1, .rt d, σ1, fun N hN => by simp only [execs, e1 N hN, Option.bind_some], l1, h1⟩
theorem xs_wn {ss : List PS} {σ1 : Spec} (w : Wn σ σ1) (h : WXs Γ ss σ1 Q) : WXs Γ ss σ Q := fun ρ l => h ρ (w ρ l)
theorem x_wn {s : PS} {σ1 : Spec} (w : Wn σ σ1) (h : WX Γ s σ1 Q) : WX Γ s σ Q := fun ρ l => h ρ (w ρ l)
/-- behind a part that ends in a state of this kind -/
def Ends_ (σ1 : Spec) : Flw → Spec → Prop := fun fl σ => fl = .nx ∧ Wn σ σ1
theorem x_cut {s : PS} (σ1 : Spec) (h : WX Γ s σ (Ends_ σ1)) (k : Q .nx σ1) : WX Γ s σ Q := fun ρ l => by
  obtain ⟨n, ρ1, _, σ2, e1, l1, rfl, h1⟩ := h ρ l
  exact ⟨n, ρ1, .nx, σ1, e1, h1 ρ1 l1, k⟩
theorem x_asg {j : Nat} {e : PX} (h : WE Γ e σ fun r σ1 => ∃ d, tS σ1 r = some d ∧ Nat.ble (j + 1) σ1.length = true ∧ Q .nx (σ1.set j (.is d))) : WX Γ (.asg j e) σ Q := fun ρ l => by
  obtain ⟨r, ρ1, σ1, e1, l1, d, h1, h2, q⟩ := h ρ l
  exact ⟨0, _, .nx, _, fun N _ => by simp only [exec, e1, Option.bind_some, l1.take h1, if_pos (show j < ρ1.length by rw [l1.len]; exact Nat.le_of_ble_eq_true h2)], l1.setI, q⟩
theorem x_asgt {js : List Nat} {e : PX} (h : WE Γ e σ fun r σ1 => ∃ ds σ2, vS σ1 r = some (.tup ds) ∧ setS js ds σ1 = some σ2 ∧ Q .nx σ2) : WX Γ (.asgt js e) σ Q := fun ρ l => by
  obtain ⟨r, ρ1, σ1, e1, l1, ds, σ2, h1, h2, q⟩ := h ρ l
  obtain ⟨ρ2, h3, l2⟩ := l1.setAt h2
  exact ⟨0, _, .nx, _, fun N _ => by simp only [exec, e1, Option.bind_some, l1.view h1, h3], l2, q⟩
theorem x_par {j k : Nat} {a b : PX} (h : WEs Γ [a, b] σ fun rs σ1 => ∃ x y, tSs σ1 rs = some [x, y] ∧ (Nat.ble (j + 1) σ1.length && Nat.ble (k + 1) σ1.length && (j != k)) = true ∧ Q .nx ((σ1.set j (.is x)).set k (.is y))) : WX Γ (.par j k a b) σ Q := fun ρ l => by
  obtain ⟨rs, ρ1, σ1, e1, l1, x, y, h1, h2, q⟩ := h ρ l
  simp only [Bool.and_eq_true, bne_iff_ne, ne_eq] at h2
  have hj : j < ρ1.length := by rw [l1.len]; exact Nat.le_of_ble_eq_true h2.1.1
  have hk : k < ρ1.length := by rw [l1.len]; exact Nat.le_of_ble_eq_true h2.1.2
  exact ⟨0, _, .nx, _, fun N _ => by simp only [exec, e1, Option.bind_some, l1.takes h1, hj, hk, h2.2, ne_eq, not_false_eq_true, and_self, if_true], l1.setI.setI, q⟩
theorem atP_of {ρ : Env} {j : Nat} {ks : List Sk} {u : D → Option D} {d d' : D} (l : Le σ ρ) (h : gS σ j = some d) (h2 : atD d ks u = some d') : atP ρ j ks u = some (ρ.set j (some d')) := by
  unfold atD at h2
  rw [Option.bind_eq_some_iff] at h2
  obtain ⟨n, h3, h4⟩ := h2
  rw [Option.map_eq_some_iff] at h4
  obtain ⟨n', h5, rfl⟩ := h4
  simp only [atP, l.get h, h3, h5, Option.bind_some]
theorem x_app {p : Pl} {e : PX} (hs : (p.safe && !e.tch p.root) = true) (h : WP Γ p σ fun ks σ1 => (∃ n, nodeS σ1 p.root ks = some n ∧ n.isL = true) ∧ WE Γ e σ1 fun r σ2 => ∃ x d d', tS σ2 r = some x ∧ gS σ2 p.root = some d ∧ atD d ks (fun n => nodeApp n x) = some d' ∧ Q .nx (σ2.set p.root (.is d'))) : WX Γ (.app p e) σ Q := fun ρ l => by
  obtain ⟨ks, ρ1, σ1, e1, l1, ⟨n, n1, n2⟩, h⟩ := h ρ l
  obtain ⟨r, ρ2, σ2, e2, l2, x, d, d', h1, h2, h3, q⟩ := h ρ1 l1
  exact ⟨0, _, .nx, _, fun N _ => by simp only [exec, evL, e1, Option.bind_some, l1.node n1, n2, if_true, e2, l2.take h1, hs, atP_of l2 h2 h3], l2.setI, q⟩
theorem x_ext {p : Pl} {e : PX} (hs : (p.safe && !e.tch p.root) = true) (h : WP Γ p σ fun ks σ1 => (∃ n, nodeS σ1 p.root ks = some n ∧ n.isL = true) ∧ WE Γ e σ1 fun r σ2 => ∃ x d d', vS σ2 r = some x ∧ gS σ2 p.root = some d ∧ atD d ks (fun n => nodeExt n x) = some d' ∧ Q .nx (σ2.set p.root (.is d'))) : WX Γ (.ext p e) σ Q := fun ρ l => by
  obtain ⟨ks, ρ1, σ1, e1, l1, ⟨n, n1, n2⟩, h⟩ := h ρ l
  obtain ⟨r, ρ2, σ2, e2, l2, x, d, d', h1, h2, h3, q⟩ := h ρ1 l1
  exact ⟨0, _, .nx, _, fun N _ => by simp only [exec, evL, e1, Option.bind_some, l1.node n1, n2, if_true, e2, l2.view h1, hs, atP_of l2 h2 h3], l2.setI, q⟩
theorem x_setK {p : Pl} {k e : PX} (hs : (p.safe && !k.tch p.root) = true) (h : WE Γ e σ fun r σ1 => WP Γ p σ1 fun ks σ2 => (∃ n, nodeS σ2 p.root ks = some n) ∧ WE Γ k σ2 fun rk σ3 => ∃ x kd key d d', tS σ3 r = some x ∧ vS σ3 rk = some kd ∧ kd.key = some key ∧ gS σ3 p.root = some d ∧ atD d ks (fun n => nodeSetK n key x) = some d' ∧ Q .nx (σ3.set p.root (.is d'))) : WX Γ (.setK p k e) σ Q := fun ρ l => by
  obtain ⟨r, ρ1, σ1, e1, l1, h⟩ := h ρ l
  obtain ⟨ks, ρ2, σ2, e2, l2, ⟨n, n1⟩, h⟩ := h ρ1 l1
  obtain ⟨rk, ρ3, σ3, e3, l3, x, kd, key, d, d', h1, h2, h3, h4, h5, q⟩ := h ρ2 l2
  exact ⟨0, _, .nx, _, fun N _ => by simp only [exec, e1, Option.bind_some, evN, e2, l2.node n1, e3, l3.take h1, l3.view h2, h3, hs, if_true, atP_of l3 h4 h5], l3.setI, q⟩
theorem x_setL {p : Pl} {k e : PX} (hs : (p.safe && !k.tch p.root) = true) (h : WE Γ e σ fun r σ1 => WP Γ p σ1 fun ks σ2 => (∃ n, nodeS σ2 p.root ks = some n) ∧ WE Γ k σ2 fun rk σ3 => ∃ x i d d', tS σ3 r = some x ∧ vS σ3 rk = some (.int i) ∧ gS σ3 p.root = some d ∧ atD d ks (fun n => nodeSetL n i x) = some d' ∧ Q .nx (σ3.set p.root (.is d'))) : WX Γ (.setL p k e) σ Q := fun ρ l => by
  obtain ⟨r, ρ1, σ1, e1, l1, h⟩ := h ρ l
  obtain ⟨ks, ρ2, σ2, e2, l2, ⟨n, n1⟩, h⟩ := h ρ1 l1
  obtain ⟨rk, ρ3, σ3, e3, l3, x, i, d, d', h1, h2, h4, h5, q⟩ := h ρ2 l2
  exact ⟨0, _, .nx, _, fun N _ => by simp only [exec, e1, Option.bind_some, evN, e2, l2.node n1, e3, l3.take h1, l3.view h2, hs, if_true, atP_of l3 h4 h5], l3.setI, q⟩
theorem x_setF {p : Pl} {f : Str} {e : PX} (hs : p.safe = true) (h : WE Γ e σ fun r σ1 => WP Γ p σ1 fun ks σ2 => (∃ n, nodeS σ2 p.root ks = some n) ∧ ∃ x d d', tS σ2 r = some x ∧ gS σ2 p.root = some d ∧ atD d ks (fun n => nodeFld n f x) = some d' ∧ Q .nx (σ2.set p.root (.is d'))) : WX Γ (.setF p f e) σ Q := fun ρ l => by
  obtain ⟨r, ρ1, σ1, e1, l1, h⟩ := h ρ l
  obtain ⟨ks, ρ2, σ2, e2, l2, ⟨n, n1⟩, x, d, d', h1, h4, h5, q⟩ := h ρ1 l1
  exact ⟨0, _, .nx, _, fun N _ => by simp only [exec, e1, Option.bind_some, evN, e2, l2.node n1, l2.take h1, hs, if_true, atP_of l2 h4 h5], l2.setI, q⟩
theorem x_clrL {p : Pl} (hs : p.safe = true) (h : WP Γ p σ fun ks σ1 => (∃ n, nodeS σ1 p.root ks = some n ∧ n.isL = true) ∧ ∃ d d', gS σ1 p.root = some d ∧ atD d ks nodeClr = some d' ∧ Q .nx (σ1.set p.root (.is d'))) : WX Γ (.clrL p) σ Q := fun ρ l => by
  obtain ⟨ks, ρ1, σ1, e1, l1, ⟨n, n1, n2⟩, d, d', h2, h3, q⟩ := h ρ l
  exact ⟨0, _, .nx, _, fun N _ => by simp only [exec, evL, e1, Option.bind_some, l1.node n1, n2, if_true, hs, atP_of l1 h2 h3], l1.setI, q⟩
theorem x_clrK {p : Pl} (hs : p.safe = true) (h : WP Γ p σ fun ks σ1 => (∃ n, nodeS σ1 p.root ks = some n ∧ n.isK = true) ∧ ∃ d d', gS σ1 p.root = some d ∧ atD d ks nodeClrK = some d' ∧ Q .nx (σ1.set p.root (.is d'))) : WX Γ (.clrK p) σ Q := fun ρ l => by
  obtain ⟨ks, ρ1, σ1, e1, l1, ⟨n, n1, n2⟩, d, d', h2, h3, q⟩ := h ρ l
  exact ⟨0, _, .nx, _, fun N _ => by simp only [exec, evK, e1, Option.bind_some, l1.node n1, n2, if_true, hs, atP_of l1 h2 h3], l1.setI, q⟩
theorem x_revL {p : Pl} (hs : p.safe = true) (h : WP Γ p σ fun ks σ1 => (∃ n, nodeS σ1 p.root ks = some n ∧ n.isL = true) ∧ ∃ d d', gS σ1 p.root = some d ∧ atD d ks nodeRev = some d' ∧ Q .nx (σ1.set p.root (.is d'))) : WX Γ (.revL p) σ Q := fun ρ l => by
  obtain ⟨ks, ρ1, σ1, e1, l1, ⟨n, n1, n2⟩, d, d', h2, h3, q⟩ := h ρ l
  exact ⟨0, _, .nx, _, fun N _ => by simp only [exec, evL, e1, Option.bind_some, l1.node n1, n2, if_true, hs, atP_of l1 h2 h3], l1.setI, q⟩
theorem x_expr {e : PX} (h : WE Γ e σ fun _ σ1 => Q .nx σ1) : WX Γ (.expr e) σ Q := fun ρ l => by
  obtain ⟨r, ρ1, σ1, e1, l1, q⟩ := h ρ l
  exact ⟨0, _, .nx, _, fun N _ => by simp only [exec, e1, Option.bind_some], l1, q⟩
theorem x_ife {c : PX} {a b : List PS} (h : WE Γ c σ fun r σ1 => ∃ x, vS σ1 r = some (.bl x) ∧ (x = true → WXs Γ a σ1 Q) ∧ (x = false → WXs Γ b σ1 Q)) : WX Γ (.ife c a b) σ Q := fun ρ l => by
  obtain ⟨r, ρ1, σ1, e1, l1, x, h1, ha, hb⟩ := h ρ l
  cases x with
  | true =>
    obtain ⟨n, ρ2, fl, σ2, e2, l2, q⟩ := ha rfl ρ1 l1
    exact ⟨n, ρ2, fl, σ2, fun N hN => by simp only [exec, e1, Option.bind_some, asB_of l1 h1, if_true, e2 N hN], l2, q⟩
  | false =>
    obtain ⟨n, ρ2, fl, σ2, e2, l2, q⟩ := hb rfl ρ1 l1
    exact ⟨n, ρ2, fl, σ2, fun N hN => by simp only [exec, e1, Option.bind_some, asB_of l1 h1, Bool.false_eq_true, if_false, e2 N hN], l2, q⟩
theorem x_ret {e : PX} (h : WE Γ e σ fun r σ1 => ∃ d, tS σ1 r = some d ∧ Q (.rt d) σ1) : WX Γ (.ret e) σ Q := fun ρ l => by
  obtain ⟨r, ρ1, σ1, e1, l1, d, h1, q⟩ := h ρ l
  exact ⟨0, _, _, _, fun N _ => by simp only [exec, e1, Option.bind_some, l1.take h1], l1, q⟩
theorem x_retN (q : Q (.rt .non) σ) : WX Γ .retN σ Q := fun ρ l => ⟨0, _, _, _, fun N _ => rfl, l, q⟩
theorem x_pass (q : Q .nx σ) : WX Γ .pass σ Q := fun ρ l => ⟨0, _, _, _, fun N _ => rfl, l, q⟩
theorem x_pre {j : Nat} {ns : List Str} {s : PS} {d n : D} (h : gS σ j = some d) (h1 : getP d (ns.map Sk.f) = some n) (h2 : n.noBor = true) (q : WX Γ s (σ.set j (.is (setP d (ns.map Sk.f) n.frz))) Q) : WX Γ (.pre j ns s) σ Q := fun ρ l => by
  obtain ⟨n1, ρ1, fl, σ1, e1, l1, q1⟩ := q (ρ.set j (some (setP d (ns.map Sk.f) n.frz))) l.setI
  exact ⟨n1, ρ1, fl, σ1, fun N hN => by simp only [exec, frzAt, l.get h, h1, h2, Option.bind_some, if_true, e1 N hN], l1, q1⟩
def forG {α τ r : Type} (b : α → τ → Option (r ⊕ τ)) : List α → τ → Option (r ⊕ τ)
  | [], t => some (.inr t)
  | x :: xs, t => (b x t).bind fun q => match q with
    | .inl y => some (.inl y)
    | .inr t' => forG b xs t'
def LoopQ {τ r : Type} (S : τ → Spec) (R : r → Flw → Spec → Prop) : r ⊕ τ → Flw → Spec → Prop
  | .inl y => R y
  | .inr t => fun fl σ => fl = .nx ∧ Wn σ (S t)
theorem for_go {α τ r : Type} {js : List Nat} {b : List PS} {f : α → List D} {bt : α → τ → Option (r ⊕ τ)} (S : τ → Spec) (R : r → Flw → Spec → Prop) (hR : ∀ y fl σ, R y fl σ → ∃ d, fl = .rt d)
    (hb : ∀ x t q, bt x t = some q → ∃ σ1, setS js (f x) (S t) = some σ1 ∧ WXs Γ b σ1 (LoopQ S R q)) :
    ∀ (xs : List α) (t : τ) (q : r ⊕ τ) (ρ : Env), Le (S t) ρ → forG bt xs t = some q → ∃ n ρ' fl σ', (∀ N, n ≤ N → forL js (fun ρ => execs N Γ b ρ) (xs.map f) ρ = some (ρ', fl)) ∧ Le σ' ρ' ∧ LoopQ S R q fl σ'
  | [], t, q, ρ, l, h => by
    simp only [forG, Option.some.injEq] at h
    subst h
    exact ⟨0, ρ, .nx, S t, fun _ _ => rfl, l, rfl, fun _ h => h⟩
  | x :: xs, t, q, ρ, l, h => by
    simp only [forG, Option.bind_eq_some_iff] at h
    obtain ⟨q1, h1, h2⟩ := h
    obtain ⟨σ1, k1, k2⟩ := hb x t q1 h1
    obtain ⟨ρ1, k3, l1⟩ := l.setAt k1
    obtain ⟨n, ρ2, fl, σ2, e2, l2, k4⟩ := k2 ρ1 l1
    cases q1 with
    | inl y =>
      simp only [Option.some.injEq] at h2
      subst h2
      obtain ⟨d, rfl⟩ := hR y fl σ2 k4
      exact ⟨n, ρ2, .rt d, σ2, fun N hN => by simp only [List.map_cons, forL, k3, Option.bind_some, e2 N hN], l2, k4⟩
    | inr t' =>
      obtain ⟨rfl, w⟩ := k4
      obtain ⟨n', ρ', fl', σ', g1, g2, g3⟩ := for_go S R hR hb xs t' q ρ2 (w ρ2 l2) h2
      exact ⟨max n n', ρ', fl', σ', fun N hN => by simp only [List.map_cons, forL, k3, Option.bind_some, e2 N (by omega), g1 N (by omega)], g2, g3⟩
theorem x_for {α τ r : Type} {js : List Nat} {ik : IK} {ies : List PX} {b : List PS} {xs : List α} {f : α → List D} {bt : α → τ → Option (r ⊕ τ)} {t0 : τ} {q : r ⊕ τ} (S : τ → Spec) (R : r → Flw → Spec → Prop) (hR : ∀ y fl σ, R y fl σ → ∃ d, fl = .rt d)
    (hi : WEs Γ ies σ fun rs σ1 => Wn σ1 (S t0) ∧ ∃ ds, vSs (S t0) rs = some ds ∧ iterS ik ds = some (xs.map f) ∧ okItS (S t0) (fun i => tchS b i || js.contains i) rs = true)
    (hb : ∀ x t q, bt x t = some q → ∃ σ1, setS js (f x) (S t) = some σ1 ∧ WXs Γ b σ1 (LoopQ S R q))
    (h1 : forG bt xs t0 = some q) (hq : ∀ fl σ', LoopQ S R q fl σ' → Q fl σ') : WX Γ (.for_ js ik ies b) σ Q := fun ρ l => by
  obtain ⟨rs, ρ1, σ1, e1, l1, w1, ds, v1, i1, o1⟩ := hi ρ l
  have l2 := w1 ρ1 l1
  obtain ⟨n, ρ', fl, σ', g1, g2, g3⟩ := for_go S R hR hb xs t0 q ρ1 l2 h1
  exact ⟨n, ρ', fl, σ', fun N hN => by simp only [exec, e1, Option.bind_some, l2.views v1, i1, l2.okIt o1, if_true, g1 N hN], g2, hq fl σ' g3⟩
end
end Pv

set_option Elab.async false
set_option linter.all false
set_option maxRecDepth 100000
set_option maxHeartbeats 1000000
namespace Pv
open PySem L2
def whN {τ r : Type} (c : τ → Option Bool) (b : τ → Option (r ⊕ τ)) : Nat → τ → Option (r ⊕ τ)
  | 0, _ => none
  | n + 1, t => (c t).bind fun q => if q = true then (b t).bind fun x => match x with
      | .inl y => some (.inl y)
      | .inr t' => whN c b n t'
    else some (.inr t)
theorem whN_mono {τ r : Type} {c : τ → Option Bool} {b : τ → Option (r ⊕ τ)} : ∀ {n m : Nat} {t : τ} {q : r ⊕ τ}, whN c b n t = some q → n ≤ m → whN c b m t = some q
  | 0, _, _, _, h, _ => by simp [whN] at h
  | n + 1, 0, _, _, _, h => by omega
  | n + 1, m + 1, t, q, h, hm => by
    simp only [whN, Option.bind_eq_some_iff] at h ⊢
    obtain ⟨x, h1, h2⟩ := h
    refine ⟨x, h1, ?_⟩
    cases x with
    | false => exact h2
    | true =>
      simp only [if_true, Option.bind_eq_some_iff] at h2 ⊢
      obtain ⟨y, h3, h4⟩ := h2
      refine ⟨y, h3, ?_⟩
      cases y with
      | inl y => exact h4
      | inr t' => exact whN_mono h4 (by omega)
open Classical in
noncomputable def whG {τ r : Type} (c : τ → Option Bool) (b : τ → Option (r ⊕ τ)) (t : τ) : Option (r ⊕ τ) :=
  if h : ∃ q, ∃ n, whN c b n t = some q then some (Classical.choose h) else none
theorem whG_iff {τ r : Type} {c : τ → Option Bool} {b : τ → Option (r ⊕ τ)} {t : τ} {q : r ⊕ τ} : whG c b t = some q ↔ ∃ n, whN c b n t = some q := by
  unfold whG
  constructor
  · intro h
    split at h
    · rename_i hx
      cases h
      exact Classical.choose_spec hx
    · cases h
  · rintro ⟨n, hn⟩
    have hx : ∃ q, ∃ n, whN c b n t = some q := ⟨q, n, hn⟩
    rw [dif_pos hx]
    obtain ⟨m, hm⟩ := Classical.choose_spec hx
    have h1 := whN_mono hn (Nat.le_max_left n m)
    have h2 := whN_mono hm (Nat.le_max_right n m)
    rw [h1] at h2
    cases h2
    rfl
theorem whG_eq {τ r : Type} (c : τ → Option Bool) (b : τ → Option (r ⊕ τ)) (t : τ) : whG c b t = (c t).bind fun q => if q = true then (b t).bind fun x => match x with
      | .inl y => some (.inl y)
      | .inr t' => whG c b t'
    else some (.inr t) := by
  refine Option.ext fun q => ?_
  rw [whG_iff]
  constructor
  · rintro ⟨n, hn⟩
    cases n with
    | zero => simp [whN] at hn
    | succ n =>
      simp only [whN, Option.bind_eq_some_iff] at hn ⊢
      obtain ⟨x, h1, h2⟩ := hn
      refine ⟨x, h1, ?_⟩
      cases x with
      | false => exact h2
      | true =>
        simp only [if_true, Option.bind_eq_some_iff] at h2 ⊢
        obtain ⟨y, h3, h4⟩ := h2
        refine ⟨y, h3, ?_⟩
        cases y with
        | inl y => exact h4
        | inr t' => exact whG_iff.mpr ⟨n, h4⟩
  · intro h
    simp only [Option.bind_eq_some_iff] at h
    obtain ⟨x, h1, h2⟩ := h
    cases x with
    | false => exact ⟨1, by simp only [whN, h1, Option.bind_some]; exact h2⟩
    | true =>
      simp only [if_true, Option.bind_eq_some_iff] at h2
      obtain ⟨y, h3, h4⟩ := h2
      cases y with
      | inl y => exact ⟨1, by simp only [whN, h1, Option.bind_some, if_true, h3]; exact h4⟩
      | inr t' =>
        obtain ⟨n, hn⟩ := whG_iff.mp h4
        exact ⟨n + 1, by simp only [whN, h1, Option.bind_some, if_true, h3]; exact hn⟩
section
variable {Γ : Fns} {σ : Spec} {Q : Flw → Spec → Prop}
theorem whl_go {τ r : Type} {c : PX} {b : List PS} {ct : τ → Option Bool} {bt : τ → Option (r ⊕ τ)} (S : τ → Spec) (R : r → Flw → Spec → Prop) (hR : ∀ y fl σ, R y fl σ → ∃ d, fl = .rt d)
    (hc : ∀ t v, ct t = some v → WE Γ c (S t) fun r σ1 => vS σ1 r = some (.bl v) ∧ Wn σ1 (S t)) (hb : ∀ t q, bt t = some q → WXs Γ b (S t) (LoopQ S R q)) :
    ∀ (k : Nat) (t : τ) (q : r ⊕ τ) (ρ : Env), Le (S t) ρ → whN ct bt k t = some q → ∃ n ρ' fl σ', (∀ N, n ≤ N → ∀ M, k ≤ M → whileL (fun ρ => (ev Γ c ρ).bind asB) (fun ρ => execs N Γ b ρ) M ρ = some (ρ', fl)) ∧ Le σ' ρ' ∧ LoopQ S R q fl σ'
  | 0, _, _, _, _, h => by simp [whN] at h
  | k + 1, t, q, ρ, l, h => by
    simp only [whN, Option.bind_eq_some_iff] at h
    obtain ⟨v, h1, h2⟩ := h
    obtain ⟨r1, ρ1, σ1, e1, l1, v1, w1⟩ := hc t v h1 ρ l
    cases v with
    | false =>
      simp only [Bool.false_eq_true, if_false, Option.some.injEq] at h2
      subst h2
      refine ⟨0, ρ1, .nx, S t, fun N _ M hM => ?_, w1 ρ1 l1, rfl, fun _ h => h⟩
      obtain ⟨M, rfl⟩ : ∃ M', M = M' + 1 := ⟨M - 1, by omega⟩
      simp only [whileL, e1, Option.bind_some, asB_of l1 v1, Bool.false_eq_true, if_false]
    | true =>
      simp only [if_true, Option.bind_eq_some_iff] at h2
      obtain ⟨x, h3, h4⟩ := h2
      obtain ⟨n, ρ2, fl, σ2, e2, l2, k2⟩ := hb t x h3 ρ1 (w1 ρ1 l1)
      cases x with
      | inl y =>
        simp only [Option.some.injEq] at h4
        subst h4
        obtain ⟨d, rfl⟩ := hR y fl σ2 k2
        refine ⟨n, ρ2, .rt d, σ2, fun N hN M hM => ?_, l2, k2⟩
        obtain ⟨M, rfl⟩ : ∃ M', M = M' + 1 := ⟨M - 1, by omega⟩
        simp only [whileL, e1, Option.bind_some, asB_of l1 v1, if_true, e2 N hN]
      | inr t' =>
        obtain ⟨rfl, w2⟩ := k2
        obtain ⟨n', ρ', fl', σ', g1, g2, g3⟩ := whl_go S R hR hc hb k t' q ρ2 (w2 ρ2 l2) h4
        refine ⟨max n n', ρ', fl', σ', fun N hN M hM => ?_, g2, g3⟩
        obtain ⟨M, rfl⟩ : ∃ M', M = M' + 1 := ⟨M - 1, by omega⟩
        simp only [whileL, e1, Option.bind_some, asB_of l1 v1, if_true, e2 N (by omega), g1 N (by omega) M (by omega)]
theorem x_whl {τ r : Type} {c : PX} {b : List PS} {ct : τ → Option Bool} {bt : τ → Option (r ⊕ τ)} {t0 : τ} {q : r ⊕ τ} (S : τ → Spec) (R : r → Flw → Spec → Prop) (hR : ∀ y fl σ, R y fl σ → ∃ d, fl = .rt d) (hw : Wn σ (S t0))
    (hc : ∀ t v, ct t = some v → WE Γ c (S t) fun r σ1 => vS σ1 r = some (.bl v) ∧ Wn σ1 (S t)) (hb : ∀ t q, bt t = some q → WXs Γ b (S t) (LoopQ S R q))
    (h1 : whG ct bt t0 = some q) (hq : ∀ fl σ', LoopQ S R q fl σ' → Q fl σ') : WX Γ (.whl c b) σ Q := fun ρ l => by
  obtain ⟨k, hk⟩ := whG_iff.mp h1
  obtain ⟨n, ρ', fl, σ', g1, g2, g3⟩ := whl_go S R hR hc hb k t0 q ρ (hw ρ l) hk
  exact ⟨max n k, ρ', fl, σ', fun N hN => by simp only [exec]; exact g1 N (by omega) N (by omega), g2, hq fl σ' g3⟩
end
def RunOk (Γ : Fns) (b : List PS) (n : Nat) (io : Bool) (ds : List D) (q : D × Option D) : Prop := q.2.isSome = io ∧ ∃ k, ∀ N, k ≤ N → runF N Γ b n io ds = some q
open Classical in
noncomputable def mkG (M : Nat → List D → D × Option D → Prop) : Fns := fun g ds => if h : ∃ q, M g ds q then some (Classical.choose h) else none
theorem mkG_sem {M : Nat → List D → D × Option D → Prop} {g : Nat} {b : List PS} {n : Nat} {io : Bool} (H : ∀ ds q, M g ds q → RunOk (mkG M) b n io ds q) : ∀ ds r o, mkG M g ds = some (r, o) → o.isSome = io ∧ ∃ fuel, runF fuel (mkG M) b n io ds = some (r, o) := by
  intro ds r o h
  unfold mkG at h
  split at h
  · rename_i hx
    have hc := Classical.choose_spec hx
    rw [Option.some.inj h] at hc
    obtain ⟨h1, k, h2⟩ := H ds _ hc
    exact ⟨h1, k, h2 k (Nat.le_refl _)⟩
  · cases h
theorem mkG_call {M : Nat → List D → D × Option D → Prop} {g : Nat} {b : List PS} {n : Nat} {io : Bool} (H : ∀ ds q, M g ds q → RunOk (mkG M) b n io ds q) {ds : List D} {q : D × Option D} (h : M g ds q) : mkG M g ds = some q := by
  have hx : ∃ q, M g ds q := ⟨q, h⟩
  unfold mkG
  rw [dif_pos hx]
  obtain ⟨_, k1, h1⟩ := H ds q h
  obtain ⟨_, k2, h2⟩ := H ds _ (Classical.choose_spec hx)
  have e1 := h1 (max k1 k2) (Nat.le_max_left _ _)
  have e2 := h2 (max k1 k2) (Nat.le_max_right _ _)
  rw [e1] at e2
  exact e2.symm
/-- how a def ends -/
structure FinOk (io : Bool) (q : D × Option D) (fl : Flw) (σ : Spec) : Prop where
  ok : (fl = .rt q.1 ∨ (fl = .nx ∧ q.1 = .non)) ∧ q.1.noBor = true ∧ match io with
  | true => ∃ d1, gS σ 0 = some d1 ∧ d1.noBor = true ∧ q.2 = some d1
  | false => q.2 = none
theorem run_of {Γ : Fns} {b : List PS} {n : Nat} {io : Bool} {ds : List D} {q : D × Option D} (h : WXs Γ b (ds.map Sl.is ++ List.replicate (n - ds.length) Sl.free) (FinOk io q)) : RunOk Γ b n io ds q := by
  have hl : Le (ds.map Sl.is ++ List.replicate (n - ds.length) Sl.free) (ds.map some ++ List.replicate (n - ds.length) none) := by
    generalize n - ds.length = m
    clear h
    induction ds with
    | nil =>
      induction m with
      | zero => exact .nil
      | succ m ih => exact .cons (fun d e => nomatch e) ih
    | cons d ds ih => exact .cons rfl ih
  obtain ⟨k, ρ', fl, σ', e, l, ⟨h1, h2, h3⟩⟩ := h _ hl
  have hf : finF io q.1 ρ' = some q ∧ q.2.isSome = io := by
    obtain ⟨q1, q2⟩ := q
    cases io with
    | true =>
      obtain ⟨d1, g1, g2, g3⟩ := h3
      simp only at h2 g3
      subst g3
      exact ⟨by simp only [finF, h2, if_true, l.get g1, Option.bind_some, g2], rfl⟩
    | false =>
      simp only at h2 h3
      subst h3
      exact ⟨by simp only [finF, h2, if_true, Bool.false_eq_true, if_false], rfl⟩
  refine ⟨hf.2, k, fun N hN => ?_⟩
  simp only [runF, e N hN, Option.bind_some]
  rcases h1 with rfl | ⟨rfl, hn⟩
  · exact hf.1
  · have := hf.1
    rw [hn] at this
    exact this
structure EncOk {α : Type} (e : Fl → α → D) : Prop where
  bor : ∀ x, (e .own x).bor = e .bor x
  borb : ∀ x, (e .bor x).bor = e .bor x
  borf : ∀ x, (e .frz x).bor = e .frz x
  frz : ∀ x, (e .own x).frz = e .frz x
  frzf : ∀ x, (e .frz x).frz = e .frz x
  nbo : ∀ x, (e .own x).noBor = true
  nbf : ∀ x, (e .frz x).noBor = true
  nob : ∀ x, (e .bor x).noOwn = true
  nof : ∀ x, (e .frz x).noOwn = true
/-- told without a flag -/
structure EncAt {α : Type} (e : Fl → α → D) : Prop extends EncOk e where
  own : ∀ x, e .own x = e .frz x
  bo : ∀ x, e .bor x = e .frz x
theorem EncAt.noo {α : Type} {e : Fl → α → D} (h : EncAt e) (m : Fl) (x : α) : (e m x).noOwn = true := by
  cases m
  · rw [h.own]; exact h.nof x
  · exact h.nof x
  · exact h.nob x
theorem EncAt.eq {α : Type} {e : Fl → α → D} (h : EncAt e) (m n : Fl) (x : α) : e m x = e n x := by
  cases m <;> cases n <;> first | rfl | exact h.own x | exact (h.own x).symm | exact h.bo x | exact (h.bo x).symm | exact (h.own x).trans (h.bo x).symm | exact (h.bo x).trans (h.own x).symm
def eI (_ : Fl) (i : Int) : D := .int i
def eS (_ : Fl) (s : Str) : D := .str s
def eB (_ : Fl) (b : Bool) : D := .bl b
def eU (_ : Fl) (_ : Unit) : D := .non
def eO {α : Type} (e : Fl → α → D) (_ : Fl) : Option α → D
  | none => .non
  | some x => e .frz x
def eL {α : Type} (e : Fl → α → D) (m : Fl) (l : List α) : D := .lst m (l.map (e m))
def eF {α : Type} (e : Fl → α → D) (_ : Fl) (x : α) : D := e .frz x
def eK {α : Type} (e : Fl → α → D) (m : Fl) (l : List (Str × α)) : D := .dct m (eKs (e m) l)
def eT2 {α β : Type} (e1 : Fl → α → D) (e2 : Fl → β → D) (_ : Fl) (p : α × β) : D := .tup [e1 .frz p.1, e2 .frz p.2]
def eT3 {α β γ : Type} (e1 : Fl → α → D) (e2 : Fl → β → D) (e3 : Fl → γ → D) (_ : Fl) (p : α × β × γ) : D := .tup [e1 .frz p.1, e2 .frz p.2.1, e3 .frz p.2.2]
def eT1 {α : Type} (e1 : Fl → α → D) (_ : Fl) (p : α) : D := .tup [e1 .frz p]
def eC (_ : Fl) (ns : List Int) : D := .scr ns
theorem eI_ok : EncAt eI := ⟨⟨fun _ => rfl, fun _ => rfl, fun _ => rfl, fun _ => rfl, fun _ => rfl, fun _ => rfl, fun _ => rfl, fun _ => rfl, fun _ => rfl⟩, fun _ => rfl, fun _ => rfl⟩
theorem eS_ok : EncAt eS := ⟨⟨fun _ => rfl, fun _ => rfl, fun _ => rfl, fun _ => rfl, fun _ => rfl, fun _ => rfl, fun _ => rfl, fun _ => rfl, fun _ => rfl⟩, fun _ => rfl, fun _ => rfl⟩
theorem eB_ok : EncAt eB := ⟨⟨fun _ => rfl, fun _ => rfl, fun _ => rfl, fun _ => rfl, fun _ => rfl, fun _ => rfl, fun _ => rfl, fun _ => rfl, fun _ => rfl⟩, fun _ => rfl, fun _ => rfl⟩
theorem eU_ok : EncAt eU := ⟨⟨fun _ => rfl, fun _ => rfl, fun _ => rfl, fun _ => rfl, fun _ => rfl, fun _ => rfl, fun _ => rfl, fun _ => rfl, fun _ => rfl⟩, fun _ => rfl, fun _ => rfl⟩
theorem eT1_ok {α : Type} {e1 : Fl → α → D} : EncAt (eT1 e1) := ⟨⟨fun _ => rfl, fun _ => rfl, fun _ => rfl, fun _ => rfl, fun _ => rfl, fun _ => rfl, fun _ => rfl, fun _ => rfl, fun _ => rfl⟩, fun _ => rfl, fun _ => rfl⟩
theorem eT2_ok {α β : Type} {e1 : Fl → α → D} {e2 : Fl → β → D} : EncAt (eT2 e1 e2) := ⟨⟨fun _ => rfl, fun _ => rfl, fun _ => rfl, fun _ => rfl, fun _ => rfl, fun _ => rfl, fun _ => rfl, fun _ => rfl, fun _ => rfl⟩, fun _ => rfl, fun _ => rfl⟩
theorem eT3_ok {α β γ : Type} {e1 : Fl → α → D} {e2 : Fl → β → D} {e3 : Fl → γ → D} : EncAt (eT3 e1 e2 e3) := ⟨⟨fun _ => rfl, fun _ => rfl, fun _ => rfl, fun _ => rfl, fun _ => rfl, fun _ => rfl, fun _ => rfl, fun _ => rfl, fun _ => rfl⟩, fun _ => rfl, fun _ => rfl⟩
theorem eO_ok {α : Type} {e : Fl → α → D} (h : EncOk e) : EncAt (eO e) := by
  constructor <;> first | constructor | skip
  all_goals (intro x; cases x with
    | none => rfl
    | some x => first | rfl | exact h.bor x | exact h.borb x | exact h.borf x | exact h.frz x | exact h.frzf x | exact h.nbo x | exact h.nbf x | exact h.nob x | exact h.nof x | exact h.own x | exact h.bo x)
theorem eF_ok {α : Type} {e : Fl → α → D} (h : EncOk e) : EncAt (eF e) := ⟨⟨h.borf, h.borf, h.borf, h.frzf, h.frzf, h.nbf, h.nbf, h.nof, h.nof⟩, fun _ => rfl, fun _ => rfl⟩
theorem bors_map : ∀ {α : Type} (f g : α → D), (∀ x, (f x).bor = g x) → ∀ l : List α, bors (l.map f) = l.map g
  | _, _, _, _, [] => rfl
  | _, f, g, h, a :: l => by simp only [List.map_cons, bors, h a, bors_map f g h l]
theorem frzs_map : ∀ {α : Type} (f g : α → D), (∀ x, (f x).frz = g x) → ∀ l : List α, frzs (l.map f) = l.map g
  | _, _, _, _, [] => rfl
  | _, f, g, h, a :: l => by simp only [List.map_cons, frzs, h a, frzs_map f g h l]
theorem noBors_map : ∀ {α : Type} (f : α → D), (∀ x, (f x).noBor = true) → ∀ l : List α, noBors (l.map f) = true
  | _, _, _, [] => rfl
  | _, f, h, a :: l => by simp only [List.map_cons, noBors, h a, noBors_map f h l, Bool.and_self]
theorem eL_ok {α : Type} {e : Fl → α → D} (h : EncOk e) : EncOk (eL e) := ⟨
  fun x => by simp only [eL, D.bor, bors_map _ _ h.bor], fun _ => rfl, fun _ => rfl, fun x => by simp only [eL, D.frz, frzs_map _ _ h.frz], fun _ => rfl,
  fun x => by simp only [eL, D.noBor, noBors_map _ h.nbo], fun _ => rfl, fun _ => rfl, fun _ => rfl⟩
theorem bork_map : ∀ {α : Type} (f g : α → D), (∀ x, (f x).bor = g x) → ∀ l : List (Str × α), bork (eKs f l) = eKs g l
  | _, _, _, _, [] => rfl
  | _, f, g, h, a :: l => by
    have := bork_map f g h l
    simp only [eKs] at this
    simp only [eKs, List.map_cons, bork, h a.2, this]
theorem frzk_map : ∀ {α : Type} (f g : α → D), (∀ x, (f x).frz = g x) → ∀ l : List (Str × α), frzk (eKs f l) = eKs g l
  | _, _, _, _, [] => rfl
  | _, f, g, h, a :: l => by
    have := frzk_map f g h l
    simp only [eKs] at this
    simp only [eKs, List.map_cons, frzk, h a.2, this]
theorem noBork_map : ∀ {α : Type} (f : α → D), (∀ x, (f x).noBor = true) → ∀ l : List (Str × α), noBork (eKs f l) = true
  | _, _, _, [] => rfl
  | _, f, h, a :: l => by
    have := noBork_map f h l
    simp only [eKs] at this
    simp only [eKs, List.map_cons, noBork, h a.2, this, Bool.and_self]
theorem eK_ok {α : Type} {e : Fl → α → D} (h : EncOk e) : EncOk (eK e) := ⟨
  fun x => by simp only [eK, D.bor, bork_map _ _ h.bor], fun _ => rfl, fun _ => rfl, fun x => by simp only [eK, D.frz, frzk_map _ _ h.frz], fun _ => rfl,
  fun x => by simp only [eK, D.noBor, noBork_map _ h.nbo], fun _ => rfl, fun _ => rfl, fun _ => rfl⟩
end Pv

set_option Elab.async false
set_option linter.all false
set_option maxRecDepth 100000
set_option maxHeartbeats 1000000
namespace Pv
open PySem L2
theorem bx {α β : Type} {x : Option α} {f : α → Option β} {b : β} {G : Prop} (h : x.bind f = some b) (k : ∀ y, x = some y → f y = some b → G) : G := by
  obtain ⟨y, h1, h2⟩ := Option.bind_eq_some_iff.mp h
  exact k y h1 h2
theorem bx2 {α α' β : Type} {x : Option (α × α')} {f : α × α' → Option β} {b : β} {G : Prop} (h : x.bind f = some b) (k : ∀ y z, x = some (y, z) → f (y, z) = some b → G) : G := by
  obtain ⟨⟨y, z⟩, h1, h2⟩ := Option.bind_eq_some_iff.mp h
  exact k y z h1 h2
theorem kT {α : Type} {c : Bool} {A B : Option α} {b : α} {G : Prop} (hc : c = true) (h : (if c = true then A else B) = some b) (k : A = some b → G) : G := k (by rw [if_pos hc] at h; exact h)
theorem kF {α : Type} {c : Bool} {A B : Option α} {b : α} {G : Prop} (hc : c = false) (h : (if c = true then A else B) = some b) (k : B = some b → G) : G := k (by rw [if_neg (by rw [hc]; exact fun z => nomatch z)] at h; exact h)
theorem gx {α : Type} {p : Prop} [Decidable p] {A : Option α} {b : α} {G : Prop} (h : (if p then A else none) = some b) (k : p → A = some b → G) : G := by
  by_cases hp : p
  · rw [if_pos hp] at h; exact k hp h
  · rw [if_neg hp] at h; cases h
theorem atI_map {α β : Type} (f : α → β) (l : List α) (i : Int) : atI (l.map f) i = (atI l i).map f := by
  unfold atI
  rw [List.length_map]
  cases ixN l.length i with
  | none => rfl
  | some j => simp
theorem cutD_map {α β : Type} (f : α → β) (l : List α) (a b : Option Int) : cutD (l.map f) a b = (cutD l a b).map f := by
  unfold cutD
  rw [List.length_map, List.map_take, List.map_drop]
theorem allNo {α : Type} {f : α → D} (h : ∀ x, (f x).noOwn = true) (l : List α) : (l.map f).all D.noOwn = true := by
  rw [List.all_eq_true]
  intro d hd
  obtain ⟨x, _, rfl⟩ := List.mem_map.mp hd
  exact h x
theorem map_eq_ {α : Type} {e : Fl → α → D} (h : EncAt e) (m n : Fl) (l : List α) : l.map (e m) = l.map (e n) := List.map_congr_left fun x _ => h.eq m n x
theorem asStrs_map (l : List Str) : asStrs (l.map D.str) = some l := by
  induction l with
  | nil => rfl
  | cons a l ih => simp only [List.map_cons, asStrs, ih, Option.bind_some]
theorem asBls_map (l : List Bool) : asBls (l.map D.bl) = some l := by
  induction l with
  | nil => rfl
  | cons a l ih => simp only [List.map_cons, asBls, ih, Option.bind_some]
theorem keyStrs_map {α : Type} (f : α → D) (l : List (Str × α)) : keyStrs (eKs f l) = some (l.map (·.1)) := by
  induction l with
  | nil => rfl
  | cons a l ih =>
    simp only [eKs] at ih
    simp only [eKs, List.map_cons, keyStrs, ih, Option.bind_some]
def catS (s t : Str) : Option Str := if s.length + t.length ≤ sizeLine then some (s ++ t) else none
def catL {α : Type} (a b : List α) : Option (List α) := if a.length + b.length ≤ sizeLine then some (a ++ b) else none
def mulI (i j : Int) : Option Int := if (-(2 ^ 64) < i ∧ i < 2 ^ 64) ∨ (-(2 ^ 64) < j ∧ j < 2 ^ 64) then some (i * j) else none
def fdivI (i j : Int) : Option Int := if 0 < j ∧ j.natAbs.log2 < 9000 then some (i / j) else none
def modI (i j : Int) : Option Int := if 0 < j then some (i % j) else none
def ixS_ (z : Str) (i : Int) : Option Str := if z.length ≤ sizeLine then (atI z.cps.toList i).bind fun c => some ⟨#[c]⟩ else none
def inS_ (c z : Str) : Option Bool := if c.cps.size = 1 then some (decide (c.cps.toList.headD 0 ∈ z.cps.toList)) else none
def lenS_ (s : Str) : Option Int := if s.length ≤ sizeLine then some (s.length : Int) else none
def srt_ (l : List Str) : Option (List Str) := if l.length ≤ 1000000 then some (sortS l) else none
def app_ {α : Type} (l : List α) (x : α) : Option (List α) := if l.length < 1000000 then some (l ++ [x]) else none
def ext_ {α : Type} (l k : List α) : Option (List α) := if l.length + k.length < 1000000 then some (l ++ k) else none
def put_ {α : Type} (l : List (Str × α)) (k : Str) (x : α) : Option (List (Str × α)) := if l.length < 1000000 then some (putS_ l k x) else none
def mod_ {α : Type} (l : List (Str × α)) (k : Str) (f : α → Option α) : Option (List (Str × α)) := (getK l k).bind fun a => (f a).bind fun a' => some (putS_ l k a')
def setL_ {α : Type} (l : List α) (i : Int) (x : α) : Option (List α) := (ixN l.length i).bind fun j => some (l.set j x)
def pop_ {α : Type} (l : List α) : Option (α × List α) := l.getLast?.bind fun x => some (x, l.dropLast)
def lim_ {α : Type} (l : List α) : Option (List α) := if l.length ≤ 1000000 then some l else none
def mrg_ {α : Type} (l : List (Str × α)) : List (Str × α) := l.foldl (fun acc p => putS_ acc p.1 p.2) []
section
variable {α : Type} {e : Fl → α → D} {m n : Fl}
theorem o_add (i j : Int) : opS .add [.int i, .int j] = some (.int (i + j)) := rfl
theorem o_sub (i j : Int) : opS .sub [.int i, .int j] = some (.int (i - j)) := rfl
theorem o_neg (i : Int) : opS .neg [.int i] = some (.int (-i)) := rfl
theorem o_lt (i j : Int) : opS .lt [.int i, .int j] = some (.bl (decide (i < j))) := rfl
theorem o_le (i j : Int) : opS .le [.int i, .int j] = some (.bl (decide (i ≤ j))) := rfl
theorem o_gt (i j : Int) : opS .gt [.int i, .int j] = some (.bl (decide (j < i))) := rfl
theorem o_ge (i j : Int) : opS .ge [.int i, .int j] = some (.bl (decide (j ≤ i))) := rfl
theorem o_max2 (i j : Int) : opS .max2 [.int i, .int j] = some (.int (if j > i then j else i)) := rfl
theorem o_min2 (i j : Int) : opS .min2 [.int i, .int j] = some (.int (if j < i then j else i)) := rfl
theorem o_int1 (b : Bool) : opS .int1 [.bl b] = some (.int (if b = true then 1 else 0)) := rfl
theorem o_mul {i j k : Int} (h : mulI i j = some k) : opS .mul [.int i, .int j] = some (.int k) := by
  unfold mulI at h
  split at h
  · rename_i hc
    cases h
    simp only [opS, ii, okN, hc, decide_true, if_true]
  · cases h
theorem o_mulR {i j : Int} (h : -(2 ^ 64) < j ∧ j < 2 ^ 64) : opS .mul [.int i, .int j] = some (.int (i * j)) := o_mul (if_pos (.inr h))
theorem o_mulL {i j : Int} (h : -(2 ^ 64) < i ∧ i < 2 ^ 64) : opS .mul [.int i, .int j] = some (.int (i * j)) := o_mul (if_pos (.inl h))
theorem o_fdiv {i j k : Int} (h : fdivI i j = some k) : opS .fdiv [.int i, .int j] = some (.int k) := by
  unfold fdivI at h
  split at h
  · rename_i hc
    cases h
    simp only [opS, ii, okN, hc, and_self, decide_true, if_true]
  · cases h
theorem o_fdivC {i j : Int} (h : 0 < j ∧ j.natAbs.log2 < 9000) : opS .fdiv [.int i, .int j] = some (.int (i / j)) := o_fdiv (if_pos h)
theorem o_mod {i j k : Int} (h : modI i j = some k) : opS .mod [.int i, .int j] = some (.int k) := by
  unfold modI at h
  split at h
  · rename_i hc
    cases h
    simp only [opS, ii, okN, hc, decide_true, if_true]
  · cases h
theorem o_modC {i j : Int} (h : 0 < j) : opS .mod [.int i, .int j] = some (.int (i % j)) := o_mod (if_pos h)
theorem o_powC {i j k : Int} (h : (decide (0 ≤ j ∧ j ≤ 1000 ∧ i.natAbs < 2 ^ 64) && decide (i ^ j.toNat = k)) = true) : opS .pow [.int i, .int j] = some (.int k) := by
  simp only [Bool.and_eq_true, decide_eq_true_eq] at h
  simp only [opS, ii, okN, h.1, h.2, and_self, decide_true, if_true]
theorem o_addS {s t u : Str} (h : catS s t = some u) : opS .addS [.str s, .str t] = some (.str u) := by
  unfold catS at h
  split at h
  · rename_i hc
    cases h
    simp only [opS, ss, okN, hc, decide_true, if_true]
  · cases h
theorem o_cat (ok : EncAt e) {a b c : List α} (h : catL a b = some c) : opS .cat [eL e m a, eL e n b] = some (eL e .own c) := by
  unfold catL at h
  split at h
  · rename_i hc
    cases h
    simp only [opS, eL, ll, okN, allNo (ok.noo m), allNo (ok.noo n), allNo (ok.noo .own), List.length_map, hc, decide_true, Bool.and_self, if_true, List.map_append, map_eq_ ok m .own, map_eq_ ok n .own]
  · cases h
theorem o_lenL (l : List α) : opS .lenL [eL e m l] = some (.int l.length) := by simp only [opS, eL, d1, List.length_map]
theorem o_lenT2 {β : Type} {e1 : Fl → α → D} {e2 : Fl → β → D} (p : α × β) : opS .lenL [eT2 e1 e2 m p] = some (.int 2) := rfl
theorem o_lenT3 {β γ : Type} {e1 : Fl → α → D} {e2 : Fl → β → D} {e3 : Fl → γ → D} (p : α × β × γ) : opS .lenL [eT3 e1 e2 e3 m p] = some (.int 3) := rfl
theorem o_lenK (l : List (Str × α)) : opS .lenK [eK e m l] = some (.int l.length) := by simp only [opS, eK, k1, eKs_len]
theorem o_lenS {s : Str} {k : Int} (h : lenS_ s = some k) : opS .lenS [.str s] = some (.int k) := by
  unfold lenS_ at h
  split at h
  · rename_i hc
    cases h
    simp only [opS, s1, okN, hc, decide_true, if_true]
  · cases h
theorem o_lenC (ns : List Int) : opS .lenC [.scr ns] = some (.int ns.length) := rfl
theorem o_isN {x : Option α} (h : ∀ y, (e .frz y).isNon = false) : opS .isN [eO e m x] = some (.bl x.isNone) := by
  cases x with
  | none => rfl
  | some y => show some (D.bl (e .frz y).isNon) = _; rw [h y]; rfl
theorem o_notN {x : Option α} (h : ∀ y, (e .frz y).isNon = false) : opS .notN [eO e m x] = some (.bl x.isSome) := by
  cases x with
  | none => rfl
  | some y => show some (D.bl (!(e .frz y).isNon)) = _; rw [h y]; rfl
theorem o_ixL (ok : ∀ x, (e m x).noOwn = true) {l : List α} {i : Int} {x : α} (h : atI l i = some x) : opS .ixL [eL e m l, .int i] = some (e m x) := by
  simp only [opS, eL, li, atI_map, h, Option.map_some, Option.bind_some, okN, ok x, if_true]
theorem o_ixC {ns : List Int} {i n : Int} (h : atI ns i = some n) : opS .ixC [.scr ns, .int i] = some (.int n) := by simp only [opS, d2, h, Option.bind_some]
theorem o_ixS {z y : Str} {i : Int} (h : ixS_ z i = some y) : opS .ixS [.str z, .int i] = some (.str y) := by
  unfold ixS_ at h
  split at h
  · rename_i hc
    simp only [opS, d2, hc, if_true]
    rw [Option.bind_eq_some_iff] at h ⊢
    obtain ⟨c, h1, h2⟩ := h
    cases h2
    exact ⟨c, h1, rfl⟩
  · cases h
theorem o_ixK (ok : ∀ x, (e m x).noOwn = true) {l : List (Str × α)} {k : Str} {x : α} (h : getK l k = some x) : opS .ixK [eK e m l, .str k] = some (e m x) := by
  simp only [opS, eK, kd, D.key, Option.bind_some, valA_eKs, h, Option.map_some, okN, ok x, if_true]
theorem o_inK (l : List (Str × α)) (k : Str) : opS .inK [.str k, eK e m l] = some (.bl (getK l k).isSome) := by
  simp only [opS, eK, dk, D.key, Option.bind_some, valA_eKs, Option.isSome_map, b2]
theorem o_ninK (l : List (Str × α)) (k : Str) : opS .ninK [.str k, eK e m l] = some (.bl (!(getK l k).isSome)) := by
  simp only [opS, eK, dk, D.key, Option.bind_some, valA_eKs, Option.isSome_map, b2]
theorem o_inS {c z : Str} {b : Bool} (h : inS_ c z = some b) : opS .inS [.str c, .str z] = some (.bl b) := by
  unfold inS_ at h
  split at h
  · rename_i hc
    cases h
    simp only [opS, ss, okN, hc, decide_true, if_true]
  · cases h
theorem o_sl10 (ok : EncAt e) (l : List α) (i : Int) : opS (.slL true false) [eL e m l, .int i] = some (eL e .own (cutD l (some i) none)) := by
  simp only [opS, eL, li, okN, allNo (ok.noo m), allNo (ok.noo .own), if_true, cutD_map, map_eq_ ok m .own]
theorem o_sl01 (ok : EncAt e) (l : List α) (i : Int) : opS (.slL false true) [eL e m l, .int i] = some (eL e .own (cutD l none (some i))) := by
  simp only [opS, eL, li, okN, allNo (ok.noo m), allNo (ok.noo .own), if_true, cutD_map, map_eq_ ok m .own]
theorem o_sl11 (ok : EncAt e) (l : List α) (i j : Int) : opS (.slL true true) [eL e m l, .int i, .int j] = some (eL e .own (cutD l (some i) (some j))) := by
  simp only [opS, eL, lii, okN, allNo (ok.noo m), allNo (ok.noo .own), if_true, cutD_map, map_eq_ ok m .own]
theorem o_rev (ok : EncAt e) (l : List α) : opS .rev [eL e m l] = some (eL e .own l.reverse) := by
  simp only [opS, eL, l1, okN, allNo (ok.noo m), allNo (ok.noo .own), if_true, List.map_reverse, map_eq_ ok m .own]
theorem o_cpL (ok : EncAt e) (l : List α) : opS .cpL [eL e m l] = some (eL e .own l) := by
  simp only [opS, eL, l1, okN, allNo (ok.noo m), allNo (ok.noo .own), if_true, map_eq_ ok m .own]
theorem allNoK {f : α → D} (h : ∀ x, (f x).noOwn = true) (l : List (Str × α)) : ((eKs f l).all fun p => p.2.noOwn) = true := by
  rw [List.all_eq_true]
  intro d hd
  obtain ⟨x, _, rfl⟩ := List.mem_map.mp hd
  exact h x.2
theorem eKs_eq (h : EncAt e) (m n : Fl) (l : List (Str × α)) : eKs (e m) l = eKs (e n) l := List.map_congr_left fun x _ => by rw [h.eq m n]
theorem o_cpK (ok : EncAt e) (l : List (Str × α)) : opS .cpK [eK e m l] = some (eK e .own l) := by
  simp only [opS, eK, k1, okN, allNoK (ok.noo m), allNoK (ok.noo .own), if_true, eKs_eq ok m .own]
theorem pairsD_map (ok : EncAt e) (l : List (Str × α)) : pairsD (l.map (eT2 eS e m)) = some (eKs (e .own) l) := by
  induction l with
  | nil => rfl
  | cons a l ih =>
    simp only [List.map_cons, pairsD, eT2, eS, D.key, Option.bind_some]
    have ih' : pairsD (List.map (fun p => D.tup [D.str p.1, e .frz p.2]) l) = some (eKs (e .own) l) := ih
    show ((pairsD (List.map (fun p => D.tup [D.str p.1, e .frz p.2]) l)).bind _) = _
    rw [ih']
    simp only [Option.bind_some, eKs, List.map_cons, ok.own]
theorem mergeA_eKs (f : α → D) : ∀ (l acc : List (Str × α)), mergeA (eKs f acc) (eKs f l) = eKs f (l.foldl (fun acc p => putS_ acc p.1 p.2) acc)
  | [], _ => rfl
  | p :: l, acc => by
    have ih := mergeA_eKs f l (putS_ acc p.1 p.2)
    rw [← putA_eKs] at ih
    exact ih
theorem o_mkK (ok : EncAt e) (l : List (Str × α)) : opS .mkK [eL (eT2 eS e) m l] = some (eK e .own (mrg_ l)) := by
  simp only [opS, eL, l1, pairsD_map ok, Option.bind_some, okN, allNoK (ok.noo .own), if_true, eK, mrg_]
  have := mergeA_eKs (e .own) l []
  rw [show (eKs (e .own) ([] : List (Str × α))) = [] from rfl] at this
  rw [this]
theorem o_itm (ok : EncAt e) (l : List (Str × α)) : opS .itm [eK e m l] = some (eL (eT2 eS e) .own l) := by
  simp only [opS, eK, k1, okN]
  have h : ((eKs (e m) l).all fun p => p.2.noOwn && p.2.noBor) = true := by
    rw [List.all_eq_true]
    intro d hd
    obtain ⟨x, _, rfl⟩ := List.mem_map.mp hd
    simp only [ok.noo, ok.eq m .frz, ok.nbf, Bool.and_self]
  rw [if_pos h]
  simp only [eL, eKs, List.map_map]
  congr 2
  refine List.map_congr_left fun x _ => ?_
  simp only [Function.comp, keyD, eT2, eS, ok.eq m .frz]
theorem o_all (l : List Bool) : opS .all [eL eB m l] = some (.bl (l.all id)) := by
  have : l.map (eB m) = l.map D.bl := rfl
  simp only [opS, eL, l1, this, asBls_map, Option.bind_some, b2]
theorem o_any (l : List Bool) : opS .any [eL eB m l] = some (.bl (l.any id)) := by
  have : l.map (eB m) = l.map D.bl := rfl
  simp only [opS, eL, l1, this, asBls_map, Option.bind_some, b2]
theorem o_srtS {l k : List Str} (h : srt_ l = some k) : opS .srtS [eL eS m l] = some (eL eS .own k) := by
  unfold srt_ at h
  split at h
  · rename_i hc
    cases h
    have : l.map (eS m) = l.map D.str := rfl
    simp only [opS, eL, l1, this, asStrs_map, Option.bind_some, okN, hc, decide_true, if_true]
    rfl
  · cases h
theorem o_srtK {l : List (Str × α)} {k : List Str} (h : srt_ (l.map (·.1)) = some k) : opS .srtK [eK e m l] = some (eL eS .own k) := by
  unfold srt_ at h
  split at h
  · rename_i hc
    cases h
    simp only [opS, eK, k1, keyStrs_map, Option.bind_some, okN, hc, decide_true, if_true]
    rfl
  · cases h
theorem o_eqI (i j : Int) : opS .eqA [.int i, .int j] = some (.bl (decide (i = j))) := by
  simp only [opS, d2, okN, D.atom, D.toV, scal, Bool.and_self, if_true, V.int.injEq]
theorem o_neI (i j : Int) : opS .neA [.int i, .int j] = some (.bl (!decide (i = j))) := by
  simp only [opS, d2, okN, D.atom, D.toV, scal, Bool.and_self, if_true, V.int.injEq]
theorem o_eqS (i j : Str) : opS .eqA [.str i, .str j] = some (.bl (decide (i = j))) := by
  simp only [opS, d2, okN, D.atom, D.toV, scal, Bool.and_self, if_true, V.str.injEq]
theorem o_neS (i j : Str) : opS .neA [.str i, .str j] = some (.bl (!decide (i = j))) := by
  simp only [opS, d2, okN, D.atom, D.toV, scal, Bool.and_self, if_true, V.str.injEq]
theorem o_eqB (i j : Bool) : opS .eqA [.bl i, .bl j] = some (.bl (decide (i = j))) := by
  simp only [opS, d2, okN, D.atom, D.toV, scal, Bool.and_self, if_true, V.bl.injEq]
theorem o_neB (i j : Bool) : opS .neA [.bl i, .bl j] = some (.bl (!decide (i = j))) := by
  simp only [opS, d2, okN, D.atom, D.toV, scal, Bool.and_self, if_true, V.bl.injEq]
theorem o_eqOS (i j : Option Str) : opS .eqA [eO eS m i, eO eS n j] = some (.bl (decide (i = j))) := by
  cases i <;> cases j <;> simp [opS, d2, okN, eO, eS, D.atom, D.toV, scal]
theorem o_neOS (i j : Option Str) : opS .neA [eO eS m i, eO eS n j] = some (.bl (!decide (i = j))) := by
  cases i <;> cases j <;> simp [opS, d2, okN, eO, eS, D.atom, D.toV, scal]
def inL_ [DecidableEq α] (x : α) (l : List α) : Bool := decide (x ∈ l)
theorem inV_str (x : Str) (l : List Str) : inV (V.str x) (l.map fun y => (D.str y).toV) = decide (x ∈ l) := by
  unfold inV
  rw [List.any_map, Bool.eq_iff_iff, List.any_eq_true, decide_eq_true_eq]
  constructor
  · rintro ⟨y, h1, h2⟩
    simp only [Function.comp, D.toV, eqV] at h2
    have : y = x := by simpa using h2
    rw [← this]; exact h1
  · intro h
    exact ⟨x, h, by simp [Function.comp, D.toV, eqV]⟩
theorem atoms_str (l : List Str) : (l.map (eS m)).all D.atom = true := by
  rw [List.all_eq_true]
  intro d hd
  obtain ⟨x, _, rfl⟩ := List.mem_map.mp hd
  rfl
theorem o_inLS (x : Str) (l : List Str) : opS .inL [.str x, eL eS m l] = some (.bl (decide (x ∈ l))) := by
  have := inV_str x l
  simp only [opS, eL, dl, okN, atoms_str, D.atom, Bool.and_self, if_true, List.map_map, D.toV]
  rw [← this]
  rfl
theorem o_ninLS (x : Str) (l : List Str) : opS .ninL [.str x, eL eS m l] = some (.bl (!decide (x ∈ l))) := by
  have := inV_str x l
  simp only [opS, eL, dl, okN, atoms_str, D.atom, Bool.and_self, if_true, List.map_map, D.toV]
  rw [← this]
  rfl
end
structure PyE {α : Type} (e : Fl → α → D) where
  pe : α → PyData
  ok : α → Bool
  dp : Nat
  py : ∀ m x, (e m x).py = some (pe x)
  lay : ∀ x, ok x = true → (pe x).canLay0 = true
  dep : ∀ x, (pe x).depth ≤ dp
  eqv : ∀ x y, PyData.eqv (pe x) (pe y) = true ↔ x = y
def eqG {α : Type} [DecidableEq α] (ok : α → Bool) (x y : α) : Option Bool := if (ok x && ok y) = true then some (decide (x = y)) else none
def neG {α : Type} [DecidableEq α] (ok : α → Bool) (x y : α) : Option Bool := if (ok x && ok y) = true then some (!decide (x = y)) else none
theorem o_eqP {α : Type} [DecidableEq α] {e : Fl → α → D} {m n : Fl} (P : PyE e) (hd : Nat.ble P.dp 64 = true) {x y : α} {b : Bool} (h : eqG P.ok x y = some b) : opS .eqP [e m x, e n y] = some (.bl b) := by
  unfold eqG at h
  split at h
  · rename_i hc
    cases h
    rw [Bool.and_eq_true] at hc
    have hd' := Nat.le_of_ble_eq_true hd
    have s1 : SeqAt.shaped (P.pe x) = true := by
      unfold SeqAt.shaped
      rw [P.lay x hc.1, decide_eq_true (Nat.le_trans (P.dep x) hd')]; rfl
    have s2 : SeqAt.shaped (P.pe y) = true := by
      unfold SeqAt.shaped
      rw [P.lay y hc.2, decide_eq_true (Nat.le_trans (P.dep y) hd')]; rfl
    have : PyData.eqv (P.pe x) (P.pe y) = decide (x = y) := by rw [Bool.eq_iff_iff, P.eqv, decide_eq_true_eq]
    simp only [opS, d2, P.py, Option.bind_some, okN, s1, s2, Bool.and_self, if_true, this]
  · cases h
theorem o_neP {α : Type} [DecidableEq α] {e : Fl → α → D} {m n : Fl} (P : PyE e) (hd : Nat.ble P.dp 64 = true) {x y : α} {b : Bool} (h : neG P.ok x y = some b) : opS .neP [e m x, e n y] = some (.bl b) := by
  unfold neG at h
  split at h
  · rename_i hc
    cases h
    rw [Bool.and_eq_true] at hc
    have hd' := Nat.le_of_ble_eq_true hd
    have s1 : SeqAt.shaped (P.pe x) = true := by
      unfold SeqAt.shaped
      rw [P.lay x hc.1, decide_eq_true (Nat.le_trans (P.dep x) hd')]; rfl
    have s2 : SeqAt.shaped (P.pe y) = true := by
      unfold SeqAt.shaped
      rw [P.lay y hc.2, decide_eq_true (Nat.le_trans (P.dep y) hd')]; rfl
    have : PyData.eqv (P.pe x) (P.pe y) = decide (x = y) := by rw [Bool.eq_iff_iff, P.eqv, decide_eq_true_eq]
    simp only [opS, d2, P.py, Option.bind_some, okN, s1, s2, Bool.and_self, if_true, this]
  · cases h
theorem sok_of {α : Type} {e : Fl → α → D} (P : PyE e) (hd : Nat.ble P.dp 64 = true) (m : Fl) {x : α} (h : P.ok x = true) : (e m x).shp = true := by
  simp only [D.shp, P.py]
  unfold SeqAt.shaped
  rw [P.lay x h, decide_eq_true (Nat.le_trans (P.dep x) (Nat.le_of_ble_eq_true hd))]; rfl
def sameK {α : Type} [DecidableEq α] (a b : List (Str × α)) : Bool := decide (a.length = b.length) && a.all fun p => decide (getK b p.1 = some p.2)
def eqK_ {α : Type} [DecidableEq α] (ok : α → Bool) (a b : List (Str × α)) : Option Bool := if ((a.all fun p => ok p.2) && (b.all fun p => ok p.2)) = true then some (sameK a b) else none
def neK_ {α : Type} [DecidableEq α] (ok : α → Bool) (a b : List (Str × α)) : Option Bool := if ((a.all fun p => ok p.2) && (b.all fun p => ok p.2)) = true then some (!sameK a b) else none
theorem eqKb_eKs {α : Type} [DecidableEq α] {e : Fl → α → D} (P : PyE e) (m n : Fl) (a b : List (Str × α)) : eqKb (eKs (e m) a) (eKs (e n) b) = sameK a b := by
  unfold eqKb sameK
  rw [eKs_len, eKs_len]
  congr 1
  unfold eKs
  rw [List.all_map]
  congr 1
  funext p
  simp only [Function.comp]
  have := valA_eKs (e n) b p.1
  unfold eKs at this
  rw [this]
  cases h : getK b p.1 with
  | none => simp
  | some x =>
    simp only [Option.map_some, eqvD, P.py]
    rw [Bool.eq_iff_iff, P.eqv, decide_eq_true_eq, Option.some.injEq]
    exact eq_comm
theorem o_eqK {α : Type} [DecidableEq α] {e : Fl → α → D} {m n : Fl} (P : PyE e) (hd : Nat.ble P.dp 64 = true) {a b : List (Str × α)} {v : Bool} (h : eqK_ P.ok a b = some v) : opS .eqK [eK e m a, eK e n b] = some (.bl v) := by
  unfold eqK_ at h
  split at h
  · rename_i hc
    cases h
    rw [Bool.and_eq_true, List.all_eq_true, List.all_eq_true] at hc
    have s : ∀ (m : Fl) (l : List (Str × α)), (∀ p ∈ l, P.ok p.2 = true) → ((eKs (e m) l).all fun p => p.2.shp) = true := fun m l hl => by
      rw [List.all_eq_true]
      intro d hd'
      obtain ⟨p, hp, rfl⟩ := List.mem_map.mp hd'
      exact sok_of P hd m (hl p hp)
    simp only [opS, eK, kk, okN, s m a hc.1, s n b hc.2, Bool.and_self, if_true, eqKb_eKs P]
  · cases h
theorem o_neK {α : Type} [DecidableEq α] {e : Fl → α → D} {m n : Fl} (P : PyE e) (hd : Nat.ble P.dp 64 = true) {a b : List (Str × α)} {v : Bool} (h : neK_ P.ok a b = some v) : opS .neK [eK e m a, eK e n b] = some (.bl v) := by
  unfold neK_ at h
  split at h
  · rename_i hc
    cases h
    rw [Bool.and_eq_true, List.all_eq_true, List.all_eq_true] at hc
    have s : ∀ (m : Fl) (l : List (Str × α)), (∀ p ∈ l, P.ok p.2 = true) → ((eKs (e m) l).all fun p => p.2.shp) = true := fun m l hl => by
      rw [List.all_eq_true]
      intro d hd'
      obtain ⟨p, hp, rfl⟩ := List.mem_map.mp hd'
      exact sok_of P hd m (hl p hp)
    simp only [opS, eK, kk, okN, s m a hc.1, s n b hc.2, Bool.and_self, if_true, eqKb_eKs P]
  · cases h
def sOk (x : Str) : Bool := x.cps.all (· < 0x110000)
def pyI : PyE eI where
  pe := .int
  ok := fun _ => true
  dp := 1
  py := fun _ _ => rfl
  lay := fun _ _ => rfl
  dep := fun _ => by simp [PyData.depth]
  eqv := fun x y => by simp [PyData.eqv]
def pyS : PyE eS where
  pe := .str
  ok := sOk
  dp := 1
  py := fun _ _ => rfl
  lay := fun x h => by simp only [PyData.canLay0]; exact h
  dep := fun _ => by simp [PyData.depth]
  eqv := fun x y => by simp [PyData.eqv]
def pyB : PyE eB where
  pe := .bool
  ok := fun _ => true
  dp := 1
  py := fun _ _ => rfl
  lay := fun _ _ => rfl
  dep := fun _ => by simp [PyData.depth]
  eqv := fun x y => by simp [PyData.eqv]
def pyO {α : Type} {e : Fl → α → D} (P : PyE e) (nn : ∀ x, PyData.eqv .none (P.pe x) = false ∧ PyData.eqv (P.pe x) .none = false) : PyE (eO e) where
  pe := fun x => match x with
    | none => .none
    | some y => P.pe y
  ok := fun x => match x with
    | none => true
    | some y => P.ok y
  dp := max 1 P.dp
  py := fun m x => by cases x with
    | none => rfl
    | some y => exact P.py .frz y
  lay := fun x h => by cases x with
    | none => rfl
    | some y => exact P.lay y h
  dep := fun x => by cases x with
    | none => simp [PyData.depth]
    | some y => exact Nat.le_trans (P.dep y) (Nat.le_max_right _ _)
  eqv := fun x y => by cases x with
    | none => cases y with
      | none => simp [PyData.eqv]
      | some y => simp [(nn y).1]
    | some x => cases y with
      | none => simp [(nn x).2]
      | some y => simp [P.eqv]
theorem nnS (x : Str) : PyData.eqv .none (pyS.pe x) = false ∧ PyData.eqv (pyS.pe x) .none = false := ⟨by simp [pyS, PyData.eqv], by simp [pyS, PyData.eqv]⟩
def pyOS : PyE (eO eS) := pyO pyS nnS
def pyF {α : Type} {e : Fl → α → D} (P : PyE e) : PyE (eF e) := { P with py := fun _ x => P.py .frz x }
theorem pys_map {α : Type} {e : Fl → α → D} (P : PyE e) (m : Fl) : ∀ l : List α, pys (l.map (e m)) = some (l.map P.pe)
  | [] => rfl
  | a :: l => by simp only [List.map_cons, pys, P.py, Option.bind_some, pys_map P m l]
theorem depAll {α : Type} {e : Fl → α → D} (P : PyE e) : ∀ l : List α, PyData.depthAll (l.map P.pe) ≤ P.dp
  | [] => by simp [PyData.depthAll]
  | a :: l => by
    have := P.dep a
    have := depAll P l
    simp only [List.map_cons, PyData.depthAll]
    omega
theorem layAll {α : Type} {e : Fl → α → D} (P : PyE e) : ∀ l : List α, l.all P.ok = true → PyData.canLayAll0 (l.map P.pe) = true
  | [], _ => rfl
  | a :: l, h => by
    simp only [List.all_cons, Bool.and_eq_true] at h
    simp only [List.map_cons, PyData.canLayAll0, P.lay a h.1, layAll P l h.2, Bool.and_self]
theorem eqvAll_ {α : Type} {e : Fl → α → D} (P : PyE e) : ∀ l k : List α, PyData.eqvAll (l.map P.pe) (k.map P.pe) = true ↔ l = k
  | [], [] => by simp [PyData.eqvAll]
  | [], _ :: _ => by simp [PyData.eqvAll]
  | _ :: _, [] => by simp [PyData.eqvAll]
  | a :: l, b :: k => by simp only [List.map_cons, PyData.eqvAll, Bool.and_eq_true, P.eqv, eqvAll_ P l k, List.cons.injEq]
def pyL {α : Type} {e : Fl → α → D} (P : PyE e) : PyE (eL e) where
  pe := fun l => .list (l.map P.pe)
  ok := fun l => l.all P.ok
  dp := P.dp + 1
  py := fun m l => by simp only [eL, D.py, pys_map P m l, Option.bind_some]
  lay := fun l h => by simp only [PyData.canLay0]; exact layAll P l h
  dep := fun l => by have := depAll P l; simp only [PyData.depth]; omega
  eqv := fun l k => by simp only [PyData.eqv]; exact eqvAll_ P l k
def pyT2 {α β : Type} {e1 : Fl → α → D} {e2 : Fl → β → D} (P : PyE e1) (Q : PyE e2) : PyE (eT2 e1 e2) where
  pe := fun p => .tuple [P.pe p.1, Q.pe p.2]
  ok := fun p => P.ok p.1 && Q.ok p.2
  dp := max P.dp Q.dp + 1
  py := fun m p => by simp only [eT2, D.py, pys, P.py, Q.py, Option.bind_some]
  lay := fun p h => by rw [Bool.and_eq_true] at h; simp only [PyData.canLay0, PyData.canLayAll0, P.lay _ h.1, Q.lay _ h.2, Bool.and_self]
  dep := fun p => by have := P.dep p.1; have := Q.dep p.2; simp only [PyData.depth, PyData.depthAll]; omega
  eqv := fun x y => by simp only [PyData.eqv, PyData.eqvAll, Bool.and_eq_true, P.eqv, Q.eqv, and_true, Prod.ext_iff]
def pyT3 {α β γ : Type} {e1 : Fl → α → D} {e2 : Fl → β → D} {e3 : Fl → γ → D} (P : PyE e1) (Q : PyE e2) (R : PyE e3) : PyE (eT3 e1 e2 e3) where
  pe := fun p => .tuple [P.pe p.1, Q.pe p.2.1, R.pe p.2.2]
  ok := fun p => P.ok p.1 && (Q.ok p.2.1 && R.ok p.2.2)
  dp := max P.dp (max Q.dp R.dp) + 1
  py := fun m p => by simp only [eT3, D.py, pys, P.py, Q.py, R.py, Option.bind_some]
  lay := fun p h => by simp only [Bool.and_eq_true] at h; simp only [PyData.canLay0, PyData.canLayAll0, P.lay _ h.1, Q.lay _ h.2.1, R.lay _ h.2.2, Bool.and_self]
  dep := fun p => by have := P.dep p.1; have := Q.dep p.2.1; have := R.dep p.2.2; simp only [PyData.depth, PyData.depthAll]; omega
  eqv := fun x y => by simp only [PyData.eqv, PyData.eqvAll, Bool.and_eq_true, P.eqv, Q.eqv, R.eqv, and_true, Prod.ext_iff]
abbrev Folk := Str ⊕ Int × Int
def eFo (_ : Fl) : Folk → D
  | .inl s => .str s
  | .inr p => .tup [.int p.1, .int p.2]
theorem eFo_ok : EncAt eFo := by
  constructor <;> first | constructor | skip
  all_goals (intro x; cases x <;> rfl)
def pyFo : PyE eFo where
  pe := fun x => match x with
    | .inl s => .str s
    | .inr p => .tuple [.int p.1, .int p.2]
  ok := fun x => match x with
    | .inl s => sOk s
    | .inr _ => true
  dp := 2
  py := fun _ x => by cases x <;> rfl
  lay := fun x h => by cases x with
    | inl s => simp only [PyData.canLay0]; exact h
    | inr p => rfl
  dep := fun x => by cases x <;> simp [PyData.depth, PyData.depthAll]
  eqv := fun x y => by cases x <;> cases y <;> simp [PyData.eqv, PyData.eqvAll, Prod.ext_iff]
end Pv

set_option Elab.async false
set_option linter.all false
set_option maxRecDepth 100000
set_option maxHeartbeats 1000000
namespace Pv
open PySem L2
section
variable {Γ : Fns} {σ : Spec} {Q : Flw → Spec → Prop}
theorem xs_at {ss : List PS} (σ2 : Spec) (h : WXs Γ ss σ2 Q) : WXs Γ ss σ2 Q := h
theorem vsN : vSs σ [] = some [] := rfl
theorem vsC {r : Rv} {rs : List Rv} {d : D} {ds : List D} (h : vS σ r = some d) (t : vSs σ rs = some ds) : vSs σ (r :: rs) = some (d :: ds) := by simp only [vSs, h, t, Option.bind_some]
theorem tsN : tSs σ [] = some [] := rfl
theorem tsC {r : Rv} {rs : List Rv} {d : D} {ds : List D} (h : tS σ r = some d) (t : tSs σ rs = some ds) : tSs σ (r :: rs) = some (d :: ds) := by simp only [tSs, h, t, Option.bind_some]
theorem tref {j : Nat} {d : D} (h : gS σ j = some d) (n : d.noOwn = true) : tS σ (.ref j) = some d := by simp only [tS, h, Option.bind_some, n, if_true]
theorem vcast {r : Rv} {d d' : D} (e : d = d') (h : vS σ r = some d) : vS σ r = some d' := e ▸ h
theorem tcast {r : Rv} {d d' : D} (e : d = d') (h : tS σ r = some d) : tS σ r = some d' := e ▸ h
theorem bcN : bors [] = [] := rfl
theorem bcC {d d' : D} {ds ds' : List D} (h : d.bor = d') (t : bors ds = ds') : bors (d :: ds) = d' :: ds' := by simp only [bors, h, t]
theorem fcN : frzs [] = [] := rfl
theorem fcC {d d' : D} {ds ds' : List D} (h : d.frz = d') (t : frzs ds = ds') : frzs (d :: ds) = d' :: ds' := by simp only [frzs, h, t]
theorem ncN : noBors [] = true := rfl
theorem ncC {d : D} {ds : List D} (h : d.noBor = true) (t : noBors ds = true) : noBors (d :: ds) = true := by simp only [noBors, h, t, Bool.and_self]
theorem kcN : bork [] = [] := rfl
theorem kcC {k : Key} {d d' : D} {ds ds' : List (Key × D)} (h : d.bor = d') (t : bork ds = ds') : bork ((k, d) :: ds) = (k, d') :: ds' := by simp only [bork, h, t]
theorem va_z {β : Type} {k : Key} {x : β} {r : List (Key × β)} : valA ((k, x) :: r) k = some x := by
  unfold valA
  rw [List.find?_cons, decide_eq_true rfl]; rfl
theorem va_s {β : Type} {k k' : Key} {x y : β} {r : List (Key × β)} (h : k' ≠ k) (t : valA r k = some y) : valA ((k', x) :: r) k = some y := by
  unfold valA at t ⊢
  rw [List.find?_cons, decide_eq_false h]; exact t
theorem va_n {β : Type} {k : Key} : valA ([] : List (Key × β)) k = none := rfl
theorem va_sn {β : Type} {k k' : Key} {x : β} {r : List (Key × β)} (h : k' ≠ k) (t : valA r k = none) : valA ((k', x) :: r) k = none := by
  unfold valA at t ⊢
  rw [List.find?_cons, decide_eq_false h]; exact t
theorem pa_z {β : Type} {k : Key} {x y : β} {r : List (Key × β)} : putA ((k, x) :: r) k y = (k, y) :: r := by rw [putA, if_pos rfl]
theorem pa_s {β : Type} {k k' : Key} {x y : β} {r r' : List (Key × β)} (h : k' ≠ k) (t : putA r k y = r') : putA ((k', x) :: r) k y = (k', x) :: r' := by rw [putA, if_neg h, t]
theorem pa_n {β : Type} {k : Key} {y : β} : putA ([] : List (Key × β)) k y = [(k, y)] := rfl
theorem isIns_of {c : Nat} {n : Str} {m : Fl} {fs : List (Key × D)} (h : valA fs (Sum.inr n) = none) : isIns c n (.ins m c fs) = true := by simp only [isIns, h, decide_true, Option.isNone_none, Bool.and_self]
theorem end_ {τ : Type} {S : τ → Spec} {a t : τ} (h : some a = some t) (w : Wn σ (S a)) : Ends_ (S t) .nx σ := by cases h; exact ⟨rfl, w⟩
def RetR {r : Type} (io : Bool) (eq : r → D × Option D) (y : r) (fl : Flw) (σ : Spec) : Prop := fl = .rt (eq y).1 ∧ FinOk io (eq y) fl σ
theorem retR {r : Type} (io : Bool) (eq : r → D × Option D) : ∀ y fl σ, RetR io eq y fl σ → ∃ d, fl = .rt d := fun y _ _ h => ⟨(eq y).1, h.1⟩
theorem ret_top {r : Type} {io : Bool} {eq : r → D × Option D} {y b : r} {fl : Flw} (h : some y = some b) (hf : FinOk io (eq y) fl σ) : FinOk io (eq b) fl σ := by cases h; exact hf
theorem ret_topR {r : Type} {io : Bool} {eq : r → D × Option D} {y b : r} {fl : Flw} (h : some y = some b) (hf : RetR io eq y fl σ) : FinOk io (eq b) fl σ := by cases h; exact hf.2
theorem ret_loop {τ r : Type} {io : Bool} {eq : r → D × Option D} {S : τ → Spec} {y : r} {q : r ⊕ τ} (h : some (Sum.inl y) = some q) (hf : FinOk io (eq y) (.rt (eq y).1) σ) : LoopQ S (RetR io eq) q (.rt (eq y).1) σ := by cases h; exact ⟨rfl, hf⟩
theorem ret_loopR {τ r : Type} {io : Bool} {eq : r → D × Option D} {S : τ → Spec} {y : r} {q : r ⊕ τ} {fl : Flw} (h : some (Sum.inl y) = some q) (hf : RetR io eq y fl σ) : LoopQ S (RetR io eq) q fl σ := by cases h; exact hf
theorem nx_loop {τ r : Type} {R : r → Flw → Spec → Prop} {S : τ → Spec} {t : τ} {q : r ⊕ τ} (h : some (Sum.inr t) = some q) (w : Wn σ (S t)) : LoopQ S R q .nx σ := by cases h; exact ⟨rfl, w⟩
theorem fin_f {q : D × Option D} {fl : Flw} (h1 : fl = .rt q.1 ∨ (fl = .nx ∧ q.1 = .non)) (h2 : q.1.noBor = true) (h3 : q.2 = none) : FinOk false q fl σ := ⟨⟨h1, h2, h3⟩⟩
theorem fin_t {q : D × Option D} {fl : Flw} {d1 : D} (h1 : fl = .rt q.1 ∨ (fl = .nx ∧ q.1 = .non)) (h2 : q.1.noBor = true) (h3 : gS σ 0 = some d1) (h4 : d1.noBor = true) (h5 : q.2 = some d1) : FinOk true q fl σ := ⟨⟨h1, h2, d1, h3, h4, h5⟩⟩
theorem sumL {α r τ : Type} {A : r → Option α} {B : τ → Option α} {q : r ⊕ τ} {y : r} {b : α} (e : q = .inl y) (h : Sum.elim A B q = some b) : A y = some b := by subst e; exact h
theorem sumR {α r τ : Type} {A : r → Option α} {B : τ → Option α} {q : r ⊕ τ} {t : τ} {b : α} (e : q = .inr t) (h : Sum.elim A B q = some b) : B t = some b := by subst e; exact h
def forP {α τ : Type} (b : α → τ → Option τ) : List α → τ → Option τ
  | [], t => some t
  | x :: xs, t => (b x t).bind fun t' => forP b xs t'
noncomputable def whP {τ : Type} (c : τ → Option Bool) (b : τ → Option τ) (t : τ) : Option τ := (whG (r := Empty) c (fun t => (b t).map Sum.inr) t).bind fun q => match q with
  | .inl y => nomatch y
  | .inr t => some t
theorem forG_P {α τ r : Type} (b : α → τ → Option τ) : ∀ (xs : List α) (t : τ), forG (r := r) (fun x t => (b x t).map Sum.inr) xs t = (forP b xs t).map Sum.inr
  | [], t => rfl
  | x :: xs, t => by
    simp only [forG, forP]
    cases h : b x t with
    | none => rfl
    | some t' => simp only [Option.map_some, Option.bind_some]; exact forG_P b xs t'
/-- behind a loop with returns -/
theorem x_forR {α τ r : Type} {js : List Nat} {ik : IK} {ies : List PX} {b : List PS} {xs : List α} {f : α → List D} {bt : α → τ → Option (r ⊕ τ)} {t0 : τ} {q : r ⊕ τ} (h1 : forG bt xs t0 = some q) (S : τ → Spec) (R : r → Flw → Spec → Prop) (hR : ∀ y fl σ, R y fl σ → ∃ d, fl = .rt d)
    (hi : WEs Γ ies σ fun rs σ1 => Wn σ1 (S t0) ∧ ∃ ds, vSs (S t0) rs = some ds ∧ iterS ik ds = some (xs.map f) ∧ okItS (S t0) (fun i => tchS b i || js.contains i) rs = true)
    (hb : ∀ x t q, bt x t = some q → ∃ σ1, setS js (f x) (S t) = some σ1 ∧ WXs Γ b σ1 (LoopQ S R q))
    (k1 : ∀ y, q = .inl y → ∀ d σ', R y (.rt d) σ' → Q (.rt d) σ') (k2 : ∀ t, q = .inr t → Q .nx (S t)) : WX Γ (.for_ js ik ies b) σ Q := fun ρ l => by
  obtain ⟨n, ρ', fl, σ', g1, g2, g3⟩ := x_for (Q := LoopQ S R q) S R hR hi hb h1 (fun _ _ h => h) ρ l
  cases q with
  | inl y =>
    obtain ⟨d, rfl⟩ := hR y fl σ' g3
    exact ⟨n, ρ', _, σ', g1, g2, k1 y rfl d σ' g3⟩
  | inr t =>
    obtain ⟨rfl, w⟩ := g3
    exact ⟨n, ρ', .nx, S t, g1, w ρ' g2, k2 t rfl⟩
theorem x_forP {α τ : Type} {js : List Nat} {ik : IK} {ies : List PX} {b : List PS} {xs : List α} {f : α → List D} {bt : α → τ → Option τ} {t0 t1 : τ} (h1 : forP bt xs t0 = some t1) (S : τ → Spec)
    (hi : WEs Γ ies σ fun rs σ1 => Wn σ1 (S t0) ∧ ∃ ds, vSs (S t0) rs = some ds ∧ iterS ik ds = some (xs.map f) ∧ okItS (S t0) (fun i => tchS b i || js.contains i) rs = true)
    (hb : ∀ x t t', bt x t = some t' → ∃ σ1, setS js (f x) (S t) = some σ1 ∧ WXs Γ b σ1 (Ends_ (S t')))
    (k : Q .nx (S t1)) : WX Γ (.for_ js ik ies b) σ Q :=
  x_forR (r := Empty) (bt := fun x t => (bt x t).map Sum.inr) (q := .inr t1) (by rw [forG_P, h1]; rfl) S (fun y _ _ => nomatch y) (fun y => nomatch y) hi (fun x t q hq => by
    obtain ⟨t', h2, rfl⟩ := Option.map_eq_some_iff.mp hq
    exact hb x t t' h2) (fun y => nomatch y) (fun t e => by cases e; exact k)
theorem x_whR {τ r : Type} {c : PX} {b : List PS} {ct : τ → Option Bool} {bt : τ → Option (r ⊕ τ)} {t0 : τ} {q : r ⊕ τ} (h1 : whG ct bt t0 = some q) (S : τ → Spec) (R : r → Flw → Spec → Prop) (hR : ∀ y fl σ, R y fl σ → ∃ d, fl = .rt d) (hw : Wn σ (S t0))
    (hc : ∀ t v, ct t = some v → WE Γ c (S t) fun r σ1 => vS σ1 r = some (.bl v) ∧ Wn σ1 (S t)) (hb : ∀ t q, bt t = some q → WXs Γ b (S t) (LoopQ S R q))
    (k1 : ∀ y, q = .inl y → ∀ d σ', R y (.rt d) σ' → Q (.rt d) σ') (k2 : ∀ t, q = .inr t → Q .nx (S t)) : WX Γ (.whl c b) σ Q := fun ρ l => by
  obtain ⟨n, ρ', fl, σ', g1, g2, g3⟩ := x_whl (Q := LoopQ S R q) S R hR hw hc hb h1 (fun _ _ h => h) ρ l
  cases q with
  | inl y =>
    obtain ⟨d, rfl⟩ := hR y fl σ' g3
    exact ⟨n, ρ', _, σ', g1, g2, k1 y rfl d σ' g3⟩
  | inr t =>
    obtain ⟨rfl, w⟩ := g3
    exact ⟨n, ρ', .nx, S t, g1, w ρ' g2, k2 t rfl⟩
theorem x_whP {τ : Type} {c : PX} {b : List PS} {ct : τ → Option Bool} {bt : τ → Option τ} {t0 t1 : τ} (h1 : whP ct bt t0 = some t1) (S : τ → Spec) (hw : Wn σ (S t0))
    (hc : ∀ t v, ct t = some v → WE Γ c (S t) fun r σ1 => vS σ1 r = some (.bl v) ∧ Wn σ1 (S t)) (hb : ∀ t t', bt t = some t' → WXs Γ b (S t) (Ends_ (S t')))
    (k : Q .nx (S t1)) : WX Γ (.whl c b) σ Q := by
  unfold whP at h1
  rw [Option.bind_eq_some_iff] at h1
  obtain ⟨q, h2, h3⟩ := h1
  cases q with
  | inl y => exact nomatch y
  | inr t =>
    cases h3
    exact x_whR (r := Empty) h2 S (fun y _ _ => nomatch y) (fun y => nomatch y) hw hc (fun t q hq => by
      obtain ⟨t', h4, rfl⟩ := Option.map_eq_some_iff.mp hq
      exact hb t t' h4) (fun y => nomatch y) (fun t e => by cases e; exact k)
theorem whP_eq {τ : Type} (c : τ → Option Bool) (b : τ → Option τ) (t : τ) : whP c b t = (c t).bind fun q => if q = true then (b t).bind fun t' => whP c b t' else some t := by
  unfold whP
  rw [whG_eq]
  cases c t with
  | none => rfl
  | some q =>
    cases q with
    | false => rfl
    | true =>
      simp only [Option.bind_some, if_true]
      cases b t with
      | none => rfl
      | some t' => rfl
def compP_ {α β : Type} (c : α → Option Bool) (e : α → Option β) : List α → Option (List β)
  | [] => some []
  | x :: xs => (c x).bind fun q => if q = true then (e x).bind fun y => (compP_ c e xs).bind fun ys => some (y :: ys) else compP_ c e xs
def compP {α β : Type} (c : α → Option Bool) (e : α → Option β) (xs : List α) : Option (List β) := (compP_ c e xs).bind lim_
def dcP_ {α β : Type} (c : α → Option Bool) (k : α → Option Str) (e : α → Option β) : List α → List (Str × β) → Option (List (Str × β))
  | [], acc => some acc
  | x :: xs, acc => (c x).bind fun q => if q = true then (k x).bind fun key => (e x).bind fun y => dcP_ c k e xs (putS_ acc key y) else dcP_ c k e xs acc
def dcP {α β : Type} (c : α → Option Bool) (k : α → Option Str) (e : α → Option β) (xs : List α) : Option (List (Str × β)) := if xs.length ≤ 1000000 then dcP_ c k e xs [] else none
theorem compG_P {α β : Type} (c : α → Option Bool) (e : α → Option β) : ∀ xs : List α, compG (τ := Unit) (fun x _ => (c x).map fun b => (b, ())) (fun x _ => (e x).map fun y => (y, ())) xs () = (compP_ c e xs).map fun ys => (ys, ())
  | [] => rfl
  | x :: xs => by
    have ih := compG_P c e xs
    simp only [compG, compP_]
    cases c x with
    | none => rfl
    | some q =>
      cases q with
      | false => simp only [Option.map_some, Option.bind_some, Bool.false_eq_true, if_false]; exact ih
      | true =>
        simp only [Option.map_some, Option.bind_some, if_true]
        cases e x with
        | none => rfl
        | some y =>
          simp only [Option.map_some, Option.bind_some]
          rw [ih]
          cases compP_ c e xs <;> rfl
theorem dcG_P {α β : Type} (c : α → Option Bool) (k : α → Option Str) (e : α → Option β) : ∀ (xs : List α) (acc : List (Str × β)), dcG (τ := Unit) (fun x _ => (c x).map fun b => (b, ())) (fun x _ => (k x).map fun y => (y, ())) (fun x _ => (e x).map fun y => (y, ())) xs () acc = (dcP_ c k e xs acc).map fun ys => (ys, ())
  | [], acc => rfl
  | x :: xs, acc => by
    have ih := dcG_P c k e xs
    simp only [dcG, dcP_]
    cases c x with
    | none => rfl
    | some q =>
      cases q with
      | false => simp only [Option.map_some, Option.bind_some, Bool.false_eq_true, if_false]; exact ih acc
      | true =>
        simp only [Option.map_some, Option.bind_some, if_true]
        cases k x with
        | none => rfl
        | some key =>
          simp only [Option.map_some, Option.bind_some]
          cases e x with
          | none => rfl
          | some y => simp only [Option.map_some, Option.bind_some]; exact ih _
variable {QE : Rv → Spec → Prop}
theorem e_compP {α β : Type} {js : List Nat} {ik : IK} {ies : List PX} {c : Option PX} {e : PX} {xs : List α} {f : α → List D} {ct : α → Option Bool} {et : α → Option β} {enc : β → D} {ys : List β} (h1 : compP ct et xs = some ys) (S : Spec)
    (hi : WEs Γ ies σ fun rs σ1 => Wn σ1 S ∧ ∃ ds, vSs S rs = some ds ∧ iterS ik ds = some (xs.map f) ∧ okItS S (fun i => tchO c i || e.tch i || js.contains i) rs = true) (hf : freeS S js = true)
    (hc : ∀ x b, ct x = some b → ∃ σ1, setS js (f x) (wipeS S js) = some σ1 ∧ WEO Γ c σ1 fun b' σ2 => b' = b ∧ (b = false → Wn σ2 (anyS S js)) ∧ (b = true → ∀ y, et x = some y → WE Γ e σ2 fun r σ3 => tS σ3 r = some (enc y) ∧ Wn σ3 (anyS S js)))
    (q : QE (.val (.lst .own (ys.map enc))) S) : WE Γ (.comp js ik ies c e) σ QE := by
  unfold compP at h1
  rw [Option.bind_eq_some_iff] at h1
  obtain ⟨zs, h2, h3⟩ := h1
  unfold lim_ at h3
  split at h3
  case isFalse => cases h3
  rename_i hl
  cases h3
  refine e_comp (τ := Unit) (ct := fun x _ => (ct x).map fun b => (b, ())) (et := fun x _ => (et x).map fun y => (y, ())) (t0 := ()) (t1 := ()) (fun _ => S) hi hf (fun _ => ⟨rfl, fun _ _ => rfl⟩) (fun x t b t' h => ?_) (by rw [compG_P, h2]; rfl) hl q
  obtain ⟨b', h4, h5⟩ := Option.map_eq_some_iff.mp h
  cases h5
  obtain ⟨σ1, k1, k2⟩ := hc x b h4
  refine ⟨σ1, k1, ?_⟩
  cases c with
  | none =>
    obtain ⟨g1, g2, g3⟩ := k2
    exact ⟨g1, g2, fun hb y t2 hy => by
      obtain ⟨y', h6, h7⟩ := Option.map_eq_some_iff.mp hy
      cases h7
      exact g3 hb y h6⟩
  | some c =>
    exact WE.imp k2 fun r σ2 ⟨v, hv, g1, g2, g3⟩ => ⟨v, hv, g1, g2, fun hb y t2 hy => by
      obtain ⟨y', h6, h7⟩ := Option.map_eq_some_iff.mp hy
      cases h7
      exact g3 hb y h6⟩
theorem e_dcP {α β : Type} {js : List Nat} {ik : IK} {ies : List PX} {c : Option PX} {k e : PX} {xs : List α} {f : α → List D} {ct : α → Option Bool} {kt : α → Option Str} {et : α → Option β} {enc : β → D} {ys : List (Str × β)} (h1 : dcP ct kt et xs = some ys) (S : Spec)
    (hi : WEs Γ ies σ fun rs σ1 => Wn σ1 S ∧ ∃ ds, vSs S rs = some ds ∧ iterS ik ds = some (xs.map f) ∧ okItS S (fun i => tchO c i || k.tch i || e.tch i || js.contains i) rs = true) (hf : freeS S js = true)
    (hc : ∀ x b, ct x = some b → ∃ σ1, setS js (f x) (wipeS S js) = some σ1 ∧ WEO Γ c σ1 fun b' σ2 => b' = b ∧ (b = false → Wn σ2 (anyS S js)) ∧ (b = true → ∀ key, kt x = some key → WE Γ k σ2 fun r σ3 => vS σ3 r = some (.str key) ∧ ∀ y, et x = some y → WE Γ e σ3 fun r σ4 => tS σ4 r = some (enc y) ∧ Wn σ4 (anyS S js)))
    (q : QE (.val (.dct .own (eKs enc ys))) S) : WE Γ (.dcomp js ik ies c k e) σ QE := by
  unfold dcP at h1
  split at h1
  case isFalse => cases h1
  rename_i hl
  refine e_dcomp (τ := Unit) (ct := fun x _ => (ct x).map fun b => (b, ())) (kt := fun x _ => (kt x).map fun y => (y, ())) (et := fun x _ => (et x).map fun y => (y, ())) (t0 := ()) (t1 := ()) (fun _ => S) hi hf (fun _ => ⟨rfl, fun _ _ => rfl⟩) (fun x t b t' h => ?_) (by rw [dcG_P, h1]; rfl) hl q
  obtain ⟨b', h4, h5⟩ := Option.map_eq_some_iff.mp h
  cases h5
  obtain ⟨σ1, k1, k2⟩ := hc x b h4
  refine ⟨σ1, k1, ?_⟩
  have go : ∀ {σ2 : Spec}, (b = true → ∀ key, kt x = some key → WE Γ k σ2 fun r σ3 => vS σ3 r = some (.str key) ∧ ∀ y, et x = some y → WE Γ e σ3 fun r σ4 => tS σ4 r = some (enc y) ∧ Wn σ4 (anyS S js)) →
      (b = true → ∀ key tk, (kt x).map (fun y => (y, ())) = some (key, tk) → WE Γ k σ2 fun r σ3 => vS σ3 r = some (.str key) ∧ ∀ y t2, (et x).map (fun y => (y, ())) = some (y, t2) → WE Γ e σ3 fun r σ4 => tS σ4 r = some (enc y) ∧ Wn σ4 (anyS S js)) := fun g hb key tk hk => by
    obtain ⟨y', h6, h7⟩ := Option.map_eq_some_iff.mp hk
    cases h7
    exact WE.imp (g hb key h6) fun r σ3 ⟨q1, q2⟩ => ⟨q1, fun y t2 hy => by
      obtain ⟨y', h8, h9⟩ := Option.map_eq_some_iff.mp hy
      cases h9
      exact q2 y h8⟩
  cases c with
  | none =>
    obtain ⟨g1, g2, g3⟩ := k2
    exact ⟨g1, g2, go g3⟩
  | some c => exact WE.imp k2 fun r σ2 ⟨v, hv, g1, g2, g3⟩ => ⟨v, hv, g1, g2, go g3⟩
/-- names of its own given back -/
theorem setS_get : ∀ {js : List Nat} {ds : List D} {σ σ' : Spec} {i : Nat}, setS js ds σ = some σ' → i ∉ js → σ'[i]? = σ[i]?
  | [], [], _, _, _, h, _ => by simp only [setS, Option.some.injEq] at h; subst h; rfl
  | [], _ :: _, _, _, _, h, _ => by simp [setS] at h
  | _ :: _, [], _, _, _, h, _ => by simp [setS] at h
  | j :: js, d :: ds, σ, σ', i, h, hi => by
    simp only [setS] at h
    split at h
    · rw [setS_get h fun z => hi (List.mem_cons_of_mem _ z), List.getElem?_set_ne fun z => hi (by rw [z]; exact List.mem_cons_self)]
    · cases h
theorem setS_len : ∀ {js : List Nat} {ds : List D} {σ σ' : Spec}, setS js ds σ = some σ' → σ'.length = σ.length
  | [], [], _, _, h => by simp only [setS, Option.some.injEq] at h; subst h; rfl
  | [], _ :: _, _, _, h => by simp [setS] at h
  | _ :: _, [], _, _, h => by simp [setS] at h
  | j :: js, d :: ds, σ, σ', h => by
    simp only [setS] at h
    split at h
    · rw [setS_len h, List.length_set]
    · cases h
theorem wn_js {js : List Nat} {ds : List D} {S σ1 : Spec} (h : setS js ds (wipeS S js) = some σ1) : Wn σ1 (anyS S js) := fun ρ l => by
  have hl := setS_len h
  unfold wipeS at hl
  rw [mapS_len] at hl
  refine Le.of (by rw [l.len, hl]; unfold anyS; rw [mapS_len]) fun j s e => ?_
  unfold anyS at e
  rw [mapS_get] at e
  by_cases hj : j ∈ js
  · rw [if_pos hj] at e
    obtain ⟨_, _, rfl⟩ := Option.map_eq_some_iff.mp e
    trivial
  · rw [if_neg hj] at e
    have e2 : σ1[j]? = some s := by
      rw [setS_get h hj]; unfold wipeS; rw [mapS_get, if_neg hj]; exact e
    obtain ⟨o, h1, h2⟩ := l.at e2
    rw [get_of h1]; exact h2
end
section
variable {α β γ : Type} {e : Fl → α → D} {e1 : Fl → α → D} {e2 : Fl → β → D} {e3 : Fl → γ → D} {m n : Fl}
def rng1 (n : Int) : Option (List Int) := if -(2 ^ 62) ≤ n ∧ n < 2 ^ 62 then some ((List.range n.toNat).map fun (i : Nat) => (i : Int)) else none
def rng2 (a b : Int) : Option (List Int) := if -(2 ^ 62) ≤ a ∧ a < 2 ^ 62 ∧ -(2 ^ 62) ≤ b ∧ b < 2 ^ 62 then some ((List.range (b - a).toNat).map fun (i : Nat) => a + (i : Int)) else none
def enum_ (l : List α) : List (Int × α) := l.zipIdx.map fun p => ((p.2 : Int), p.1)
def chars_ (z : Str) : List Str := z.cps.toList.map fun c => (⟨#[c]⟩ : Str)
theorem it_range1 {k : Int} {xs : List Int} (h : rng1 k = some xs) : iterS .range1 [.int k] = some (xs.map fun i => [D.int i]) := by
  unfold rng1 at h
  split at h
  · rename_i hc
    cases h
    simp only [iterS, if_pos hc, List.map_map]; rfl
  · cases h
theorem it_range2 {a b : Int} {xs : List Int} (h : rng2 a b = some xs) : iterS .range2 [.int a, .int b] = some (xs.map fun i => [D.int i]) := by
  unfold rng2 at h
  split at h
  · rename_i hc
    cases h
    simp only [iterS, if_pos hc, List.map_map]; rfl
  · cases h
theorem it_seq (ok : ∀ x, (e m x).noOwn = true) (l : List α) : iterS .seq [eL e m l] = some (l.map fun x => [e m x]) := by
  simp only [iterS, eL, items1, allNo ok, if_true, Option.map_some, List.map_map]; rfl
theorem it_seqC (ns : List Int) : iterS .seq [.scr ns] = some (ns.map fun x => [D.int x]) := by
  simp only [iterS, items1, Option.map_some, List.map_map]; rfl
theorem unT_2 (l : List (α × β)) : unT (l.map (eT2 e1 e2 m)) = some (l.map fun x => [e1 .frz x.1, e2 .frz x.2]) := by
  induction l with
  | nil => rfl
  | cons a l ih =>
    show (unT (l.map (eT2 e1 e2 m))).bind _ = _
    rw [ih]; rfl
theorem unT_3 (l : List (α × β × γ)) : unT (l.map (eT3 e1 e2 e3 m)) = some (l.map fun x => [e1 .frz x.1, e2 .frz x.2.1, e3 .frz x.2.2]) := by
  induction l with
  | nil => rfl
  | cons a l ih =>
    show (unT (l.map (eT3 e1 e2 e3 m))).bind _ = _
    rw [ih]; rfl
theorem it_seqU2 (l : List (α × β)) : iterS .seqU [eL (eT2 e1 e2) m l] = some (l.map fun x => [e1 .frz x.1, e2 .frz x.2]) := by
  have hn : (l.map (eT2 e1 e2 m)).all D.noOwn = true := allNo (fun x => rfl) l
  simp only [iterS, eL, items1, hn, if_true, Option.bind_some, unT_2]
theorem it_seqU3 (l : List (α × β × γ)) : iterS .seqU [eL (eT3 e1 e2 e3) m l] = some (l.map fun x => [e1 .frz x.1, e2 .frz x.2.1, e3 .frz x.2.2]) := by
  have hn : (l.map (eT3 e1 e2 e3 m)).all D.noOwn = true := allNo (fun x => rfl) l
  simp only [iterS, eL, items1, hn, if_true, Option.bind_some, unT_3]
theorem it_rev (ok : ∀ x, (e m x).noOwn = true) (l : List α) : iterS .rev [eL e m l] = some (l.reverse.map fun x => [e m x]) := by
  simp only [iterS, eL, allNo ok, if_true]
  rw [← List.map_reverse, List.map_map]; rfl
theorem it_zip (ok : ∀ x, (e1 m x).noOwn = true) (ok2 : ∀ x, (e2 n x).noOwn = true) (l : List α) (k : List β) : iterS .zip [eL e1 m l, eL e2 n k] = some ((l.zip k).map fun x => [e1 m x.1, e2 n x.2]) := by
  simp only [iterS, eL, allNo ok, allNo ok2, Bool.and_self, if_true]
  rw [List.zip_map, List.map_map]; rfl
theorem it_enum (ok : ∀ x, (e m x).noOwn = true) (l : List α) : iterS .enum [eL e m l] = some ((enum_ l).map fun x => [D.int x.1, e m x.2]) := by
  simp only [iterS, eL, allNo ok, if_true, enum_]
  rw [List.zipIdx_map, List.map_map, List.map_map]; rfl
theorem it_chars (z : Str) : iterS .chars [.str z] = some ((chars_ z).map fun x => [D.str x]) := by
  simp only [iterS, chars_, List.map_map]; rfl
theorem it_keys (hm : m ≠ .own) (l : List (Str × α)) : iterS .keys [eK e m l] = some ((l.map (·.1)).map fun x => [D.str x]) := by
  simp only [iterS, eK, if_neg hm, eKs, List.map_map]; rfl
theorem it_values (hm : m ≠ .own) (l : List (Str × α)) : iterS .values [eK e m l] = some ((l.map (·.2)).map fun x => [e m x]) := by
  simp only [iterS, eK, if_neg hm, eKs, List.map_map]; rfl
theorem it_items (hm : m ≠ .own) (l : List (Str × α)) : iterS .items [eK e m l] = some (l.map fun x => [D.str x.1, e m x.2]) := by
  simp only [iterS, eK, if_neg hm, eKs, List.map_map]; rfl
end
section
variable {α : Type} {e : Fl → α → D}
theorem a_app {l l' : List α} {x : α} (h : app_ l x = some l') : atD (eL e .own l) [] (fun n => nodeApp n (e .own x)) = some (eL e .own l') := by
  unfold app_ at h
  split at h
  · rename_i hc
    cases h
    simp only [atD, getP, Option.bind_some, eL, nodeApp, List.length_map, hc, if_true, Option.map_some, setP, List.map_append, List.map_cons, List.map_nil]
  · cases h
theorem a_ext {m : Fl} (ok : EncAt e) {l l' k : List α} (h : ext_ l k = some l') : atD (eL e .own l) [] (fun n => nodeExt n (eL e m k)) = some (eL e .own l') := by
  unfold ext_ at h
  split at h
  · rename_i hc
    cases h
    simp only [atD, getP, Option.bind_some, eL, nodeExt, List.length_map, allNo (ok.noo m), allNo (ok.noo .own), hc, and_self, if_true, Option.map_some, setP, List.map_append, map_eq_ ok m .own]
  · cases h
theorem a_put {l l' : List (Str × α)} {k : Str} {x : α} (h : put_ l k x = some l') : atD (eK e .own l) [] (fun n => nodeSetK n (Sum.inr k) (e .own x)) = some (eK e .own l') := by
  unfold put_ at h
  split at h
  · rename_i hc
    cases h
    simp only [atD, getP, Option.bind_some, eK, nodeSetK, eKs_len, hc, if_true, Option.map_some, setP, putA_eKs]
  · cases h
theorem a_setL {l l' : List α} {i : Int} {x : α} (h : setL_ l i x = some l') : atD (eL e .own l) [] (fun n => nodeSetL n i (e .own x)) = some (eL e .own l') := by
  unfold setL_ at h
  rw [Option.bind_eq_some_iff] at h
  obtain ⟨j, h1, h2⟩ := h
  cases h2
  simp only [atD, getP, Option.bind_some, eL, nodeSetL, List.length_map, h1, Option.map_some, setP, List.map_set]
theorem a_clr (l : List α) : atD (eL e .own l) [] nodeClr = some (eL e .own []) := rfl
theorem a_clrK (l : List (Str × α)) : atD (eK e .own l) [] nodeClrK = some (eK e .own []) := rfl
theorem a_rev (l : List α) : atD (eL e .own l) [] nodeRev = some (eL e .own l.reverse) := by
  simp only [atD, getP, Option.bind_some, eL, nodeRev, Option.map_some, setP, List.map_reverse]
theorem a_key {l l' : List (Str × α)} {k : Str} {f : α → Option α} {ks : List Sk} {u : D → Option D} (h : mod_ l k f = some l') (hf : ∀ a a', f a = some a' → atD (e .own a) ks u = some (e .own a')) : atD (eK e .own l) (.k (Sum.inr k) :: ks) u = some (eK e .own l') := by
  unfold mod_ at h
  rw [Option.bind_eq_some_iff] at h
  obtain ⟨a, h1, h⟩ := h
  rw [Option.bind_eq_some_iff] at h
  obtain ⟨a', h2, h3⟩ := h
  cases h3
  have h4 := hf a a' h2
  unfold atD at h4 ⊢
  rw [Option.bind_eq_some_iff] at h4
  obtain ⟨n, h5, h6⟩ := h4
  obtain ⟨n', h7, h8⟩ := Option.map_eq_some_iff.mp h6
  simp only [eK, getP, valA_eKs, h1, Option.map_some, Option.bind_some, h5, h7, setP, h8, putA_eKs]
theorem a_fld {m : Fl} {c : Nat} {fs fs' : List (Key × D)} {n : Str} {x x' : D} {ks : List Sk} {u : D → Option D} (hv : valA fs (Sum.inr n) = some x) (h : atD x ks u = some x') (hp : putA fs (Sum.inr n) x' = fs') : atD (.ins .own c fs) (.f n :: ks) u = some (.ins .own c fs') := by
  unfold atD at h ⊢
  rw [Option.bind_eq_some_iff] at h
  obtain ⟨a, h5, h6⟩ := h
  obtain ⟨n', h7, h8⟩ := Option.map_eq_some_iff.mp h6
  simp only [getP, hv, Option.bind_some, h5, h7, Option.map_some, setP, h8, hp]
theorem a_newF {c : Nat} {fs fs' : List (Key × D)} {n : Str} {x : D} (hl : Nat.ble (fs.length + 1) 500 = true) (hp : putA fs (Sum.inr n) x = fs') : atD (.ins .own c fs) [] (fun d => nodeFld d n x) = some (.ins .own c fs') := by
  simp only [atD, getP, Option.bind_some, nodeFld, if_pos (show fs.length < 500 from Nat.le_of_ble_eq_true hl), Option.map_some, setP, hp]
theorem e_popL {Γ : Fns} {σ : Spec} {QE : Rv → Spec → Prop} {j : Nat} {l : List α} {p : α × List α} (ok : ∀ x, (e .own x).noOwn = true) (h : gS σ j = some (eL e .own l)) (h1 : pop_ l = some p) (q : QE (.val (e .own p.1)) (σ.set j (.is (eL e .own p.2)))) : WE Γ (.pop j) σ QE := by
  unfold pop_ at h1
  rw [Option.bind_eq_some_iff] at h1
  obtain ⟨x, h2, h3⟩ := h1
  cases h3
  refine e_pop h (by rw [List.getLast?_map, h2]; rfl) (ok x) ?_
  rw [← List.map_dropLast]
  exact q
end
theorem o_ixT2_0 {α β : Type} {e1 : Fl → α → D} {e2 : Fl → β → D} {m : Fl} (ok : ∀ x, (e1 .frz x).noOwn = true) (p : α × β) : opS .ixT [eT2 e1 e2 m p, .int 0] = some (e1 .frz p.1) := by
  show okN (e1 .frz p.1).noOwn (e1 .frz p.1) = _
  simp only [okN, ok, if_true]
theorem o_ixT2_1 {α β : Type} {e1 : Fl → α → D} {e2 : Fl → β → D} {m : Fl} (ok : ∀ x, (e2 .frz x).noOwn = true) (p : α × β) : opS .ixT [eT2 e1 e2 m p, .int 1] = some (e2 .frz p.2) := by
  show okN (e2 .frz p.2).noOwn (e2 .frz p.2) = _
  simp only [okN, ok, if_true]
theorem o_ixT3_0 {α β γ : Type} {e1 : Fl → α → D} {e2 : Fl → β → D} {e3 : Fl → γ → D} {m : Fl} (ok : ∀ x, (e1 .frz x).noOwn = true) (p : α × β × γ) : opS .ixT [eT3 e1 e2 e3 m p, .int 0] = some (e1 .frz p.1) := by
  show okN (e1 .frz p.1).noOwn (e1 .frz p.1) = _
  simp only [okN, ok, if_true]
theorem o_ixT3_1 {α β γ : Type} {e1 : Fl → α → D} {e2 : Fl → β → D} {e3 : Fl → γ → D} {m : Fl} (ok : ∀ x, (e2 .frz x).noOwn = true) (p : α × β × γ) : opS .ixT [eT3 e1 e2 e3 m p, .int 1] = some (e2 .frz p.2.1) := by
  show okN (e2 .frz p.2.1).noOwn (e2 .frz p.2.1) = _
  simp only [okN, ok, if_true]
theorem o_ixT3_2 {α β γ : Type} {e1 : Fl → α → D} {e2 : Fl → β → D} {e3 : Fl → γ → D} {m : Fl} (ok : ∀ x, (e3 .frz x).noOwn = true) (p : α × β × γ) : opS .ixT [eT3 e1 e2 e3 m p, .int 2] = some (e3 .frz p.2.2) := by
  show okN (e3 .frz p.2.2).noOwn (e3 .frz p.2.2) = _
  simp only [okN, ok, if_true]
theorem e_popKS {α : Type} {e : Fl → α → D} {Γ : Fns} {σ : Spec} {QE : Rv → Spec → Prop} {j : Nat} {l : List (Str × α)} {k : PX} (ok : EncAt e) (h : gS σ j = some (eK e .own l)) (ht : k.tch j = false) (hk : WE Γ k σ fun r σ1 => ∃ key a, vS σ1 r = some (.str key) ∧ gS σ1 j = some (eK e .own l) ∧ getK l key = some a ∧ QE (.val (e .own a)) (σ1.set j (.is (eK e .own (dropS_ l key))))) : WE Γ (.popK j k) σ QE :=
  e_popK h ht (WE.imp hk fun r σ1 ⟨key, a, h1, h2, h3, q⟩ => ⟨_, _, _, _, h1, rfl, h2, by rw [valA_eKs, h3]; rfl, ok.noo _ _, by rw [dropA_eKs]; exact q⟩)
theorem kfN : frzk [] = [] := rfl
theorem kfC {k : Key} {d d' : D} {ds ds' : List (Key × D)} (h : d.frz = d') (t : frzk ds = ds') : frzk ((k, d) :: ds) = (k, d') :: ds' := by simp only [frzk, h, t]
theorem knN : noBork [] = true := rfl
theorem knC {k : Key} {d : D} {ds : List (Key × D)} (h : d.noBor = true) (t : noBork ds = true) : noBork ((k, d) :: ds) = true := by simp only [noBork, h, t, Bool.and_self]
/-- a value of its own that is known -/
def IsW (d : D) (σ : Spec) (r : Rv) (σ' : Spec) : Prop := σ' = σ ∧ r = .val d
theorem ws_isw {Γ : Fns} {σ σ1 : Spec} {Qs : List Rv → Spec → Prop} {e : PX} {es : List PX} {d : D} (h : WE Γ e σ (IsW d σ1)) (k : WEs Γ es σ1 fun rs σ2 => Qs (.val d :: rs) σ2) : WEs Γ (e :: es) σ Qs :=
  ws_cons (WE.imp h fun r σ1 hr => by obtain ⟨rfl, rfl⟩ := hr; exact k)
theorem andO_tot (a b : Bool) : andO a (some b) = some (a && b) := by cases a <;> rfl
theorem orO_tot (a b : Bool) : orO a (some b) = some (a || b) := by cases a <;> rfl
theorem e_and' {Γ : Fns} {σ : Spec} {Q : Rv → Spec → Prop} {a b : PX} {x v : Bool} {bo : Option Bool} (ha : WE Γ a σ (IsV (.bl x) σ)) (hb : x = true → ∀ y, bo = some y → WE Γ b σ (IsW (.bl y) σ)) (h : andO x bo = some v) (q : Q (.val (.bl v)) σ) : WE Γ (.and a b) σ Q := fun ρ l => by
  obtain ⟨r, ρ1, _, e1, l1, rfl, h1⟩ := ha ρ l
  cases x with
  | true =>
    obtain ⟨r2, ρ2, _, e2, l2, rfl, rfl⟩ := hb rfl v h ρ1 l1
    exact ⟨_, ρ2, _, by simp only [ev, e1, Option.bind_some, asB_of l1 h1, if_true, e2], l2, q⟩
  | false =>
    cases h
    exact ⟨_, ρ1, _, by simp only [ev, e1, Option.bind_some, asB_of l1 h1, Bool.false_eq_true, if_false], l1, q⟩
theorem e_or' {Γ : Fns} {σ : Spec} {Q : Rv → Spec → Prop} {a b : PX} {x v : Bool} {bo : Option Bool} (ha : WE Γ a σ (IsV (.bl x) σ)) (hb : x = false → ∀ y, bo = some y → WE Γ b σ (IsW (.bl y) σ)) (h : orO x bo = some v) (q : Q (.val (.bl v)) σ) : WE Γ (.or a b) σ Q := fun ρ l => by
  obtain ⟨r, ρ1, _, e1, l1, rfl, h1⟩ := ha ρ l
  cases x with
  | false =>
    obtain ⟨r2, ρ2, _, e2, l2, rfl, rfl⟩ := hb rfl v h ρ1 l1
    exact ⟨_, ρ2, _, by simp only [ev, e1, Option.bind_some, asB_of l1 h1, Bool.false_eq_true, if_false, e2], l2, q⟩
  | true =>
    cases h
    exact ⟨_, ρ1, _, by simp only [ev, e1, Option.bind_some, asB_of l1 h1, if_true], l1, q⟩
theorem coL {α β : Type} {e : Fl → α → D} {e' : Fl → β → D} {m : Fl} {c : β → α} (h : ∀ x, e' m x = e m (c x)) (l : List β) : eL e' m l = eL e m (l.map c) := by
  simp only [eL, List.map_map]
  congr 1
  exact List.map_congr_left fun x _ => h x
def Dn : Type := {d : D // d.noOwn = true}
def eX (_ : Fl) (d : Dn) : D := d.1
theorem bor_no {d : D} (h : d.noOwn = true) : d.bor = d := by
  cases d with
  | lst m _ => cases m <;> first | rfl | cases h
  | dct m _ => cases m <;> first | rfl | cases h
  | ins m _ _ => cases m <;> first | rfl | cases h
  | _ => rfl
def biG (d : Dn) : Option Unit := if d.1.bi = true then some () else none
theorem biX {d : Dn} {u : Unit} (h : biG d = some u) : d.1.bi = true := by
  unfold biG at h
  split at h
  · assumption
  · cases h
theorem okEqX {c : Nat} {m : Fl} {fs : List (Key × D)} {d : D} (h : d.bi = true) : okEq c [.ins m c fs, d] = true := by
  cases d <;> simp [okEq, D.bi] at h ⊢
def nilX (l : List Dn) (b : Bool) : Option Bool := if l.isEmpty = true then some b else none
theorem o_neX {m n : Fl} {l : List Dn} {b : Bool} (h : nilX l false = some b) : opS .neP [eL eX m l, eL eX n []] = some (.bl b) := by
  unfold nilX at h
  split at h
  · rename_i hl
    cases h
    rw [List.isEmpty_iff] at hl
    subst hl
    rfl
  · cases h
theorem o_eqX {m n : Fl} {l : List Dn} {b : Bool} (h : nilX l true = some b) : opS .eqP [eL eX m l, eL eX n []] = some (.bl b) := by
  unfold nilX at h
  split at h
  · rename_i hl
    cases h
    rw [List.isEmpty_iff] at hl
    subst hl
    rfl
  · cases h
theorem odn {α : Type} {e : Fl → α → D} {m : Fl} {x : Option α} {y : α} (h : x = some y) : eO e m x = e .frz y := by subst h; rfl
theorem ifT {α β : Type} {e : α → β} {c : Bool} {a b : α} (h : c = true) : e a = e (if c = true then a else b) := by rw [if_pos h]
theorem tv {σ : Spec} {r : Rv} {d : D} (h : vS σ r = some d) (n : d.noOwn = true) : tS σ r = some d := by
  cases r with
  | val x => exact h
  | ref j => exact tref h n
theorem e_pre' {Γ : Fns} {σ : Spec} {Q : Rv → Spec → Prop} {j : Nat} {ns : List Str} {e : PX} {d n d' : D} (h : gS σ j = some d) (h1 : getP d (ns.map Sk.f) = some n) (h2 : n.noBor = true) (hd : setP d (ns.map Sk.f) n.frz = d') (q : WE Γ e (σ.set j (.is d')) Q) : WE Γ (.pre j ns e) σ Q := by
  subst hd; exact e_pre h h1 h2 q
theorem x_pre' {Γ : Fns} {σ : Spec} {Q : Flw → Spec → Prop} {j : Nat} {ns : List Str} {s : PS} {d n d' : D} (h : gS σ j = some d) (h1 : getP d (ns.map Sk.f) = some n) (h2 : n.noBor = true) (hd : setP d (ns.map Sk.f) n.frz = d') (q : WX Γ s (σ.set j (.is d')) Q) : WX Γ (.pre j ns s) σ Q := by
  subst hd; exact x_pre h h1 h2 q
theorem x_pre0 {Γ : Fns} {σ : Spec} {Q : Flw → Spec → Prop} {j : Nat} {s : PS} {d d' : D} (h : gS σ j = some d) (h2 : d.noBor = true) (hd : d.frz = d') (q : WX Γ s (σ.set j (.is d')) Q) : WX Γ (.pre j [] s) σ Q := by
  subst hd; exact x_pre h rfl h2 q
theorem nd1 {α : Type} {a : α} : [a].Nodup := by simp
theorem ws_isv {Γ : Fns} {σ : Spec} {Qs : List Rv → Spec → Prop} {e : PX} {es : List PX} {d : D} (h : WE Γ e σ (IsV d σ)) (k : ∀ r, vS σ r = some d → WEs Γ es σ fun rs σ2 => Qs (r :: rs) σ2) : WEs Γ (e :: es) σ Qs :=
  ws_cons (WE.imp h fun r σ1 hr => by obtain ⟨rfl, hr⟩ := hr; exact k r hr)
theorem x_to {Γ : Fns} {Q : Flw → Spec → Prop} {s : PS} (σ2 : Spec) (h : WX Γ s σ2 Q) : WX Γ s σ2 Q := h
theorem getP_f {c : Nat} {fs : List (Key × D)} {n : Str} {x : D} (h : valA fs (Sum.inr n) = some x) : getP (.ins .own c fs) [.f n] = some x := by simp only [getP, h, Option.bind_some]
theorem setP_f {c : Nat} {fs fs' : List (Key × D)} {n : Str} {x y : D} (h : valA fs (Sum.inr n) = some x) (hp : putA fs (Sum.inr n) y = fs') : setP (.ins .own c fs) [.f n] y = .ins .own c fs' := by simp only [setP, h, hp]
theorem x_preF {Γ : Fns} {σ : Spec} {Q : Flw → Spec → Prop} {j c : Nat} {f : Str} {fs fs' : List (Key × D)} {s : PS} {n n' : D} (h : gS σ j = some (.ins .own c fs)) (hv : valA fs (Sum.inr f) = some n) (h2 : n.noBor = true) (hd : n.frz = n') (hp : putA fs (Sum.inr f) n' = fs') (q : WX Γ s (σ.set j (.is (.ins .own c fs'))) Q) : WX Γ (.pre j [f] s) σ Q := by
  subst hd
  exact x_pre' h (getP_f hv) h2 (setP_f hv hp) q
theorem node_f {σ : Spec} {j c : Nat} {fs : List (Key × D)} {n : Str} {x : D} (g : gS σ j = some (.ins .own c fs)) (h : valA fs (Sum.inr n) = some x) : nodeS σ j [.f n] = some x := by simp only [nodeS, g, Option.bind_some, getP_f h]
theorem node_fk {σ : Spec} {α : Type} {e : Fl → α → D} {j c : Nat} {fs : List (Key × D)} {n k : Str} {l : List (Str × α)} {a : α} (g : gS σ j = some (.ins .own c fs)) (h : valA fs (Sum.inr n) = some (eK e .own l)) (h2 : getK l k = some a) : nodeS σ j [.f n, .k (Sum.inr k)] = some (e .own a) := by
  simp only [nodeS, g, Option.bind_some, getP, h, eK, valA_eKs, h2, Option.map_some]
theorem node_k {σ : Spec} {α : Type} {e : Fl → α → D} {j : Nat} {k : Str} {l : List (Str × α)} {a : α} (g : gS σ j = some (eK e .own l)) (h2 : getK l k = some a) : nodeS σ j [.k (Sum.inr k)] = some (e .own a) := by
  simp only [nodeS, g, Option.bind_some, getP, eK, valA_eKs, h2, Option.map_some]
theorem someX {α β : Type} {e : α → β} {x y : α} (h : some x = some y) : e x = e y := by cases h; rfl
theorem someD {α : Type} {e : α → D} {x y : α} (h : some x = some y) : e x = e y := by cases h; rfl
end Pv

set_option Elab.async false
set_option linter.all false
set_option maxRecDepth 100000
set_option maxHeartbeats 1000000
namespace Pv
open PySem (Str)
open L2 (Key atI ixN)
def Ok {α : Type} (x : Option α) (Q : α → Prop) : Prop := ∃ r, x = some r ∧ Q r
theorem ok_some {α : Type} {r : α} {Q : α → Prop} (h : Q r) : Ok (some r) Q := ⟨r, rfl, h⟩
theorem ok_eq {α : Type} {x : Option α} {r : α} {Q : α → Prop} (e : x = some r) (h : Q r) : Ok x Q := ⟨r, e, h⟩
theorem ok_mono {α : Type} {x : Option α} {P Q : α → Prop} (h : Ok x P) (k : ∀ r, P r → Q r) : Ok x Q := by
  obtain ⟨r, e, p⟩ := h; exact ⟨r, e, k r p⟩
theorem ok_bind {α β : Type} {x : Option α} {f : α → Option β} {P : α → Prop} {Q : β → Prop} (h : Ok x P) (k : ∀ y, P y → Ok (f y) Q) : Ok (x.bind f) Q := by
  obtain ⟨r, e, p⟩ := h
  rw [e]; exact k r p
theorem ok_b {α β : Type} {x : Option α} {f : α → Option β} {r : α} {Q : β → Prop} (e : x = some r) (k : Ok (f r) Q) : Ok (x.bind f) Q := by rw [e]; exact k
theorem ok_T {α : Type} {c : Bool} {A B : Option α} {Q : α → Prop} (h : c = true) (k : Ok A Q) : Ok (if c = true then A else B) Q := by rw [if_pos h]; exact k
theorem ok_F {α : Type} {c : Bool} {A B : Option α} {Q : α → Prop} (h : c = false) (k : Ok B Q) : Ok (if c = true then A else B) Q := by rw [if_neg (by rw [h]; exact fun z => nomatch z)]; exact k
theorem ok_ite {α : Type} {c : Bool} {A B : Option α} {Q : α → Prop} (h1 : c = true → Ok A Q) (h2 : c = false → Ok B Q) : Ok (if c = true then A else B) Q := by
  cases hc : c with
  | true => exact ok_T rfl (h1 hc)
  | false => exact ok_F rfl (h2 hc)
theorem lim_of {α : Type} {l : List α} (h : l.length ≤ 1000000) : lim_ l = some l := by unfold lim_; rw [if_pos h]
theorem compP__fil {α β : Type} {c : α → Option Bool} {e : α → Option β} (t : α → Bool) (g : α → β) : ∀ {xs : List α}, (∀ x ∈ xs, c x = some (t x)) → (∀ x ∈ xs, t x = true → e x = some (g x)) → compP_ c e xs = some ((xs.filter t).map g)
  | [], _, _ => rfl
  | x :: xs, hc, he => by
    have ih := compP__fil t g (xs := xs) (fun y hy => hc y (List.mem_cons_of_mem _ hy)) (fun y hy => he y (List.mem_cons_of_mem _ hy))
    cases hb : t x with
    | true => simp only [compP_, hc x List.mem_cons_self, hb, Option.bind_some, if_true, he x List.mem_cons_self hb, ih, List.filter_cons, List.map_cons]
    | false => simp only [compP_, hc x List.mem_cons_self, hb, Option.bind_some, Bool.false_eq_true, if_false, ih, List.filter_cons]
theorem compP_fil {α β : Type} {c : α → Option Bool} {e : α → Option β} (t : α → Bool) (g : α → β) {xs : List α} (hl : xs.length ≤ 1000000) (hc : ∀ x ∈ xs, c x = some (t x)) (he : ∀ x ∈ xs, t x = true → e x = some (g x)) : compP c e xs = some ((xs.filter t).map g) := by
  unfold compP
  rw [compP__fil t g hc he, Option.bind_some, lim_of]
  rw [List.length_map]
  exact Nat.le_trans (List.length_filter_le _ _) hl
theorem compP_map {α β : Type} {e : α → Option β} (g : α → β) {xs : List α} (hl : xs.length ≤ 1000000) (he : ∀ x ∈ xs, e x = some (g x)) : compP (fun _ => some true) e xs = some (xs.map g) := by
  have := compP_fil (c := fun _ => some true) (fun _ => true) g hl (fun _ _ => rfl) (fun x hx _ => he x hx)
  rw [this, List.filter_eq_self.mpr fun _ _ => rfl]
theorem compP_sel {α : Type} {c : α → Option Bool} (t : α → Bool) {xs : List α} (hl : xs.length ≤ 1000000) (hc : ∀ x ∈ xs, c x = some (t x)) : compP c (fun x => some x) xs = some (xs.filter t) := by
  rw [compP_fil t (fun x => x) hl hc (fun _ _ _ => rfl), List.map_id']
theorem forP_inv {α τ : Type} {b : α → τ → Option τ} (P : List α → τ → Prop) {xs : List α} {t0 : τ} (h0 : P [] t0) (hs : ∀ pre x suf t, xs = pre ++ x :: suf → P pre t → ∃ t', b x t = some t' ∧ P (pre ++ [x]) t') : ∃ t1, forP b xs t0 = some t1 ∧ P xs t1 := by
  have go : ∀ (suf pre : List α) (t : τ), xs = pre ++ suf → P pre t → ∃ t1, forP b suf t = some t1 ∧ P xs t1 := by
    intro suf
    induction suf with
    | nil => intro pre t e p; rw [List.append_nil] at e; exact ⟨t, rfl, e ▸ p⟩
    | cons x suf ih =>
      intro pre t e p
      obtain ⟨t', h1, h2⟩ := hs pre x suf t e p
      obtain ⟨t1, h3, h4⟩ := ih (pre ++ [x]) t' (by rw [e]; simp) h2
      exact ⟨t1, by simp only [forP, h1, Option.bind_some, h3], h4⟩
  exact go xs [] t0 rfl h0
theorem forP_fold {α τ : Type} {b : α → τ → Option τ} (f : τ → α → τ) : ∀ {xs : List α} {t : τ}, (∀ x ∈ xs, ∀ t, b x t = some (f t x)) → forP b xs t = some (xs.foldl f t)
  | [], _, _ => rfl
  | x :: xs, t, h => by simp only [forP, h x List.mem_cons_self, Option.bind_some, List.foldl_cons]; exact forP_fold f fun y hy => h y (List.mem_cons_of_mem _ hy)
/-- a loop that no turn leaves -/
theorem forG_inv {α τ r : Type} {b : α → τ → Option (r ⊕ τ)} (P : List α → τ → Prop) {xs : List α} {t0 : τ} (h0 : P [] t0) (hs : ∀ pre x suf t, xs = pre ++ x :: suf → P pre t → ∃ t', b x t = some (.inr t') ∧ P (pre ++ [x]) t') : ∃ t1, forG b xs t0 = some (.inr t1) ∧ P xs t1 := by
  have go : ∀ (suf pre : List α) (t : τ), xs = pre ++ suf → P pre t → ∃ t1, forG b suf t = some (.inr t1) ∧ P xs t1 := by
    intro suf
    induction suf with
    | nil => intro pre t e p; rw [List.append_nil] at e; exact ⟨t, rfl, e ▸ p⟩
    | cons x suf ih =>
      intro pre t e p
      obtain ⟨t', h1, h2⟩ := hs pre x suf t e p
      obtain ⟨t1, h3, h4⟩ := ih (pre ++ [x]) t' (by rw [e]; simp) h2
      exact ⟨t1, by simp only [forG, h1, Option.bind_some, h3], h4⟩
  exact go xs [] t0 rfl h0
theorem forG_unit {α r : Type} {b : α → Unit → Option (r ⊕ Unit)} {xs : List α} (h : ∀ x ∈ xs, b x () = some (.inr ())) : forG b xs () = some (.inr ()) := by
  obtain ⟨t, h1, _⟩ := forG_inv (b := b) (fun _ _ => True) (xs := xs) (t0 := ()) trivial (fun pre x suf t e _ => ⟨(), h x (by rw [e]; simp), trivial⟩)
  exact h1
theorem whP_inv {τ : Type} {c : τ → Option Bool} {b : τ → Option τ} (P : Nat → τ → Prop) (Q : τ → Prop) (h : ∀ m t, P m t → (c t = some false ∧ Q t) ∨ (c t = some true ∧ ∃ t' m', m' < m ∧ b t = some t' ∧ P m' t')) : ∀ (m : Nat) (t : τ), P m t → ∃ t1, whP c b t = some t1 ∧ Q t1 := by
  intro m
  induction m using Nat.strongRecOn with
  | ind m ih =>
    intro t p
    rw [whP_eq]
    rcases h m t p with ⟨h1, h2⟩ | ⟨h1, t', m', h2, h3, h4⟩
    · exact ⟨t, by rw [h1]; rfl, h2⟩
    · obtain ⟨t1, h5, h6⟩ := ih m' h2 t' h4
      exact ⟨t1, by rw [h1]; simp only [Option.bind_some, if_true, h3, h5], h6⟩
theorem ok_forP {α τ : Type} {b : α → τ → Option τ} (P : List α → τ → Prop) {xs : List α} {t0 : τ} (h0 : P [] t0) (hs : ∀ pre x suf t, xs = pre ++ x :: suf → P pre t → Ok (b x t) (P (pre ++ [x]))) : Ok (forP b xs t0) (P xs) := forP_inv P h0 hs
theorem ok_forG {α τ r : Type} {b : α → τ → Option (r ⊕ τ)} (P : List α → τ → Prop) {xs : List α} {t0 : τ} (h0 : P [] t0) (hs : ∀ pre x suf t, xs = pre ++ x :: suf → P pre t → Ok (b x t) (fun q => ∃ t', q = .inr t' ∧ P (pre ++ [x]) t')) : Ok (forG b xs t0) (fun q => ∃ t', q = .inr t' ∧ P xs t') := by
  obtain ⟨t1, h1, h2⟩ := forG_inv P h0 fun pre x suf t e p => by
    obtain ⟨q, h3, t', rfl, h4⟩ := hs pre x suf t e p
    exact ⟨t', h3, h4⟩
  exact ⟨_, h1, t1, rfl, h2⟩
theorem ok_whP {τ : Type} {c : τ → Option Bool} {b : τ → Option τ} (P : Nat → τ → Prop) (Q : τ → Prop) (m : Nat) {t : τ} (h0 : P m t) (h : ∀ m t, P m t → Ok (c t) (fun v => (v = false ∧ Q t) ∨ (v = true ∧ Ok (b t) fun t' => ∃ m', m' < m ∧ P m' t'))) : Ok (whP c b t) Q :=
  whP_inv P Q (fun m t p => by
    obtain ⟨v, e, z⟩ := h m t p
    rcases z with ⟨rfl, q⟩ | ⟨rfl, t', e2, m', h1, h2⟩
    · exact .inl ⟨e, q⟩
    · exact .inr ⟨e, t', m', h1, e2, h2⟩) m t h0
section
variable {α : Type}
def keys (l : List (Str × α)) : List Str := l.map (·.1)
theorem getK_none {l : List (Str × α)} {k : Str} (h : k ∉ keys l) : getK l k = none := by
  induction l with
  | nil => rfl
  | cons p l ih =>
    simp only [keys, List.map_cons, List.mem_cons, not_or] at h
    rw [getK, if_neg (fun e => h.1 e.symm)]
    exact ih h.2
theorem getK_mem {l : List (Str × α)} {k : Str} {v : α} (h : getK l k = some v) : (k, v) ∈ l := by
  induction l with
  | nil => cases h
  | cons p l ih =>
    rw [getK] at h
    split at h
    · rename_i e
      cases h
      rw [← e]; exact List.mem_cons_self
    · exact List.mem_cons_of_mem _ (ih h)
theorem getK_key {l : List (Str × α)} {k : Str} {v : α} (h : getK l k = some v) : k ∈ keys l := List.mem_map_of_mem (f := fun p : Str × α => p.1) (getK_mem h)
theorem getK_some {l : List (Str × α)} {k : Str} (h : k ∈ keys l) : ∃ v, getK l k = some v := by
  induction l with
  | nil => cases h
  | cons p l ih =>
    rw [getK]
    by_cases e : p.1 = k
    · exact ⟨p.2, if_pos e⟩
    · rw [if_neg e]
      refine ih ?_
      rcases List.mem_cons.mp h with z | z
      · exact absurd z.symm e
      · exact z
theorem getK_of {l : List (Str × α)} (nd : (keys l).Nodup) {k : Str} {v : α} (h : (k, v) ∈ l) : getK l k = some v := by
  induction l with
  | nil => cases h
  | cons p l ih =>
    simp only [keys, List.map_cons, List.nodup_cons] at nd
    rw [getK]
    rcases List.mem_cons.mp h with rfl | h
    · rw [if_pos rfl]
    · rw [if_neg fun e => nd.1 (by rw [e]; exact List.mem_map_of_mem (f := fun p : Str × α => p.1) h)]
      exact ih nd.2 h
theorem getK_isSome {l : List (Str × α)} {k : Str} : (getK l k).isSome = decide (k ∈ keys l) := by
  by_cases h : k ∈ keys l
  · obtain ⟨v, e⟩ := getK_some h
    rw [e, decide_eq_true h]; rfl
  · rw [getK_none h, decide_eq_false h]; rfl
theorem keys_put (l : List (Str × α)) (k : Str) (v : α) : keys (putS_ l k v) = if k ∈ keys l then keys l else keys l ++ [k] := by
  induction l with
  | nil => rfl
  | cons p l ih =>
    simp only [putS_]
    by_cases e : p.1 = k
    · rw [if_pos e]
      have : k ∈ keys (p :: l) := by rw [← e]; exact List.mem_cons_self
      rw [if_pos this]; rfl
    · rw [if_neg e]
      show p.1 :: keys (putS_ l k v) = _
      rw [ih]
      by_cases h : k ∈ keys l
      · have h2 : k ∈ keys (p :: l) := List.mem_cons_of_mem _ h
        rw [if_pos h, if_pos h2]; rfl
      · have h2 : k ∉ keys (p :: l) := fun z => by rcases List.mem_cons.mp z with z | z; exact e z.symm; exact h z
        rw [if_neg h, if_neg h2]; rfl
theorem getK_put (l : List (Str × α)) (k : Str) (v : α) (q : Str) : getK (putS_ l k v) q = if q = k then some v else getK l q := by
  induction l with
  | nil =>
    simp only [putS_, getK]
    by_cases e : q = k
    · rw [if_pos e.symm, if_pos e]
    · rw [if_neg (fun z => e z.symm), if_neg e]
  | cons p l ih =>
    simp only [putS_]
    by_cases e : p.1 = k
    · rw [if_pos e]
      simp only [getK]
      by_cases h : q = k
      · rw [if_pos (by rw [e, h]), if_pos h]
      · rw [if_neg (fun z => h (by rw [← z, e])), if_neg h, if_neg (fun z => h (by rw [← z, e]))]
    · rw [if_neg e]
      simp only [getK, ih]
      by_cases h : p.1 = q
      · rw [if_pos h, if_pos h, if_neg (fun z => e (h.trans z))]
      · rw [if_neg h, if_neg h]
theorem put_new {l : List (Str × α)} {k : Str} (v : α) (h : k ∉ keys l) : putS_ l k v = l ++ [(k, v)] := by
  induction l with
  | nil => rfl
  | cons p l ih =>
    simp only [keys, List.map_cons, List.mem_cons, not_or] at h
    simp only [putS_, if_neg (fun e => h.1 (Eq.symm e)), ih h.2, List.cons_append]
theorem put_map {β : Type} [DecidableEq Str] (xs : List Str) (f : Str → α) (k : Str) (v : α) (nd : xs.Nodup) (hk : k ∈ xs) : putS_ (xs.map fun x => (x, f x)) k v = xs.map fun x => (x, if x = k then v else f x) := by
  induction xs with
  | nil => cases hk
  | cons x xs ih =>
    simp only [List.nodup_cons] at nd
    simp only [List.map_cons, putS_]
    by_cases e : x = k
    · rw [if_pos e, if_pos e]
      congr 1
      refine List.map_congr_left fun y hy => ?_
      rw [if_neg fun z => nd.1 (by rw [e, ← z]; exact hy)]
    · rw [if_neg e, if_neg e]
      congr 1
      rcases List.mem_cons.mp hk with z | z
      · exact absurd z.symm e
      · exact ih nd.2 z
theorem getK_map (xs : List Str) (f : Str → α) (k : Str) : getK (xs.map fun x => (x, f x)) k = if k ∈ xs then some (f k) else none := by
  induction xs with
  | nil => rfl
  | cons x xs ih =>
    simp only [List.map_cons, getK, ih]
    by_cases e : x = k
    · subst e; rw [if_pos rfl, if_pos List.mem_cons_self]
    · rw [if_neg e]
      by_cases h : k ∈ xs
      · rw [if_pos h, if_pos (List.mem_cons_of_mem _ h)]
      · rw [if_neg h, if_neg (fun z => by rcases List.mem_cons.mp z with z | z; exact e z.symm; exact h z)]
theorem keys_map (xs : List Str) (f : Str → α) : keys (xs.map fun x => (x, f x)) = xs := by
  simp only [keys, List.map_map]
  exact List.map_id' xs
theorem mrg_nd : ∀ (l acc : List (Str × α)), (keys (acc ++ l)).Nodup → l.foldl (fun acc p => putS_ acc p.1 p.2) acc = acc ++ l
  | [], acc, _ => by rw [List.append_nil]; rfl
  | p :: l, acc, nd => by
    have hp : p.1 ∉ keys acc := fun h => by
      simp only [keys, List.map_append, List.map_cons] at nd h
      exact (List.nodup_append.mp nd).2.2 _ h _ List.mem_cons_self rfl
    rw [List.foldl_cons, put_new p.2 hp, mrg_nd l (acc ++ [(p.1, p.2)]) (by rw [List.append_assoc]; exact nd), List.append_assoc]
    rfl
theorem mrg_self {l : List (Str × α)} (nd : (keys l).Nodup) : mrg_ l = l := mrg_nd l [] nd
theorem dcP_self {e : Str → Option α} (f : Str → α) {xs : List Str} (hl : xs.length ≤ 1000000) (nd : xs.Nodup) (he : ∀ x ∈ xs, e x = some (f x)) : dcP (fun _ => some true) (fun x => some x) e xs = some (xs.map fun x => (x, f x)) := by
  unfold dcP
  rw [if_pos hl]
  have go : ∀ (ys pre : List Str), (pre ++ ys).Nodup → (∀ y ∈ ys, e y = some (f y)) → dcP_ (fun _ => some true) (fun x => some x) e ys (pre.map fun x => (x, f x)) = some ((pre ++ ys).map fun x => (x, f x)) := by
    intro ys
    induction ys with
    | nil => intro pre _ _; rw [List.append_nil]; rfl
    | cons y ys ih =>
      intro pre nd he
      have hy : y ∉ pre := fun h => (List.nodup_append.mp nd).2.2 _ h _ List.mem_cons_self rfl
      simp only [dcP_, Option.bind_some, if_true, he y List.mem_cons_self]
      rw [put_new _ (by rw [keys_map]; exact hy)]
      have := ih (pre ++ [y]) (by rw [List.append_assoc]; exact nd) (fun z hz => he z (List.mem_cons_of_mem _ hz))
      rw [List.map_append, List.append_assoc] at this
      exact this
  exact go xs [] nd he
theorem mod_map (xs : List Str) (f : Str → α) (g : α → Option α) (v : α) {k : Str} (nd : xs.Nodup) (hk : k ∈ xs) (hv : g (f k) = some v) : mod_ (xs.map fun x => (x, f x)) k g = some (xs.map fun x => (x, if x = k then v else f x)) := by
  unfold mod_
  rw [getK_map, if_pos hk, Option.bind_some, hv, Option.bind_some, put_map (β := α) xs f k v nd hk]
end
theorem sortS_perm' (l : List Str) : (sortS l).Perm l := List.mergeSort_perm l strLe
theorem sortS_pw' (l : List Str) : (sortS l).Pairwise fun a b => strLe a b = true := List.pairwise_mergeSort (le := strLe) strLe_trans strLe_total l
theorem sortS_uniq {l m : List Str} (h : l.Perm m) (p : l.Pairwise fun a b => strLe a b = true) : sortS m = l := (pw_one l (sortS m) (h.trans (sortS_perm' m).symm) p (sortS_pw' m)).symm
theorem sortS_congr {l m : List Str} (h : l.Perm m) : sortS l = sortS m := (sortS_uniq ((sortS_perm' l).trans h) (sortS_pw' l)).symm
theorem sortS_nd {l : List Str} (h : l.Nodup) : (sortS l).Nodup := (sortS_perm' l).nodup_iff.mpr h
theorem sortS_mem {l : List Str} {x : Str} : x ∈ sortS l ↔ x ∈ l := (sortS_perm' l).mem_iff
theorem sortS_len (l : List Str) : (sortS l).length = l.length := (sortS_perm' l).length_eq
theorem sortS_fil (l : List Str) (p : Str → Bool) : sortS (l.filter p) = (sortS l).filter p := sortS_uniq ((sortS_perm' l).filter p) ((sortS_pw' l).filter p)
theorem srt_of {l : List Str} (h : l.length ≤ 1000000) : srt_ l = some (sortS l) := by unfold srt_; rw [if_pos h]
theorem app_of {α : Type} {l : List α} {x : α} (h : l.length < 1000000) : app_ l x = some (l ++ [x]) := by unfold app_; rw [if_pos h]
theorem catL_of {α : Type} {l k : List α} (h : l.length + k.length ≤ 1000000) : catL l k = some (l ++ k) := by unfold catL; rw [if_pos (Nat.le_trans h (by decide))]
theorem atI_nat' {α : Type} (l : List α) (i : Nat) : atI l (i : Int) = l[i]? := by
  unfold atI ixN
  rw [if_pos (by omega)]
  by_cases h : i < l.length
  · rw [if_pos (by omega)]; simp
  · rw [if_neg (by omega), List.getElem?_eq_none (by omega)]; rfl
theorem atI_0 {α : Type} (x : α) (l : List α) : atI (x :: l) 0 = some x := atI_nat' (x :: l) 0
theorem atI_last {α : Type} (l : List α) (x : α) : atI (l ++ [x]) (-1) = some x := by
  unfold atI ixN
  rw [if_neg (by decide), if_pos (by rw [List.length_append, List.length_singleton]; omega), List.length_append, List.length_singleton]
  simp only [Option.bind_some]
  rw [show ((-1 : Int) + ((l.length + 1 : Nat) : Int)).toNat = l.length by omega]
  simp
end Pv

set_option Elab.async false
set_option linter.all false
set_option maxRecDepth 100000
set_option maxHeartbeats 1000000
namespace Pv
open PySem (Str)
open L2 (Key atI ixN)
abbrev Ab := List (Str × Option Str)
theorem nd_len {α : Type} : ∀ {l m : List α}, l.Nodup → (∀ x ∈ l, x ∈ m) → l.length ≤ m.length
  | [], _, _, _ => Nat.zero_le _
  | a :: l, m, nd, h => by
    rw [List.nodup_cons] at nd
    obtain ⟨m1, m2, rfl⟩ := List.append_of_mem (h a List.mem_cons_self)
    have ih := nd_len (l := l) (m := m1 ++ m2) nd.2 fun x hx => by
      have hx' := h x (List.mem_cons_of_mem _ hx)
      rw [List.mem_append, List.mem_cons] at hx'
      rw [List.mem_append]
      rcases hx' with z | z | z
      · exact .inl z
      · subst z; exact absurd hx nd.1
      · exact .inr z
    simp only [List.length_cons, List.length_append] at ih ⊢
    omega
theorem nd_flat {α β : Type} {f : α → List β} : ∀ {ks : List α}, (∀ k ∈ ks, (f k).Nodup) → (ks.Pairwise fun a b => ∀ x ∈ f a, x ∉ f b) → (ks.flatMap f).Nodup
  | [], _, _ => List.nodup_nil
  | k :: ks, h1, h2 => by
    rw [List.pairwise_cons] at h2
    rw [List.flatMap_cons, List.nodup_append]
    refine ⟨h1 k List.mem_cons_self, nd_flat (fun x hx => h1 x (List.mem_cons_of_mem _ hx)) h2.2, fun x hx y hy e => ?_⟩
    subst e
    obtain ⟨k2, h3, h4⟩ := List.mem_flatMap.mp hy
    exact h2.1 k2 h3 x hx h4
def par (A : Ab) (p : Str) : Option Str := (getK A p).bind id
def small : List Nat := ("abcdefghijklmnopqrstuvwxyz" : Str).cps.toList
structure Nm (s : Str) : Prop where
  lo : 1 ≤ s.length
  hi : s.length ≤ 8
  sm : ∀ c ∈ s.cps.toList, c ∈ small
theorem small_lt : ∀ c ∈ small, c < 0x110000 := by decide
theorem Nm.ok {s : Str} (h : Nm s) : sOk s = true := by
  unfold sOk
  rw [← Array.all_toList, List.all_eq_true]
  intro c hc
  exact decide_eq_true (small_lt c (h.sm c hc))
structure TreeOk (A : Ab) (h : Str) : Prop where
  nd : (keys A).Nodup
  hd : (h, none) ∈ A
  one : ∀ p, (p, none) ∈ A → p = h
  up : ∀ p q, (p, some q) ∈ A → q ∈ keys A
  rk : ∃ rk : Str → Nat, ∀ p q, par A p = some q → rk q < rk p
  nm : ∀ p ∈ keys A, Nm p
  sz : A.length ≤ 1000
def srt (A : Ab) : List Str := sortS (keys A)
def kids (A : Ab) (p : Str) : List Str := (srt A).filter fun q => decide (par A q = some p)
def lineN (A : Ab) : Nat → Str → List Str
  | 0, p => [p]
  | n + 1, p => p :: (match par A p with
    | none => []
    | some q => lineN A n q)
open Classical in
noncomputable def rkOf (A : Ab) : Str → Nat := if h : ∃ rk : Str → Nat, ∀ p q, par A p = some q → rk q < rk p then Classical.choose h else fun _ => 0
noncomputable def lineF (A : Ab) (p : Str) : List Str := lineN A (rkOf A p) p
noncomputable def branch (A : Ab) (p : Str) : List Str := (srt A).filter fun q => decide (p ∈ lineF A q)
theorem lineN_st (A : Ab) (rk : Str → Nat) (hr : ∀ p q, par A p = some q → rk q < rk p) : ∀ (n : Nat) (p : Str), rk p ≤ n → lineN A n p = lineN A (rk p) p := by
  have go : ∀ (k n m : Nat) (p : Str), rk p ≤ k → rk p ≤ n → rk p ≤ m → lineN A n p = lineN A m p := by
    intro k
    induction k with
    | zero =>
      intro n m p h1 h2 h3
      have hp : par A p = none := by
        cases e : par A p with
        | none => rfl
        | some q => have := hr p q e; omega
      cases n <;> cases m <;> simp [lineN, hp]
    | succ k ih =>
      intro n m p h1 h2 h3
      cases e : par A p with
      | none => cases n <;> cases m <;> simp [lineN, e]
      | some q =>
        have := hr p q e
        cases n with
        | zero => omega
        | succ n =>
          cases m with
          | zero => omega
          | succ m =>
            simp only [lineN, e]
            rw [ih n m q (by omega) (by omega) (by omega)]
  intro n p h
  exact go (rk p) n (rk p) p (Nat.le_refl _) h (Nat.le_refl _)
theorem rkOf_lt {A : Ab} (h : ∃ rk : Str → Nat, ∀ p q, par A p = some q → rk q < rk p) : ∀ p q, par A p = some q → rkOf A q < rkOf A p := by
  unfold rkOf
  rw [dif_pos h]
  exact Classical.choose_spec h
section
variable {A : Ab} {h : Str} (t : TreeOk A h)
include t
theorem TreeOk.lt {p q : Str} (e : par A p = some q) : rkOf A q < rkOf A p := rkOf_lt t.rk p q e
theorem TreeOk.line_none {p : Str} (e : par A p = none) : lineF A p = [p] := by
  unfold lineF
  cases rkOf A p <;> simp [lineN, e]
theorem TreeOk.line_some {p q : Str} (e : par A p = some q) : lineF A p = p :: lineF A q := by
  unfold lineF
  have hr := rkOf_lt t.rk
  rw [← lineN_st A (rkOf A) hr (rkOf A p + 1) p (Nat.le_succ _)]
  simp only [lineN, e]
  rw [lineN_st A (rkOf A) hr (rkOf A p) q (Nat.le_of_lt (hr p q e))]
theorem TreeOk.line_self (p : Str) : p ∈ lineF A p := by
  cases e : par A p with
  | none => rw [t.line_none e]; exact List.mem_cons_self
  | some q => rw [t.line_some e]; exact List.mem_cons_self
theorem TreeOk.line_ind {P : Str → Prop} (h0 : ∀ p, par A p = none → P p) (h1 : ∀ p q, par A p = some q → P q → P p) (p : Str) : P p := by
  have : ∀ (n : Nat) (p : Str), rkOf A p ≤ n → P p := by
    intro n
    induction n with
    | zero =>
      intro p hp
      cases e : par A p with
      | none => exact h0 p e
      | some q => have := t.lt e; omega
    | succ n ih =>
      intro p hp
      cases e : par A p with
      | none => exact h0 p e
      | some q => exact h1 p q e (ih q (by have := t.lt e; omega))
  exact this _ p (Nat.le_refl _)
theorem TreeOk.line_sub {q : Str} : ∀ (p : Str), q ∈ lineF A p → ∀ x ∈ lineF A q, x ∈ lineF A p := by
  intro p
  refine t.line_ind (P := fun p => q ∈ lineF A p → ∀ x ∈ lineF A q, x ∈ lineF A p) (fun p e hq x hx => ?_) (fun p p' e ih hq x hx => ?_) p
  · rw [t.line_none e, List.mem_singleton] at hq
    subst hq; exact hx
  · rw [t.line_some e] at hq ⊢
    rcases List.mem_cons.mp hq with rfl | hq
    · rw [t.line_some e] at hx; exact hx
    · exact List.mem_cons_of_mem _ (ih hq x hx)
theorem TreeOk.line_rk {q : Str} (p : Str) : q ∈ lineF A p → q = p ∨ rkOf A q < rkOf A p := by
  refine t.line_ind (P := fun p => q ∈ lineF A p → q = p ∨ rkOf A q < rkOf A p) (fun p e hq => ?_) (fun p p' e ih hq => ?_) p
  · rw [t.line_none e, List.mem_singleton] at hq; exact .inl hq
  · rw [t.line_some e] at hq
    have := t.lt e
    rcases List.mem_cons.mp hq with rfl | hq
    · exact .inl rfl
    · rcases ih hq with rfl | z
      · exact .inr this
      · exact .inr (by omega)
theorem TreeOk.line_nd (p : Str) : (lineF A p).Nodup := by
  refine t.line_ind (P := fun p => (lineF A p).Nodup) (fun p e => ?_) (fun p p' e ih => ?_) p
  · rw [t.line_none e]; simp
  · rw [t.line_some e, List.nodup_cons]
    refine ⟨fun hm => ?_, ih⟩
    have := t.lt e
    rcases t.line_rk p' hm with rfl | z <;> omega
theorem TreeOk.get {p : Str} (hp : p ∈ keys A) : getK A p = some (par A p) := by
  obtain ⟨v, e⟩ := getK_some hp
  rw [par, e]; rfl
theorem TreeOk.par_mem {p q : Str} (e : par A p = some q) : (p, some q) ∈ A := by
  unfold par at e
  cases h1 : getK A p with
  | none => rw [h1] at e; cases e
  | some v => rw [h1] at e; have : v = some q := e; subst this; exact getK_mem h1
theorem TreeOk.par_key {p q : Str} (e : par A p = some q) : p ∈ keys A ∧ q ∈ keys A := ⟨List.mem_map_of_mem (f := fun x : Str × Option Str => x.1) (t.par_mem e), t.up _ _ (t.par_mem e)⟩
theorem TreeOk.par_of {p : Str} {v : Option Str} (e : (p, v) ∈ A) : par A p = v := by
  rw [par, getK_of t.nd e]; rfl
theorem TreeOk.par_none {p : Str} (hp : p ∈ keys A) (e : par A p = none) : p = h := by
  have h1 := t.get hp
  rw [e] at h1
  exact t.one p (getK_mem h1)
theorem TreeOk.par_h : par A h = none := t.par_of t.hd
theorem TreeOk.h_key : h ∈ keys A := List.mem_map_of_mem (f := fun x : Str × Option Str => x.1) t.hd
theorem TreeOk.line_key {p : Str} (hp : p ∈ keys A) : ∀ x ∈ lineF A p, x ∈ keys A := by
  refine t.line_ind (P := fun p => p ∈ keys A → ∀ x ∈ lineF A p, x ∈ keys A) (fun p e hp x hx => ?_) (fun p p' e ih hp x hx => ?_) p hp
  · rw [t.line_none e, List.mem_singleton] at hx; exact hx ▸ hp
  · rw [t.line_some e] at hx
    rcases List.mem_cons.mp hx with rfl | hx
    · exact hp
    · exact ih (t.par_key e).2 x hx
theorem TreeOk.line_h {p : Str} (hp : p ∈ keys A) : h ∈ lineF A p := by
  refine t.line_ind (P := fun p => p ∈ keys A → h ∈ lineF A p) (fun p e hp => ?_) (fun p p' e ih hp => ?_) p hp
  · rw [t.par_none hp e]; exact t.line_self h
  · rw [t.line_some e]; exact List.mem_cons_of_mem _ (ih (t.par_key e).2)
theorem TreeOk.line_len {p : Str} (hp : p ∈ keys A) : (lineF A p).length ≤ A.length := by
  have h1 : (lineF A p).length ≤ (keys A).length := by
    exact nd_len (t.line_nd p) fun x hx => t.line_key hp x hx
  simpa [keys] using h1
theorem TreeOk.mem_kids {p q : Str} : q ∈ kids A p ↔ par A q = some p := by
  unfold kids srt
  rw [List.mem_filter, sortS_mem, decide_eq_true_eq]
  exact ⟨fun z => z.2, fun e => ⟨(t.par_key e).1, e⟩⟩
theorem TreeOk.mem_branch {p q : Str} : q ∈ branch A p ↔ q ∈ keys A ∧ p ∈ lineF A q := by
  unfold branch srt
  rw [List.mem_filter, sortS_mem, decide_eq_true_eq]
theorem TreeOk.srt_nd : (srt A).Nodup := sortS_nd t.nd
theorem TreeOk.srt_len : (srt A).length = A.length := by unfold srt; rw [sortS_len]; simp [keys]
theorem TreeOk.kids_nd (p : Str) : (kids A p).Nodup := t.srt_nd.filter _
theorem TreeOk.branch_nd (p : Str) : (branch A p).Nodup := t.srt_nd.filter _
theorem TreeOk.kids_len (p : Str) : (kids A p).length ≤ A.length := by rw [← t.srt_len]; exact List.length_filter_le _ _
theorem TreeOk.branch_len (p : Str) : (branch A p).length ≤ A.length := by rw [← t.srt_len]; exact List.length_filter_le _ _
theorem TreeOk.branch_h : branch A h = srt A := by
  unfold branch
  refine List.filter_eq_self.mpr fun q hq => ?_
  rw [decide_eq_true_eq]
  exact t.line_h (sortS_mem.mp hq)
theorem TreeOk.line_step {p q : Str} : p ∈ lineF A q ↔ q = p ∨ ∃ k, par A k = some p ∧ k ∈ lineF A q := by
  constructor
  · refine t.line_ind (P := fun q => p ∈ lineF A q → q = p ∨ ∃ k, par A k = some p ∧ k ∈ lineF A q) (fun q e hp => ?_) (fun q q' e ih hp => ?_) q
    · rw [t.line_none e, List.mem_singleton] at hp; exact .inl hp.symm
    · rw [t.line_some e] at hp
      rcases List.mem_cons.mp hp with rfl | hp
      · exact .inl rfl
      · rcases ih hp with rfl | ⟨k, h1, h2⟩
        · exact .inr ⟨q, e, t.line_self q⟩
        · exact .inr ⟨k, h1, by rw [t.line_some e]; exact List.mem_cons_of_mem _ h2⟩
  · rintro (rfl | ⟨k, h1, h2⟩)
    · exact t.line_self q
    · refine t.line_sub q h2 p ?_
      rw [t.line_some h1]
      exact List.mem_cons_of_mem _ (t.line_self p)
theorem TreeOk.line_uniq {p k1 k2 : Str} (e1 : par A k1 = some p) (e2 : par A k2 = some p) (q : Str) : k1 ∈ lineF A q → k2 ∈ lineF A q → k1 = k2 := by
  have bad : ∀ k, par A k = some p → k ∉ lineF A p := fun k e hk => by
    have := t.lt e
    rcases t.line_rk p hk with rfl | z <;> omega
  refine t.line_ind (P := fun q => k1 ∈ lineF A q → k2 ∈ lineF A q → k1 = k2) (fun q e h1 h2 => ?_) (fun q q' e ih h1 h2 => ?_) q
  · rw [t.line_none e, List.mem_singleton] at h1 h2; rw [h1, h2]
  · rw [t.line_some e] at h1 h2
    rcases List.mem_cons.mp h1 with z1 | g1 <;> rcases List.mem_cons.mp h2 with z2 | g2
    · rw [z1, z2]
    · subst z1; rw [e1] at e; cases e; exact absurd g2 (bad k2 e2)
    · subst z2; rw [e2] at e; cases e; exact absurd g1 (bad k1 e1)
    · exact ih g1 g2
/-- a branch is its post and the branches right below -/
theorem TreeOk.branch_step {p : Str} (hp : p ∈ keys A) : (p :: (kids A p).flatMap (branch A)).Perm (branch A p) := by
  refine (List.perm_ext_iff_of_nodup ?_ (t.branch_nd p)).mpr fun q => ?_
  · rw [List.nodup_cons]
    refine ⟨fun hm => ?_, ?_⟩
    · obtain ⟨k, h1, h2⟩ := List.mem_flatMap.mp hm
      have h1 := t.mem_kids.mp h1
      have := t.lt h1
      rcases t.line_rk p (t.mem_branch.mp h2).2 with rfl | z <;> omega
    · refine nd_flat (fun k _ => t.branch_nd k) ?_
      refine (t.kids_nd p).imp_of_mem fun {a b} ha hb ne => ?_
      intro x hx hy
      exact ne (t.line_uniq (t.mem_kids.mp ha) (t.mem_kids.mp hb) x (t.mem_branch.mp hx).2 (t.mem_branch.mp hy).2)
  · rw [List.mem_cons, List.mem_flatMap, t.mem_branch, t.line_step]
    constructor
    · rintro (rfl | ⟨k, h1, h2⟩)
      · exact ⟨hp, .inl rfl⟩
      · exact ⟨(t.mem_branch.mp h2).1, .inr ⟨k, t.mem_kids.mp h1, (t.mem_branch.mp h2).2⟩⟩
    · rintro ⟨hq, rfl | ⟨k, h1, h2⟩⟩
      · exact .inl rfl
      · exact .inr ⟨k, t.mem_kids.mpr h1, t.mem_branch.mpr ⟨hq, h2⟩⟩
theorem TreeOk.branch_srt {p : Str} (hp : p ∈ keys A) : sortS (p :: (kids A p).flatMap (branch A)) = branch A p := by
  rw [sortS_congr (t.branch_step hp)]
  unfold branch
  rw [sortS_fil]
  congr 1
  exact sortS_uniq (List.Perm.refl _) (sortS_pw' _)
end
end Pv

set_option Elab.async false
set_option linter.all false
set_option maxRecDepth 100000
set_option maxHeartbeats 4000000
namespace K01
open Pv
open PySem (Str)
open L2 (Key atI)
theorem kne_above_by_above : (Sum.inr ("above_by" : Str) : Key) ≠ Sum.inr ("above" : Str) := by decide
theorem kne_above_by_below : (Sum.inr ("above_by" : Str) : Key) ≠ Sum.inr ("below" : Str) := by decide
theorem kne_above_by_below_by : (Sum.inr ("above_by" : Str) : Key) ≠ Sum.inr ("below_by" : Str) := by decide
theorem kne_above_by_branch : (Sum.inr ("above_by" : Str) : Key) ≠ Sum.inr ("branch" : Str) := by decide
theorem kne_above_by_branches : (Sum.inr ("above_by" : Str) : Key) ≠ Sum.inr ("branches" : Str) := by decide
theorem kne_above_by_checked : (Sum.inr ("above_by" : Str) : Key) ≠ Sum.inr ("checked" : Str) := by decide
theorem kne_above_by_downward : (Sum.inr ("above_by" : Str) : Key) ≠ Sum.inr ("downward" : Str) := by decide
theorem kne_above_by_head : (Sum.inr ("above_by" : Str) : Key) ≠ Sum.inr ("head" : Str) := by decide
theorem kne_above_by_posts : (Sum.inr ("above_by" : Str) : Key) ≠ Sum.inr ("posts" : Str) := by decide
theorem kne_above_by_size : (Sum.inr ("above_by" : Str) : Key) ≠ Sum.inr ("size" : Str) := by decide
theorem kne_above_by_top : (Sum.inr ("above_by" : Str) : Key) ≠ Sum.inr ("top" : Str) := by decide
theorem kne_below_by_above : (Sum.inr ("below_by" : Str) : Key) ≠ Sum.inr ("above" : Str) := by decide
theorem kne_below_by_below : (Sum.inr ("below_by" : Str) : Key) ≠ Sum.inr ("below" : Str) := by decide
theorem kne_below_by_branch : (Sum.inr ("below_by" : Str) : Key) ≠ Sum.inr ("branch" : Str) := by decide
theorem kne_below_by_branches : (Sum.inr ("below_by" : Str) : Key) ≠ Sum.inr ("branches" : Str) := by decide
theorem kne_below_by_checked : (Sum.inr ("below_by" : Str) : Key) ≠ Sum.inr ("checked" : Str) := by decide
theorem kne_below_by_downward : (Sum.inr ("below_by" : Str) : Key) ≠ Sum.inr ("downward" : Str) := by decide
theorem kne_below_by_head : (Sum.inr ("below_by" : Str) : Key) ≠ Sum.inr ("head" : Str) := by decide
theorem kne_below_by_posts : (Sum.inr ("below_by" : Str) : Key) ≠ Sum.inr ("posts" : Str) := by decide
theorem kne_below_by_size : (Sum.inr ("below_by" : Str) : Key) ≠ Sum.inr ("size" : Str) := by decide
theorem kne_below_by_top : (Sum.inr ("below_by" : Str) : Key) ≠ Sum.inr ("top" : Str) := by decide
theorem kne_branches_above : (Sum.inr ("branches" : Str) : Key) ≠ Sum.inr ("above" : Str) := by decide
theorem kne_branches_below : (Sum.inr ("branches" : Str) : Key) ≠ Sum.inr ("below" : Str) := by decide
theorem kne_branches_branch : (Sum.inr ("branches" : Str) : Key) ≠ Sum.inr ("branch" : Str) := by decide
theorem kne_branches_checked : (Sum.inr ("branches" : Str) : Key) ≠ Sum.inr ("checked" : Str) := by decide
theorem kne_branches_downward : (Sum.inr ("branches" : Str) : Key) ≠ Sum.inr ("downward" : Str) := by decide
theorem kne_branches_head : (Sum.inr ("branches" : Str) : Key) ≠ Sum.inr ("head" : Str) := by decide
theorem kne_branches_posts : (Sum.inr ("branches" : Str) : Key) ≠ Sum.inr ("posts" : Str) := by decide
theorem kne_branches_size : (Sum.inr ("branches" : Str) : Key) ≠ Sum.inr ("size" : Str) := by decide
theorem kne_top_above : (Sum.inr ("top" : Str) : Key) ≠ Sum.inr ("above" : Str) := by decide
theorem kne_top_below : (Sum.inr ("top" : Str) : Key) ≠ Sum.inr ("below" : Str) := by decide
theorem kne_top_branch : (Sum.inr ("top" : Str) : Key) ≠ Sum.inr ("branch" : Str) := by decide
theorem kne_top_branches : (Sum.inr ("top" : Str) : Key) ≠ Sum.inr ("branches" : Str) := by decide
theorem kne_top_checked : (Sum.inr ("top" : Str) : Key) ≠ Sum.inr ("checked" : Str) := by decide
theorem kne_top_downward : (Sum.inr ("top" : Str) : Key) ≠ Sum.inr ("downward" : Str) := by decide
theorem kne_top_head : (Sum.inr ("top" : Str) : Key) ≠ Sum.inr ("head" : Str) := by decide
theorem kne_top_posts : (Sum.inr ("top" : Str) : Key) ≠ Sum.inr ("posts" : Str) := by decide
theorem kne_top_size : (Sum.inr ("top" : Str) : Key) ≠ Sum.inr ("size" : Str) := by decide
structure I_Tree where
  above_by : List (Str × Option (Str))
  below_by : List (Str × List (Str))
  top : Str
  branches : List (Str × List (Str))

def e_Tree (m : Fl) (x : I_Tree) : D := .ins m 0 [(Sum.inr ("above_by" : Str), (eK (eO eS)) m x.above_by), (Sum.inr ("below_by" : Str), (eF (eK (eL eS))) m x.below_by), (Sum.inr ("top" : Str), eS m x.top), (Sum.inr ("branches" : Str), (eK (eF (eL eS))) m x.branches)]
theorem e_Tree_ok : EncOk e_Tree := ⟨fun x => congrArg (D.ins .bor 0) (kcC (k := Sum.inr ("above_by" : Str)) ((eK_ok (eO_ok eS_ok.toEncOk).toEncOk).bor _) (kcC (k := Sum.inr ("below_by" : Str)) ((eF_ok (eK_ok (eL_ok eS_ok.toEncOk))).toEncOk.bor _) (kcC (k := Sum.inr ("top" : Str)) (eS_ok.toEncOk.bor _) (kcC (k := Sum.inr ("branches" : Str)) ((eK_ok (eF_ok (eL_ok eS_ok.toEncOk)).toEncOk).bor _) kcN)))), fun _ => rfl, fun _ => rfl, fun x => congrArg (D.ins .frz 0) (kfC (k := Sum.inr ("above_by" : Str)) ((eK_ok (eO_ok eS_ok.toEncOk).toEncOk).frz _) (kfC (k := Sum.inr ("below_by" : Str)) ((eF_ok (eK_ok (eL_ok eS_ok.toEncOk))).toEncOk.frz _) (kfC (k := Sum.inr ("top" : Str)) (eS_ok.toEncOk.frz _) (kfC (k := Sum.inr ("branches" : Str)) ((eK_ok (eF_ok (eL_ok eS_ok.toEncOk)).toEncOk).frz _) kfN)))), fun _ => rfl, fun x => (knC (k := Sum.inr ("above_by" : Str)) ((eK_ok (eO_ok eS_ok.toEncOk).toEncOk).nbo _) (knC (k := Sum.inr ("below_by" : Str)) ((eF_ok (eK_ok (eL_ok eS_ok.toEncOk))).toEncOk.nbo _) (knC (k := Sum.inr ("top" : Str)) (eS_ok.toEncOk.nbo _) (knC (k := Sum.inr ("branches" : Str)) ((eK_ok (eF_ok (eL_ok eS_ok.toEncOk)).toEncOk).nbo _) knN)))), fun _ => rfl, fun _ => rfl, fun _ => rfl⟩
theorem Tree_above_by (m : Fl) (x : I_Tree) : valA [((Sum.inr ("above_by" : Str) : Key), (eK (eO eS)) m x.above_by), ((Sum.inr ("below_by" : Str) : Key), (eF (eK (eL eS))) m x.below_by), ((Sum.inr ("top" : Str) : Key), eS m x.top), ((Sum.inr ("branches" : Str) : Key), (eK (eF (eL eS))) m x.branches)] (Sum.inr ("above_by" : Str)) = some ((eK (eO eS)) m x.above_by) := va_z
theorem Tree_below_by (m : Fl) (x : I_Tree) : valA [((Sum.inr ("above_by" : Str) : Key), (eK (eO eS)) m x.above_by), ((Sum.inr ("below_by" : Str) : Key), (eF (eK (eL eS))) m x.below_by), ((Sum.inr ("top" : Str) : Key), eS m x.top), ((Sum.inr ("branches" : Str) : Key), (eK (eF (eL eS))) m x.branches)] (Sum.inr ("below_by" : Str)) = some ((eF (eK (eL eS))) m x.below_by) := (va_s kne_above_by_below_by va_z)
theorem Tree_top (m : Fl) (x : I_Tree) : valA [((Sum.inr ("above_by" : Str) : Key), (eK (eO eS)) m x.above_by), ((Sum.inr ("below_by" : Str) : Key), (eF (eK (eL eS))) m x.below_by), ((Sum.inr ("top" : Str) : Key), eS m x.top), ((Sum.inr ("branches" : Str) : Key), (eK (eF (eL eS))) m x.branches)] (Sum.inr ("top" : Str)) = some (eS m x.top) := (va_s kne_above_by_top (va_s kne_below_by_top va_z))
theorem Tree_branches (m : Fl) (x : I_Tree) : valA [((Sum.inr ("above_by" : Str) : Key), (eK (eO eS)) m x.above_by), ((Sum.inr ("below_by" : Str) : Key), (eF (eK (eL eS))) m x.below_by), ((Sum.inr ("top" : Str) : Key), eS m x.top), ((Sum.inr ("branches" : Str) : Key), (eK (eF (eL eS))) m x.branches)] (Sum.inr ("branches" : Str)) = some ((eK (eF (eL eS))) m x.branches) := (va_s kne_above_by_branches (va_s kne_below_by_branches (va_s kne_top_branches va_z)))
theorem Tree_no_above (m : Fl) (x : I_Tree) : isIns 0 "above" (e_Tree m x) = true := isIns_of (va_sn kne_above_by_above (va_sn kne_below_by_above (va_sn kne_top_above (va_sn kne_branches_above va_n))))
theorem Tree_no_below (m : Fl) (x : I_Tree) : isIns 0 "below" (e_Tree m x) = true := isIns_of (va_sn kne_above_by_below (va_sn kne_below_by_below (va_sn kne_top_below (va_sn kne_branches_below va_n))))
theorem Tree_no_branch (m : Fl) (x : I_Tree) : isIns 0 "branch" (e_Tree m x) = true := isIns_of (va_sn kne_above_by_branch (va_sn kne_below_by_branch (va_sn kne_top_branch (va_sn kne_branches_branch va_n))))
theorem Tree_no_checked (m : Fl) (x : I_Tree) : isIns 0 "checked" (e_Tree m x) = true := isIns_of (va_sn kne_above_by_checked (va_sn kne_below_by_checked (va_sn kne_top_checked (va_sn kne_branches_checked va_n))))
theorem Tree_no_head (m : Fl) (x : I_Tree) : isIns 0 "head" (e_Tree m x) = true := isIns_of (va_sn kne_above_by_head (va_sn kne_below_by_head (va_sn kne_top_head (va_sn kne_branches_head va_n))))
theorem Tree_no_posts (m : Fl) (x : I_Tree) : isIns 0 "posts" (e_Tree m x) = true := isIns_of (va_sn kne_above_by_posts (va_sn kne_below_by_posts (va_sn kne_top_posts (va_sn kne_branches_posts va_n))))
theorem Tree_no_size (m : Fl) (x : I_Tree) : isIns 0 "size" (e_Tree m x) = true := isIns_of (va_sn kne_above_by_size (va_sn kne_below_by_size (va_sn kne_top_size (va_sn kne_branches_size va_n))))
noncomputable def F_law_cell_at (a_script : List Int) (a_k : Int) : Option (Int) :=
  (if (decide (a_k < (a_script.length : Int))) = true then (atI a_script a_k).bind fun n1 => some n1 else some (0 : Int))
noncomputable def F_law_mixed (a_cell : Int) (a_k : Int) : Option (Int) :=
  (some ((a_cell % (2147483629 : Int)) + ((a_cell / (2147483629 : Int)) * (30011 : Int)))).bind fun low1 => (some ((((low1 + ((69621 : Int) * a_k)) + (1 : Int)) * (48271 : Int)) % (2147483629 : Int))).bind fun low2 => (mulI low2 (((low2 / (907 : Int)) + (16831 : Int)) + a_k)).bind fun m3 => (some (m3 % (2147483587 : Int))).bind fun low4 => (mulI low4 ((low4 / (1201 : Int)) + (30011 : Int))).bind fun m5 => some (m5 % (2147483563 : Int))
noncomputable def F_law_source (a_script : List Int) (a_k : Int) : Option (List (Int)) :=
  (if (decide (a_k < (a_script.length : Int))) = true then (atI a_script a_k).bind fun n1 => (atI a_script a_k).bind fun n2 => some [n1, n2, (0 : Int)] else (F_law_cell_at a_script (0 : Int)).bind fun r3 => (F_law_mixed r3 ((1000 : Int) + a_k)).bind fun r4 => some [r4, r4, (0 : Int)])
noncomputable def F_law_next (a_source : List (Int)) (a_many : Int) : Option (Int × List (Int)) :=
  (atI a_source (0 : Int)).bind fun x1 => (if (decide ((1000000000000000000 : Int) ≤ x1)) = true then (atI a_source (0 : Int)).bind fun x2 => (modI x2 a_many).bind fun r3 => (atI a_source (0 : Int)).bind fun x4 => (fdivI x4 a_many).bind fun q5 => (setL_ a_source (0 : Int) q5).bind fun l6 => some (r3, l6) else (atI a_source (2 : Int)).bind fun x7 => (setL_ a_source (2 : Int) (x7 + (1 : Int))).bind fun l8 => (atI l8 (1 : Int)).bind fun x9 => (atI l8 (2 : Int)).bind fun x10 => (F_law_mixed x9 x10).bind fun r11 => (modI r11 a_many).bind fun r12 => some (r12, l8))
noncomputable def F_law_name (a_number : Int) : Option (Str) :=
  (some ("" : Str)).bind fun found1 => (whP (fun t2 => some (decide ((0 : Int) ≤ t2.1))) (fun t2 => ((ixS_ ("abcdefghijklmnopqrstuvwxyz" : Str) (t2.1 % (26 : Int))).bind fun c4 => (catS c4 t2.2).bind fun s5 => (some ((t2.1 / (26 : Int)) - (1 : Int))).bind fun number6 => some (number6, s5) : Option ((Int) × (Str)))) ((a_number, found1) : (Int) × (Str))).bind fun t3 => some t3.2
noncomputable def F_law_names (a_source : List (Int)) (a_many : Int) : Option (List (Str) × List (Int)) :=
  (F_law_next a_source (4 : Int)).bind fun d1 => (atI [(0 : Int), (20 : Int), (700 : Int), (18000 : Int)] d1.1).bind fun x2 => (atI [("" : Str), ("" : Str), ("" : Str), ("grand" : Str)] d1.1).bind fun x3 => (F_law_next d1.2 (4 : Int)).bind fun d4 => (atI [(1 : Int), (3 : Int), (7 : Int), (11 : Int)] d4.1).bind fun x5 => (((modI a_many x5).bind fun r7 => (if (decide (r7 = (0 : Int))) = true then (some (1 : Int)).bind fun step8 => some step8 else some x5) : Option ((Int)))).bind fun j6 => (rng1 a_many).bind fun xs9 => (compP (fun x10 => some true) (fun x10 => (mulI x10 j6).bind fun m11 => (modI m11 a_many).bind fun r12 => (F_law_name (x2 + r12)).bind fun r13 => (catS x3 r13).bind fun s14 => some s14) xs9).bind fun ys15 => some (ys15, d4.2)
noncomputable def F_is_name (a_thing : Str) : Option (Bool) :=
  (orO (!true) (((lenS_ a_thing).bind fun n1 => some n1).bind fun x2 => (andO (decide ((1 : Int) ≤ x2)) (some (decide (x2 ≤ (8 : Int))))).bind fun b3 => some (!b3))).bind fun b4 => (if b4 = true then some false else (compP (fun x5 => some true) (fun x5 => (inS_ x5 ("abcdefghijklmnopqrstuvwxyz" : Str)).bind fun b6 => some b6) (chars_ a_thing)).bind fun ys7 => some (ys7.all id))
noncomputable def F_is_tree_form (a_thing : List (Str × Option (Str))) : Option (Bool) :=
  (orO (!true) ((compP (fun x1 => some true) (fun x1 => (F_is_name x1).bind fun r2 => some r2) (a_thing.map (·.1))).bind fun ys3 => some (!(ys3.all id)))).bind fun b4 => (if b4 = true then some false else (compP (fun x5 => some (x5.isSome)) (fun x5 => some x5) (a_thing.map (·.2))).bind fun ys6 => (if (!decide ((a_thing.length : Int) = ((ys6.length : Int) + (1 : Int)))) = true then some false else (compP (fun x7 => some true) (fun x7 => (((x7)).bind fun o8 => (F_is_name o8).bind fun r9 => some r9).bind fun x10 => (andO x10 (((x7)).bind fun o11 => some ((getK a_thing o11).isSome))).bind fun b12 => some b12) ys6).bind fun ys13 => some (ys13.all id)))
noncomputable def F_Tree_downward (a_self : I_Tree) : Option (List (Str)) :=
  (some ([] : List (Str))).bind fun found1 => (some [a_self.top]).bind fun left2 => (whP (fun t3 => (neG (pyL pyS).ok t3.2 ([] : List (Str))).bind fun b5 => some b5) (fun t3 => ((pop_ t3.2).bind fun p6 => (app_ t3.1 p6.1).bind fun l7 => (getK a_self.below_by p6.1).bind fun v8 => (catL p6.2 v8).bind fun l9 => some (l7, l9) : Option ((List (Str)) × (List (Str))))) ((found1, left2) : (List (Str)) × (List (Str)))).bind fun t4 => some t4.1
noncomputable def F_Tree__init (a_above_by : List (Str × Option (Str))) : Option (Unit × I_Tree) :=
  (F_is_tree_form a_above_by).bind fun r1 => (if (!r1) = true then none else (some a_above_by).bind fun above_by2 => ((srt_ (a_above_by.map (·.1))).bind fun l3 => some l3).bind fun x4 => (dcP (fun x5 => some true) (fun x5 => some x5) (fun x5 => some ([] : List (Str))) x4).bind fun ks6 => (some ks6).bind fun below_by7 => ((srt_ (a_above_by.map (·.1))).bind fun l8 => some l8).bind fun x9 => (forP (fun x12 t10 => ((((getK a_above_by x12).bind fun v14 => (if (v14.isSome) = true then (getK a_above_by x12).bind fun v15 => ((v15)).bind fun o16 => (getK t10 o16).bind fun _ => (mod_ t10 o16 (fun a => app_ a x12)).bind fun l17 => some l17 else some t10) : Option ((List (Str × List (Str)))))).bind fun j13 => some j13 : Option ((List (Str × List (Str)))))) x9 (below_by7 : (List (Str × List (Str))))).bind fun t11 => (compP (fun x18 => some (x18.2.isNone)) (fun x18 => some x18.1) a_above_by).bind fun ys19 => (atI ys19 (0 : Int)).bind fun x20 => (some x20).bind fun top21 => (some ([] : List (Str × List (Str)))).bind fun branches22 => ((F_Tree_downward ⟨above_by2, t11, top21, branches22⟩).bind fun r23 => some r23).bind fun x24 => (forP (fun x27 t25 => ((some [x27]).bind fun found28 => ((getK t11 x27).bind fun v29 => some v29).bind fun x30 => (forP (fun x33 t31 => ((getK t25 x33).bind fun v34 => (catL t31 v34).bind fun l35 => some l35 : Option ((List (Str))))) x30 (found28 : (List (Str)))).bind fun t32 => (srt_ t32).bind fun l36 => (put_ t25 x27 l36).bind fun d37 => some d37 : Option ((List (Str × List (Str)))))) (x24.reverse) (branches22 : (List (Str × List (Str))))).bind fun t26 => (getK t26 top21).bind fun v38 => (if (decide ((v38.length : Int) < (a_above_by.length : Int))) = true then none else some ((), ⟨above_by2, t11, top21, t26⟩)))
noncomputable def F_Tree_checked (a_self : I_Tree) (a_post : Str) : Option (Str) :=
  ((F_is_name a_post).bind fun r1 => some (!r1)).bind fun x2 => (if (x2 || (!(getK a_self.above_by a_post).isSome)) = true then none else some a_post)
noncomputable def F_Tree_head (a_self : I_Tree) : Option (Str) :=
  some a_self.top
noncomputable def F_Tree_posts (a_self : I_Tree) : Option (List (Str)) :=
  (srt_ (a_self.above_by.map (·.1))).bind fun l1 => some l1
noncomputable def F_Tree_above (a_self : I_Tree) (a_post : Str) : Option (Option (Str)) :=
  (F_Tree_checked a_self a_post).bind fun r1 => (getK a_self.above_by r1).bind fun v2 => some v2
noncomputable def F_Tree_below (a_self : I_Tree) (a_post : Str) : Option (List (Str)) :=
  (F_Tree_checked a_self a_post).bind fun r1 => (getK a_self.below_by r1).bind fun v2 => some v2
noncomputable def F_Tree_branch (a_self : I_Tree) (a_post : Str) : Option (List (Str)) :=
  (F_Tree_checked a_self a_post).bind fun r1 => (getK a_self.branches r1).bind fun v2 => some v2
noncomputable def F_Tree_size (a_self : I_Tree) (a_post : Str) : Option (Int) :=
  (F_Tree_checked a_self a_post).bind fun r1 => (getK a_self.branches r1).bind fun v2 => some (v2.length : Int)
noncomputable def F_Tree__eq (a_self : I_Tree) (a_other : I_Tree) : Option (Bool) :=
  (andO true ((eqK_ pyOS.ok a_self.above_by a_other.above_by).bind fun b1 => some b1)).bind fun b2 => some b2
noncomputable def F_law_above (a_source : List (Int)) (a_many : Int) : Option (List (Str × Option (Str)) × List (Int)) :=
  (F_law_names a_source a_many).bind fun d1 => (F_law_next d1.2 (4 : Int)).bind fun d2 => (atI d1.1 (0 : Int)).bind fun x3 => (some [(x3, none)]).bind fun found4 => (rng2 (1 : Int) a_many).bind fun xs5 => (forP (fun x8 t6 => ((F_law_next t6.1 x8).bind fun d9 => (F_law_next d9.2 (3 : Int)).bind fun d10 => (atI [(x8 - (1 : Int)), (0 : Int), d9.1, (if ((x8 - (1 : Int)) - d10.1) > (0 : Int) then ((x8 - (1 : Int)) - d10.1) else (0 : Int))] d2.1).bind fun x11 => (atI d1.1 x11).bind fun x12 => (atI d1.1 x8).bind fun x13 => (put_ t6.2 x13 (some x12)).bind fun d14 => some (d10.2, d14) : Option ((List (Int)) × (List (Str × Option (Str)))))) xs5 ((d2.2, found4) : (List (Int)) × (List (Str × Option (Str))))).bind fun t7 => (srt_ (t7.2.map (·.1))).bind fun l15 => (F_law_next t7.1 a_many).bind fun d16 => ((catL (cutD l15 (some d16.1) none) (cutD l15 none (some d16.1))).bind fun l17 => some l17).bind fun x18 => (compP (fun x19 => some true) (fun x19 => (getK t7.2 x19).bind fun v20 => some (x19, v20)) x18).bind fun ys21 => some ((mrg_ ys21), d16.2)
noncomputable def F_law_head (a_above : List (Str × Option (Str))) : Option (Str) :=
  (compP (fun x1 => (getK a_above x1).bind fun v2 => some (v2.isNone)) (fun x1 => some x1) (a_above.map (·.1))).bind fun ys3 => (atI ys3 (0 : Int)).bind fun x4 => some x4
noncomputable def F_law_line (a_above : List (Str × Option (Str))) (a_post : Str) : Option (List (Str)) :=
  (some [a_post]).bind fun found1 => (whP (fun t2 => (atI t2 (-(1 : Int))).bind fun x4 => (getK a_above x4).bind fun v5 => some (v5.isSome)) (fun t2 => ((atI t2 (-(1 : Int))).bind fun x6 => (getK a_above x6).bind fun v7 => ((v7)).bind fun o8 => (app_ t2 o8).bind fun l9 => some l9 : Option ((List (Str))))) (found1 : (List (Str)))).bind fun t3 => some t3
noncomputable def F_law_under (a_above : List (Str × Option (Str))) (a_post : Str) : Option (List (Str)) :=
  (compP (fun x1 => (getK a_above x1).bind fun v2 => some (decide (v2 = (some a_post)))) (fun x1 => some x1) (a_above.map (·.1))).bind fun ys3 => (srt_ ys3).bind fun l4 => some l4
noncomputable def F_law_branches (a_above : List (Str × Option (Str))) : Option (List (Str × List (Str))) :=
  (dcP (fun x1 => some true) (fun x1 => some x1) (fun x1 => some ([] : List (Str))) (a_above.map (·.1))).bind fun ks2 => ((srt_ (a_above.map (·.1))).bind fun l3 => some l3).bind fun x4 => (forP (fun x7 t5 => (((F_law_line a_above x7).bind fun r8 => some r8).bind fun x9 => (forP (fun x12 t10 => ((getK t10 x12).bind fun _ => (mod_ t10 x12 (fun a => app_ a x7)).bind fun l13 => some l13 : Option ((List (Str × List (Str)))))) x9 (t5 : (List (Str × List (Str))))).bind fun t11 => some t11 : Option ((List (Str × List (Str)))))) x4 (ks2 : (List (Str × List (Str))))).bind fun t6 => some t6
noncomputable def F_law_others (a_source : List (Int)) (a_above : List (Str × Option (Str))) : Option (List (List (Str × Option (Str))) × List (Int)) :=
  (srt_ (a_above.map (·.1))).bind fun l1 => (F_law_next a_source (l1.length : Int)).bind fun d2 => (atI l1 d2.1).bind fun x3 => (put_ a_above ("zzzzzzzz" : Str) (some x3)).bind fun d4 => (some [d4]).bind fun found5 => (F_law_branches a_above).bind fun r6 => (compP (fun x7 => ((getK r6 x3).bind fun v8 => some (!decide (x7 ∈ v8))).bind fun x9 => (andO x9 ((getK a_above x3).bind fun v10 => some (!decide ((some x7) = v10)))).bind fun b11 => some b11) (fun x7 => some x7) l1).bind fun ys12 => ((((neG (pyL pyS).ok ys12 ([] : List (Str))).bind fun b14 => some b14).bind fun x15 => (andO x15 ((getK a_above x3).bind fun v16 => some (v16.isSome))).bind fun b17 => (if b17 = true then (F_law_next d2.2 (ys12.length : Int)).bind fun d18 => (atI ys12 d18.1).bind fun x19 => (put_ a_above x3 (some x19)).bind fun d20 => (app_ found5 d20).bind fun l21 => some (d18.2, l21) else some (d2.2, found5)) : Option ((List (Int)) × (List (List (Str × Option (Str))))))).bind fun j13 => ((((getK r6 x3).bind fun v23 => (eqG (pyL pyS).ok v23 [x3]).bind fun b24 => some b24).bind fun x25 => (andO x25 ((getK a_above x3).bind fun v26 => some (v26.isSome))).bind fun b27 => (if b27 = true then (getK a_above x3).bind fun v28 => (some (dropS_ a_above x3)).bind fun called29 => (getK a_above x3).bind fun v30 => (put_ called29 ("zzzzzzzz" : Str) v30).bind fun d31 => (catL j13.2 [(dropS_ a_above x3), d31]).bind fun l32 => some l32 else some j13.2) : Option ((List (List (Str × Option (Str))))))).bind fun j22 => some (j22, j13.1)
noncomputable def F_law_right (a_source : List (Int)) (a_above : List (Str × Option (Str))) : Option (Bool × List (Int)) :=
  (F_Tree__init a_above).bind fun tree1 => (neK_ pyOS.ok a_above a_above).bind fun b2 => (if b2 = true then some (false, a_source) else (F_law_branches a_above).bind fun r3 => (rng1 (2 : Int)).bind fun xs4 => (forG (fun x7 t5 => ((F_Tree_posts tree1.2).bind fun r8 => ((F_Tree_head tree1.2).bind fun r9 => (F_law_head a_above).bind fun r10 => some (!decide (r9 = r10))).bind fun x11 => (orO x11 ((srt_ (a_above.map (·.1))).bind fun l12 => (neG (pyL pyS).ok r8 l12).bind fun b13 => some b13)).bind fun b14 => (if b14 = true then some (Sum.inl (false, a_source)) else (app_ (r8.reverse) ("zzzzzzzz" : Str)).bind fun l15 => (forG (fun x18 t16 => ((F_Tree_below tree1.2 x18).bind fun r19 => (F_Tree_branch tree1.2 x18).bind fun r20 => (some r19).bind fun below21 => (some r20).bind fun branch22 => ((F_Tree_above tree1.2 x18).bind fun r23 => (getK a_above x18).bind fun v24 => some (!decide (r23 = v24))).bind fun x25 => (orO x25 (((F_law_under a_above x18).bind fun r26 => (neG (pyL pyS).ok below21 r26).bind fun b27 => some b27).bind fun x28 => (orO x28 ((getK r3 x18).bind fun v29 => (neG (pyL pyS).ok branch22 v29).bind fun b30 => some b30)).bind fun b31 => some b31)).bind fun b32 => (if b32 = true then some (Sum.inl (false, a_source)) else ((F_Tree_size tree1.2 x18).bind fun r33 => some (!decide (r33 = (branch22.length : Int)))).bind fun x34 => (orO x34 ((F_Tree_size tree1.2 x18).bind fun r35 => some false)).bind fun b36 => (if b36 = true then some (Sum.inl (false, a_source)) else (app_ below21 ("zzzzzzzz" : Str)).bind fun l37 => some (Sum.inr ()))) : Option (((Bool × List (Int))) ⊕ (Unit)))) (a_above.map (·.1)) (() : Unit)).bind fun q38 => Sum.elim (fun y39 => some (Sum.inl y39)) (fun t17 => some (Sum.inr ())) q38) : Option (((Bool × List (Int))) ⊕ (Unit)))) xs4 (() : Unit)).bind fun q40 => Sum.elim (fun y41 => some y41) (fun t6 => (F_Tree__init (mrg_ (a_above.reverse))).bind fun tree42 => ((F_Tree__eq tree1.2 tree42.2).bind fun b43 => some (!b43)).bind fun x44 => (orO x44 ((F_Tree__eq tree42.2 tree1.2).bind fun b45 => some (!b45))).bind fun b46 => (if b46 = true then some (false, a_source) else ((srt_ (a_above.map (·.1))).bind fun l47 => some [(⟨((eK (eO eS)) .bor a_above), rfl⟩ : Dn), (⟨.non, rfl⟩ : Dn), (⟨((eL eS) .frz l47), rfl⟩ : Dn), (⟨(.str ("a" : Str)), rfl⟩ : Dn)]).bind fun x48 => (compP (fun x49 => (biG x49).bind fun u50 => some false) (fun x49 => some x49) x48).bind fun ys51 => (nilX ys51 false).bind fun b52 => (if b52 = true then some (false, a_source) else ((F_law_others a_source a_above).bind fun d53 => some (d53.1, d53.2)).bind fun x54 => (forG (fun x57 t55 => (((F_Tree__init x57).bind fun tree58 => (F_Tree__eq tree58.2 tree1.2).bind fun b59 => some b59).bind fun x60 => (orO x60 (((F_Tree__init x57).bind fun tree61 => (F_Tree__eq tree1.2 tree61.2).bind fun b62 => some b62).bind fun x63 => (orO x63 ((F_Tree__init x57).bind fun tree64 => (F_Tree__init x57).bind fun tree65 => (F_Tree__eq tree64.2 tree65.2).bind fun b66 => some (!b66))).bind fun b67 => some b67)).bind fun b68 => (if b68 = true then some (Sum.inl (false, x54.2)) else some (Sum.inr ())) : Option (((Bool × List (Int))) ⊕ (Unit)))) x54.1 (() : Unit)).bind fun q69 => Sum.elim (fun y70 => some y70) (fun t56 => some (true, x54.2)) q69))) q40)
noncomputable def F_law (a_script : List Int) : Option (Bool) :=
  (rng1 (if (if (a_script.length : Int) < (6 : Int) then (a_script.length : Int) else (6 : Int)) > (1 : Int) then (if (a_script.length : Int) < (6 : Int) then (a_script.length : Int) else (6 : Int)) else (1 : Int))).bind fun xs1 => (forG (fun x4 t2 => ((F_law_source a_script x4).bind fun r5 => (F_law_next r5 (12 : Int)).bind fun d6 => (F_law_next d6.2 (99 : Int)).bind fun d7 => (F_law_next d7.2 (4 : Int)).bind fun d8 => (atI [d6.1, d7.1] (if (decide (d8.1 = (0 : Int))) = true then (1 : Int) else 0)).bind fun x9 => (some ((1 : Int) + x9)).bind fun many10 => (F_law_above d8.2 many10).bind fun d11 => (F_law_right d11.2 d11.1).bind fun d12 => (if (!d12.1) = true then some (Sum.inl false) else some (Sum.inr ())) : Option ((Bool) ⊕ (Unit)))) xs1 (() : Unit)).bind fun q13 => Sum.elim (fun y14 => some y14) (fun t3 => some true) q13
def M_law_cell_at (ds : List D) (q : D × Option D) : Prop :=
  (∃ a_script a_k r, F_law_cell_at a_script a_k = some r ∧ ds = [(.scr a_script), (.int a_k)] ∧ q = ((eI .own r), none))
def M_law_mixed (ds : List D) (q : D × Option D) : Prop :=
  (∃ a_cell a_k r, F_law_mixed a_cell a_k = some r ∧ ds = [(.int a_cell), (.int a_k)] ∧ q = ((eI .own r), none))
def M_law_source (ds : List D) (q : D × Option D) : Prop :=
  (∃ a_script a_k r, F_law_source a_script a_k = some r ∧ ds = [(.scr a_script), (.int a_k)] ∧ q = (((eL eI) .own r), none))
def M_law_next (ds : List D) (q : D × Option D) : Prop :=
  (∃ a_source a_many r, F_law_next a_source a_many = some r ∧ ds = [((eL eI) .own a_source), (.int a_many)] ∧ q = ((eI .own r.1), some ((eL eI) .own r.2)))
def M_law_name (ds : List D) (q : D × Option D) : Prop :=
  (∃ a_number r, F_law_name a_number = some r ∧ ds = [(.int a_number)] ∧ q = ((eS .own r), none))
def M_law_names (ds : List D) (q : D × Option D) : Prop :=
  (∃ a_source a_many r, F_law_names a_source a_many = some r ∧ ds = [((eL eI) .own a_source), (.int a_many)] ∧ q = (((eL eS) .own r.1), some ((eL eI) .own r.2)))
def M_is_name (ds : List D) (q : D × Option D) : Prop :=
  (∃ a_thing r, F_is_name a_thing = some r ∧ ds = [(.str a_thing)] ∧ q = ((eB .own r), none))
def M_is_tree_form (ds : List D) (q : D × Option D) : Prop :=
  (∃ a_thing r, F_is_tree_form a_thing = some r ∧ ds = [((eK (eO eS)) .bor a_thing)] ∧ q = ((eB .own r), none)) ∨
  (∃ a_thing r, F_is_tree_form a_thing = some r ∧ ds = [((eK (eO eS)) .frz a_thing)] ∧ q = ((eB .own r), none))
def M_Tree_downward (ds : List D) (q : D × Option D) : Prop :=
  (∃ a_self r, F_Tree_downward a_self = some r ∧ ds = [(e_Tree .bor a_self)] ∧ q = (((eL eS) .own r), none))
def M_Tree__init (ds : List D) (q : D × Option D) : Prop :=
  (∃ a_above_by r, F_Tree__init a_above_by = some r ∧ ds = [.ins .own 0 [], ((eK (eO eS)) .bor a_above_by)] ∧ q = (.non, some (e_Tree .own r.2))) ∨
  (∃ a_above_by r, F_Tree__init a_above_by = some r ∧ ds = [.ins .own 0 [], ((eK (eO eS)) .frz a_above_by)] ∧ q = (.non, some (e_Tree .own r.2)))
def M_Tree_checked (ds : List D) (q : D × Option D) : Prop :=
  (∃ a_self a_post r, F_Tree_checked a_self a_post = some r ∧ ds = [(e_Tree .bor a_self), (.str a_post)] ∧ q = ((eS .own r), none))
def M_Tree_head (ds : List D) (q : D × Option D) : Prop :=
  (∃ a_self r, F_Tree_head a_self = some r ∧ ds = [(e_Tree .bor a_self)] ∧ q = ((eS .own r), none))
def M_Tree_posts (ds : List D) (q : D × Option D) : Prop :=
  (∃ a_self r, F_Tree_posts a_self = some r ∧ ds = [(e_Tree .bor a_self)] ∧ q = (((eL eS) .own r), none))
def M_Tree_above (ds : List D) (q : D × Option D) : Prop :=
  (∃ a_self a_post r, F_Tree_above a_self a_post = some r ∧ ds = [(e_Tree .bor a_self), (.str a_post)] ∧ q = (((eO eS) .own r), none))
def M_Tree_below (ds : List D) (q : D × Option D) : Prop :=
  (∃ a_self a_post r, F_Tree_below a_self a_post = some r ∧ ds = [(e_Tree .bor a_self), (.str a_post)] ∧ q = (((eL eS) .own r), none))
def M_Tree_branch (ds : List D) (q : D × Option D) : Prop :=
  (∃ a_self a_post r, F_Tree_branch a_self a_post = some r ∧ ds = [(e_Tree .bor a_self), (.str a_post)] ∧ q = (((eL eS) .own r), none))
def M_Tree_size (ds : List D) (q : D × Option D) : Prop :=
  (∃ a_self a_post r, F_Tree_size a_self a_post = some r ∧ ds = [(e_Tree .bor a_self), (.str a_post)] ∧ q = ((eI .own r), none))
def M_Tree__eq (ds : List D) (q : D × Option D) : Prop :=
  (∃ a_self a_other r, F_Tree__eq a_self a_other = some r ∧ ds = [(e_Tree .bor a_self), (e_Tree .bor a_other)] ∧ q = ((eB .own r), none)) ∨
  (∃ (o : I_Tree) (x : D), x.bi = true ∧ ds = [(e_Tree .bor o), x] ∧ q = (.bl false, none))
def M_law_above (ds : List D) (q : D × Option D) : Prop :=
  (∃ a_source a_many r, F_law_above a_source a_many = some r ∧ ds = [((eL eI) .own a_source), (.int a_many)] ∧ q = (((eK (eO eS)) .own r.1), some ((eL eI) .own r.2)))
def M_law_head (ds : List D) (q : D × Option D) : Prop :=
  (∃ a_above r, F_law_head a_above = some r ∧ ds = [((eK (eO eS)) .bor a_above)] ∧ q = ((eS .own r), none))
def M_law_line (ds : List D) (q : D × Option D) : Prop :=
  (∃ a_above a_post r, F_law_line a_above a_post = some r ∧ ds = [((eK (eO eS)) .bor a_above), (.str a_post)] ∧ q = (((eL eS) .own r), none))
def M_law_under (ds : List D) (q : D × Option D) : Prop :=
  (∃ a_above a_post r, F_law_under a_above a_post = some r ∧ ds = [((eK (eO eS)) .bor a_above), (.str a_post)] ∧ q = (((eL eS) .own r), none))
def M_law_branches (ds : List D) (q : D × Option D) : Prop :=
  (∃ a_above r, F_law_branches a_above = some r ∧ ds = [((eK (eO eS)) .bor a_above)] ∧ q = (((eK (eL eS)) .own r), none))
def M_law_others (ds : List D) (q : D × Option D) : Prop :=
  (∃ a_source a_above r, F_law_others a_source a_above = some r ∧ ds = [((eL eI) .own a_source), ((eK (eO eS)) .bor a_above)] ∧ q = (((eL (eF (eK (eO eS)))) .own r.1), some ((eL eI) .own r.2)))
def M_law_right (ds : List D) (q : D × Option D) : Prop :=
  (∃ a_source a_above r, F_law_right a_source a_above = some r ∧ ds = [((eL eI) .own a_source), ((eK (eO eS)) .bor a_above)] ∧ q = ((eB .own r.1), some ((eL eI) .own r.2)))
def M_law (ds : List D) (q : D × Option D) : Prop :=
  (∃ a_script r, F_law a_script = some r ∧ ds = [(.scr a_script)] ∧ q = ((eB .own r), none))
def M (g : Nat) (ds : List D) (q : D × Option D) : Prop := match g with
  | 0 => M_law_cell_at ds q
  | 1 => M_law_mixed ds q
  | 2 => M_law_source ds q
  | 3 => M_law_next ds q
  | 4 => M_law_name ds q
  | 5 => M_law_names ds q
  | 6 => M_is_name ds q
  | 7 => M_is_tree_form ds q
  | 8 => M_Tree_downward ds q
  | 9 => M_Tree__init ds q
  | 10 => M_Tree_checked ds q
  | 11 => M_Tree_head ds q
  | 12 => M_Tree_posts ds q
  | 13 => M_Tree_above ds q
  | 14 => M_Tree_below ds q
  | 15 => M_Tree_branch ds q
  | 16 => M_Tree_size ds q
  | 17 => M_Tree__eq ds q
  | 18 => M_law_above ds q
  | 19 => M_law_head ds q
  | 20 => M_law_line ds q
  | 21 => M_law_under ds q
  | 22 => M_law_branches ds q
  | 23 => M_law_others ds q
  | 24 => M_law_right ds q
  | 25 => M_law ds q
  | _ => False
noncomputable def Γ : Fns := mkG M
def b_law_cell_at : List PS := [(.ife (.op .lt [(.var 1), (.op .lenC [(.var 0)])]) [(.ret (.op .ixC [(.var 0), (.var 1)]))] []), (.ret (.cst (.int 0)))]
def b_law_mixed : List PS := [(.asg 2 (.op .add [(.op .mod [(.var 0), (.cst (.int 2147483629))]), (.op .mul [(.op .fdiv [(.var 0), (.cst (.int 2147483629))]), (.cst (.int 30011))])])), (.asg 2 (.op .mod [(.op .mul [(.op .add [(.op .add [(.var 2), (.op .mul [(.cst (.int 69621)), (.var 1)])]), (.cst (.int 1))]), (.cst (.int 48271))]), (.cst (.int 2147483629))])), (.asg 2 (.op .mod [(.op .mul [(.var 2), (.op .add [(.op .add [(.op .fdiv [(.var 2), (.cst (.int 907))]), (.cst (.int 16831))]), (.var 1)])]), (.cst (.int 2147483587))])), (.ret (.op .mod [(.op .mul [(.var 2), (.op .add [(.op .fdiv [(.var 2), (.cst (.int 1201))]), (.cst (.int 30011))])]), (.cst (.int 2147483563))]))]
def b_law_source : List PS := [(.ife (.op .lt [(.var 1), (.op .lenC [(.var 0)])]) [(.ret (.lst [(.op .ixC [(.var 0), (.var 1)]), (.op .ixC [(.var 0), (.var 1)]), (.cst (.int 0))]))] []), (.asg 2 (.call 1 [(.call 0 [(.var 0), (.cst (.int 0))]), (.op .add [(.cst (.int 1000)), (.var 1)])])), (.ret (.lst [(.var 2), (.var 2), (.cst (.int 0))]))]
def b_law_next : List PS := [(.ife (.op .ge [(.op .ixL [(.var 0), (.cst (.int 0))]), (.op .pow [(.cst (.int 10)), (.cst (.int 18))])]) [(.asg 2 (.op .mod [(.op .ixL [(.var 0), (.cst (.int 0))]), (.var 1)])), (.setL (.slot 0) (.cst (.int 0)) (.op .fdiv [(.op .ixL [(.var 0), (.cst (.int 0))]), (.var 1)])), (.ret (.var 2))] []), (.setL (.slot 0) (.cst (.int 2)) (.op .add [(.op .ixL [(.var 0), (.cst (.int 2))]), (.cst (.int 1))])), (.ret (.op .mod [(.call 1 [(.op .ixL [(.var 0), (.cst (.int 1))]), (.op .ixL [(.var 0), (.cst (.int 2))])]), (.var 1)]))]
def b_law_name : List PS := [(.asg 1 (.cst (.str ""))), (.whl (.op .ge [(.var 0), (.cst (.int 0))]) [(.asg 1 (.op .addS [(.op .ixS [(.cst (.str "abcdefghijklmnopqrstuvwxyz")), (.op .mod [(.var 0), (.cst (.int 26))])]), (.var 1)])), (.asg 0 (.op .sub [(.op .fdiv [(.var 0), (.cst (.int 26))]), (.cst (.int 1))]))]), (.ret (.var 1))]
def b_law_names : List PS := [(.asg 2 (.callio 3 0 [(.cst (.int 4))])), (.asg 3 (.op .ixL [(.lst [(.cst (.int 0)), (.cst (.int 20)), (.cst (.int 700)), (.cst (.int 18000))]), (.var 2)])), (.asg 4 (.op .ixL [(.lst [(.cst (.str "")), (.cst (.str "")), (.cst (.str "")), (.cst (.str "grand"))]), (.var 2)])), (.asg 5 (.op .ixL [(.lst [(.cst (.int 1)), (.cst (.int 3)), (.cst (.int 7)), (.cst (.int 11))]), (.callio 3 0 [(.cst (.int 4))])])), (.ife (.op .eqA [(.op .mod [(.var 1), (.var 5)]), (.cst (.int 0))]) [(.asg 5 (.cst (.int 1)))] []), (.ret (.comp [6] .range1 [(.var 1)] none (.op .addS [(.var 4), (.call 4 [(.op .add [(.var 3), (.op .mod [(.op .mul [(.var 6), (.var 5)]), (.var 1)])])])])))]
def b_is_name : List PS := [(.ife (.or (.not (.op .isStr [(.var 0)])) (.not (.chain .le .le (.cst (.int 1)) (.op .lenS [(.var 0)]) (.cst (.int 8))))) [(.ret (.cst (.bl false)))] []), (.ret (.op .all [(.comp [1] .chars [(.var 0)] none (.op .inS [(.var 1), (.cst (.str "abcdefghijklmnopqrstuvwxyz"))]))]))]
def b_is_tree_form : List PS := [(.ife (.or (.not (.op .isDict [(.var 0)])) (.not (.op .all [(.comp [2] .keys [(.var 0)] none (.call 6 [(.var 2)]))]))) [(.ret (.cst (.bl false)))] []), (.asg 1 (.comp [2] .values [(.var 0)] (some (.op .notN [(.var 2)])) (.var 2))), (.ife (.op .neA [(.op .lenK [(.var 0)]), (.op .add [(.op .lenL [(.var 1)]), (.cst (.int 1))])]) [(.ret (.cst (.bl false)))] []), (.ret (.op .all [(.comp [2] .seq [(.var 1)] none (.and (.call 6 [(.var 2)]) (.op .inK [(.var 2), (.var 0)])))]))]
def b_Tree_downward : List PS := [(.asg 1 (.lst [])), (.asg 2 (.lst [(.fld (.var 0) "top")])), (.whl (.op .neP [(.var 2), (.lst [])]) [(.asg 3 (.pop 2)), (.app (.slot 1) (.var 3)), (.asg 2 (.op .cat [(.var 2), (.op .ixK [(.fld (.var 0) "below_by"), (.var 3)])]))]), (.ret (.mov 1))]
def b_Tree__init : List PS := [(.ife (.not (.call 7 [(.var 1)])) [.never] []), (.setF (.slot 0) "above_by" (.op .cpK [(.var 1)])), (.setF (.slot 0) "below_by" (.dcomp [2] .seq [(.op .srtK [(.var 1)])] none (.var 2) (.lst []))), (.for_ [2] .seq [(.op .srtK [(.var 1)])] [(.ife (.op .notN [(.op .ixK [(.var 1), (.var 2)])]) [(.app (.key (.fld (.slot 0) "below_by") (.op .ixK [(.var 1), (.var 2)])) (.var 2))] [])]), (.setF (.slot 0) "top" (.op .ixL [(.comp [2, 5] .items [(.var 1)] (some (.op .isN [(.var 5)])) (.var 2)), (.cst (.int 0))])), (.setF (.slot 0) "branches" (.dct [])), (.pre 0 ["below_by"] (.for_ [2] .rev [(.meth 0 "downward" 8 (.var 0) [])] [(.asg 3 (.lst [(.var 2)])), (.for_ [4] .seq [(.op .ixK [(.fld (.var 0) "below_by"), (.var 2)])] [(.asg 3 (.op .cat [(.var 3), (.opF .ixK 0 "branches" [(.var 4)])]))]), (.setK (.fld (.slot 0) "branches") (.var 2) (.frzE (.op .srtS [(.var 3)])))])), (.ife (.op .lt [(.op .lenL [(.opF .ixK 0 "branches" [(.fld (.var 0) "top")])]), (.op .lenK [(.var 1)])]) [.never] [])]
def b_Tree_checked : List PS := [(.ife (.or (.not (.call 6 [(.var 1)])) (.op .ninK [(.var 1), (.fld (.var 0) "above_by")])) [.never] []), (.ret (.var 1))]
def b_Tree_head : List PS := [(.ret (.fld (.var 0) "top"))]
def b_Tree_posts : List PS := [(.ret (.op .srtK [(.fld (.var 0) "above_by")]))]
def b_Tree_above : List PS := [(.ret (.op .ixK [(.fld (.var 0) "above_by"), (.meth 0 "checked" 10 (.var 0) [(.var 1)])]))]
def b_Tree_below : List PS := [(.ret (.op .cpL [(.op .ixK [(.fld (.var 0) "below_by"), (.meth 0 "checked" 10 (.var 0) [(.var 1)])])]))]
def b_Tree_branch : List PS := [(.ret (.op .cpL [(.op .ixK [(.fld (.var 0) "branches"), (.meth 0 "checked" 10 (.var 0) [(.var 1)])])]))]
def b_Tree_size : List PS := [(.ret (.op .lenL [(.op .ixK [(.fld (.var 0) "branches"), (.meth 0 "checked" 10 (.var 0) [(.var 1)])])]))]
def b_Tree__eq : List PS := [(.ret (.and (.op (.isCls 0) [(.var 1)]) (.op .eqK [(.fld (.var 0) "above_by"), (.fld (.var 1) "above_by")])))]
def b_law_above : List PS := [(.asg 2 (.callio 5 0 [(.var 1)])), (.asg 3 (.callio 3 0 [(.cst (.int 4))])), (.asg 4 (.dct [(.op .ixL [(.var 2), (.cst (.int 0))]), (.cst .non)])), (.for_ [5] .range2 [(.cst (.int 1)), (.var 1)] [(.asg 8 (.op .ixL [(.lst [(.op .sub [(.var 5), (.cst (.int 1))]), (.cst (.int 0)), (.callio 3 0 [(.var 5)]), (.op .max2 [(.cst (.int 0)), (.op .sub [(.op .sub [(.var 5), (.cst (.int 1))]), (.callio 3 0 [(.cst (.int 3))])])])]), (.var 3)])), (.setK (.slot 4) (.op .ixL [(.var 2), (.var 5)]) (.op .ixL [(.var 2), (.var 8)]))]), (.asg 6 (.op .srtK [(.var 4)])), (.asg 7 (.callio 3 0 [(.var 1)])), (.ret (.op .mkK [(.comp [9] .seq [(.op .cat [(.op (.slL true false) [(.var 6), (.var 7)]), (.op (.slL false true) [(.var 6), (.var 7)])])] none (.tup [(.var 9), (.op .ixK [(.var 4), (.var 9)])]))]))]
def b_law_head : List PS := [(.ret (.op .ixL [(.comp [1] .keys [(.var 0)] (some (.op .isN [(.op .ixK [(.var 0), (.var 1)])])) (.var 1)), (.cst (.int 0))]))]
def b_law_line : List PS := [(.asg 2 (.lst [(.var 1)])), (.whl (.op .notN [(.op .ixK [(.var 0), (.op .ixL [(.var 2), (.op .neg [(.cst (.int 1))])])])]) [(.app (.slot 2) (.op .ixK [(.var 0), (.op .ixL [(.var 2), (.op .neg [(.cst (.int 1))])])]))]), (.ret (.mov 2))]
def b_law_under : List PS := [(.ret (.op .srtS [(.comp [2] .keys [(.var 0)] (some (.op .eqA [(.op .ixK [(.var 0), (.var 2)]), (.var 1)])) (.var 2))]))]
def b_law_branches : List PS := [(.asg 1 (.dcomp [2] .keys [(.var 0)] none (.var 2) (.lst []))), (.for_ [2] .seq [(.op .srtK [(.var 0)])] [(.for_ [3] .seq [(.call 20 [(.var 0), (.var 2)])] [(.app (.key (.slot 1) (.var 3)) (.var 2))])]), (.ret (.mov 1))]
def b_law_others : List PS := [(.asg 2 (.op .srtK [(.var 1)])), (.asg 3 (.op .ixL [(.var 2), (.callio 3 0 [(.op .lenL [(.var 2)])])])), (.asg 4 (.op .cpK [(.var 1)])), (.setK (.slot 4) (.cst (.str "zzzzzzzz")) (.var 3)), (.pre 4 [] (.asg 5 (.lst [(.var 4)]))), (.asg 6 (.call 22 [(.var 1)])), (.pre 6 [] (.asg 7 (.comp [11] .seq [(.var 2)] (some (.and (.op .ninL [(.var 11), (.op .ixK [(.var 6), (.var 3)])]) (.op .neA [(.var 11), (.op .ixK [(.var 1), (.var 3)])]))) (.var 11)))), (.ife (.and (.op .neP [(.var 7), (.lst [])]) (.op .notN [(.op .ixK [(.var 1), (.var 3)])])) [(.asg 8 (.op .cpK [(.var 1)])), (.setK (.slot 8) (.var 3) (.op .ixL [(.var 7), (.callio 3 0 [(.op .lenL [(.var 7)])])])), (.pre 8 [] (.app (.slot 5) (.var 8)))] []), (.ife (.and (.op .eqP [(.op .ixK [(.var 6), (.var 3)]), (.lst [(.var 3)])]) (.op .notN [(.op .ixK [(.var 1), (.var 3)])])) [(.asg 9 (.op .cpK [(.var 1)])), (.expr (.popK 9 (.var 3))), (.asg 10 (.op .cpK [(.var 9)])), (.setK (.slot 10) (.cst (.str "zzzzzzzz")) (.op .ixK [(.var 1), (.var 3)])), (.pre 9 [] (.pre 10 [] (.asg 5 (.op .cat [(.var 5), (.lst [(.var 9), (.var 10)])]))))] []), (.ret (.mov 5))]
def b_law_right : List PS := [(.asg 2 (.op .cpK [(.var 1)])), (.asg 3 (.mk 0 9 [(.var 2)])), (.ife (.op .neK [(.var 2), (.var 1)]) [(.ret (.cst (.bl false)))] []), (.clrK (.slot 2)), (.asg 4 (.call 22 [(.var 1)])), (.pre 4 [] (.for_ [5] .range1 [(.cst (.int 2))] [(.asg 8 (.meth 0 "posts" 12 (.var 3) [])), (.ife (.or (.op .neA [(.meth 0 "head" 11 (.var 3) []), (.call 19 [(.var 1)])]) (.op .neP [(.var 8), (.op .srtK [(.var 1)])])) [(.ret (.cst (.bl false)))] []), (.revL (.slot 8)), (.app (.slot 8) (.cst (.str "zzzzzzzz"))), (.for_ [9] .keys [(.var 1)] [(.par 10 11 (.meth 0 "below" 14 (.var 3) [(.var 9)]) (.meth 0 "branch" 15 (.var 3) [(.var 9)])), (.ife (.or (.op .neA [(.meth 0 "above" 13 (.var 3) [(.var 9)]), (.op .ixK [(.var 1), (.var 9)])]) (.or (.op .neP [(.var 10), (.call 21 [(.var 1), (.var 9)])]) (.op .neP [(.var 11), (.op .ixK [(.var 4), (.var 9)])]))) [(.ret (.cst (.bl false)))] []), (.ife (.or (.op .neA [(.meth 0 "size" 16 (.var 3) [(.var 9)]), (.op .lenL [(.var 11)])]) (.op .isBool [(.meth 0 "size" 16 (.var 3) [(.var 9)])])) [(.ret (.cst (.bl false)))] []), (.app (.slot 10) (.cst (.str "zzzzzzzz"))), (.clrL (.slot 11))])])), (.asg 6 (.mk 0 9 [(.op .mkK [(.op .rev [(.op .itm [(.var 1)])])])])), (.ife (.or (.not (.eqO 0 17 (.var 3) (.var 6))) (.not (.eqO 0 17 (.var 6) (.var 3)))) [(.ret (.cst (.bl false)))] []), (.ife (.op .neP [(.comp [12] .seq [(.lst [(.var 1), (.cst .non), (.frzE (.op .srtK [(.var 1)])), (.cst (.str "a"))])] (some (.eqO 0 17 (.var 3) (.var 12))) (.var 12)), (.lst [])]) [(.ret (.cst (.bl false)))] []), (.for_ [7] .seq [(.callio 23 0 [(.var 1)])] [(.ife (.or (.eqO 0 17 (.mk 0 9 [(.var 7)]) (.var 3)) (.or (.eqO 0 17 (.var 3) (.mk 0 9 [(.var 7)])) (.not (.eqO 0 17 (.mk 0 9 [(.var 7)]) (.mk 0 9 [(.op .cpK [(.var 7)])]))))) [(.ret (.cst (.bl false)))] [])]), (.ret (.cst (.bl true)))]
def b_law : List PS := [(.for_ [1] .range1 [(.op .max2 [(.cst (.int 1)), (.op .min2 [(.cst (.int 6)), (.op .lenC [(.var 0)])])])] [(.asg 2 (.call 2 [(.var 0), (.var 1)])), (.asg 3 (.op .add [(.cst (.int 1)), (.op .ixL [(.lst [(.callio 3 2 [(.cst (.int 12))]), (.callio 3 2 [(.cst (.int 99))])]), (.op .int1 [(.op .eqA [(.callio 3 2 [(.cst (.int 4))]), (.cst (.int 0))])])])])), (.ife (.not (.callio 24 2 [(.callio 18 2 [(.var 3)])])) [(.ret (.cst (.bl false)))] [])]), (.ret (.cst (.bl true)))]
end K01

set_option Elab.async false
set_option linter.all false
set_option maxRecDepth 100000
set_option maxHeartbeats 4000000
namespace K01
open PySem L2 PyProof.Rows Pv
def top (i : Nat) : Stmt := PySem.Challenge.pw_stepposts_k01_trees_told.main.body.getD i (.Pass ⟨0, 0, 0, 0⟩)
abbrev s_law_cell_at : Stmt := top 12
abbrev s_law_mixed : Stmt := top 13
abbrev s_law_source : Stmt := top 14
abbrev s_law_next : Stmt := top 15
abbrev s_law_name : Stmt := top 16
abbrev s_law_names : Stmt := top 17
abbrev s_is_name : Stmt := top 8
abbrev s_is_tree_form : Stmt := top 9
abbrev s_Tree_downward : Stmt := inClass (top 10) 1
abbrev s_Tree__init : Stmt := inClass (top 10) 0
abbrev s_Tree_checked : Stmt := inClass (top 10) 3
abbrev s_Tree_head : Stmt := inClass (top 10) 4
abbrev s_Tree_posts : Stmt := inClass (top 10) 5
abbrev s_Tree_above : Stmt := inClass (top 10) 6
abbrev s_Tree_below : Stmt := inClass (top 10) 7
abbrev s_Tree_branch : Stmt := inClass (top 10) 8
abbrev s_Tree_size : Stmt := inClass (top 10) 9
abbrev s_Tree__eq : Stmt := inClass (top 10) 2
abbrev s_law_above : Stmt := top 18
abbrev s_law_head : Stmt := top 19
abbrev s_law_line : Stmt := top 20
abbrev s_law_under : Stmt := top 21
abbrev s_law_branches : Stmt := top 22
abbrev s_law_others : Stmt := top 23
abbrev s_law_right : Stmt := top 24
abbrev s_law : Stmt := top 25
structure Txt (K : PySem.W.Frag) (mg : Str → Option Value) (CT : Nat → Addr) where
  eq : Addr
  cl : ∀ c, Cls K (CT c)
  n_above_by : ∀ c, NoAttr K (CT c) "above_by"
  n_below_by : ∀ c, NoAttr K (CT c) "below_by"
  n_top : ∀ c, NoAttr K (CT c) "top"
  n_branches : ∀ c, NoAttr K (CT c) "branches"
  SMALL : ∃ u, mg "SMALL" = some u ∧ RelV (.str "abcdefghijklmnopqrstuvwxyz") u
  MOST_LETTERS : ∃ u, mg "MOST_LETTERS" = some u ∧ RelV (.int 8) u
  kc : KCls K (CT 0)
  kq : KEq K (CT 0)
  m_Tree : mg "Tree" = some (.ref (CT 0))
  q_s : PySem.W.findIn K (.ref (CT 0)) "__eq__" = some (some (.ref eq))
  q_f : PySem.W.isFn K (.ref eq) = true
section
variable {P : Program} {w : World} {K : PySem.W.Frag} {mg : Str → Option Value} {base : Heap} {CT : Nat → Addr} {Γ : Fns}

theorem ok_law_cell_at {f : Addr} {fd : FuncData} (F : L2.Fun K "_law_cell_at" "_law_cell_at" s_law_cell_at f fd) (T : Txt K mg CT) (B : Bn mg) (sem : ∀ ds r o, Γ 0 ds = some (r, o) → o.isSome = false ∧ ∃ fuel, runF fuel Γ b_law_cell_at 2 false ds = some (r, o)) :
    FnOk P w K mg base CX0 1 f fd ["script", "k"] (spV K CT (Γ 0) 2) := by
  have hN : (["script", "k"] : List Str).Nodup := by decide +kernel
  refine fn_ok (N := ["script", "k"]) (b := b_law_cell_at) (io := false) F (C8.fnScope_by (by decide +kernel)) rfl (by decide) (fun h => by cases h) (fun fuel cdv A outer s H E hr => ?_) sem
  exact (ss_cons (s_ife (t_cmp op_lt OS_lt (g_var 1) (f_lenC B (a_cons (g_var 0) a_nil))) (ss_one (s_ret (x_C (g_var 0) (g_var 1)))) ss_nil) (ss_one (s_ret g_int)))

theorem ok_law_mixed {f : Addr} {fd : FuncData} (F : L2.Fun K "_law_mixed" "_law_mixed" s_law_mixed f fd) (T : Txt K mg CT) (B : Bn mg) (sem : ∀ ds r o, Γ 1 ds = some (r, o) → o.isSome = false ∧ ∃ fuel, runF fuel Γ b_law_mixed 3 false ds = some (r, o)) :
    FnOk P w K mg base CX0 1 f fd ["cell", "k"] (spV K CT (Γ 1) 2) := by
  have hN : (["cell", "k", "low"] : List Str).Nodup := by decide +kernel
  refine fn_ok (N := ["cell", "k", "low"]) (b := b_law_mixed) (io := false) F (C8.fnScope_by (by decide +kernel)) rfl (by decide) (fun h => by cases h) (fun fuel cdv A outer s H E hr => ?_) sem
  exact (ss_cons (s_set 2 hN (b_add (b_mod (g_var 0) g_int) (b_mul (b_fdiv (g_var 0) g_int) g_int))) (ss_cons (s_set 2 hN (b_mod (b_mul (b_add (b_add (g_var 2) (b_mul g_int (g_var 1))) g_int) g_int) g_int)) (ss_cons (s_set 2 hN (b_mod (b_mul (g_var 2) (b_add (b_add (b_fdiv (g_var 2) g_int) g_int) (g_var 1))) g_int)) (ss_one (s_ret (b_mod (b_mul (g_var 2) (b_add (b_fdiv (g_var 2) g_int) g_int)) g_int))))))

theorem ok_law_source {f : Addr} {fd : FuncData} (F : L2.Fun K "_law_source" "_law_source" s_law_source f fd) (T : Txt K mg CT) (B : Bn mg) (c_law_mixed : C8.Cal P w K mg base 1 "_law_mixed" (spV K CT (Γ 1) 2) []) (c_law_cell_at : C8.Cal P w K mg base 1 "_law_cell_at" (spV K CT (Γ 0) 2) []) (sem : ∀ ds r o, Γ 2 ds = some (r, o) → o.isSome = false ∧ ∃ fuel, runF fuel Γ b_law_source 3 false ds = some (r, o)) :
    FnOk P w K mg base CX0 2 f fd ["script", "k"] (spV K CT (Γ 2) 2) := by
  have hN : (["script", "k", "cell"] : List Str).Nodup := by decide +kernel
  refine fn_ok (N := ["script", "k", "cell"]) (b := b_law_source) (io := false) F (C8.fnScope_by (by decide +kernel)) rfl (by decide) (fun h => by cases h) (fun fuel cdv A outer s H E hr => ?_) sem
  exact (ss_cons (s_ife (t_cmp op_lt OS_lt (g_var 1) (f_lenC B (a_cons (g_var 0) a_nil))) (ss_one (s_ret (g_lst (a_cons (x_C (g_var 0) (g_var 1)) (a_cons (x_C (g_var 0) (g_var 1)) (a_cons g_int a_nil)))))) ss_nil) (ss_cons (s_set 2 hN (g_call c_law_mixed hr (a_cons (g_call c_law_cell_at hr (a_cons (g_var 0) (a_cons g_int a_nil))) (a_cons (b_add g_int (g_var 1)) a_nil)))) (ss_one (s_ret (g_lst (a_cons (g_var 2) (a_cons (g_var 2) (a_cons g_int a_nil))))))))

theorem ok_law_next {f : Addr} {fd : FuncData} (F : L2.Fun K "_law_next" "_law_next" s_law_next f fd) (T : Txt K mg CT) (B : Bn mg) (c_law_mixed : C8.Cal P w K mg base 1 "_law_mixed" (spV K CT (Γ 1) 2) []) (sem : ∀ ds r o, Γ 3 ds = some (r, o) → o.isSome = true ∧ ∃ fuel, runF fuel Γ b_law_next 3 true ds = some (r, o)) :
    FnOk P w K mg base CX0 2 f fd ["source", "many"] (spV K CT (Γ 3) 2) := by
  have hN : (["source", "many", "found"] : List Str).Nodup := by decide +kernel
  refine fn_ok (N := ["source", "many", "found"]) (b := b_law_next) (io := true) F (C8.fnScope_by (by decide +kernel)) rfl (by decide) (fun _ => by decide) (fun fuel cdv A outer s H E hr => ?_) sem
  exact (ss_cons (s_ife (t_cmp op_ge OS_ge (x_L (g_var 0) g_int) (b_pow g_int g_int)) (ss_cons (s_set 2 hN (b_mod (x_L (g_var 0) g_int) (g_var 1))) (ss_cons (s_setL (p_slot 0 (v_var 0)) g_int (b_fdiv (x_L (g_var 0) g_int) (g_var 1))) (ss_one (s_ret (g_var 2))))) ss_nil) (ss_cons (s_setL (p_slot 0 (v_var 0)) g_int (b_add (x_L (g_var 0) g_int) g_int)) (ss_one (s_ret (b_mod (g_call c_law_mixed hr (a_cons (x_L (g_var 0) g_int) (a_cons (x_L (g_var 0) g_int) a_nil))) (g_var 1))))))

theorem ok_law_name {f : Addr} {fd : FuncData} (F : L2.Fun K "_law_name" "_law_name" s_law_name f fd) (T : Txt K mg CT) (B : Bn mg) (sem : ∀ ds r o, Γ 4 ds = some (r, o) → o.isSome = false ∧ ∃ fuel, runF fuel Γ b_law_name 2 false ds = some (r, o)) :
    FnOk P w K mg base CX0 1 f fd ["number"] (spV K CT (Γ 4) 1) := by
  have hN : (["number", "found"] : List Str).Nodup := by decide +kernel
  refine fn_ok (N := ["number", "found"]) (b := b_law_name) (io := false) F (C8.fnScope_by (by decide +kernel)) rfl (by decide) (fun h => by cases h) (fun fuel cdv A outer s H E hr => ?_) sem
  exact (ss_cons (s_set 1 hN g_str) (ss_cons (s_while (t_cmp op_ge OS_ge (g_var 0) g_int) (ss_cons (s_set 1 hN (b_addS (x_S g_str (b_mod (g_var 0) g_int)) (g_var 1))) (ss_one (s_set 0 hN (b_sub (b_fdiv (g_var 0) g_int) g_int))))) (ss_one (s_ret (g_var 1)))))

theorem ok_law_names {f : Addr} {fd : FuncData} (F : L2.Fun K "_law_names" "_law_names" s_law_names f fd) (T : Txt K mg CT) (B : Bn mg) (c_law_next : C8.Cal P w K mg base 2 "_law_next" (spV K CT (Γ 3) 2) []) (c_law_name : C8.Cal P w K mg base 1 "_law_name" (spV K CT (Γ 4) 1) []) (sem : ∀ ds r o, Γ 5 ds = some (r, o) → o.isSome = true ∧ ∃ fuel, runF fuel Γ b_law_names 7 true ds = some (r, o)) :
    FnOk P w K mg base CX0 3 f fd ["source", "many"] (spV K CT (Γ 5) 2) := by
  have hN : (["source", "many", "sort", "first", "stem", "step", "at"] : List Str).Nodup := by decide +kernel
  refine fn_ok (N := ["source", "many", "sort", "first", "stem", "step", "at"]) (b := b_law_names) (io := true) F (C8.fnScope_by (by decide +kernel)) rfl (by decide) (fun _ => by decide) (fun fuel cdv A outer s H E hr => ?_) sem
  exact (ss_cons (s_set 2 hN (g_callio c_law_next hr (v_var 0) (a_cons g_int a_nil))) (ss_cons (s_set 3 hN (x_L (g_lst (a_cons g_int (a_cons g_int (a_cons g_int (a_cons g_int a_nil))))) (g_var 2))) (ss_cons (s_set 4 hN (x_L (g_lst (a_cons g_str (a_cons g_str (a_cons g_str (a_cons g_str a_nil))))) (g_var 2))) (ss_cons (s_set 5 hN (x_L (g_lst (a_cons g_int (a_cons g_int (a_cons g_int (a_cons g_int a_nil))))) (g_callio c_law_next hr (v_var 0) (a_cons g_int a_nil)))) (ss_cons (s_ife (t_cmp op_eq OS_eqA (b_mod (g_var 1) (g_var 5)) g_int) (ss_one (s_set 5 hN g_int)) ss_nil) (ss_one (s_ret (g_comp WI_range1 hN (pi_range1 rfl B.range (a_cons (g_var 1) a_nil)) (blkOk_by (N := ["source", "many", "sort", "first", "stem", "step", "at"]) (sc := defScope s_law_names) (own := [("at", 6)]) (by decide +kernel)) (fun _ _ _ _ _ => (pg_name (i := 6) hN rfl (by first | exact Or.inl rfl | exact Or.inr rfl))) (fun _ _ _ _ _ => pt_none) (fun _ _ _ _ _ => (b_addS (g_var 4) (g_call c_law_name hr (a_cons (b_add (g_var 3) (b_mod (b_mul (g_var 6) (g_var 5)) (g_var 1))) a_nil))))))))))))

theorem ok_is_name {f : Addr} {fd : FuncData} (F : L2.Fun K "is_name" "is_name" s_is_name f fd) (T : Txt K mg CT) (B : Bn mg) (sem : ∀ ds r o, Γ 6 ds = some (r, o) → o.isSome = false ∧ ∃ fuel, runF fuel Γ b_is_name 2 false ds = some (r, o)) :
    FnOk P w K mg base CX0 1 f fd ["thing"] (spV K CT (Γ 6) 1) := by
  have hN : (["thing", "letter"] : List Str).Nodup := by decide +kernel
  refine fn_ok (N := ["thing", "letter"]) (b := b_is_name) (io := false) F (C8.fnScope_by (by decide +kernel)) rfl (by decide) (fun h => by cases h) (fun fuel cdv A outer s H E hr => ?_) sem
  exact (ss_cons (s_ife (t_w (w_or (t_not (t_val (g_is OS_isStr B.isinstance B.str (g_var 0)))) (w_or1 (t_not (t_chain op_le op_le OS_le OS_le g_int (f_lenS B (a_cons (g_var 0) a_nil)) (g_glob T.MOST_LETTERS)))))) (ss_one (s_ret g_bl)) ss_nil) (ss_one (s_ret (f_all B (a_cons (g_comp WI_chars hN (pi_str (g_var 0)) (blkOk_by (N := ["thing", "letter"]) (sc := defScope s_is_name) (own := [("letter", 1)]) (by decide +kernel)) (fun _ _ _ _ _ => (pg_name (i := 1) hN rfl (by first | exact Or.inl rfl | exact Or.inr rfl))) (fun _ _ _ _ _ => pt_none) (fun _ _ _ _ _ => (g_cmp op_in_sign OS_inS (g_var 1) (g_glob T.SMALL)))) a_nil)))))

theorem ok_is_tree_form {f : Addr} {fd : FuncData} (F : L2.Fun K "is_tree_form" "is_tree_form" s_is_tree_form f fd) (T : Txt K mg CT) (B : Bn mg) (c_is_name : C8.Cal P w K mg base 1 "is_name" (spV K CT (Γ 6) 1) []) (sem : ∀ ds r o, Γ 7 ds = some (r, o) → o.isSome = false ∧ ∃ fuel, runF fuel Γ b_is_tree_form 3 false ds = some (r, o)) :
    FnOk P w K mg base CX0 2 f fd ["thing"] (spV K CT (Γ 7) 1) := by
  have hN : (["thing", "above", "post"] : List Str).Nodup := by decide +kernel
  refine fn_ok (N := ["thing", "above", "post"]) (b := b_is_tree_form) (io := false) F (C8.fnScope_by (by decide +kernel)) rfl (by decide) (fun h => by cases h) (fun fuel cdv A outer s H E hr => ?_) sem
  exact (ss_cons (s_ife (t_w (w_or (t_not (t_val (g_is OS_isDict B.isinstance B.dict (g_var 0)))) (w_or1 (t_not (t_val (f_all B (a_cons (g_compK KW_keys Loc_var (Or.inl rfl) hN (pi_keys (v_var 0)) (blkOk_by (N := ["thing", "above", "post"]) (sc := defScope s_is_tree_form) (own := [("post", 2)]) (by decide +kernel)) (fun _ _ _ _ _ => (pg_name (i := 2) hN rfl (by first | exact Or.inl rfl | exact Or.inr rfl))) (fun _ _ _ _ _ => pt_none) (fun _ _ _ _ _ => (g_call c_is_name hr (a_cons (g_var 2) a_nil)))) a_nil))))))) (ss_one (s_ret g_bl)) ss_nil) (ss_cons (s_setLcK 1 KW_values Loc_var (Or.inr (Or.inr rfl)) hN (pi_values (v_var 0)) (blkOk_by (N := ["thing", "above", "post"]) (sc := defScope s_is_tree_form) (own := [("post", 2)]) (by decide +kernel)) (fun _ _ _ _ _ => (pg_name (i := 2) hN rfl (by first | exact Or.inl rfl | exact Or.inr rfl))) (fun _ _ _ _ _ => pt_some (t_notN (g_var 2))) (fun _ _ _ _ _ => (g_var 2))) (ss_cons (s_ife (t_cmp op_ne OS_neA (f_lenK B (a_cons (g_var 0) a_nil)) (b_add (f_lenL B (a_cons (g_var 1) a_nil)) g_int)) (ss_one (s_ret g_bl)) ss_nil) (ss_one (s_ret (f_all B (a_cons (g_comp WI_seq hN (pi_list (g_var 1)) (blkOk_by (N := ["thing", "above", "post"]) (sc := defScope s_is_tree_form) (own := [("post", 2)]) (by decide +kernel)) (fun _ _ _ _ _ => (pg_name (i := 2) hN rfl (by first | exact Or.inl rfl | exact Or.inr rfl))) (fun _ _ _ _ _ => pt_none) (fun _ _ _ _ _ => (g_and (g_call c_is_name hr (a_cons (g_var 2) a_nil)) (g_one (g_inK (Room.hu hr) (g_var 2) (g_var 0)))))) a_nil)))))))

theorem ok_Tree_downward {f : Addr} {fd : FuncData} (F : L2.Fun K "downward" "Tree.downward" s_Tree_downward f fd) (T : Txt K mg CT) (B : Bn mg) (sem : ∀ ds r o, Γ 8 ds = some (r, o) → o.isSome = false ∧ ∃ fuel, runF fuel Γ b_Tree_downward 4 false ds = some (r, o)) :
    FnOk P w K mg base CX0 1 f fd ["self"] (spV K CT (Γ 8) 1) := by
  have hN : (["self", "found", "left", "post"] : List Str).Nodup := by decide +kernel
  refine fn_ok (N := ["self", "found", "left", "post"]) (b := b_Tree_downward) (io := false) F (C8.fnScope_by (by decide +kernel)) rfl (by decide) (fun h => by cases h) (fun fuel cdv A outer s H E hr => ?_) sem
  exact (ss_cons (s_set 1 hN (g_lst a_nil)) (ss_cons (s_set 2 hN (g_lst (a_cons (g_fld T.cl T.n_top (g_var 0)) a_nil))) (ss_cons (s_while (t_cmp (op_neD (Room.u64 hr)) OS_neP (g_var 2) (g_lst a_nil)) (ss_cons (s_set 3 hN (g_pop (v_var 2))) (ss_cons (s_app (p_slot 1 (v_var 1)) (g_var 3)) (ss_one (s_set 2 hN (b_cat (g_var 2) (g_ixK (Room.hu hr) (g_fld T.cl T.n_below_by (g_var 0)) (g_var 3)))))))) (ss_one (s_ret (g_mov 1))))))

theorem ok_Tree__init {f : Addr} {fd : FuncData} (F : L2.Fun K "__init__" "Tree.__init__" s_Tree__init f fd) (T : Txt K mg CT) (B : Bn mg) (c_is_tree_form : C8.Cal P w K mg base 2 "is_tree_form" (spV K CT (Γ 7) 1) []) (c_Tree_downward : C8.Met P w K mg base 1 (CT 0) "downward" (spV K CT (Γ 8) 1) []) (sem : ∀ ds r o, Γ 9 ds = some (r, o) → o.isSome = true ∧ ∃ fuel, runF fuel Γ b_Tree__init 6 true ds = some (r, o)) :
    FnOk P w K mg base CX0 3 f fd ["self", "above_by"] (spV K CT (Γ 9) 2) := by
  have hN : (["self", "above_by", "post", "found", "other", "above"] : List Str).Nodup := by decide +kernel
  refine fn_ok (N := ["self", "above_by", "post", "found", "other", "above"]) (b := b_Tree__init) (io := true) F (C8.fnScope_by (by decide +kernel)) rfl (by decide) (fun _ => by decide) (fun fuel cdv A outer s H E hr => ?_) sem
  exact (ss_cons (s_ife (t_not (t_val (g_call c_is_tree_form hr (a_cons (g_var 1) a_nil)))) (ss_one s_never) ss_nil) (ss_cons (s_setF T.cl T.n_above_by (p_slot 0 (v_var 0)) (f_cpK B (a_cons (g_var 1) a_nil))) (ss_cons (s_setF T.cl T.n_below_by (p_slot 0 (v_var 0)) (g_dcomp WI_seq hN (pi_list (f_srtK B (a_cons (g_var 1) a_nil))) (blkOk_by (N := ["self", "above_by", "post", "found", "other", "above"]) (sc := defScope s_Tree__init) (own := [("post", 2)]) (by decide +kernel)) (fun _ _ _ _ _ => (pg_name (i := 2) hN rfl (by first | exact Or.inl rfl | exact Or.inr rfl))) (fun _ _ _ _ _ => pt_none) (fun _ _ _ _ _ => (g_var 2)) (fun _ _ _ _ _ => (g_lst a_nil)))) (ss_cons (s_for WI_seq (pi_list (f_srtK B (a_cons (g_var 1) a_nil))) (pg_name (i := 2) hN rfl (by first | exact Or.inl rfl | exact Or.inr rfl)) (ss_one (s_ife (t_notN (g_ixK (Room.hu hr) (g_var 1) (g_var 2))) (ss_one (s_app (p_key (Room.hu hr) (p_fld T.cl T.n_below_by (p_slot 0 (v_var 0))) (g_ixK (Room.hu hr) (g_var 1) (g_var 2))) (g_var 2))) ss_nil))) (ss_cons (s_setF T.cl T.n_top (p_slot 0 (v_var 0)) (x_L (g_compK KW_items Loc_var (Or.inr (Or.inl rfl)) hN (pi_items (v_var 1)) (blkOk_by (N := ["self", "above_by", "post", "found", "other", "above"]) (sc := defScope s_Tree__init) (own := [("post", 2), ("above", 5)]) (by decide +kernel)) (fun _ _ _ _ _ => (pg_tup rfl (pgs_cons (pg_name (i := 2) hN rfl (by first | exact Or.inl rfl | exact Or.inr rfl)) (pgs_cons (pg_name (i := 5) hN rfl (by first | exact Or.inl rfl | exact Or.inr rfl)) pgs_nil)))) (fun _ _ _ _ _ => pt_some (t_isN (g_var 5))) (fun _ _ _ _ _ => (g_var 2))) g_int)) (ss_cons (s_setF T.cl T.n_branches (p_slot 0 (v_var 0)) g_dct0) (ss_cons (s_pre (s_for WI_rev (pi_reversed rfl B.reversed (a_cons (g_meth0 c_Tree_downward hr (g_var 0)) a_nil)) (pg_name (i := 2) hN rfl (by first | exact Or.inl rfl | exact Or.inr rfl)) (ss_cons (s_set 3 hN (g_lst (a_cons (g_var 2) a_nil))) (ss_cons (s_for WI_seq (pi_list (g_ixK (Room.hu hr) (g_fld T.cl T.n_below_by (g_var 0)) (g_var 2))) (pg_name (i := 4) hN rfl (by first | exact Or.inl rfl | exact Or.inr rfl)) (ss_one (s_set 3 hN (b_cat (g_var 3) (g_ixKF (Room.hu hr) T.cl T.n_branches (f_fld (v_var 0)) (g_var 4)))))) (ss_one (s_setK (Room.hu hr) (p_fld T.cl T.n_branches (p_slot 0 (v_var 0))) (g_var 2) (g_frz (f_srtS B (a_cons (g_var 3) a_nil))))))))) (ss_one (s_ife (t_cmp op_lt OS_lt (f_lenL B (a_cons (g_ixKF (Room.hu hr) T.cl T.n_branches (f_fld (v_var 0)) (g_fld T.cl T.n_top (g_var 0))) a_nil)) (f_lenK B (a_cons (g_var 1) a_nil))) (ss_one s_never) ss_nil)))))))))

theorem ok_Tree_checked {f : Addr} {fd : FuncData} (F : L2.Fun K "checked" "Tree.checked" s_Tree_checked f fd) (T : Txt K mg CT) (B : Bn mg) (c_is_name : C8.Cal P w K mg base 1 "is_name" (spV K CT (Γ 6) 1) []) (sem : ∀ ds r o, Γ 10 ds = some (r, o) → o.isSome = false ∧ ∃ fuel, runF fuel Γ b_Tree_checked 2 false ds = some (r, o)) :
    FnOk P w K mg base CX0 2 f fd ["self", "post"] (spV K CT (Γ 10) 2) := by
  have hN : (["self", "post"] : List Str).Nodup := by decide +kernel
  refine fn_ok (N := ["self", "post"]) (b := b_Tree_checked) (io := false) F (C8.fnScope_by (by decide +kernel)) rfl (by decide) (fun h => by cases h) (fun fuel cdv A outer s H E hr => ?_) sem
  exact (ss_cons (s_ife (t_w (w_or (t_not (t_val (g_call c_is_name hr (a_cons (g_var 1) a_nil)))) (w_or1 (t_ninK (Room.hu hr) (g_var 1) (g_fld T.cl T.n_above_by (g_var 0)))))) (ss_one s_never) ss_nil) (ss_one (s_ret (g_var 1))))

theorem ok_Tree_head {f : Addr} {fd : FuncData} (F : L2.Fun K "head" "Tree.head" s_Tree_head f fd) (T : Txt K mg CT) (B : Bn mg) (sem : ∀ ds r o, Γ 11 ds = some (r, o) → o.isSome = false ∧ ∃ fuel, runF fuel Γ b_Tree_head 1 false ds = some (r, o)) :
    FnOk P w K mg base CX0 1 f fd ["self"] (spV K CT (Γ 11) 1) := by
  have hN : (["self"] : List Str).Nodup := by decide +kernel
  refine fn_ok (N := ["self"]) (b := b_Tree_head) (io := false) F (C8.fnScope_by (by decide +kernel)) rfl (by decide) (fun h => by cases h) (fun fuel cdv A outer s H E hr => ?_) sem
  exact (ss_one (s_ret (g_fld T.cl T.n_top (g_var 0))))

theorem ok_Tree_posts {f : Addr} {fd : FuncData} (F : L2.Fun K "posts" "Tree.posts" s_Tree_posts f fd) (T : Txt K mg CT) (B : Bn mg) (sem : ∀ ds r o, Γ 12 ds = some (r, o) → o.isSome = false ∧ ∃ fuel, runF fuel Γ b_Tree_posts 1 false ds = some (r, o)) :
    FnOk P w K mg base CX0 1 f fd ["self"] (spV K CT (Γ 12) 1) := by
  have hN : (["self"] : List Str).Nodup := by decide +kernel
  refine fn_ok (N := ["self"]) (b := b_Tree_posts) (io := false) F (C8.fnScope_by (by decide +kernel)) rfl (by decide) (fun h => by cases h) (fun fuel cdv A outer s H E hr => ?_) sem
  exact (ss_one (s_ret (f_srtK B (a_cons (g_fld T.cl T.n_above_by (g_var 0)) a_nil))))

theorem ok_Tree_above {f : Addr} {fd : FuncData} (F : L2.Fun K "above" "Tree.above" s_Tree_above f fd) (T : Txt K mg CT) (B : Bn mg) (c_Tree_checked : C8.Met P w K mg base 2 (CT 0) "checked" (spV K CT (Γ 10) 2) []) (sem : ∀ ds r o, Γ 13 ds = some (r, o) → o.isSome = false ∧ ∃ fuel, runF fuel Γ b_Tree_above 2 false ds = some (r, o)) :
    FnOk P w K mg base CX0 3 f fd ["self", "post"] (spV K CT (Γ 13) 2) := by
  have hN : (["self", "post"] : List Str).Nodup := by decide +kernel
  refine fn_ok (N := ["self", "post"]) (b := b_Tree_above) (io := false) F (C8.fnScope_by (by decide +kernel)) rfl (by decide) (fun h => by cases h) (fun fuel cdv A outer s H E hr => ?_) sem
  exact (ss_one (s_ret (g_ixK (Room.hu hr) (g_fld T.cl T.n_above_by (g_var 0)) (g_meth c_Tree_checked hr (g_var 0) (a_cons (g_var 1) a_nil)))))

theorem ok_Tree_below {f : Addr} {fd : FuncData} (F : L2.Fun K "below" "Tree.below" s_Tree_below f fd) (T : Txt K mg CT) (B : Bn mg) (c_Tree_checked : C8.Met P w K mg base 2 (CT 0) "checked" (spV K CT (Γ 10) 2) []) (sem : ∀ ds r o, Γ 14 ds = some (r, o) → o.isSome = false ∧ ∃ fuel, runF fuel Γ b_Tree_below 2 false ds = some (r, o)) :
    FnOk P w K mg base CX0 3 f fd ["self", "post"] (spV K CT (Γ 14) 2) := by
  have hN : (["self", "post"] : List Str).Nodup := by decide +kernel
  refine fn_ok (N := ["self", "post"]) (b := b_Tree_below) (io := false) F (C8.fnScope_by (by decide +kernel)) rfl (by decide) (fun h => by cases h) (fun fuel cdv A outer s H E hr => ?_) sem
  exact (ss_one (s_ret (f_cpL B (a_cons (g_ixK (Room.hu hr) (g_fld T.cl T.n_below_by (g_var 0)) (g_meth c_Tree_checked hr (g_var 0) (a_cons (g_var 1) a_nil))) a_nil))))

theorem ok_Tree_branch {f : Addr} {fd : FuncData} (F : L2.Fun K "branch" "Tree.branch" s_Tree_branch f fd) (T : Txt K mg CT) (B : Bn mg) (c_Tree_checked : C8.Met P w K mg base 2 (CT 0) "checked" (spV K CT (Γ 10) 2) []) (sem : ∀ ds r o, Γ 15 ds = some (r, o) → o.isSome = false ∧ ∃ fuel, runF fuel Γ b_Tree_branch 2 false ds = some (r, o)) :
    FnOk P w K mg base CX0 3 f fd ["self", "post"] (spV K CT (Γ 15) 2) := by
  have hN : (["self", "post"] : List Str).Nodup := by decide +kernel
  refine fn_ok (N := ["self", "post"]) (b := b_Tree_branch) (io := false) F (C8.fnScope_by (by decide +kernel)) rfl (by decide) (fun h => by cases h) (fun fuel cdv A outer s H E hr => ?_) sem
  exact (ss_one (s_ret (f_cpL B (a_cons (g_ixK (Room.hu hr) (g_fld T.cl T.n_branches (g_var 0)) (g_meth c_Tree_checked hr (g_var 0) (a_cons (g_var 1) a_nil))) a_nil))))

theorem ok_Tree_size {f : Addr} {fd : FuncData} (F : L2.Fun K "size" "Tree.size" s_Tree_size f fd) (T : Txt K mg CT) (B : Bn mg) (c_Tree_checked : C8.Met P w K mg base 2 (CT 0) "checked" (spV K CT (Γ 10) 2) []) (sem : ∀ ds r o, Γ 16 ds = some (r, o) → o.isSome = false ∧ ∃ fuel, runF fuel Γ b_Tree_size 2 false ds = some (r, o)) :
    FnOk P w K mg base CX0 3 f fd ["self", "post"] (spV K CT (Γ 16) 2) := by
  have hN : (["self", "post"] : List Str).Nodup := by decide +kernel
  refine fn_ok (N := ["self", "post"]) (b := b_Tree_size) (io := false) F (C8.fnScope_by (by decide +kernel)) rfl (by decide) (fun h => by cases h) (fun fuel cdv A outer s H E hr => ?_) sem
  exact (ss_one (s_ret (f_lenL B (a_cons (g_ixK (Room.hu hr) (g_fld T.cl T.n_branches (g_var 0)) (g_meth c_Tree_checked hr (g_var 0) (a_cons (g_var 1) a_nil))) a_nil))))

theorem ok_Tree__eq {f : Addr} {fd : FuncData} (F : L2.Fun K "__eq__" "Tree.__eq__" s_Tree__eq f fd) (T : Txt K mg CT) (B : Bn mg) (sem : ∀ ds r o, Γ 17 ds = some (r, o) → o.isSome = false ∧ ∃ fuel, runF fuel Γ b_Tree__eq 2 false ds = some (r, o)) :
    FnOk P w K mg base CX0 1 f fd ["self", "other"] (spV K CT (Γ 17) 2) := by
  have hN : (["self", "other"] : List Str).Nodup := by decide +kernel
  refine fn_ok (N := ["self", "other"]) (b := b_Tree__eq) (io := false) F (C8.fnScope_by (by decide +kernel)) rfl (by decide) (fun h => by cases h) (fun fuel cdv A outer s H E hr => ?_) sem
  exact (ss_one (s_ret (g_and (g_isC (k := 0) T.kc B.isinstance T.m_Tree (g_var 1)) (g_one (g_cmp (op_eqK (Room.u0 hr) (Room.i64 hr)) OS_eqK (g_fld T.cl T.n_above_by (g_var 0)) (g_fld T.cl T.n_above_by (g_var 1)))))))

theorem ok_law_above {f : Addr} {fd : FuncData} (F : L2.Fun K "_law_above" "_law_above" s_law_above f fd) (T : Txt K mg CT) (B : Bn mg) (c_law_names : C8.Cal P w K mg base 3 "_law_names" (spV K CT (Γ 5) 2) []) (c_law_next : C8.Cal P w K mg base 2 "_law_next" (spV K CT (Γ 3) 2) []) (sem : ∀ ds r o, Γ 18 ds = some (r, o) → o.isSome = true ∧ ∃ fuel, runF fuel Γ b_law_above 10 true ds = some (r, o)) :
    FnOk P w K mg base CX0 4 f fd ["source", "many"] (spV K CT (Γ 18) 2) := by
  have hN : (["source", "many", "names", "shape", "found", "at", "order", "turn", "upper", "post"] : List Str).Nodup := by decide +kernel
  refine fn_ok (N := ["source", "many", "names", "shape", "found", "at", "order", "turn", "upper", "post"]) (b := b_law_above) (io := true) F (C8.fnScope_by (by decide +kernel)) rfl (by decide) (fun _ => by decide) (fun fuel cdv A outer s H E hr => ?_) sem
  exact (ss_cons (s_set 2 hN (g_callio c_law_names hr (v_var 0) (a_cons (g_var 1) a_nil))) (ss_cons (s_set 3 hN (g_callio c_law_next hr (v_var 0) (a_cons g_int a_nil))) (ss_cons (s_set 4 hN (g_dct (d_cons (x_L (g_var 2) g_int) g_non d_nil))) (ss_cons (s_for WI_range2 (pi_range2 rfl B.range (a_cons g_int (a_cons (g_var 1) a_nil))) (pg_name (i := 5) hN rfl (by first | exact Or.inl rfl | exact Or.inr rfl)) (ss_cons (s_set 8 hN (x_L (g_lst (a_cons (b_sub (g_var 5) g_int) (a_cons g_int (a_cons (g_callio c_law_next hr (v_var 0) (a_cons (g_var 5) a_nil)) (a_cons (f_max2 B (a_cons g_int (a_cons (b_sub (b_sub (g_var 5) g_int) (g_callio c_law_next hr (v_var 0) (a_cons g_int a_nil))) a_nil))) a_nil))))) (g_var 3))) (ss_one (s_setK (Room.hu hr) (p_slot 4 (v_var 4)) (x_L (g_var 2) (g_var 5)) (x_L (g_var 2) (g_var 8)))))) (ss_cons (s_set 6 hN (f_srtK B (a_cons (g_var 4) a_nil))) (ss_cons (s_set 7 hN (g_callio c_law_next hr (v_var 0) (a_cons (g_var 1) a_nil))) (ss_one (s_ret (f_mkK B (a_cons (g_comp WI_seq hN (pi_list (b_cat (g_sl10 (g_var 6) (g_var 7)) (g_sl01 (g_var 6) (g_var 7)))) (blkOk_by (N := ["source", "many", "names", "shape", "found", "at", "order", "turn", "upper", "post"]) (sc := defScope s_law_above) (own := [("post", 9)]) (by decide +kernel)) (fun _ _ _ _ _ => (pg_name (i := 9) hN rfl (by first | exact Or.inl rfl | exact Or.inr rfl))) (fun _ _ _ _ _ => pt_none) (fun _ _ _ _ _ => (g_tup (a_cons (g_var 9) (a_cons (g_ixK (Room.hu hr) (g_var 4) (g_var 9)) a_nil))))) a_nil))))))))))

theorem ok_law_head {f : Addr} {fd : FuncData} (F : L2.Fun K "_law_head" "_law_head" s_law_head f fd) (T : Txt K mg CT) (B : Bn mg) (sem : ∀ ds r o, Γ 19 ds = some (r, o) → o.isSome = false ∧ ∃ fuel, runF fuel Γ b_law_head 2 false ds = some (r, o)) :
    FnOk P w K mg base CX0 1 f fd ["above"] (spV K CT (Γ 19) 1) := by
  have hN : (["above", "post"] : List Str).Nodup := by decide +kernel
  refine fn_ok (N := ["above", "post"]) (b := b_law_head) (io := false) F (C8.fnScope_by (by decide +kernel)) rfl (by decide) (fun h => by cases h) (fun fuel cdv A outer s H E hr => ?_) sem
  exact (ss_one (s_ret (x_L (g_compK KW_keys Loc_var (Or.inl rfl) hN (pi_keys (v_var 0)) (blkOk_by (N := ["above", "post"]) (sc := defScope s_law_head) (own := [("post", 1)]) (by decide +kernel)) (fun _ _ _ _ _ => (pg_name (i := 1) hN rfl (by first | exact Or.inl rfl | exact Or.inr rfl))) (fun _ _ _ _ _ => pt_some (t_isN (g_ixK (Room.hu hr) (g_var 0) (g_var 1)))) (fun _ _ _ _ _ => (g_var 1))) g_int)))

theorem ok_law_line {f : Addr} {fd : FuncData} (F : L2.Fun K "_law_line" "_law_line" s_law_line f fd) (T : Txt K mg CT) (B : Bn mg) (sem : ∀ ds r o, Γ 20 ds = some (r, o) → o.isSome = false ∧ ∃ fuel, runF fuel Γ b_law_line 3 false ds = some (r, o)) :
    FnOk P w K mg base CX0 1 f fd ["above", "post"] (spV K CT (Γ 20) 2) := by
  have hN : (["above", "post", "found"] : List Str).Nodup := by decide +kernel
  refine fn_ok (N := ["above", "post", "found"]) (b := b_law_line) (io := false) F (C8.fnScope_by (by decide +kernel)) rfl (by decide) (fun h => by cases h) (fun fuel cdv A outer s H E hr => ?_) sem
  exact (ss_cons (s_set 2 hN (g_lst (a_cons (g_var 1) a_nil))) (ss_cons (s_while (t_notN (g_ixK (Room.hu hr) (g_var 0) (x_L (g_var 2) (u_neg g_int)))) (ss_one (s_app (p_slot 2 (v_var 2)) (g_ixK (Room.hu hr) (g_var 0) (x_L (g_var 2) (u_neg g_int)))))) (ss_one (s_ret (g_mov 2)))))

theorem ok_law_under {f : Addr} {fd : FuncData} (F : L2.Fun K "_law_under" "_law_under" s_law_under f fd) (T : Txt K mg CT) (B : Bn mg) (sem : ∀ ds r o, Γ 21 ds = some (r, o) → o.isSome = false ∧ ∃ fuel, runF fuel Γ b_law_under 3 false ds = some (r, o)) :
    FnOk P w K mg base CX0 1 f fd ["above", "post"] (spV K CT (Γ 21) 2) := by
  have hN : (["above", "post", "other"] : List Str).Nodup := by decide +kernel
  refine fn_ok (N := ["above", "post", "other"]) (b := b_law_under) (io := false) F (C8.fnScope_by (by decide +kernel)) rfl (by decide) (fun h => by cases h) (fun fuel cdv A outer s H E hr => ?_) sem
  exact (ss_one (s_ret (f_srtS B (a_cons (g_compK KW_keys Loc_var (Or.inl rfl) hN (pi_keys (v_var 0)) (blkOk_by (N := ["above", "post", "other"]) (sc := defScope s_law_under) (own := [("other", 2)]) (by decide +kernel)) (fun _ _ _ _ _ => (pg_name (i := 2) hN rfl (by first | exact Or.inl rfl | exact Or.inr rfl))) (fun _ _ _ _ _ => pt_some (t_cmp op_eq OS_eqA (g_ixK (Room.hu hr) (g_var 0) (g_var 2)) (g_var 1))) (fun _ _ _ _ _ => (g_var 2))) a_nil))))

theorem ok_law_branches {f : Addr} {fd : FuncData} (F : L2.Fun K "_law_branches" "_law_branches" s_law_branches f fd) (T : Txt K mg CT) (B : Bn mg) (c_law_line : C8.Cal P w K mg base 1 "_law_line" (spV K CT (Γ 20) 2) []) (sem : ∀ ds r o, Γ 22 ds = some (r, o) → o.isSome = false ∧ ∃ fuel, runF fuel Γ b_law_branches 4 false ds = some (r, o)) :
    FnOk P w K mg base CX0 2 f fd ["above"] (spV K CT (Γ 22) 1) := by
  have hN : (["above", "found", "post", "upper"] : List Str).Nodup := by decide +kernel
  refine fn_ok (N := ["above", "found", "post", "upper"]) (b := b_law_branches) (io := false) F (C8.fnScope_by (by decide +kernel)) rfl (by decide) (fun h => by cases h) (fun fuel cdv A outer s H E hr => ?_) sem
  exact (ss_cons (s_set 1 hN (g_pcompK B.dict KW_keys Loc_var (Or.inl rfl) hN (pi_keys (v_var 0)) (blkOk_by (N := ["above", "found", "post", "upper"]) (sc := defScope s_law_branches) (own := [("post", 2)]) (by decide +kernel)) (fun _ _ _ _ _ => (pg_name (i := 2) hN rfl (by first | exact Or.inl rfl | exact Or.inr rfl))) (fun _ _ _ _ _ => pt_none) (fun _ _ _ _ _ => (g_var 2)) (fun _ _ _ _ _ => (g_lst a_nil)))) (ss_cons (s_for WI_seq (pi_list (f_srtK B (a_cons (g_var 0) a_nil))) (pg_name (i := 2) hN rfl (by first | exact Or.inl rfl | exact Or.inr rfl)) (ss_one (s_for WI_seq (pi_list (g_call c_law_line hr (a_cons (g_var 0) (a_cons (g_var 2) a_nil)))) (pg_name (i := 3) hN rfl (by first | exact Or.inl rfl | exact Or.inr rfl)) (ss_one (s_app (p_key (Room.hu hr) (p_slot 1 (v_var 1)) (g_var 3)) (g_var 2)))))) (ss_one (s_ret (g_mov 1)))))

theorem ok_law_others {f : Addr} {fd : FuncData} (F : L2.Fun K "_law_others" "_law_others" s_law_others f fd) (T : Txt K mg CT) (B : Bn mg) (c_law_next : C8.Cal P w K mg base 2 "_law_next" (spV K CT (Γ 3) 2) []) (c_law_branches : C8.Cal P w K mg base 2 "_law_branches" (spV K CT (Γ 22) 1) []) (sem : ∀ ds r o, Γ 23 ds = some (r, o) → o.isSome = true ∧ ∃ fuel, runF fuel Γ b_law_others 12 true ds = some (r, o)) :
    FnOk P w K mg base CX0 3 f fd ["source", "above"] (spV K CT (Γ 23) 2) := by
  have hN : (["source", "above", "posts", "post", "more", "found", "branches", "goals", "moved", "less", "called", "other"] : List Str).Nodup := by decide +kernel
  refine fn_ok (N := ["source", "above", "posts", "post", "more", "found", "branches", "goals", "moved", "less", "called", "other"]) (b := b_law_others) (io := true) F (C8.fnScope_by (by decide +kernel)) rfl (by decide) (fun _ => by decide) (fun fuel cdv A outer s H E hr => ?_) sem
  exact (ss_cons (s_set 2 hN (f_srtK B (a_cons (g_var 1) a_nil))) (ss_cons (s_set 3 hN (x_L (g_var 2) (g_callio c_law_next hr (v_var 0) (a_cons (f_lenL B (a_cons (g_var 2) a_nil)) a_nil)))) (ss_cons (s_set 4 hN (f_cpK B (a_cons (g_var 1) a_nil))) (ss_cons (s_setK (Room.hu hr) (p_slot 4 (v_var 4)) g_str (g_var 3)) (ss_cons (s_pre (s_set 5 hN (g_lst (a_cons (g_var 4) a_nil)))) (ss_cons (s_set 6 hN (g_call c_law_branches hr (a_cons (g_var 1) a_nil))) (ss_cons (s_pre (s_setLc 7 WI_seq hN (pi_list (g_var 2)) (blkOk_by (N := ["source", "above", "posts", "post", "more", "found", "branches", "goals", "moved", "less", "called", "other"]) (sc := defScope s_law_others) (own := [("other", 11)]) (by decide +kernel)) (fun _ _ _ _ _ => (pg_name (i := 11) hN rfl (by first | exact Or.inl rfl | exact Or.inr rfl))) (fun _ _ _ _ _ => pt_some (t_w (w_and (t_cmp op_notIn_seq OS_ninL (g_var 11) (g_ixK (Room.hu hr) (g_var 6) (g_var 3))) (w_and1 (t_cmp op_ne OS_neA (g_var 11) (g_ixK (Room.hu hr) (g_var 1) (g_var 3))))))) (fun _ _ _ _ _ => (g_var 11)))) (ss_cons (s_ife (t_w (w_and (t_cmp (op_neD (Room.u64 hr)) OS_neP (g_var 7) (g_lst a_nil)) (w_and1 (t_notN (g_ixK (Room.hu hr) (g_var 1) (g_var 3)))))) (ss_cons (s_set 8 hN (f_cpK B (a_cons (g_var 1) a_nil))) (ss_cons (s_setK (Room.hu hr) (p_slot 8 (v_var 8)) (g_var 3) (x_L (g_var 7) (g_callio c_law_next hr (v_var 0) (a_cons (f_lenL B (a_cons (g_var 7) a_nil)) a_nil)))) (ss_one (s_pre (s_app (p_slot 5 (v_var 5)) (g_var 8)))))) ss_nil) (ss_cons (s_ife (t_w (w_and (t_cmp (op_eqD (Room.u64 hr)) OS_eqP (g_ixK (Room.hu hr) (g_var 6) (g_var 3)) (g_lst (a_cons (g_var 3) a_nil))) (w_and1 (t_notN (g_ixK (Room.hu hr) (g_var 1) (g_var 3)))))) (ss_cons (s_set 9 hN (f_cpK B (a_cons (g_var 1) a_nil))) (ss_cons (s_expr (g_popK (v_var 9) (g_var 3))) (ss_cons (s_set 10 hN (f_cpK B (a_cons (g_var 9) a_nil))) (ss_cons (s_setK (Room.hu hr) (p_slot 10 (v_var 10)) g_str (g_ixK (Room.hu hr) (g_var 1) (g_var 3))) (ss_one (s_pre (s_pre (s_set 5 hN (b_cat (g_var 5) (g_lst (a_cons (g_var 9) (a_cons (g_var 10) a_nil)))))))))))) ss_nil) (ss_one (s_ret (g_mov 5))))))))))))

theorem ok_law_right {f : Addr} {fd : FuncData} (F : L2.Fun K "_law_right" "_law_right" s_law_right f fd) (T : Txt K mg CT) (B : Bn mg) (c_Tree__init : C8.Mak P w K mg base 3 "Tree" (CT 0) (spV K CT (Γ 9) 2) []) (c_law_branches : C8.Cal P w K mg base 2 "_law_branches" (spV K CT (Γ 22) 1) []) (c_Tree_posts : C8.Met P w K mg base 1 (CT 0) "posts" (spV K CT (Γ 12) 1) []) (c_Tree_head : C8.Met P w K mg base 1 (CT 0) "head" (spV K CT (Γ 11) 1) []) (c_law_head : C8.Cal P w K mg base 1 "_law_head" (spV K CT (Γ 19) 1) []) (c_Tree_below : C8.Met P w K mg base 3 (CT 0) "below" (spV K CT (Γ 14) 2) []) (c_Tree_branch : C8.Met P w K mg base 3 (CT 0) "branch" (spV K CT (Γ 15) 2) []) (c_Tree_above : C8.Met P w K mg base 3 (CT 0) "above" (spV K CT (Γ 13) 2) []) (c_law_under : C8.Cal P w K mg base 1 "_law_under" (spV K CT (Γ 21) 2) []) (c_Tree_size : C8.Met P w K mg base 3 (CT 0) "size" (spV K CT (Γ 16) 2) []) {q_d : FuncData} (q_F : FnOk P w K mg base CX0 1 T.eq q_d ["self", "other"] (spV K CT (Γ 17) 2)) (q_b : Binds K q_d ["self", "other"] []) (c_law_others : C8.Cal P w K mg base 3 "_law_others" (spV K CT (Γ 23) 2) []) (sem : ∀ ds r o, Γ 24 ds = some (r, o) → o.isSome = true ∧ ∃ fuel, runF fuel Γ b_law_right 13 true ds = some (r, o)) :
    FnOk P w K mg base CX0 5 f fd ["source", "above"] (spV K CT (Γ 24) 2) := by
  have hN : (["source", "above", "given", "tree", "branches", "turn", "twin", "other", "told", "post", "below", "branch", "odd"] : List Str).Nodup := by decide +kernel
  refine fn_ok (N := ["source", "above", "given", "tree", "branches", "turn", "twin", "other", "told", "post", "below", "branch", "odd"]) (b := b_law_right) (io := true) F (C8.fnScope_by (by decide +kernel)) rfl (by decide) (fun _ => by decide) (fun fuel cdv A outer s H E hr => ?_) sem
  exact (ss_cons (s_set 2 hN (f_cpK B (a_cons (g_var 1) a_nil))) (ss_cons (s_set 3 hN (g_mk c_Tree__init hr (a_cons (g_var 2) a_nil))) (ss_cons (s_ife (t_cmp (op_neK (Room.u0 hr) (Room.i64 hr)) OS_neK (g_var 2) (g_var 1)) (ss_one (s_ret g_bl)) ss_nil) (ss_cons (s_clrK (p_slot 2 (v_var 2))) (ss_cons (s_set 4 hN (g_call c_law_branches hr (a_cons (g_var 1) a_nil))) (ss_cons (s_pre (s_for WI_range1 (pi_range1 rfl B.range (a_cons g_int a_nil)) (pg_name (i := 5) hN rfl (by first | exact Or.inl rfl | exact Or.inr rfl)) (ss_cons (s_set 8 hN (g_meth0 c_Tree_posts hr (g_var 3))) (ss_cons (s_ife (t_w (w_or (t_cmp op_ne OS_neA (g_meth0 c_Tree_head hr (g_var 3)) (g_call c_law_head hr (a_cons (g_var 1) a_nil))) (w_or1 (t_cmp (op_neD (Room.u64 hr)) OS_neP (g_var 8) (f_srtK B (a_cons (g_var 1) a_nil)))))) (ss_one (s_ret g_bl)) ss_nil) (ss_cons (s_revL (p_slot 8 (v_var 8))) (ss_cons (s_app (p_slot 8 (v_var 8)) g_str) (ss_one (s_forK KW_keys Loc_var (Or.inl rfl) (pi_keys (v_var 1)) (pg_name (i := 9) hN rfl (by first | exact Or.inl rfl | exact Or.inr rfl)) (ss_cons (s_par 10 11 hN (g_meth c_Tree_below hr (g_var 3) (a_cons (g_var 9) a_nil)) (g_meth c_Tree_branch hr (g_var 3) (a_cons (g_var 9) a_nil))) (ss_cons (s_ife (t_w (w_or (t_cmp op_ne OS_neA (g_meth c_Tree_above hr (g_var 3) (a_cons (g_var 9) a_nil)) (g_ixK (Room.hu hr) (g_var 1) (g_var 9))) (w_or (t_cmp (op_neD (Room.u64 hr)) OS_neP (g_var 10) (g_call c_law_under hr (a_cons (g_var 1) (a_cons (g_var 9) a_nil)))) (w_or1 (t_cmp (op_neD (Room.u64 hr)) OS_neP (g_var 11) (g_ixK (Room.hu hr) (g_var 4) (g_var 9))))))) (ss_one (s_ret g_bl)) ss_nil) (ss_cons (s_ife (t_w (w_or (t_cmp op_ne OS_neA (g_meth c_Tree_size hr (g_var 3) (a_cons (g_var 9) a_nil)) (f_lenL B (a_cons (g_var 11) a_nil))) (w_or1 (t_val (g_is OS_isBool B.isinstance B.bool (g_meth c_Tree_size hr (g_var 3) (a_cons (g_var 9) a_nil))))))) (ss_one (s_ret g_bl)) ss_nil) (ss_cons (s_app (p_slot 10 (v_var 10)) g_str) (ss_one (s_clrL (p_slot 11 (v_var 11)))))))))))))))) (ss_cons (s_set 6 hN (g_mk c_Tree__init hr (a_cons (f_mkK B (a_cons (g_rev (g_itm B.list (g_var 1))) a_nil)) a_nil))) (ss_cons (s_ife (t_w (w_or (t_not (t_eqO (C := 0) T.kq q_F T.q_s T.q_f q_b (hr.mono (by decide)) (g_var 3) (g_var 6))) (w_or1 (t_not (t_eqO (C := 0) T.kq q_F T.q_s T.q_f q_b (hr.mono (by decide)) (g_var 6) (g_var 3)))))) (ss_one (s_ret g_bl)) ss_nil) (ss_cons (s_ife (t_cmp (op_neD (Room.u64 hr)) OS_neP (g_comp WI_seq hN (pi_list (g_lst (a_cons (g_var 1) (a_cons g_non (a_cons (g_frz (f_srtK B (a_cons (g_var 1) a_nil))) (a_cons g_str a_nil)))))) (blkOk_by (N := ["source", "above", "given", "tree", "branches", "turn", "twin", "other", "told", "post", "below", "branch", "odd"]) (sc := defScope s_law_right) (own := [("odd", 12)]) (by decide +kernel)) (fun _ _ _ _ _ => (pg_name (i := 12) hN rfl (by first | exact Or.inl rfl | exact Or.inr rfl))) (fun _ _ _ _ _ => pt_some (t_eqO (C := 0) T.kq q_F T.q_s T.q_f q_b (hr.mono (by decide)) (g_var 3) (g_var 12))) (fun _ _ _ _ _ => (g_var 12))) (g_lst a_nil)) (ss_one (s_ret g_bl)) ss_nil) (ss_cons (s_for WI_seq (pi_list (g_callio c_law_others hr (v_var 0) (a_cons (g_var 1) a_nil))) (pg_name (i := 7) hN rfl (by first | exact Or.inl rfl | exact Or.inr rfl)) (ss_one (s_ife (t_w (w_or (t_eqO (C := 0) T.kq q_F T.q_s T.q_f q_b (hr.mono (by decide)) (g_mk c_Tree__init hr (a_cons (g_var 7) a_nil)) (g_var 3)) (w_or (t_eqO (C := 0) T.kq q_F T.q_s T.q_f q_b (hr.mono (by decide)) (g_var 3) (g_mk c_Tree__init hr (a_cons (g_var 7) a_nil))) (w_or1 (t_not (t_eqO (C := 0) T.kq q_F T.q_s T.q_f q_b (hr.mono (by decide)) (g_mk c_Tree__init hr (a_cons (g_var 7) a_nil)) (g_mk c_Tree__init hr (a_cons (f_cpK B (a_cons (g_var 7) a_nil)) a_nil)))))))) (ss_one (s_ret g_bl)) ss_nil))) (ss_one (s_ret g_bl))))))))))))

theorem ok_law {f : Addr} {fd : FuncData} (F : L2.Fun K "law" "law" s_law f fd) (T : Txt K mg CT) (B : Bn mg) (c_law_source : C8.Cal P w K mg base 2 "_law_source" (spV K CT (Γ 2) 2) []) (c_law_next : C8.Cal P w K mg base 2 "_law_next" (spV K CT (Γ 3) 2) []) (c_law_right : C8.Cal P w K mg base 5 "_law_right" (spV K CT (Γ 24) 2) []) (c_law_above : C8.Cal P w K mg base 4 "_law_above" (spV K CT (Γ 18) 2) []) (sem : ∀ ds r o, Γ 25 ds = some (r, o) → o.isSome = false ∧ ∃ fuel, runF fuel Γ b_law 4 false ds = some (r, o)) :
    FnOk P w K mg base CX0 6 f fd ["script"] (spV K CT (Γ 25) 1) := by
  have hN : (["script", "k", "source", "many"] : List Str).Nodup := by decide +kernel
  refine fn_ok (N := ["script", "k", "source", "many"]) (b := b_law) (io := false) F (C8.fnScope_by (by decide +kernel)) rfl (by decide) (fun h => by cases h) (fun fuel cdv A outer s H E hr => ?_) sem
  exact (ss_cons (s_for WI_range1 (pi_range1 rfl B.range (a_cons (f_max2 B (a_cons g_int (a_cons (f_min2 B (a_cons g_int (a_cons (f_lenC B (a_cons (g_var 0) a_nil)) a_nil))) a_nil))) a_nil)) (pg_name (i := 1) hN rfl (by first | exact Or.inl rfl | exact Or.inr rfl)) (ss_cons (s_set 2 hN (g_call c_law_source hr (a_cons (g_var 0) (a_cons (g_var 1) a_nil)))) (ss_cons (s_set 3 hN (b_add g_int (x_L (g_lst (a_cons (g_callio c_law_next hr (v_var 2) (a_cons g_int a_nil)) (a_cons (g_callio c_law_next hr (v_var 2) (a_cons g_int a_nil)) a_nil))) (f_int1 B (a_cons (g_cmp op_eq OS_eqA (g_callio c_law_next hr (v_var 2) (a_cons g_int a_nil)) g_int) a_nil))))) (ss_one (s_ife (t_not (t_val (g_callio c_law_right hr (v_var 2) (a_cons (g_callio c_law_above hr (v_var 2) (a_cons (g_var 3) a_nil)) a_nil)))) (ss_one (s_ret g_bl)) ss_nil))))) (ss_one (s_ret g_bl)))

end
end K01

set_option Elab.async false
set_option linter.all false
set_option maxRecDepth 100000
set_option maxHeartbeats 4000000
namespace K01
open Pv
open PySem (Str)
open L2 (Key atI)
theorem run_law_cell_at_aa (a_script : List Int) (a_k : Int) (r : Int) (h : F_law_cell_at a_script a_k = some r) : RunOk Γ b_law_cell_at 2 false [(.scr a_script), (.int a_k)] ((fun (y_ : Int) => ((eI .own y_), none)) r) := by
  refine run_of ?_
  delta F_law_cell_at at h
  exact (xs_at [.is (.scr a_script), .is (.int a_k)] (xs_cons (x_ife (e_op (ws_cons (e_var rfl (ws_cons (e_op (ws_cons (e_var rfl (ws_nil ⟨_, _, (vsC rfl vsN), (o_lenC _), (ws_nil ⟨_, _, (vsC rfl (vsC rfl vsN)), (o_lt _ _), ⟨_, rfl, (fun hc => kT hc h fun h => (xs_cons (x_ret (e_op (ws_cons (e_var rfl (ws_cons (e_var rfl (ws_nil (bx h fun n1 hn1 h => ⟨_, _, (vsC rfl (vsC rfl vsN)), (o_ixC hn1), ⟨_, rfl, (ret_top (σ := [.is (.scr a_script), .is (.int a_k)]) (eq := (fun (y_ : Int) => ((eI .own y_), none))) (y := n1) h (fin_f (.inl rfl) (eI_ok.toEncOk.nbf (n1)) rfl))⟩⟩)))))))))), (fun hc => kF hc h fun h => (xs_nil (xs_at [.is (.scr a_script), .is (.int a_k)] (xs_cons (x_ret (e_cst rfl ⟨_, rfl, (ret_top (σ := [.is (.scr a_script), .is (.int a_k)]) (eq := (fun (y_ : Int) => ((eI .own y_), none))) (y := (0 : Int)) h (fin_f (.inl rfl) (eI_ok.toEncOk.nbf ((0 : Int))) rfl))⟩))))))⟩⟩)⟩)))))))))))

theorem all_law_cell_at : ∀ ds q, M 0 ds q → RunOk Γ b_law_cell_at 2 false ds q := by
  intro ds q hm
  rcases hm with ⟨x0, x1, r, h, rfl, rfl⟩
  · exact run_law_cell_at_aa x0 x1 r h

theorem sem_law_cell_at : ∀ ds r o, Γ 0 ds = some (r, o) → o.isSome = false ∧ ∃ fuel, runF fuel Γ b_law_cell_at 2 false ds = some (r, o) := mkG_sem all_law_cell_at

theorem call_law_cell_at_aa {a_script : List Int} {a_k : Int} {r : Int} (h : F_law_cell_at a_script a_k = some r) : Γ 0 [(.scr a_script), (.int a_k)] = some ((eI .own r), none) := mkG_call all_law_cell_at ⟨_, _, _, h, rfl, rfl⟩

theorem run_law_mixed_aa (a_cell : Int) (a_k : Int) (r : Int) (h : F_law_mixed a_cell a_k = some r) : RunOk Γ b_law_mixed 3 false [(.int a_cell), (.int a_k)] ((fun (y_ : Int) => ((eI .own y_), none)) r) := by
  refine run_of ?_
  delta F_law_mixed at h
  exact (xs_at [.is (.int a_cell), .is (.int a_k), .free] (xs_cons (x_asg (e_op (ws_cons (e_op (ws_cons (e_var rfl (ws_cons (e_cst rfl (ws_nil ⟨_, _, (vsC rfl (vsC rfl vsN)), (o_modC (by decide)), (ws_cons (e_op (ws_cons (e_op (ws_cons (e_var rfl (ws_cons (e_cst rfl (ws_nil ⟨_, _, (vsC rfl (vsC rfl vsN)), (o_fdivC (by decide +kernel)), (ws_cons (e_cst rfl (ws_nil ⟨_, _, (vsC rfl (vsC rfl vsN)), (o_mulR (by decide)), (ws_nil ⟨_, _, (vsC rfl (vsC rfl vsN)), (o_add _ _), (bx h fun low1 hlow1 h => ⟨_, tcast (someD (e := D.int) hlow1) rfl, rfl, (xs_at [.is (.int a_cell), .is (.int a_k), .is (.int low1)] (xs_cons (x_asg (e_op (ws_cons (e_op (ws_cons (e_op (ws_cons (e_op (ws_cons (e_var rfl (ws_cons (e_op (ws_cons (e_cst rfl (ws_cons (e_var rfl (ws_nil ⟨_, _, (vsC rfl (vsC rfl vsN)), (o_mulL (by decide)), (ws_nil ⟨_, _, (vsC rfl (vsC rfl vsN)), (o_add _ _), (ws_cons (e_cst rfl (ws_nil ⟨_, _, (vsC rfl (vsC rfl vsN)), (o_add _ _), (ws_cons (e_cst rfl (ws_nil ⟨_, _, (vsC rfl (vsC rfl vsN)), (o_mulR (by decide)), (ws_cons (e_cst rfl (ws_nil ⟨_, _, (vsC rfl (vsC rfl vsN)), (o_modC (by decide)), (bx h fun low2 hlow2 h => ⟨_, tcast (someD (e := D.int) hlow2) rfl, rfl, (xs_at [.is (.int a_cell), .is (.int a_k), .is (.int low2)] (xs_cons (x_asg (e_op (ws_cons (e_op (ws_cons (e_var rfl (ws_cons (e_op (ws_cons (e_op (ws_cons (e_op (ws_cons (e_var rfl (ws_cons (e_cst rfl (ws_nil ⟨_, _, (vsC rfl (vsC rfl vsN)), (o_fdivC (by decide +kernel)), (ws_cons (e_cst rfl (ws_nil ⟨_, _, (vsC rfl (vsC rfl vsN)), (o_add _ _), (ws_cons (e_var rfl (ws_nil ⟨_, _, (vsC rfl (vsC rfl vsN)), (o_add _ _), (ws_nil (bx h fun m3 hm3 h => ⟨_, _, (vsC rfl (vsC rfl vsN)), (o_mul hm3), (ws_cons (e_cst rfl (ws_nil ⟨_, _, (vsC rfl (vsC rfl vsN)), (o_modC (by decide)), (bx h fun low4 hlow4 h => ⟨_, tcast (someD (e := D.int) hlow4) rfl, rfl, (xs_at [.is (.int a_cell), .is (.int a_k), .is (.int low4)] (xs_cons (x_ret (e_op (ws_cons (e_op (ws_cons (e_var rfl (ws_cons (e_op (ws_cons (e_op (ws_cons (e_var rfl (ws_cons (e_cst rfl (ws_nil ⟨_, _, (vsC rfl (vsC rfl vsN)), (o_fdivC (by decide +kernel)), (ws_cons (e_cst rfl (ws_nil ⟨_, _, (vsC rfl (vsC rfl vsN)), (o_add _ _), (ws_nil (bx h fun m5 hm5 h => ⟨_, _, (vsC rfl (vsC rfl vsN)), (o_mul hm5), (ws_cons (e_cst rfl (ws_nil ⟨_, _, (vsC rfl (vsC rfl vsN)), (o_modC (by decide)), ⟨_, rfl, (ret_top (σ := [.is (.int a_cell), .is (.int a_k), .is (.int low4)]) (eq := (fun (y_ : Int) => ((eI .own y_), none))) (y := (m5 % (2147483563 : Int))) h (fin_f (.inl rfl) (eI_ok.toEncOk.nbf ((m5 % (2147483563 : Int)))) rfl))⟩⟩)))⟩))⟩)))⟩)))))))))))))))))⟩)⟩)))⟩))⟩)))⟩)))⟩)))))))))))))))))))⟩)⟩)))⟩)))⟩)))⟩)⟩)))))))))))))))))))⟩)⟩)⟩)))⟩)))))))))⟩)))))))))))

theorem all_law_mixed : ∀ ds q, M 1 ds q → RunOk Γ b_law_mixed 3 false ds q := by
  intro ds q hm
  rcases hm with ⟨x0, x1, r, h, rfl, rfl⟩
  · exact run_law_mixed_aa x0 x1 r h

theorem sem_law_mixed : ∀ ds r o, Γ 1 ds = some (r, o) → o.isSome = false ∧ ∃ fuel, runF fuel Γ b_law_mixed 3 false ds = some (r, o) := mkG_sem all_law_mixed

theorem call_law_mixed_aa {a_cell : Int} {a_k : Int} {r : Int} (h : F_law_mixed a_cell a_k = some r) : Γ 1 [(.int a_cell), (.int a_k)] = some ((eI .own r), none) := mkG_call all_law_mixed ⟨_, _, _, h, rfl, rfl⟩

theorem run_law_source_aa (a_script : List Int) (a_k : Int) (r : List (Int)) (h : F_law_source a_script a_k = some r) : RunOk Γ b_law_source 3 false [(.scr a_script), (.int a_k)] ((fun (y_ : List (Int)) => (((eL eI) .own y_), none)) r) := by
  refine run_of ?_
  delta F_law_source at h
  exact (xs_at [.is (.scr a_script), .is (.int a_k), .free] (xs_cons (x_ife (e_op (ws_cons (e_var rfl (ws_cons (e_op (ws_cons (e_var rfl (ws_nil ⟨_, _, (vsC rfl vsN), (o_lenC _), (ws_nil ⟨_, _, (vsC rfl (vsC rfl vsN)), (o_lt _ _), ⟨_, rfl, (fun hc => kT hc h fun h => (xs_cons (x_ret (e_lst (ws_cons (e_op (ws_cons (e_var rfl (ws_cons (e_var rfl (ws_nil (bx h fun n1 hn1 h => ⟨_, _, (vsC rfl (vsC rfl vsN)), (o_ixC hn1), (ws_cons (e_op (ws_cons (e_var rfl (ws_cons (e_var rfl (ws_nil (bx h fun n2 hn2 h => ⟨_, _, (vsC rfl (vsC rfl vsN)), (o_ixC hn2), (ws_cons (e_cst rfl (ws_nil ⟨[(.int n1), (.int n2), (.int (0 : Int))], (tsC rfl (tsC rfl (tsC rfl tsN))), (show 3 ≤ PySem.sizeLine by decide), ⟨_, rfl, (ret_top (σ := [.is (.scr a_script), .is (.int a_k), .free]) (eq := (fun (y_ : List (Int)) => (((eL eI) .own y_), none))) (y := [n1, n2, (0 : Int)]) h (fin_f (.inl rfl) ((eL_ok eI_ok.toEncOk).nbo ([n1, n2, (0 : Int)])) rfl))⟩⟩)))⟩))))))))⟩)))))))))))), (fun hc => kF hc h fun h => (xs_nil (xs_at [.is (.scr a_script), .is (.int a_k), .free] (xs_cons (x_asg (e_call (ws_cons (e_call (ws_cons (e_var rfl (ws_cons (e_cst rfl (ws_nil (bx h fun r3 hr3 h => ⟨_, _, _, (vsC rfl (vsC rfl vsN)), (bcC rfl (bcC (eI_ok.toEncOk.borf _) bcN)), call_law_cell_at_aa hr3, (ws_cons (e_op (ws_cons (e_cst rfl (ws_cons (e_var rfl (ws_nil ⟨_, _, (vsC rfl (vsC rfl vsN)), (o_add _ _), (ws_nil (bx h fun r4 hr4 h => ⟨_, _, _, (vsC rfl (vsC rfl vsN)), (bcC (eI_ok.toEncOk.borf _) (bcC (eI_ok.toEncOk.borf _) bcN)), call_law_mixed_aa hr4, ⟨_, rfl, rfl, (xs_at [.is (.scr a_script), .is (.int a_k), .is (.int r4)] (xs_cons (x_ret (e_lst (ws_cons (e_var rfl (ws_cons (e_var rfl (ws_cons (e_cst rfl (ws_nil ⟨[(.int r4), (.int r4), (.int (0 : Int))], (tsC (tref rfl (eI_ok.noo .frz _)) (tsC (tref rfl (eI_ok.noo .frz _)) (tsC rfl tsN))), (show 3 ≤ PySem.sizeLine by decide), ⟨_, rfl, (ret_top (σ := [.is (.scr a_script), .is (.int a_k), .is (.int r4)]) (eq := (fun (y_ : List (Int)) => (((eL eI) .own y_), none))) (y := [r4, r4, (0 : Int)]) h (fin_f (.inl rfl) ((eL_ok eI_ok.toEncOk).nbo ([r4, r4, (0 : Int)])) rfl))⟩⟩)))))))))))⟩⟩))⟩)))))))⟩))))))))))))))⟩⟩)⟩)))))))))))

theorem all_law_source : ∀ ds q, M 2 ds q → RunOk Γ b_law_source 3 false ds q := by
  intro ds q hm
  rcases hm with ⟨x0, x1, r, h, rfl, rfl⟩
  · exact run_law_source_aa x0 x1 r h

theorem sem_law_source : ∀ ds r o, Γ 2 ds = some (r, o) → o.isSome = false ∧ ∃ fuel, runF fuel Γ b_law_source 3 false ds = some (r, o) := mkG_sem all_law_source

theorem call_law_source_aa {a_script : List Int} {a_k : Int} {r : List (Int)} (h : F_law_source a_script a_k = some r) : Γ 2 [(.scr a_script), (.int a_k)] = some (((eL eI) .own r), none) := mkG_call all_law_source ⟨_, _, _, h, rfl, rfl⟩

theorem run_law_next_aa (a_source : List (Int)) (a_many : Int) (r : Int × List (Int)) (h : F_law_next a_source a_many = some r) : RunOk Γ b_law_next 3 true [((eL eI) .own a_source), (.int a_many)] ((fun (y_ : (Int × List (Int))) => ((eI .own y_.1), some ((eL eI) .own y_.2))) r) := by
  refine run_of ?_
  delta F_law_next at h
  exact (xs_at [.is ((eL eI) .own a_source), .is (.int a_many), .free] (xs_cons (x_ife (e_op (ws_cons (e_op (ws_cons (e_var rfl (ws_cons (e_cst rfl (ws_nil (bx h fun x1 hx1 h => ⟨_, _, (vsC rfl (vsC rfl vsN)), (o_ixL (eI_ok.noo _) hx1), (ws_cons (e_op (ws_cons (e_cst rfl (ws_cons (e_cst rfl (ws_nil ⟨_, _, (vsC rfl (vsC rfl vsN)), (o_powC (by decide +kernel)), (ws_nil ⟨_, _, (vsC rfl (vsC rfl vsN)), (o_ge _ _), ⟨_, rfl, (fun hc => kT hc h fun h => (xs_cons (x_asg (e_op (ws_cons (e_op (ws_cons (e_var rfl (ws_cons (e_cst rfl (ws_nil (bx h fun x2 hx2 h => ⟨_, _, (vsC rfl (vsC rfl vsN)), (o_ixL (eI_ok.noo _) hx2), (ws_cons (e_var rfl (ws_nil (bx h fun r3 hr3 h => ⟨_, _, (vsC rfl (vsC rfl vsN)), (o_mod hr3), ⟨_, rfl, rfl, (xs_at [.is ((eL eI) .own a_source), .is (.int a_many), .is (.int r3)] (xs_cons (x_setL rfl (e_op (ws_cons (e_op (ws_cons (e_var rfl (ws_cons (e_cst rfl (ws_nil (bx h fun x4 hx4 h => ⟨_, _, (vsC rfl (vsC rfl vsN)), (o_ixL (eI_ok.noo _) hx4), (ws_cons (e_var rfl (ws_nil (bx h fun q5 hq5 h => ⟨_, _, (vsC rfl (vsC rfl vsN)), (o_fdiv hq5), (p_sl rfl ⟨⟨_, rfl⟩, (e_cst rfl (bx h fun l6 hl6 h => ⟨_, _, _, _, rfl, rfl, rfl, (a_setL hl6), (xs_at [.is ((eL eI) .own l6), .is (.int a_many), .is (.int r3)] (xs_cons (x_ret (e_var rfl ⟨_, (tref rfl (eI_ok.noo .frz _)), (ret_top (σ := [.is ((eL eI) .own l6), .is (.int a_many), .is (.int r3)]) (eq := (fun (y_ : (Int × List (Int))) => ((eI .own y_.1), some ((eL eI) .own y_.2)))) (y := (r3, l6)) h (fin_t (.inl rfl) (eI_ok.toEncOk.nbf (r3)) rfl ((eL_ok eI_ok.toEncOk).nbo (l6)) rfl))⟩))))⟩))⟩)⟩))))⟩))))))))))))⟩⟩))))⟩)))))))))))), (fun hc => kF hc h fun h => (xs_nil (xs_at [.is ((eL eI) .own a_source), .is (.int a_many), .free] (xs_cons (x_setL rfl (e_op (ws_cons (e_op (ws_cons (e_var rfl (ws_cons (e_cst rfl (ws_nil (bx h fun x7 hx7 h => ⟨_, _, (vsC rfl (vsC rfl vsN)), (o_ixL (eI_ok.noo _) hx7), (ws_cons (e_cst rfl (ws_nil ⟨_, _, (vsC rfl (vsC rfl vsN)), (o_add _ _), (p_sl rfl ⟨⟨_, rfl⟩, (e_cst rfl (bx h fun l8 hl8 h => ⟨_, _, _, _, rfl, rfl, rfl, (a_setL hl8), (xs_at [.is ((eL eI) .own l8), .is (.int a_many), .free] (xs_cons (x_ret (e_op (ws_cons (e_call (ws_cons (e_op (ws_cons (e_var rfl (ws_cons (e_cst rfl (ws_nil (bx h fun x9 hx9 h => ⟨_, _, (vsC rfl (vsC rfl vsN)), (o_ixL (eI_ok.noo _) hx9), (ws_cons (e_op (ws_cons (e_var rfl (ws_cons (e_cst rfl (ws_nil (bx h fun x10 hx10 h => ⟨_, _, (vsC rfl (vsC rfl vsN)), (o_ixL (eI_ok.noo _) hx10), (ws_nil (bx h fun r11 hr11 h => ⟨_, _, _, (vsC rfl (vsC rfl vsN)), (bcC (eI_ok.toEncOk.borf _) (bcC (eI_ok.toEncOk.borf _) bcN)), call_law_mixed_aa hr11, (ws_cons (e_var rfl (ws_nil (bx h fun r12 hr12 h => ⟨_, _, (vsC rfl (vsC rfl vsN)), (o_mod hr12), ⟨_, rfl, (ret_top (σ := [.is ((eL eI) .own l8), .is (.int a_many), .free]) (eq := (fun (y_ : (Int × List (Int))) => ((eI .own y_.1), some ((eL eI) .own y_.2)))) (y := (r12, l8)) h (fin_t (.inl rfl) (eI_ok.toEncOk.nbf (r12)) rfl ((eL_ok eI_ok.toEncOk).nbo (l8)) rfl))⟩⟩))))⟩))⟩))))))))⟩))))))))))))))⟩))⟩)⟩)))⟩))))))))))))))⟩⟩)⟩)))))))⟩))))))))))))

theorem all_law_next : ∀ ds q, M 3 ds q → RunOk Γ b_law_next 3 true ds q := by
  intro ds q hm
  rcases hm with ⟨x0, x1, r, h, rfl, rfl⟩
  · exact run_law_next_aa x0 x1 r h

theorem sem_law_next : ∀ ds r o, Γ 3 ds = some (r, o) → o.isSome = true ∧ ∃ fuel, runF fuel Γ b_law_next 3 true ds = some (r, o) := mkG_sem all_law_next

theorem call_law_next_aa {a_source : List (Int)} {a_many : Int} {r : Int × List (Int)} (h : F_law_next a_source a_many = some r) : Γ 3 [((eL eI) .own a_source), (.int a_many)] = some ((eI .own r.1), some ((eL eI) .own r.2)) := mkG_call all_law_next ⟨_, _, _, h, rfl, rfl⟩

theorem run_law_name_a (a_number : Int) (r : Str) (h : F_law_name a_number = some r) : RunOk Γ b_law_name 2 false [(.int a_number)] ((fun (y_ : Str) => ((eS .own y_), none)) r) := by
  refine run_of ?_
  delta F_law_name at h
  exact (xs_at [.is (.int a_number), .free] (xs_cons (x_asg (e_cst rfl (bx h fun found1 hfound1 h => ⟨_, tcast (someD (e := D.str) hfound1) rfl, rfl, (xs_at [.is (.int a_number), .is (.str found1)] (xs_cons (bx h fun t3 ht3 h => (x_whP ht3 (fun t2 => [.is (.int t2.1), .is (.str t2.2)]) (wk_same (wk_same wk_nil)) (fun t2 v_ h => (e_op (ws_cons (e_var rfl (ws_cons (e_cst rfl (ws_nil ⟨_, _, (vsC rfl (vsC rfl vsN)), (o_ge _ _), ⟨vcast (someD (e := D.bl) h) rfl, wk_refl _⟩⟩))))))) (fun t2 t_ h => (xs_cons (x_asg (e_op (ws_cons (e_op (ws_cons (e_cst rfl (ws_cons (e_op (ws_cons (e_var rfl (ws_cons (e_cst rfl (ws_nil ⟨_, _, (vsC rfl (vsC rfl vsN)), (o_modC (by decide)), (ws_nil (bx h fun c4 hc4 h => ⟨_, _, (vsC rfl (vsC rfl vsN)), (o_ixS hc4), (ws_cons (e_var rfl (ws_nil (bx h fun s5 hs5 h => ⟨_, _, (vsC rfl (vsC rfl vsN)), (o_addS hs5), ⟨_, rfl, rfl, (xs_at [.is (.int t2.1), .is (.str s5)] (xs_cons (x_asg (e_op (ws_cons (e_op (ws_cons (e_var rfl (ws_cons (e_cst rfl (ws_nil ⟨_, _, (vsC rfl (vsC rfl vsN)), (o_fdivC (by decide +kernel)), (ws_cons (e_cst rfl (ws_nil ⟨_, _, (vsC rfl (vsC rfl vsN)), (o_sub _ _), (bx h fun number6 hnumber6 h => ⟨_, tcast (someD (e := D.int) hnumber6) rfl, rfl, (xs_at [.is (.int number6), .is (.str s5)] (xs_nil (end_ (S := fun t2 => [.is (.int t2.1), .is (.str t2.2)]) h (wk_same (wk_same wk_nil)))))⟩)⟩)))⟩)))))))))))⟩⟩))))⟩))⟩))))))))))))))) (xs_at [.is (.int t3.1), .is (.str t3.2)] (xs_cons (x_ret (e_var rfl ⟨_, (tref rfl (eS_ok.noo .frz _)), (ret_top (σ := [.is (.int t3.1), .is (.str t3.2)]) (eq := (fun (y_ : Str) => ((eS .own y_), none))) (y := t3.2) h (fin_f (.inl rfl) (eS_ok.toEncOk.nbf (t3.2)) rfl))⟩))))))))⟩)))))

theorem all_law_name : ∀ ds q, M 4 ds q → RunOk Γ b_law_name 2 false ds q := by
  intro ds q hm
  rcases hm with ⟨x0, r, h, rfl, rfl⟩
  · exact run_law_name_a x0 r h

theorem sem_law_name : ∀ ds r o, Γ 4 ds = some (r, o) → o.isSome = false ∧ ∃ fuel, runF fuel Γ b_law_name 2 false ds = some (r, o) := mkG_sem all_law_name

theorem call_law_name_a {a_number : Int} {r : Str} (h : F_law_name a_number = some r) : Γ 4 [(.int a_number)] = some ((eS .own r), none) := mkG_call all_law_name ⟨_, _, h, rfl, rfl⟩

theorem run_law_names_aa (a_source : List (Int)) (a_many : Int) (r : List (Str) × List (Int)) (h : F_law_names a_source a_many = some r) : RunOk Γ b_law_names 7 true [((eL eI) .own a_source), (.int a_many)] ((fun (y_ : (List (Str) × List (Int))) => (((eL eS) .own y_.1), some ((eL eI) .own y_.2))) r) := by
  refine run_of ?_
  delta F_law_names at h
  exact (xs_at [.is ((eL eI) .own a_source), .is (.int a_many), .free, .free, .free, .free, .free] (xs_cons (x_asg (e_callio rfl (ws_cons (e_cst rfl (ws_nil (bx h fun d1 hd1 h => ⟨_, _, _, _, _, rfl, (vsC rfl vsN), (bcC (eI_ok.toEncOk.borf _) bcN), rfl, call_law_next_aa hd1, ⟨_, rfl, rfl, (xs_at [.is ((eL eI) .own d1.2), .is (.int a_many), .is (.int d1.1), .free, .free, .free, .free] (xs_cons (x_asg (e_op (ws_cons (e_lst (ws_cons (e_cst rfl (ws_cons (e_cst rfl (ws_cons (e_cst rfl (ws_cons (e_cst rfl (ws_nil ⟨[(.int (0 : Int)), (.int (20 : Int)), (.int (700 : Int)), (.int (18000 : Int))], (tsC rfl (tsC rfl (tsC rfl (tsC rfl tsN)))), (show 4 ≤ PySem.sizeLine by decide), (ws_cons (e_var rfl (ws_nil (bx h fun x2 hx2 h => ⟨_, _, (vsC rfl (vsC rfl vsN)), (o_ixL (eI_ok.noo _) hx2), ⟨_, rfl, rfl, (xs_at [.is ((eL eI) .own d1.2), .is (.int a_many), .is (.int d1.1), .is (.int x2), .free, .free, .free] (xs_cons (x_asg (e_op (ws_cons (e_lst (ws_cons (e_cst rfl (ws_cons (e_cst rfl (ws_cons (e_cst rfl (ws_cons (e_cst rfl (ws_nil ⟨[(.str ("" : Str)), (.str ("" : Str)), (.str ("" : Str)), (.str ("grand" : Str))], (tsC rfl (tsC rfl (tsC rfl (tsC rfl tsN)))), (show 4 ≤ PySem.sizeLine by decide), (ws_cons (e_var rfl (ws_nil (bx h fun x3 hx3 h => ⟨_, _, (vsC rfl (vsC rfl vsN)), (o_ixL (eS_ok.noo _) hx3), ⟨_, rfl, rfl, (xs_at [.is ((eL eI) .own d1.2), .is (.int a_many), .is (.int d1.1), .is (.int x2), .is (.str x3), .free, .free] (xs_cons (x_asg (e_op (ws_cons (e_lst (ws_cons (e_cst rfl (ws_cons (e_cst rfl (ws_cons (e_cst rfl (ws_cons (e_cst rfl (ws_nil ⟨[(.int (1 : Int)), (.int (3 : Int)), (.int (7 : Int)), (.int (11 : Int))], (tsC rfl (tsC rfl (tsC rfl (tsC rfl tsN)))), (show 4 ≤ PySem.sizeLine by decide), (ws_cons (e_callio rfl (ws_cons (e_cst rfl (ws_nil (bx h fun d4 hd4 h => ⟨_, _, _, _, _, rfl, (vsC rfl vsN), (bcC (eI_ok.toEncOk.borf _) bcN), rfl, call_law_next_aa hd4, (ws_nil (bx h fun x5 hx5 h => ⟨_, _, (vsC rfl (vsC rfl vsN)), (o_ixL (eI_ok.noo _) hx5), ⟨_, rfl, rfl, (xs_at [.is ((eL eI) .own d4.2), .is (.int a_many), .is (.int d1.1), .is (.int x2), .is (.str x3), .is (.int x5), .free] (xs_cons (bx h fun j6 hj6 h => (x_cut [.is ((eL eI) .own d4.2), .is (.int a_many), .is (.int d1.1), .is (.int x2), .is (.str x3), .is (.int j6), .free] (have h := hj6; (x_ife (e_op (ws_cons (e_op (ws_cons (e_var rfl (ws_cons (e_var rfl (ws_nil (bx h fun r7 hr7 h => ⟨_, _, (vsC rfl (vsC rfl vsN)), (o_mod hr7), (ws_cons (e_cst rfl (ws_nil ⟨_, _, (vsC rfl (vsC rfl vsN)), (o_eqI r7 (0 : Int)), ⟨_, rfl, (fun hc => kT hc h fun h => (xs_cons (x_asg (e_cst rfl (bx h fun step8 hstep8 h => ⟨_, tcast (someD (e := D.int) hstep8) rfl, rfl, (xs_at [.is ((eL eI) .own d4.2), .is (.int a_many), .is (.int d1.1), .is (.int x2), .is (.str x3), .is (.int step8), .free] (xs_nil (end_ (S := fun j6 => [.is ((eL eI) .own d4.2), .is (.int a_many), .is (.int d1.1), .is (.int x2), .is (.str x3), .is (.int j6), .free]) h (wk_same (wk_same (wk_same (wk_same (wk_same (wk_same (wk_same wk_nil))))))))))⟩))))), (fun hc => kF hc h fun h => (xs_nil (end_ (S := fun j6 => [.is ((eL eI) .own d4.2), .is (.int a_many), .is (.int d1.1), .is (.int x2), .is (.str x3), .is (.int j6), .free]) h (wk_same (wk_same (wk_same (wk_same (wk_same (wk_same (wk_same wk_nil))))))))))⟩⟩)))⟩))))))))))) (xs_at [.is ((eL eI) .own d4.2), .is (.int a_many), .is (.int d1.1), .is (.int x2), .is (.str x3), .is (.int j6), .free] (xs_cons (x_ret (bx h fun xs9 hxs9 h => (bx h fun ys15 hys15 h => (e_compP (f := fun x10 => [(.int x10)]) (enc := eS .own) hys15 [.is ((eL eI) .own d4.2), .is (.int a_many), .is (.int d1.1), .is (.int x2), .is (.str x3), .is (.int j6), .free] (ws_cons (e_var rfl (ws_nil ⟨(wk_refl _), _, (vsC rfl vsN), (it_range1 hxs9), rfl⟩))) rfl (fun x10 b_ h => ⟨[.is ((eL eI) .own d4.2), .is (.int a_many), .is (.int d1.1), .is (.int x2), .is (.str x3), .is (.int j6), .is (.int x10)], rfl, ⟨Option.some.inj h, fun _ => (wn_js (ds := [(.int x10)]) rfl), fun _ y_ h => (e_op (ws_cons (e_var rfl (ws_cons (e_call (ws_cons (e_op (ws_cons (e_var rfl (ws_cons (e_op (ws_cons (e_op (ws_cons (e_var rfl (ws_cons (e_var rfl (ws_nil (bx h fun m11 hm11 h => ⟨_, _, (vsC rfl (vsC rfl vsN)), (o_mul hm11), (ws_cons (e_var rfl (ws_nil (bx h fun r12 hr12 h => ⟨_, _, (vsC rfl (vsC rfl vsN)), (o_mod hr12), (ws_nil ⟨_, _, (vsC rfl (vsC rfl vsN)), (o_add _ _), (ws_nil (bx h fun r13 hr13 h => ⟨_, _, _, (vsC rfl vsN), (bcC (eI_ok.toEncOk.borf _) bcN), call_law_name_a hr13, (ws_nil (bx h fun s14 hs14 h => ⟨_, _, (vsC rfl (vsC rfl vsN)), (o_addS hs14), ⟨tcast (someD (e := D.str) h) rfl, (wn_js (ds := [(.int x10)]) rfl)⟩⟩))⟩))⟩)⟩))))⟩)))))))))))))))))))⟩⟩) ⟨_, rfl, (ret_top (σ := [.is ((eL eI) .own d4.2), .is (.int a_many), .is (.int d1.1), .is (.int x2), .is (.str x3), .is (.int j6), .free]) (eq := (fun (y_ : (List (Str) × List (Int))) => (((eL eS) .own y_.1), some ((eL eI) .own y_.2)))) (y := (ys15, d4.2)) h (fin_t (.inl rfl) ((eL_ok eS_ok.toEncOk).nbo (ys15)) rfl ((eL_ok eI_ok.toEncOk).nbo (d4.2)) rfl))⟩))))))))))⟩⟩))⟩))))))⟩)))))))))))))))⟩⟩))))⟩)))))))))))))))⟩⟩))))⟩)))))))))))))))⟩⟩))))))))

theorem all_law_names : ∀ ds q, M 5 ds q → RunOk Γ b_law_names 7 true ds q := by
  intro ds q hm
  rcases hm with ⟨x0, x1, r, h, rfl, rfl⟩
  · exact run_law_names_aa x0 x1 r h

theorem sem_law_names : ∀ ds r o, Γ 5 ds = some (r, o) → o.isSome = true ∧ ∃ fuel, runF fuel Γ b_law_names 7 true ds = some (r, o) := mkG_sem all_law_names

theorem call_law_names_aa {a_source : List (Int)} {a_many : Int} {r : List (Str) × List (Int)} (h : F_law_names a_source a_many = some r) : Γ 5 [((eL eI) .own a_source), (.int a_many)] = some (((eL eS) .own r.1), some ((eL eI) .own r.2)) := mkG_call all_law_names ⟨_, _, _, h, rfl, rfl⟩

theorem run_is_name_a (a_thing : Str) (r : Bool) (h : F_is_name a_thing = some r) : RunOk Γ b_is_name 2 false [(.str a_thing)] ((fun (y_ : Bool) => ((eB .own y_), none)) r) := by
  refine run_of ?_
  delta F_is_name at h
  exact (xs_at [.is (.str a_thing), .free] (xs_cons (x_ife (bx h fun b4 hb4 h => (e_or' (e_not (e_op (ws_cons (e_var rfl (ws_nil ⟨_, _, (vsC rfl vsN), rfl, ⟨_, rfl, ⟨rfl, rfl⟩⟩⟩))))) (fun _ y4 h => (e_not (bx h fun x2 hx2 h => (bx h fun b3 hb3 h => (e_chain (e_cst rfl ⟨rfl, rfl⟩) (have h := hx2; (e_op (ws_cons (e_var rfl (ws_nil (bx h fun n1 hn1 h => ⟨_, _, (vsC rfl vsN), (o_lenS hn1), ⟨rfl, vcast (someD (e := D.int) h) rfl⟩⟩)))))) rfl (o_le _ _) (fun _ q h => (e_cst rfl ⟨rfl, _, rfl, (congrArg some (someD (e := D.bl) h)) ▸ (o_le _ _)⟩)) hb3 ⟨_, rfl, ⟨rfl, congrArg (fun b => Rv.val (.bl b)) (Option.some.inj h)⟩⟩))))) hb4 ⟨_, rfl, (fun hc => kT hc h fun h => (xs_cons (x_ret (e_cst rfl ⟨_, rfl, (ret_top (σ := [.is (.str a_thing), .free]) (eq := (fun (y_ : Bool) => ((eB .own y_), none))) (y := false) h (fin_f (.inl rfl) (eB_ok.toEncOk.nbf (false)) rfl))⟩)))), (fun hc => kF hc h fun h => (xs_nil (xs_at [.is (.str a_thing), .free] (xs_cons (x_ret (e_op (ws_cons (bx h fun ys7 hys7 h => (e_compP (f := fun x5 => [(.str x5)]) (enc := eB .own) hys7 [.is (.str a_thing), .free] (ws_cons (e_var rfl (ws_nil ⟨(wk_refl _), _, (vsC rfl vsN), (it_chars _), rfl⟩))) rfl (fun x5 b_ h => ⟨[.is (.str a_thing), .is (.str x5)], rfl, ⟨Option.some.inj h, fun _ => (wn_js (ds := [(.str x5)]) rfl), fun _ y_ h => (e_op (ws_cons (e_var rfl (ws_cons (e_cst rfl (ws_nil (bx h fun b6 hb6 h => ⟨_, _, (vsC rfl (vsC rfl vsN)), (o_inS hb6), ⟨tcast (someD (e := D.bl) h) rfl, (wn_js (ds := [(.str x5)]) rfl)⟩⟩)))))))⟩⟩) (ws_nil ⟨_, _, (vsC rfl vsN), (o_all _), ⟨_, rfl, (ret_top (σ := [.is (.str a_thing), .free]) (eq := (fun (y_ : Bool) => ((eB .own y_), none))) (y := (ys7.all id)) h (fin_f (.inl rfl) (eB_ok.toEncOk.nbf ((ys7.all id))) rfl))⟩⟩))))))))))⟩)))))

theorem all_is_name : ∀ ds q, M 6 ds q → RunOk Γ b_is_name 2 false ds q := by
  intro ds q hm
  rcases hm with ⟨x0, r, h, rfl, rfl⟩
  · exact run_is_name_a x0 r h

theorem sem_is_name : ∀ ds r o, Γ 6 ds = some (r, o) → o.isSome = false ∧ ∃ fuel, runF fuel Γ b_is_name 2 false ds = some (r, o) := mkG_sem all_is_name

theorem call_is_name_a {a_thing : Str} {r : Bool} (h : F_is_name a_thing = some r) : Γ 6 [(.str a_thing)] = some ((eB .own r), none) := mkG_call all_is_name ⟨_, _, h, rfl, rfl⟩

theorem run_is_tree_form_b (a_thing : List (Str × Option (Str))) (r : Bool) (h : F_is_tree_form a_thing = some r) : RunOk Γ b_is_tree_form 3 false [((eK (eO eS)) .bor a_thing)] ((fun (y_ : Bool) => ((eB .own y_), none)) r) := by
  refine run_of ?_
  delta F_is_tree_form at h
  exact (xs_at [.is ((eK (eO eS)) .bor a_thing), .free, .free] (xs_cons (x_ife (bx h fun b4 hb4 h => (e_or' (e_not (e_op (ws_cons (e_var rfl (ws_nil ⟨_, _, (vsC rfl vsN), rfl, ⟨_, rfl, ⟨rfl, rfl⟩⟩⟩))))) (fun _ y4 h => (e_not (e_op (ws_cons (bx h fun ys3 hys3 h => (e_compP (f := fun x1 => [(.str x1)]) (enc := eB .own) hys3 [.is ((eK (eO eS)) .bor a_thing), .free, .free] (ws_cons (e_var rfl (ws_nil ⟨(wk_refl _), _, (vsC rfl vsN), (it_keys (by decide) _), rfl⟩))) rfl (fun x1 b_ h => ⟨[.is ((eK (eO eS)) .bor a_thing), .free, .is (.str x1)], rfl, ⟨Option.some.inj h, fun _ => (wn_js (ds := [(.str x1)]) rfl), fun _ y_ h => (e_call (ws_cons (e_var rfl (ws_nil (bx h fun r2 hr2 h => ⟨_, _, _, (vsC rfl vsN), (bcC (eS_ok.toEncOk.borf _) bcN), call_is_name_a hr2, ⟨tcast (someD (e := D.bl) h) rfl, (wn_js (ds := [(.str x1)]) rfl)⟩⟩)))))⟩⟩) (ws_nil ⟨_, _, (vsC rfl vsN), (o_all _), ⟨_, rfl, ⟨rfl, congrArg (fun b => Rv.val (.bl b)) (Option.some.inj h)⟩⟩⟩))))))) hb4 ⟨_, rfl, (fun hc => kT hc h fun h => (xs_cons (x_ret (e_cst rfl ⟨_, rfl, (ret_top (σ := [.is ((eK (eO eS)) .bor a_thing), .free, .free]) (eq := (fun (y_ : Bool) => ((eB .own y_), none))) (y := false) h (fin_f (.inl rfl) (eB_ok.toEncOk.nbf (false)) rfl))⟩)))), (fun hc => kF hc h fun h => (xs_nil (xs_at [.is ((eK (eO eS)) .bor a_thing), .free, .free] (xs_cons (x_asg (bx h fun ys6 hys6 h => (e_compP (f := fun x5 => [((eO eS) .frz x5)]) (enc := (eO eS) .own) hys6 [.is ((eK (eO eS)) .bor a_thing), .free, .free] (ws_cons (e_var rfl (ws_nil ⟨(wk_refl _), _, (vsC rfl vsN), (it_values (by decide) _), rfl⟩))) rfl (fun x5 b_ h => ⟨[.is ((eK (eO eS)) .bor a_thing), .free, .is ((eO eS) .frz x5)], rfl, (e_op (ws_cons (e_var rfl (ws_nil ⟨_, _, (vsC rfl vsN), (o_notN (fun _ => rfl)), ⟨_, rfl, Option.some.inj h, fun _ => (wn_js (ds := [((eO eS) .frz x5)]) rfl), fun _ y_ h => (e_var rfl ⟨tcast (someD (e := ((eO eS) .frz)) h) (tref rfl ((eO_ok eS_ok.toEncOk).noo .frz _)), (wn_js (ds := [((eO eS) .frz x5)]) rfl)⟩)⟩⟩))))⟩) ⟨_, rfl, rfl, (xs_at [.is ((eK (eO eS)) .bor a_thing), .is ((eL (eO eS)) .own ys6), .free] (xs_cons (x_ife (e_op (ws_cons (e_op (ws_cons (e_var rfl (ws_nil ⟨_, _, (vsC rfl vsN), (o_lenK _), (ws_cons (e_op (ws_cons (e_op (ws_cons (e_var rfl (ws_nil ⟨_, _, (vsC rfl vsN), (o_lenL _), (ws_cons (e_cst rfl (ws_nil ⟨_, _, (vsC rfl (vsC rfl vsN)), (o_add _ _), (ws_nil ⟨_, _, (vsC rfl (vsC rfl vsN)), (o_neI (a_thing.length : Int) ((ys6.length : Int) + (1 : Int))), ⟨_, rfl, (fun hc => kT hc h fun h => (xs_cons (x_ret (e_cst rfl ⟨_, rfl, (ret_top (σ := [.is ((eK (eO eS)) .bor a_thing), .is ((eL (eO eS)) .own ys6), .free]) (eq := (fun (y_ : Bool) => ((eB .own y_), none))) (y := false) h (fin_f (.inl rfl) (eB_ok.toEncOk.nbf (false)) rfl))⟩)))), (fun hc => kF hc h fun h => (xs_nil (xs_at [.is ((eK (eO eS)) .bor a_thing), .is ((eL (eO eS)) .own ys6), .free] (xs_cons (x_ret (e_op (ws_cons (bx h fun ys13 hys13 h => (e_compP (f := fun x7 => [((eO eS) .frz x7)]) (enc := eB .own) hys13 [.is ((eK (eO eS)) .bor a_thing), .is ((eL (eO eS)) .own ys6), .free] (ws_cons (e_var rfl (ws_nil ⟨(wk_refl _), _, (vsC rfl vsN), (it_seq ((eO_ok eS_ok.toEncOk).noo _) _), rfl⟩))) rfl (fun x7 b_ h => ⟨[.is ((eK (eO eS)) .bor a_thing), .is ((eL (eO eS)) .own ys6), .is ((eO eS) .frz x7)], rfl, ⟨Option.some.inj h, fun _ => (wn_js (ds := [((eO eS) .frz x7)]) rfl), fun _ y_ h => (bx h fun x10 hx10 h => (bx h fun b12 hb12 h => (e_and' (have h := hx10; (e_call (ws_cons (e_var rfl (ws_nil (bx h fun o8 ho8 h => (bx h fun r9 hr9 h => ⟨_, _, _, (vsC (vcast (odn ho8) rfl) vsN), (bcC (eS_ok.toEncOk.borf _) bcN), call_is_name_a hr9, ⟨rfl, vcast (someD (e := D.bl) h) rfl⟩⟩))))))) (fun _ y12 h => (e_op (ws_cons (e_var rfl (ws_cons (e_var rfl (ws_nil (bx h fun o11 ho11 h => ⟨_, _, (vsC (vcast (odn ho11) rfl) (vsC rfl vsN)), (o_inK _ _), ⟨rfl, congrArg (fun b => Rv.val (.bl b)) (Option.some.inj h)⟩⟩)))))))) hb12 ⟨tcast (someD (e := D.bl) h) rfl, (wn_js (ds := [((eO eS) .frz x7)]) rfl)⟩)))⟩⟩) (ws_nil ⟨_, _, (vsC rfl vsN), (o_all _), ⟨_, rfl, (ret_top (σ := [.is ((eK (eO eS)) .bor a_thing), .is ((eL (eO eS)) .own ys6), .free]) (eq := (fun (y_ : Bool) => ((eB .own y_), none))) (y := (ys13.all id)) h (fin_f (.inl rfl) (eB_ok.toEncOk.nbf ((ys13.all id))) rfl))⟩⟩))))))))))⟩⟩)⟩)))⟩)))))))⟩)))))))))⟩)))))))⟩)))))

theorem run_is_tree_form_f (a_thing : List (Str × Option (Str))) (r : Bool) (h : F_is_tree_form a_thing = some r) : RunOk Γ b_is_tree_form 3 false [((eK (eO eS)) .frz a_thing)] ((fun (y_ : Bool) => ((eB .own y_), none)) r) := by
  refine run_of ?_
  delta F_is_tree_form at h
  exact (xs_at [.is ((eK (eO eS)) .frz a_thing), .free, .free] (xs_cons (x_ife (bx h fun b4 hb4 h => (e_or' (e_not (e_op (ws_cons (e_var rfl (ws_nil ⟨_, _, (vsC rfl vsN), rfl, ⟨_, rfl, ⟨rfl, rfl⟩⟩⟩))))) (fun _ y4 h => (e_not (e_op (ws_cons (bx h fun ys3 hys3 h => (e_compP (f := fun x1 => [(.str x1)]) (enc := eB .own) hys3 [.is ((eK (eO eS)) .frz a_thing), .free, .free] (ws_cons (e_var rfl (ws_nil ⟨(wk_refl _), _, (vsC rfl vsN), (it_keys (by decide) _), rfl⟩))) rfl (fun x1 b_ h => ⟨[.is ((eK (eO eS)) .frz a_thing), .free, .is (.str x1)], rfl, ⟨Option.some.inj h, fun _ => (wn_js (ds := [(.str x1)]) rfl), fun _ y_ h => (e_call (ws_cons (e_var rfl (ws_nil (bx h fun r2 hr2 h => ⟨_, _, _, (vsC rfl vsN), (bcC (eS_ok.toEncOk.borf _) bcN), call_is_name_a hr2, ⟨tcast (someD (e := D.bl) h) rfl, (wn_js (ds := [(.str x1)]) rfl)⟩⟩)))))⟩⟩) (ws_nil ⟨_, _, (vsC rfl vsN), (o_all _), ⟨_, rfl, ⟨rfl, congrArg (fun b => Rv.val (.bl b)) (Option.some.inj h)⟩⟩⟩))))))) hb4 ⟨_, rfl, (fun hc => kT hc h fun h => (xs_cons (x_ret (e_cst rfl ⟨_, rfl, (ret_top (σ := [.is ((eK (eO eS)) .frz a_thing), .free, .free]) (eq := (fun (y_ : Bool) => ((eB .own y_), none))) (y := false) h (fin_f (.inl rfl) (eB_ok.toEncOk.nbf (false)) rfl))⟩)))), (fun hc => kF hc h fun h => (xs_nil (xs_at [.is ((eK (eO eS)) .frz a_thing), .free, .free] (xs_cons (x_asg (bx h fun ys6 hys6 h => (e_compP (f := fun x5 => [((eO eS) .frz x5)]) (enc := (eO eS) .own) hys6 [.is ((eK (eO eS)) .frz a_thing), .free, .free] (ws_cons (e_var rfl (ws_nil ⟨(wk_refl _), _, (vsC rfl vsN), (it_values (by decide) _), rfl⟩))) rfl (fun x5 b_ h => ⟨[.is ((eK (eO eS)) .frz a_thing), .free, .is ((eO eS) .frz x5)], rfl, (e_op (ws_cons (e_var rfl (ws_nil ⟨_, _, (vsC rfl vsN), (o_notN (fun _ => rfl)), ⟨_, rfl, Option.some.inj h, fun _ => (wn_js (ds := [((eO eS) .frz x5)]) rfl), fun _ y_ h => (e_var rfl ⟨tcast (someD (e := ((eO eS) .frz)) h) (tref rfl ((eO_ok eS_ok.toEncOk).noo .frz _)), (wn_js (ds := [((eO eS) .frz x5)]) rfl)⟩)⟩⟩))))⟩) ⟨_, rfl, rfl, (xs_at [.is ((eK (eO eS)) .frz a_thing), .is ((eL (eO eS)) .own ys6), .free] (xs_cons (x_ife (e_op (ws_cons (e_op (ws_cons (e_var rfl (ws_nil ⟨_, _, (vsC rfl vsN), (o_lenK _), (ws_cons (e_op (ws_cons (e_op (ws_cons (e_var rfl (ws_nil ⟨_, _, (vsC rfl vsN), (o_lenL _), (ws_cons (e_cst rfl (ws_nil ⟨_, _, (vsC rfl (vsC rfl vsN)), (o_add _ _), (ws_nil ⟨_, _, (vsC rfl (vsC rfl vsN)), (o_neI (a_thing.length : Int) ((ys6.length : Int) + (1 : Int))), ⟨_, rfl, (fun hc => kT hc h fun h => (xs_cons (x_ret (e_cst rfl ⟨_, rfl, (ret_top (σ := [.is ((eK (eO eS)) .frz a_thing), .is ((eL (eO eS)) .own ys6), .free]) (eq := (fun (y_ : Bool) => ((eB .own y_), none))) (y := false) h (fin_f (.inl rfl) (eB_ok.toEncOk.nbf (false)) rfl))⟩)))), (fun hc => kF hc h fun h => (xs_nil (xs_at [.is ((eK (eO eS)) .frz a_thing), .is ((eL (eO eS)) .own ys6), .free] (xs_cons (x_ret (e_op (ws_cons (bx h fun ys13 hys13 h => (e_compP (f := fun x7 => [((eO eS) .frz x7)]) (enc := eB .own) hys13 [.is ((eK (eO eS)) .frz a_thing), .is ((eL (eO eS)) .own ys6), .free] (ws_cons (e_var rfl (ws_nil ⟨(wk_refl _), _, (vsC rfl vsN), (it_seq ((eO_ok eS_ok.toEncOk).noo _) _), rfl⟩))) rfl (fun x7 b_ h => ⟨[.is ((eK (eO eS)) .frz a_thing), .is ((eL (eO eS)) .own ys6), .is ((eO eS) .frz x7)], rfl, ⟨Option.some.inj h, fun _ => (wn_js (ds := [((eO eS) .frz x7)]) rfl), fun _ y_ h => (bx h fun x10 hx10 h => (bx h fun b12 hb12 h => (e_and' (have h := hx10; (e_call (ws_cons (e_var rfl (ws_nil (bx h fun o8 ho8 h => (bx h fun r9 hr9 h => ⟨_, _, _, (vsC (vcast (odn ho8) rfl) vsN), (bcC (eS_ok.toEncOk.borf _) bcN), call_is_name_a hr9, ⟨rfl, vcast (someD (e := D.bl) h) rfl⟩⟩))))))) (fun _ y12 h => (e_op (ws_cons (e_var rfl (ws_cons (e_var rfl (ws_nil (bx h fun o11 ho11 h => ⟨_, _, (vsC (vcast (odn ho11) rfl) (vsC rfl vsN)), (o_inK _ _), ⟨rfl, congrArg (fun b => Rv.val (.bl b)) (Option.some.inj h)⟩⟩)))))))) hb12 ⟨tcast (someD (e := D.bl) h) rfl, (wn_js (ds := [((eO eS) .frz x7)]) rfl)⟩)))⟩⟩) (ws_nil ⟨_, _, (vsC rfl vsN), (o_all _), ⟨_, rfl, (ret_top (σ := [.is ((eK (eO eS)) .frz a_thing), .is ((eL (eO eS)) .own ys6), .free]) (eq := (fun (y_ : Bool) => ((eB .own y_), none))) (y := (ys13.all id)) h (fin_f (.inl rfl) (eB_ok.toEncOk.nbf ((ys13.all id))) rfl))⟩⟩))))))))))⟩⟩)⟩)))⟩)))))))⟩)))))))))⟩)))))))⟩)))))

theorem all_is_tree_form : ∀ ds q, M 7 ds q → RunOk Γ b_is_tree_form 3 false ds q := by
  intro ds q hm
  rcases hm with ⟨x0, r, h, rfl, rfl⟩ | ⟨x0, r, h, rfl, rfl⟩
  · exact run_is_tree_form_b x0 r h
  · exact run_is_tree_form_f x0 r h

theorem sem_is_tree_form : ∀ ds r o, Γ 7 ds = some (r, o) → o.isSome = false ∧ ∃ fuel, runF fuel Γ b_is_tree_form 3 false ds = some (r, o) := mkG_sem all_is_tree_form

theorem call_is_tree_form_b {a_thing : List (Str × Option (Str))} {r : Bool} (h : F_is_tree_form a_thing = some r) : Γ 7 [((eK (eO eS)) .bor a_thing)] = some ((eB .own r), none) := mkG_call all_is_tree_form (Or.inl ⟨_, _, h, rfl, rfl⟩)

theorem call_is_tree_form_f {a_thing : List (Str × Option (Str))} {r : Bool} (h : F_is_tree_form a_thing = some r) : Γ 7 [((eK (eO eS)) .frz a_thing)] = some ((eB .own r), none) := mkG_call all_is_tree_form (Or.inr ⟨_, _, h, rfl, rfl⟩)

theorem run_Tree_downward_b (a_self : I_Tree) (r : List (Str)) (h : F_Tree_downward a_self = some r) : RunOk Γ b_Tree_downward 4 false [(e_Tree .bor a_self)] ((fun (y_ : List (Str)) => (((eL eS) .own y_), none)) r) := by
  refine run_of ?_
  delta F_Tree_downward at h
  exact (xs_at [.is (e_Tree .bor a_self), .free, .free, .free] (xs_cons (x_asg (e_lst (ws_nil ⟨_, tsN, by decide, (bx h fun found1 hfound1 h => ⟨_, tcast (someD (e := ((eL eS) .own)) hfound1) rfl, rfl, (xs_at [.is (e_Tree .bor a_self), .is ((eL eS) .own found1), .free, .free] (xs_cons (x_asg (e_lst (ws_cons (e_fld (e_var rfl ⟨_, _, _, _, rfl, (Tree_top .bor a_self), (eS_ok.noo .frz _), (ws_nil ⟨[(.str a_self.top)], (tsC rfl tsN), (show 1 ≤ PySem.sizeLine by decide), (bx h fun left2 hleft2 h => ⟨_, tcast (someD (e := ((eL eS) .own)) hleft2) rfl, rfl, (xs_at [.is (e_Tree .bor a_self), .is ((eL eS) .own found1), .is ((eL eS) .own left2), .free] (xs_cons (bx h fun t4 ht4 h => (x_whP ht4 (fun t3 => [.is (e_Tree .bor a_self), .is ((eL eS) .own t3.1), .is ((eL eS) .own t3.2), .free]) (wk_same (wk_same (wk_same (wk_same wk_nil)))) (fun t3 v_ h => (e_op (ws_cons (e_var rfl (ws_cons (e_lst (ws_nil ⟨_, tsN, by decide, (ws_nil (bx h fun b5 hb5 h => ⟨_, _, (vsC rfl (vsC rfl vsN)), (o_neP (pyL pyS) rfl hb5), ⟨vcast (someD (e := D.bl) h) rfl, wk_refl _⟩⟩))⟩))))))) (fun t3 t_ h => (xs_cons (x_asg (bx h fun p6 hp6 h => (e_popL (eS_ok.noo _) rfl hp6 ⟨_, rfl, rfl, (xs_at [.is (e_Tree .bor a_self), .is ((eL eS) .own t3.1), .is ((eL eS) .own p6.2), .is (.str p6.1)] (xs_cons (x_app rfl (p_sl rfl ⟨⟨_, rfl, rfl⟩, (e_var rfl (bx h fun l7 hl7 h => ⟨_, _, _, (tref rfl (eS_ok.noo .frz _)), rfl, (a_app hl7), (xs_at [.is (e_Tree .bor a_self), .is ((eL eS) .own l7), .is ((eL eS) .own p6.2), .is (.str p6.1)] (xs_cons (x_asg (e_op (ws_cons (e_var rfl (ws_cons (e_op (ws_cons (e_fld (e_var rfl ⟨_, _, _, _, rfl, (Tree_below_by .bor a_self), ((eK_ok (eL_ok eS_ok.toEncOk)).nof _), (ws_cons (e_var rfl (ws_nil (bx h fun v8 hv8 h => ⟨_, _, (vsC rfl (vsC rfl vsN)), (o_ixK (eL_ok eS_ok.toEncOk).nof hv8), (ws_nil (bx h fun l9 hl9 h => ⟨_, _, (vsC rfl (vsC rfl vsN)), (o_cat eS_ok hl9), ⟨_, rfl, rfl, (xs_at [.is (e_Tree .bor a_self), .is ((eL eS) .own l7), .is ((eL eS) .own l9), .is (.str p6.1)] (xs_nil (end_ (S := fun t3 => [.is (e_Tree .bor a_self), .is ((eL eS) .own t3.1), .is ((eL eS) .own t3.2), .free]) h (wk_same (wk_same (wk_same (wk_free (eS_ok.noo .frz _) wk_nil)))))))⟩⟩))⟩))))⟩)))))))))))⟩))⟩))))⟩))))) (xs_at [.is (e_Tree .bor a_self), .is ((eL eS) .own t4.1), .is ((eL eS) .own t4.2), .free] (xs_cons (x_ret (e_mov rfl ⟨_, rfl, (ret_top (σ := [.is (e_Tree .bor a_self), .free, .is ((eL eS) .own t4.2), .free]) (eq := (fun (y_ : List (Str)) => (((eL eS) .own y_), none))) (y := t4.1) h (fin_f (.inl rfl) ((eL_ok eS_ok.toEncOk).nbo (t4.1)) rfl))⟩))))))))⟩)⟩)⟩)))))))⟩)⟩)))))

theorem all_Tree_downward : ∀ ds q, M 8 ds q → RunOk Γ b_Tree_downward 4 false ds q := by
  intro ds q hm
  rcases hm with ⟨x0, r, h, rfl, rfl⟩
  · exact run_Tree_downward_b x0 r h

theorem sem_Tree_downward : ∀ ds r o, Γ 8 ds = some (r, o) → o.isSome = false ∧ ∃ fuel, runF fuel Γ b_Tree_downward 4 false ds = some (r, o) := mkG_sem all_Tree_downward

theorem call_Tree_downward_b {a_self : I_Tree} {r : List (Str)} (h : F_Tree_downward a_self = some r) : Γ 8 [(e_Tree .bor a_self)] = some (((eL eS) .own r), none) := mkG_call all_Tree_downward ⟨_, _, h, rfl, rfl⟩

theorem run_Tree__init_ab (a_above_by : List (Str × Option (Str))) (r : Unit × I_Tree) (h : F_Tree__init a_above_by = some r) : RunOk Γ b_Tree__init 6 true [.ins .own 0 [], ((eK (eO eS)) .bor a_above_by)] ((fun (y_ : (Unit × I_Tree)) => (.non, some (e_Tree .own y_.2))) r) := by
  refine run_of ?_
  delta F_Tree__init at h
  exact (xs_at [.is (.ins .own 0 []), .is ((eK (eO eS)) .bor a_above_by), .free, .free, .free, .free] (xs_cons (x_ife (e_not (e_call (ws_cons (e_var rfl (ws_nil (bx h fun r1 hr1 h => ⟨_, _, _, (vsC rfl vsN), (bcC ((eK_ok (eO_ok eS_ok.toEncOk).toEncOk).borb _) bcN), call_is_tree_form_b hr1, ⟨_, rfl, ⟨_, rfl, (fun hc => kT hc h fun h => (xs_cons (nomatch h))), (fun hc => kF hc h fun h => (xs_nil (xs_at [.is (.ins .own 0 []), .is ((eK (eO eS)) .bor a_above_by), .free, .free, .free, .free] (xs_cons (x_setF rfl (e_op (ws_cons (e_var rfl (ws_nil ⟨_, _, (vsC rfl vsN), (o_cpK (eO_ok eS_ok.toEncOk) _), (bx h fun above_by2 habove_by2 h => (p_sl rfl ⟨⟨_, rfl⟩, _, _, _, tcast (someD (e := ((eK (eO eS)) .own)) habove_by2) rfl, rfl, a_newF rfl pa_n, (xs_at [.is (.ins .own 0 [(Sum.inr ("above_by" : Str), ((eK (eO eS)) .own above_by2))]), .is ((eK (eO eS)) .bor a_above_by), .free, .free, .free, .free] (xs_cons (x_setF rfl (bx h fun x4 hx4 h => (bx h fun ks6 hks6 h => (e_dcP (f := fun x5 => [(.str x5)]) (enc := (eL eS) .own) hks6 [.is (.ins .own 0 [(Sum.inr ("above_by" : Str), ((eK (eO eS)) .own above_by2))]), .is ((eK (eO eS)) .bor a_above_by), .free, .free, .free, .free] (ws_isw (d := ((eL eS) .own x4)) (σ1 := [.is (.ins .own 0 [(Sum.inr ("above_by" : Str), ((eK (eO eS)) .own above_by2))]), .is ((eK (eO eS)) .bor a_above_by), .free, .free, .free, .free]) (have h := hx4; (e_op (ws_cons (e_var rfl (ws_nil (bx h fun l3 hl3 h => ⟨_, _, (vsC rfl vsN), (o_srtK hl3), ⟨rfl, congrArg Rv.val (someD (e := ((eL eS) .own)) h)⟩⟩)))))) (ws_nil ⟨(wk_refl _), _, (vsC rfl vsN), (it_seq (eS_ok.noo _) _), rfl⟩)) rfl (fun x5 b_ h => ⟨[.is (.ins .own 0 [(Sum.inr ("above_by" : Str), ((eK (eO eS)) .own above_by2))]), .is ((eK (eO eS)) .bor a_above_by), .is (.str x5), .free, .free, .free], rfl, ⟨Option.some.inj h, fun _ => (wn_js (ds := [(.str x5)]) rfl), fun _ k_ h => (e_var rfl ⟨vcast (someD (e := D.str) h) rfl, fun y_ h => (e_lst (ws_nil ⟨_, tsN, by decide, ⟨tcast (someD (e := ((eL eS) .own)) h) rfl, (wn_js (ds := [(.str x5)]) rfl)⟩⟩))⟩)⟩⟩) (bx h fun below_by7 hbelow_by7 h => (p_sl rfl ⟨⟨_, rfl⟩, _, _, _, tcast (someD (e := ((eK (eL eS)) .own)) hbelow_by7) rfl, rfl, a_newF rfl (pa_s kne_above_by_below_by pa_n), (xs_at [.is (.ins .own 0 [(Sum.inr ("above_by" : Str), ((eK (eO eS)) .own above_by2)), (Sum.inr ("below_by" : Str), ((eK (eL eS)) .own below_by7))]), .is ((eK (eO eS)) .bor a_above_by), .free, .free, .free, .free] (xs_cons (bx h fun x9 hx9 h => (bx h fun t11 ht11 h => (x_forP (f := fun x12 => [(.str x12)]) ht11 (fun t10 => [.is (.ins .own 0 [(Sum.inr ("above_by" : Str), ((eK (eO eS)) .own above_by2)), (Sum.inr ("below_by" : Str), ((eK (eL eS)) .own t10))]), .is ((eK (eO eS)) .bor a_above_by), .free, .free, .free, .free]) (ws_isw (d := ((eL eS) .own x9)) (σ1 := [.is (.ins .own 0 [(Sum.inr ("above_by" : Str), ((eK (eO eS)) .own above_by2)), (Sum.inr ("below_by" : Str), ((eK (eL eS)) .own below_by7))]), .is ((eK (eO eS)) .bor a_above_by), .free, .free, .free, .free]) (have h := hx9; (e_op (ws_cons (e_var rfl (ws_nil (bx h fun l8 hl8 h => ⟨_, _, (vsC rfl vsN), (o_srtK hl8), ⟨rfl, congrArg Rv.val (someD (e := ((eL eS) .own)) h)⟩⟩)))))) (ws_nil ⟨(wk_same (wk_same (wk_same (wk_same (wk_same (wk_same wk_nil)))))), _, (vsC rfl vsN), (it_seq (eS_ok.noo _) _), rfl⟩)) (fun x12 t10 q_ h => ⟨[.is (.ins .own 0 [(Sum.inr ("above_by" : Str), ((eK (eO eS)) .own above_by2)), (Sum.inr ("below_by" : Str), ((eK (eL eS)) .own t10))]), .is ((eK (eO eS)) .bor a_above_by), .is (.str x12), .free, .free, .free], rfl, (xs_cons (bx h fun j13 hj13 h => (x_cut [.is (.ins .own 0 [(Sum.inr ("above_by" : Str), ((eK (eO eS)) .own above_by2)), (Sum.inr ("below_by" : Str), ((eK (eL eS)) .own j13))]), .is ((eK (eO eS)) .bor a_above_by), .is (.str x12), .free, .free, .free] (have h := hj13; (x_ife (e_op (ws_cons (e_op (ws_cons (e_var rfl (ws_cons (e_var rfl (ws_nil (bx h fun v14 hv14 h => ⟨_, _, (vsC rfl (vsC rfl vsN)), (o_ixK ((eO_ok eS_ok.toEncOk).noo _) hv14), (ws_nil ⟨_, _, (vsC rfl vsN), (o_notN (fun _ => rfl)), ⟨_, rfl, (fun hc => kT hc h fun h => (xs_cons (x_app rfl (p_ky (p_fl (p_sl rfl ⟨⟨_, node_f rfl (va_s kne_above_by_below_by va_z)⟩, (e_op (ws_cons (e_var rfl (ws_cons (e_var rfl (ws_nil (bx h fun v15 hv15 h => ⟨_, _, (vsC rfl (vsC rfl vsN)), (o_ixK ((eO_ok eS_ok.toEncOk).noo _) hv15), (bx h fun o16 ho16 h => ⟨_, _, (vcast (odn ho16) rfl), rfl, (bx h fun a_ hn_ h => ⟨⟨_, node_fk rfl (va_s kne_above_by_below_by va_z) hn_, rfl⟩, (e_var rfl (bx h fun l17 hl17 h => ⟨_, _, _, (tref rfl (eS_ok.noo .frz _)), rfl, (a_fld (m := .own) (va_s kne_above_by_below_by va_z) (a_key hl17 (fun a a1 ha_ => (a_app ha_))) (pa_s kne_above_by_below_by pa_z)), (xs_at [.is (.ins .own 0 [(Sum.inr ("above_by" : Str), ((eK (eO eS)) .own above_by2)), (Sum.inr ("below_by" : Str), ((eK (eL eS)) .own l17))]), .is ((eK (eO eS)) .bor a_above_by), .is (.str x12), .free, .free, .free] (xs_nil (end_ (S := fun j13 => [.is (.ins .own 0 [(Sum.inr ("above_by" : Str), ((eK (eO eS)) .own above_by2)), (Sum.inr ("below_by" : Str), ((eK (eL eS)) .own j13))]), .is ((eK (eO eS)) .bor a_above_by), .is (.str x12), .free, .free, .free]) h (wk_same (wk_same (wk_same (wk_same (wk_same (wk_same wk_nil)))))))))⟩))⟩)⟩)⟩)))))))⟩)))))), (fun hc => kF hc h fun h => (xs_nil (end_ (S := fun j13 => [.is (.ins .own 0 [(Sum.inr ("above_by" : Str), ((eK (eO eS)) .own above_by2)), (Sum.inr ("below_by" : Str), ((eK (eL eS)) .own j13))]), .is ((eK (eO eS)) .bor a_above_by), .is (.str x12), .free, .free, .free]) h (wk_same (wk_same (wk_same (wk_same (wk_same (wk_same wk_nil)))))))))⟩⟩)⟩))))))))))) (xs_at [.is (.ins .own 0 [(Sum.inr ("above_by" : Str), ((eK (eO eS)) .own above_by2)), (Sum.inr ("below_by" : Str), ((eK (eL eS)) .own j13))]), .is ((eK (eO eS)) .bor a_above_by), .is (.str x12), .free, .free, .free] (xs_nil (end_ (S := fun t10 => [.is (.ins .own 0 [(Sum.inr ("above_by" : Str), ((eK (eO eS)) .own above_by2)), (Sum.inr ("below_by" : Str), ((eK (eL eS)) .own t10))]), .is ((eK (eO eS)) .bor a_above_by), .free, .free, .free, .free]) h (wk_same (wk_same (wk_free (eS_ok.noo .frz _) (wk_same (wk_same (wk_same wk_nil))))))))))))⟩) (xs_at [.is (.ins .own 0 [(Sum.inr ("above_by" : Str), ((eK (eO eS)) .own above_by2)), (Sum.inr ("below_by" : Str), ((eK (eL eS)) .own t11))]), .is ((eK (eO eS)) .bor a_above_by), .free, .free, .free, .free] (xs_cons (x_setF rfl (e_op (ws_cons (bx h fun ys19 hys19 h => (e_compP (f := fun x18 => [(.str x18.1), ((eO eS) .frz x18.2)]) (enc := eS .own) hys19 [.is (.ins .own 0 [(Sum.inr ("above_by" : Str), ((eK (eO eS)) .own above_by2)), (Sum.inr ("below_by" : Str), ((eK (eL eS)) .own t11))]), .is ((eK (eO eS)) .bor a_above_by), .free, .free, .free, .free] (ws_cons (e_var rfl (ws_nil ⟨(wk_refl _), _, (vsC rfl vsN), (it_items (by decide) _), rfl⟩))) rfl (fun x18 b_ h => ⟨[.is (.ins .own 0 [(Sum.inr ("above_by" : Str), ((eK (eO eS)) .own above_by2)), (Sum.inr ("below_by" : Str), ((eK (eL eS)) .own t11))]), .is ((eK (eO eS)) .bor a_above_by), .is (.str x18.1), .free, .free, .is ((eO eS) .frz x18.2)], rfl, (e_op (ws_cons (e_var rfl (ws_nil ⟨_, _, (vsC rfl vsN), (o_isN (fun _ => rfl)), ⟨_, rfl, Option.some.inj h, fun _ => (wn_js (ds := [(.str x18.1), ((eO eS) .frz x18.2)]) rfl), fun _ y_ h => (e_var rfl ⟨tcast (someD (e := D.str) h) (tref rfl (eS_ok.noo .frz _)), (wn_js (ds := [(.str x18.1), ((eO eS) .frz x18.2)]) rfl)⟩)⟩⟩))))⟩) (ws_cons (e_cst rfl (ws_nil (bx h fun x20 hx20 h => ⟨_, _, (vsC rfl (vsC rfl vsN)), (o_ixL (eS_ok.noo _) hx20), (bx h fun top21 htop21 h => (p_sl rfl ⟨⟨_, rfl⟩, _, _, _, tcast (someD (e := D.str) htop21) rfl, rfl, a_newF rfl (pa_s kne_above_by_top (pa_s kne_below_by_top pa_n)), (xs_at [.is (.ins .own 0 [(Sum.inr ("above_by" : Str), ((eK (eO eS)) .own above_by2)), (Sum.inr ("below_by" : Str), ((eK (eL eS)) .own t11)), (Sum.inr ("top" : Str), (.str top21))]), .is ((eK (eO eS)) .bor a_above_by), .free, .free, .free, .free] (xs_cons (x_setF rfl (e_dct (ws_nil ⟨_, _, tsN, rfl, by decide, (bx h fun branches22 hbranches22 h => (p_sl rfl ⟨⟨_, rfl⟩, _, _, _, tcast (someD (e := ((eK (eF (eL eS))) .own)) hbranches22) rfl, rfl, a_newF rfl (pa_s kne_above_by_branches (pa_s kne_below_by_branches (pa_s kne_top_branches pa_n))), (xs_at [.is (.ins .own 0 [(Sum.inr ("above_by" : Str), ((eK (eO eS)) .own above_by2)), (Sum.inr ("below_by" : Str), ((eK (eL eS)) .own t11)), (Sum.inr ("top" : Str), (.str top21)), (Sum.inr ("branches" : Str), ((eK (eF (eL eS))) .own branches22))]), .is ((eK (eO eS)) .bor a_above_by), .free, .free, .free, .free] (xs_cons (x_preF rfl (va_s kne_above_by_below_by va_z) ((eK_ok (eL_ok eS_ok.toEncOk)).nbo _) ((eK_ok (eL_ok eS_ok.toEncOk)).frz _) (pa_s kne_above_by_below_by pa_z) (x_to [.is (.ins .own 0 [(Sum.inr ("above_by" : Str), ((eK (eO eS)) .own above_by2)), (Sum.inr ("below_by" : Str), ((eK (eL eS)) .frz t11)), (Sum.inr ("top" : Str), (.str top21)), (Sum.inr ("branches" : Str), ((eK (eF (eL eS))) .own branches22))]), .is ((eK (eO eS)) .bor a_above_by), .free, .free, .free, .free] (bx h fun x24 hx24 h => (bx h fun t26 ht26 h => (x_forP (f := fun x27 => [(.str x27)]) ht26 (fun t25 => [.is (.ins .own 0 [(Sum.inr ("above_by" : Str), ((eK (eO eS)) .own above_by2)), (Sum.inr ("below_by" : Str), ((eK (eL eS)) .frz t11)), (Sum.inr ("top" : Str), (.str top21)), (Sum.inr ("branches" : Str), ((eK (eF (eL eS))) .own t25))]), .is ((eK (eO eS)) .bor a_above_by), .free, .any, .free, .free]) (ws_isw (d := ((eL eS) .own x24)) (σ1 := [.is (.ins .own 0 [(Sum.inr ("above_by" : Str), ((eK (eO eS)) .own above_by2)), (Sum.inr ("below_by" : Str), ((eK (eL eS)) .frz t11)), (Sum.inr ("top" : Str), (.str top21)), (Sum.inr ("branches" : Str), ((eK (eF (eL eS))) .own branches22))]), .is ((eK (eO eS)) .bor a_above_by), .free, .free, .free, .free]) (have h := hx24; (e_meth (e_var rfl ⟨_, rfl, (isIns_of (va_sn kne_above_by_downward (va_sn kne_below_by_downward (va_sn kne_top_downward (va_sn kne_branches_downward va_n))))), (ws_nil (bx h fun r23 hr23 h => ⟨_, _, _, (vsC rfl vsN), (bcC (congrArg (D.ins .bor 0) (kcC ((eK_ok (eO_ok eS_ok.toEncOk).toEncOk).bor _) (kcC ((eK_ok (eL_ok eS_ok.toEncOk)).borf _) (kcC (eS_ok.toEncOk.borf _) (kcC ((eK_ok (eF_ok (eL_ok eS_ok.toEncOk)).toEncOk).bor _) kcN))))) bcN), call_Tree_downward_b hr23, ⟨rfl, congrArg Rv.val (someD (e := ((eL eS) .own)) h)⟩⟩))⟩))) (ws_nil ⟨(wk_same (wk_same (wk_same (wk_any (wk_same (wk_same wk_nil)))))), _, (vsC rfl vsN), (it_rev (eS_ok.noo _) _), rfl⟩)) (fun x27 t25 q_ h => ⟨[.is (.ins .own 0 [(Sum.inr ("above_by" : Str), ((eK (eO eS)) .own above_by2)), (Sum.inr ("below_by" : Str), ((eK (eL eS)) .frz t11)), (Sum.inr ("top" : Str), (.str top21)), (Sum.inr ("branches" : Str), ((eK (eF (eL eS))) .own t25))]), .is ((eK (eO eS)) .bor a_above_by), .is (.str x27), .any, .free, .free], rfl, (xs_cons (x_asg (e_lst (ws_cons (e_var rfl (ws_nil ⟨[(.str x27)], (tsC (tref rfl (eS_ok.noo .frz _)) tsN), (show 1 ≤ PySem.sizeLine by decide), (bx h fun found28 hfound28 h => ⟨_, tcast (someD (e := ((eL eS) .own)) hfound28) rfl, rfl, (xs_at [.is (.ins .own 0 [(Sum.inr ("above_by" : Str), ((eK (eO eS)) .own above_by2)), (Sum.inr ("below_by" : Str), ((eK (eL eS)) .frz t11)), (Sum.inr ("top" : Str), (.str top21)), (Sum.inr ("branches" : Str), ((eK (eF (eL eS))) .own t25))]), .is ((eK (eO eS)) .bor a_above_by), .is (.str x27), .is ((eL eS) .own found28), .free, .free] (xs_cons (bx h fun x30 hx30 h => (bx h fun t32 ht32 h => (x_forP (f := fun x33 => [(.str x33)]) ht32 (fun t31 => [.is (.ins .own 0 [(Sum.inr ("above_by" : Str), ((eK (eO eS)) .own above_by2)), (Sum.inr ("below_by" : Str), ((eK (eL eS)) .frz t11)), (Sum.inr ("top" : Str), (.str top21)), (Sum.inr ("branches" : Str), ((eK (eF (eL eS))) .own t25))]), .is ((eK (eO eS)) .bor a_above_by), .is (.str x27), .is ((eL eS) .own t31), .free, .free]) (ws_isw (d := ((eL eS) .frz x30)) (σ1 := [.is (.ins .own 0 [(Sum.inr ("above_by" : Str), ((eK (eO eS)) .own above_by2)), (Sum.inr ("below_by" : Str), ((eK (eL eS)) .frz t11)), (Sum.inr ("top" : Str), (.str top21)), (Sum.inr ("branches" : Str), ((eK (eF (eL eS))) .own t25))]), .is ((eK (eO eS)) .bor a_above_by), .is (.str x27), .is ((eL eS) .own found28), .free, .free]) (have h := hx30; (e_op (ws_cons (e_fld (e_var rfl ⟨_, _, _, _, rfl, (va_s kne_above_by_below_by va_z), ((eK_ok (eL_ok eS_ok.toEncOk)).nof _), (ws_cons (e_var rfl (ws_nil (bx h fun v29 hv29 h => ⟨_, _, (vsC rfl (vsC rfl vsN)), (o_ixK (eL_ok eS_ok.toEncOk).nof hv29), ⟨rfl, congrArg Rv.val (someD (e := ((eL eS) .frz)) h)⟩⟩))))⟩))))) (ws_nil ⟨(wk_same (wk_same (wk_same (wk_same (wk_same (wk_same wk_nil)))))), _, (vsC rfl vsN), (it_seq (eS_ok.noo _) _), rfl⟩)) (fun x33 t31 q_ h => ⟨[.is (.ins .own 0 [(Sum.inr ("above_by" : Str), ((eK (eO eS)) .own above_by2)), (Sum.inr ("below_by" : Str), ((eK (eL eS)) .frz t11)), (Sum.inr ("top" : Str), (.str top21)), (Sum.inr ("branches" : Str), ((eK (eF (eL eS))) .own t25))]), .is ((eK (eO eS)) .bor a_above_by), .is (.str x27), .is ((eL eS) .own t31), .is (.str x33), .free], rfl, (xs_cons (x_asg (e_op (ws_cons (e_var rfl (ws_cons (e_opF rfl rfl (getP_f (va_s kne_above_by_branches (va_s kne_below_by_branches (va_s kne_top_branches va_z)))) (ws_cons (e_var rfl (ws_nil (bx h fun v34 hv34 h => ⟨_, _, _, _, rfl, getP_f (va_s kne_above_by_branches (va_s kne_below_by_branches (va_s kne_top_branches va_z))), (vsC rfl vsN), o_ixK ((eF_ok (eL_ok eS_ok.toEncOk)).noo _) hv34, (ws_nil (bx h fun l35 hl35 h => ⟨_, _, (vsC rfl (vsC rfl vsN)), (o_cat eS_ok hl35), ⟨_, rfl, rfl, (xs_at [.is (.ins .own 0 [(Sum.inr ("above_by" : Str), ((eK (eO eS)) .own above_by2)), (Sum.inr ("below_by" : Str), ((eK (eL eS)) .frz t11)), (Sum.inr ("top" : Str), (.str top21)), (Sum.inr ("branches" : Str), ((eK (eF (eL eS))) .own t25))]), .is ((eK (eO eS)) .bor a_above_by), .is (.str x27), .is ((eL eS) .own l35), .is (.str x33), .free] (xs_nil (end_ (S := fun t31 => [.is (.ins .own 0 [(Sum.inr ("above_by" : Str), ((eK (eO eS)) .own above_by2)), (Sum.inr ("below_by" : Str), ((eK (eL eS)) .frz t11)), (Sum.inr ("top" : Str), (.str top21)), (Sum.inr ("branches" : Str), ((eK (eF (eL eS))) .own t25))]), .is ((eK (eO eS)) .bor a_above_by), .is (.str x27), .is ((eL eS) .own t31), .free, .free]) h (wk_same (wk_same (wk_same (wk_same (wk_free (eS_ok.noo .frz _) (wk_same wk_nil)))))))))⟩⟩))⟩)))))))))))⟩) (xs_at [.is (.ins .own 0 [(Sum.inr ("above_by" : Str), ((eK (eO eS)) .own above_by2)), (Sum.inr ("below_by" : Str), ((eK (eL eS)) .frz t11)), (Sum.inr ("top" : Str), (.str top21)), (Sum.inr ("branches" : Str), ((eK (eF (eL eS))) .own t25))]), .is ((eK (eO eS)) .bor a_above_by), .is (.str x27), .is ((eL eS) .own t32), .free, .free] (xs_cons (x_setK rfl (e_frzE (e_op (ws_cons (e_var rfl (ws_nil (bx h fun l36 hl36 h => ⟨_, _, (vsC rfl vsN), (o_srtS hl36), ⟨_, rfl, ((eL_ok eS_ok.toEncOk).nbo _), (p_fl (p_sl rfl ⟨⟨_, node_f rfl (va_s kne_above_by_branches (va_s kne_below_by_branches (va_s kne_top_branches va_z)))⟩, (e_var rfl (bx h fun d37 hd37 h => ⟨_, _, _, _, _, (tcast ((eL_ok eS_ok.toEncOk).frz _) rfl), rfl, rfl, rfl, (a_fld (m := .own) (va_s kne_above_by_branches (va_s kne_below_by_branches (va_s kne_top_branches va_z))) (a_put hd37) (pa_s kne_above_by_branches (pa_s kne_below_by_branches (pa_s kne_top_branches pa_z)))), (xs_at [.is (.ins .own 0 [(Sum.inr ("above_by" : Str), ((eK (eO eS)) .own above_by2)), (Sum.inr ("below_by" : Str), ((eK (eL eS)) .frz t11)), (Sum.inr ("top" : Str), (.str top21)), (Sum.inr ("branches" : Str), ((eK (eF (eL eS))) .own d37))]), .is ((eK (eO eS)) .bor a_above_by), .is (.str x27), .is ((eL eS) .own t32), .free, .free] (xs_nil (end_ (S := fun t25 => [.is (.ins .own 0 [(Sum.inr ("above_by" : Str), ((eK (eO eS)) .own above_by2)), (Sum.inr ("below_by" : Str), ((eK (eL eS)) .frz t11)), (Sum.inr ("top" : Str), (.str top21)), (Sum.inr ("branches" : Str), ((eK (eF (eL eS))) .own t25))]), .is ((eK (eO eS)) .bor a_above_by), .free, .any, .free, .free]) h (wk_same (wk_same (wk_free (eS_ok.noo .frz _) (wk_any (wk_same (wk_same wk_nil)))))))))⟩))⟩))⟩⟩))))))))))))))⟩)⟩))))))⟩) (xs_at [.is (.ins .own 0 [(Sum.inr ("above_by" : Str), ((eK (eO eS)) .own above_by2)), (Sum.inr ("below_by" : Str), ((eK (eL eS)) .frz t11)), (Sum.inr ("top" : Str), (.str top21)), (Sum.inr ("branches" : Str), ((eK (eF (eL eS))) .own t26))]), .is ((eK (eO eS)) .bor a_above_by), .free, .any, .free, .free] (xs_cons (x_ife (e_op (ws_cons (e_op (ws_cons (e_opF rfl rfl (getP_f (va_s kne_above_by_branches (va_s kne_below_by_branches (va_s kne_top_branches va_z)))) (ws_cons (e_fld (e_var rfl ⟨_, _, _, _, rfl, (va_s kne_above_by_top (va_s kne_below_by_top va_z)), (eS_ok.noo .frz _), (ws_nil (bx h fun v38 hv38 h => ⟨_, _, _, _, rfl, getP_f (va_s kne_above_by_branches (va_s kne_below_by_branches (va_s kne_top_branches va_z))), (vsC rfl vsN), o_ixK ((eF_ok (eL_ok eS_ok.toEncOk)).noo _) hv38, (ws_nil ⟨_, _, (vsC rfl vsN), (o_lenL _), (ws_cons (e_op (ws_cons (e_var rfl (ws_nil ⟨_, _, (vsC rfl vsN), (o_lenK _), (ws_nil ⟨_, _, (vsC rfl (vsC rfl vsN)), (o_lt _ _), ⟨_, rfl, (fun hc => kT hc h fun h => (xs_cons (nomatch h))), (fun hc => kF hc h fun h => (xs_nil (xs_at [.is (.ins .own 0 [(Sum.inr ("above_by" : Str), ((eK (eO eS)) .own above_by2)), (Sum.inr ("below_by" : Str), ((eK (eL eS)) .frz t11)), (Sum.inr ("top" : Str), (.str top21)), (Sum.inr ("branches" : Str), ((eK (eF (eL eS))) .own t26))]), .is ((eK (eO eS)) .bor a_above_by), .free, .any, .free, .free] (xs_nil (ret_top (σ := [.is (.ins .own 0 [(Sum.inr ("above_by" : Str), ((eK (eO eS)) .own above_by2)), (Sum.inr ("below_by" : Str), ((eK (eL eS)) .frz t11)), (Sum.inr ("top" : Str), (.str top21)), (Sum.inr ("branches" : Str), ((eK (eF (eL eS))) .own t26))]), .is ((eK (eO eS)) .bor a_above_by), .free, .any, .free, .free]) (eq := (fun (y_ : (Unit × I_Tree)) => (.non, some (e_Tree .own y_.2)))) (y := ((), ⟨above_by2, t11, top21, t26⟩)) h (fin_t (.inr ⟨rfl, rfl⟩) rfl rfl (e_Tree_ok.nbo (⟨above_by2, t11, top21, t26⟩ : I_Tree)) rfl))))))⟩⟩)⟩)))))⟩)⟩))⟩))))))))))))))))))⟩))⟩)))))⟩))⟩))))))))))))))))⟩))))))))⟩))⟩)))))))))⟩⟩⟩)))))))))

theorem run_Tree__init_af (a_above_by : List (Str × Option (Str))) (r : Unit × I_Tree) (h : F_Tree__init a_above_by = some r) : RunOk Γ b_Tree__init 6 true [.ins .own 0 [], ((eK (eO eS)) .frz a_above_by)] ((fun (y_ : (Unit × I_Tree)) => (.non, some (e_Tree .own y_.2))) r) := by
  refine run_of ?_
  delta F_Tree__init at h
  exact (xs_at [.is (.ins .own 0 []), .is ((eK (eO eS)) .frz a_above_by), .free, .free, .free, .free] (xs_cons (x_ife (e_not (e_call (ws_cons (e_var rfl (ws_nil (bx h fun r1 hr1 h => ⟨_, _, _, (vsC rfl vsN), (bcC ((eK_ok (eO_ok eS_ok.toEncOk).toEncOk).borf _) bcN), call_is_tree_form_f hr1, ⟨_, rfl, ⟨_, rfl, (fun hc => kT hc h fun h => (xs_cons (nomatch h))), (fun hc => kF hc h fun h => (xs_nil (xs_at [.is (.ins .own 0 []), .is ((eK (eO eS)) .frz a_above_by), .free, .free, .free, .free] (xs_cons (x_setF rfl (e_op (ws_cons (e_var rfl (ws_nil ⟨_, _, (vsC rfl vsN), (o_cpK (eO_ok eS_ok.toEncOk) _), (bx h fun above_by2 habove_by2 h => (p_sl rfl ⟨⟨_, rfl⟩, _, _, _, tcast (someD (e := ((eK (eO eS)) .own)) habove_by2) rfl, rfl, a_newF rfl pa_n, (xs_at [.is (.ins .own 0 [(Sum.inr ("above_by" : Str), ((eK (eO eS)) .own above_by2))]), .is ((eK (eO eS)) .frz a_above_by), .free, .free, .free, .free] (xs_cons (x_setF rfl (bx h fun x4 hx4 h => (bx h fun ks6 hks6 h => (e_dcP (f := fun x5 => [(.str x5)]) (enc := (eL eS) .own) hks6 [.is (.ins .own 0 [(Sum.inr ("above_by" : Str), ((eK (eO eS)) .own above_by2))]), .is ((eK (eO eS)) .frz a_above_by), .free, .free, .free, .free] (ws_isw (d := ((eL eS) .own x4)) (σ1 := [.is (.ins .own 0 [(Sum.inr ("above_by" : Str), ((eK (eO eS)) .own above_by2))]), .is ((eK (eO eS)) .frz a_above_by), .free, .free, .free, .free]) (have h := hx4; (e_op (ws_cons (e_var rfl (ws_nil (bx h fun l3 hl3 h => ⟨_, _, (vsC rfl vsN), (o_srtK hl3), ⟨rfl, congrArg Rv.val (someD (e := ((eL eS) .own)) h)⟩⟩)))))) (ws_nil ⟨(wk_refl _), _, (vsC rfl vsN), (it_seq (eS_ok.noo _) _), rfl⟩)) rfl (fun x5 b_ h => ⟨[.is (.ins .own 0 [(Sum.inr ("above_by" : Str), ((eK (eO eS)) .own above_by2))]), .is ((eK (eO eS)) .frz a_above_by), .is (.str x5), .free, .free, .free], rfl, ⟨Option.some.inj h, fun _ => (wn_js (ds := [(.str x5)]) rfl), fun _ k_ h => (e_var rfl ⟨vcast (someD (e := D.str) h) rfl, fun y_ h => (e_lst (ws_nil ⟨_, tsN, by decide, ⟨tcast (someD (e := ((eL eS) .own)) h) rfl, (wn_js (ds := [(.str x5)]) rfl)⟩⟩))⟩)⟩⟩) (bx h fun below_by7 hbelow_by7 h => (p_sl rfl ⟨⟨_, rfl⟩, _, _, _, tcast (someD (e := ((eK (eL eS)) .own)) hbelow_by7) rfl, rfl, a_newF rfl (pa_s kne_above_by_below_by pa_n), (xs_at [.is (.ins .own 0 [(Sum.inr ("above_by" : Str), ((eK (eO eS)) .own above_by2)), (Sum.inr ("below_by" : Str), ((eK (eL eS)) .own below_by7))]), .is ((eK (eO eS)) .frz a_above_by), .free, .free, .free, .free] (xs_cons (bx h fun x9 hx9 h => (bx h fun t11 ht11 h => (x_forP (f := fun x12 => [(.str x12)]) ht11 (fun t10 => [.is (.ins .own 0 [(Sum.inr ("above_by" : Str), ((eK (eO eS)) .own above_by2)), (Sum.inr ("below_by" : Str), ((eK (eL eS)) .own t10))]), .is ((eK (eO eS)) .frz a_above_by), .free, .free, .free, .free]) (ws_isw (d := ((eL eS) .own x9)) (σ1 := [.is (.ins .own 0 [(Sum.inr ("above_by" : Str), ((eK (eO eS)) .own above_by2)), (Sum.inr ("below_by" : Str), ((eK (eL eS)) .own below_by7))]), .is ((eK (eO eS)) .frz a_above_by), .free, .free, .free, .free]) (have h := hx9; (e_op (ws_cons (e_var rfl (ws_nil (bx h fun l8 hl8 h => ⟨_, _, (vsC rfl vsN), (o_srtK hl8), ⟨rfl, congrArg Rv.val (someD (e := ((eL eS) .own)) h)⟩⟩)))))) (ws_nil ⟨(wk_same (wk_same (wk_same (wk_same (wk_same (wk_same wk_nil)))))), _, (vsC rfl vsN), (it_seq (eS_ok.noo _) _), rfl⟩)) (fun x12 t10 q_ h => ⟨[.is (.ins .own 0 [(Sum.inr ("above_by" : Str), ((eK (eO eS)) .own above_by2)), (Sum.inr ("below_by" : Str), ((eK (eL eS)) .own t10))]), .is ((eK (eO eS)) .frz a_above_by), .is (.str x12), .free, .free, .free], rfl, (xs_cons (bx h fun j13 hj13 h => (x_cut [.is (.ins .own 0 [(Sum.inr ("above_by" : Str), ((eK (eO eS)) .own above_by2)), (Sum.inr ("below_by" : Str), ((eK (eL eS)) .own j13))]), .is ((eK (eO eS)) .frz a_above_by), .is (.str x12), .free, .free, .free] (have h := hj13; (x_ife (e_op (ws_cons (e_op (ws_cons (e_var rfl (ws_cons (e_var rfl (ws_nil (bx h fun v14 hv14 h => ⟨_, _, (vsC rfl (vsC rfl vsN)), (o_ixK ((eO_ok eS_ok.toEncOk).noo _) hv14), (ws_nil ⟨_, _, (vsC rfl vsN), (o_notN (fun _ => rfl)), ⟨_, rfl, (fun hc => kT hc h fun h => (xs_cons (x_app rfl (p_ky (p_fl (p_sl rfl ⟨⟨_, node_f rfl (va_s kne_above_by_below_by va_z)⟩, (e_op (ws_cons (e_var rfl (ws_cons (e_var rfl (ws_nil (bx h fun v15 hv15 h => ⟨_, _, (vsC rfl (vsC rfl vsN)), (o_ixK ((eO_ok eS_ok.toEncOk).noo _) hv15), (bx h fun o16 ho16 h => ⟨_, _, (vcast (odn ho16) rfl), rfl, (bx h fun a_ hn_ h => ⟨⟨_, node_fk rfl (va_s kne_above_by_below_by va_z) hn_, rfl⟩, (e_var rfl (bx h fun l17 hl17 h => ⟨_, _, _, (tref rfl (eS_ok.noo .frz _)), rfl, (a_fld (m := .own) (va_s kne_above_by_below_by va_z) (a_key hl17 (fun a a1 ha_ => (a_app ha_))) (pa_s kne_above_by_below_by pa_z)), (xs_at [.is (.ins .own 0 [(Sum.inr ("above_by" : Str), ((eK (eO eS)) .own above_by2)), (Sum.inr ("below_by" : Str), ((eK (eL eS)) .own l17))]), .is ((eK (eO eS)) .frz a_above_by), .is (.str x12), .free, .free, .free] (xs_nil (end_ (S := fun j13 => [.is (.ins .own 0 [(Sum.inr ("above_by" : Str), ((eK (eO eS)) .own above_by2)), (Sum.inr ("below_by" : Str), ((eK (eL eS)) .own j13))]), .is ((eK (eO eS)) .frz a_above_by), .is (.str x12), .free, .free, .free]) h (wk_same (wk_same (wk_same (wk_same (wk_same (wk_same wk_nil)))))))))⟩))⟩)⟩)⟩)))))))⟩)))))), (fun hc => kF hc h fun h => (xs_nil (end_ (S := fun j13 => [.is (.ins .own 0 [(Sum.inr ("above_by" : Str), ((eK (eO eS)) .own above_by2)), (Sum.inr ("below_by" : Str), ((eK (eL eS)) .own j13))]), .is ((eK (eO eS)) .frz a_above_by), .is (.str x12), .free, .free, .free]) h (wk_same (wk_same (wk_same (wk_same (wk_same (wk_same wk_nil)))))))))⟩⟩)⟩))))))))))) (xs_at [.is (.ins .own 0 [(Sum.inr ("above_by" : Str), ((eK (eO eS)) .own above_by2)), (Sum.inr ("below_by" : Str), ((eK (eL eS)) .own j13))]), .is ((eK (eO eS)) .frz a_above_by), .is (.str x12), .free, .free, .free] (xs_nil (end_ (S := fun t10 => [.is (.ins .own 0 [(Sum.inr ("above_by" : Str), ((eK (eO eS)) .own above_by2)), (Sum.inr ("below_by" : Str), ((eK (eL eS)) .own t10))]), .is ((eK (eO eS)) .frz a_above_by), .free, .free, .free, .free]) h (wk_same (wk_same (wk_free (eS_ok.noo .frz _) (wk_same (wk_same (wk_same wk_nil))))))))))))⟩) (xs_at [.is (.ins .own 0 [(Sum.inr ("above_by" : Str), ((eK (eO eS)) .own above_by2)), (Sum.inr ("below_by" : Str), ((eK (eL eS)) .own t11))]), .is ((eK (eO eS)) .frz a_above_by), .free, .free, .free, .free] (xs_cons (x_setF rfl (e_op (ws_cons (bx h fun ys19 hys19 h => (e_compP (f := fun x18 => [(.str x18.1), ((eO eS) .frz x18.2)]) (enc := eS .own) hys19 [.is (.ins .own 0 [(Sum.inr ("above_by" : Str), ((eK (eO eS)) .own above_by2)), (Sum.inr ("below_by" : Str), ((eK (eL eS)) .own t11))]), .is ((eK (eO eS)) .frz a_above_by), .free, .free, .free, .free] (ws_cons (e_var rfl (ws_nil ⟨(wk_refl _), _, (vsC rfl vsN), (it_items (by decide) _), rfl⟩))) rfl (fun x18 b_ h => ⟨[.is (.ins .own 0 [(Sum.inr ("above_by" : Str), ((eK (eO eS)) .own above_by2)), (Sum.inr ("below_by" : Str), ((eK (eL eS)) .own t11))]), .is ((eK (eO eS)) .frz a_above_by), .is (.str x18.1), .free, .free, .is ((eO eS) .frz x18.2)], rfl, (e_op (ws_cons (e_var rfl (ws_nil ⟨_, _, (vsC rfl vsN), (o_isN (fun _ => rfl)), ⟨_, rfl, Option.some.inj h, fun _ => (wn_js (ds := [(.str x18.1), ((eO eS) .frz x18.2)]) rfl), fun _ y_ h => (e_var rfl ⟨tcast (someD (e := D.str) h) (tref rfl (eS_ok.noo .frz _)), (wn_js (ds := [(.str x18.1), ((eO eS) .frz x18.2)]) rfl)⟩)⟩⟩))))⟩) (ws_cons (e_cst rfl (ws_nil (bx h fun x20 hx20 h => ⟨_, _, (vsC rfl (vsC rfl vsN)), (o_ixL (eS_ok.noo _) hx20), (bx h fun top21 htop21 h => (p_sl rfl ⟨⟨_, rfl⟩, _, _, _, tcast (someD (e := D.str) htop21) rfl, rfl, a_newF rfl (pa_s kne_above_by_top (pa_s kne_below_by_top pa_n)), (xs_at [.is (.ins .own 0 [(Sum.inr ("above_by" : Str), ((eK (eO eS)) .own above_by2)), (Sum.inr ("below_by" : Str), ((eK (eL eS)) .own t11)), (Sum.inr ("top" : Str), (.str top21))]), .is ((eK (eO eS)) .frz a_above_by), .free, .free, .free, .free] (xs_cons (x_setF rfl (e_dct (ws_nil ⟨_, _, tsN, rfl, by decide, (bx h fun branches22 hbranches22 h => (p_sl rfl ⟨⟨_, rfl⟩, _, _, _, tcast (someD (e := ((eK (eF (eL eS))) .own)) hbranches22) rfl, rfl, a_newF rfl (pa_s kne_above_by_branches (pa_s kne_below_by_branches (pa_s kne_top_branches pa_n))), (xs_at [.is (.ins .own 0 [(Sum.inr ("above_by" : Str), ((eK (eO eS)) .own above_by2)), (Sum.inr ("below_by" : Str), ((eK (eL eS)) .own t11)), (Sum.inr ("top" : Str), (.str top21)), (Sum.inr ("branches" : Str), ((eK (eF (eL eS))) .own branches22))]), .is ((eK (eO eS)) .frz a_above_by), .free, .free, .free, .free] (xs_cons (x_preF rfl (va_s kne_above_by_below_by va_z) ((eK_ok (eL_ok eS_ok.toEncOk)).nbo _) ((eK_ok (eL_ok eS_ok.toEncOk)).frz _) (pa_s kne_above_by_below_by pa_z) (x_to [.is (.ins .own 0 [(Sum.inr ("above_by" : Str), ((eK (eO eS)) .own above_by2)), (Sum.inr ("below_by" : Str), ((eK (eL eS)) .frz t11)), (Sum.inr ("top" : Str), (.str top21)), (Sum.inr ("branches" : Str), ((eK (eF (eL eS))) .own branches22))]), .is ((eK (eO eS)) .frz a_above_by), .free, .free, .free, .free] (bx h fun x24 hx24 h => (bx h fun t26 ht26 h => (x_forP (f := fun x27 => [(.str x27)]) ht26 (fun t25 => [.is (.ins .own 0 [(Sum.inr ("above_by" : Str), ((eK (eO eS)) .own above_by2)), (Sum.inr ("below_by" : Str), ((eK (eL eS)) .frz t11)), (Sum.inr ("top" : Str), (.str top21)), (Sum.inr ("branches" : Str), ((eK (eF (eL eS))) .own t25))]), .is ((eK (eO eS)) .frz a_above_by), .free, .any, .free, .free]) (ws_isw (d := ((eL eS) .own x24)) (σ1 := [.is (.ins .own 0 [(Sum.inr ("above_by" : Str), ((eK (eO eS)) .own above_by2)), (Sum.inr ("below_by" : Str), ((eK (eL eS)) .frz t11)), (Sum.inr ("top" : Str), (.str top21)), (Sum.inr ("branches" : Str), ((eK (eF (eL eS))) .own branches22))]), .is ((eK (eO eS)) .frz a_above_by), .free, .free, .free, .free]) (have h := hx24; (e_meth (e_var rfl ⟨_, rfl, (isIns_of (va_sn kne_above_by_downward (va_sn kne_below_by_downward (va_sn kne_top_downward (va_sn kne_branches_downward va_n))))), (ws_nil (bx h fun r23 hr23 h => ⟨_, _, _, (vsC rfl vsN), (bcC (congrArg (D.ins .bor 0) (kcC ((eK_ok (eO_ok eS_ok.toEncOk).toEncOk).bor _) (kcC ((eK_ok (eL_ok eS_ok.toEncOk)).borf _) (kcC (eS_ok.toEncOk.borf _) (kcC ((eK_ok (eF_ok (eL_ok eS_ok.toEncOk)).toEncOk).bor _) kcN))))) bcN), call_Tree_downward_b hr23, ⟨rfl, congrArg Rv.val (someD (e := ((eL eS) .own)) h)⟩⟩))⟩))) (ws_nil ⟨(wk_same (wk_same (wk_same (wk_any (wk_same (wk_same wk_nil)))))), _, (vsC rfl vsN), (it_rev (eS_ok.noo _) _), rfl⟩)) (fun x27 t25 q_ h => ⟨[.is (.ins .own 0 [(Sum.inr ("above_by" : Str), ((eK (eO eS)) .own above_by2)), (Sum.inr ("below_by" : Str), ((eK (eL eS)) .frz t11)), (Sum.inr ("top" : Str), (.str top21)), (Sum.inr ("branches" : Str), ((eK (eF (eL eS))) .own t25))]), .is ((eK (eO eS)) .frz a_above_by), .is (.str x27), .any, .free, .free], rfl, (xs_cons (x_asg (e_lst (ws_cons (e_var rfl (ws_nil ⟨[(.str x27)], (tsC (tref rfl (eS_ok.noo .frz _)) tsN), (show 1 ≤ PySem.sizeLine by decide), (bx h fun found28 hfound28 h => ⟨_, tcast (someD (e := ((eL eS) .own)) hfound28) rfl, rfl, (xs_at [.is (.ins .own 0 [(Sum.inr ("above_by" : Str), ((eK (eO eS)) .own above_by2)), (Sum.inr ("below_by" : Str), ((eK (eL eS)) .frz t11)), (Sum.inr ("top" : Str), (.str top21)), (Sum.inr ("branches" : Str), ((eK (eF (eL eS))) .own t25))]), .is ((eK (eO eS)) .frz a_above_by), .is (.str x27), .is ((eL eS) .own found28), .free, .free] (xs_cons (bx h fun x30 hx30 h => (bx h fun t32 ht32 h => (x_forP (f := fun x33 => [(.str x33)]) ht32 (fun t31 => [.is (.ins .own 0 [(Sum.inr ("above_by" : Str), ((eK (eO eS)) .own above_by2)), (Sum.inr ("below_by" : Str), ((eK (eL eS)) .frz t11)), (Sum.inr ("top" : Str), (.str top21)), (Sum.inr ("branches" : Str), ((eK (eF (eL eS))) .own t25))]), .is ((eK (eO eS)) .frz a_above_by), .is (.str x27), .is ((eL eS) .own t31), .free, .free]) (ws_isw (d := ((eL eS) .frz x30)) (σ1 := [.is (.ins .own 0 [(Sum.inr ("above_by" : Str), ((eK (eO eS)) .own above_by2)), (Sum.inr ("below_by" : Str), ((eK (eL eS)) .frz t11)), (Sum.inr ("top" : Str), (.str top21)), (Sum.inr ("branches" : Str), ((eK (eF (eL eS))) .own t25))]), .is ((eK (eO eS)) .frz a_above_by), .is (.str x27), .is ((eL eS) .own found28), .free, .free]) (have h := hx30; (e_op (ws_cons (e_fld (e_var rfl ⟨_, _, _, _, rfl, (va_s kne_above_by_below_by va_z), ((eK_ok (eL_ok eS_ok.toEncOk)).nof _), (ws_cons (e_var rfl (ws_nil (bx h fun v29 hv29 h => ⟨_, _, (vsC rfl (vsC rfl vsN)), (o_ixK (eL_ok eS_ok.toEncOk).nof hv29), ⟨rfl, congrArg Rv.val (someD (e := ((eL eS) .frz)) h)⟩⟩))))⟩))))) (ws_nil ⟨(wk_same (wk_same (wk_same (wk_same (wk_same (wk_same wk_nil)))))), _, (vsC rfl vsN), (it_seq (eS_ok.noo _) _), rfl⟩)) (fun x33 t31 q_ h => ⟨[.is (.ins .own 0 [(Sum.inr ("above_by" : Str), ((eK (eO eS)) .own above_by2)), (Sum.inr ("below_by" : Str), ((eK (eL eS)) .frz t11)), (Sum.inr ("top" : Str), (.str top21)), (Sum.inr ("branches" : Str), ((eK (eF (eL eS))) .own t25))]), .is ((eK (eO eS)) .frz a_above_by), .is (.str x27), .is ((eL eS) .own t31), .is (.str x33), .free], rfl, (xs_cons (x_asg (e_op (ws_cons (e_var rfl (ws_cons (e_opF rfl rfl (getP_f (va_s kne_above_by_branches (va_s kne_below_by_branches (va_s kne_top_branches va_z)))) (ws_cons (e_var rfl (ws_nil (bx h fun v34 hv34 h => ⟨_, _, _, _, rfl, getP_f (va_s kne_above_by_branches (va_s kne_below_by_branches (va_s kne_top_branches va_z))), (vsC rfl vsN), o_ixK ((eF_ok (eL_ok eS_ok.toEncOk)).noo _) hv34, (ws_nil (bx h fun l35 hl35 h => ⟨_, _, (vsC rfl (vsC rfl vsN)), (o_cat eS_ok hl35), ⟨_, rfl, rfl, (xs_at [.is (.ins .own 0 [(Sum.inr ("above_by" : Str), ((eK (eO eS)) .own above_by2)), (Sum.inr ("below_by" : Str), ((eK (eL eS)) .frz t11)), (Sum.inr ("top" : Str), (.str top21)), (Sum.inr ("branches" : Str), ((eK (eF (eL eS))) .own t25))]), .is ((eK (eO eS)) .frz a_above_by), .is (.str x27), .is ((eL eS) .own l35), .is (.str x33), .free] (xs_nil (end_ (S := fun t31 => [.is (.ins .own 0 [(Sum.inr ("above_by" : Str), ((eK (eO eS)) .own above_by2)), (Sum.inr ("below_by" : Str), ((eK (eL eS)) .frz t11)), (Sum.inr ("top" : Str), (.str top21)), (Sum.inr ("branches" : Str), ((eK (eF (eL eS))) .own t25))]), .is ((eK (eO eS)) .frz a_above_by), .is (.str x27), .is ((eL eS) .own t31), .free, .free]) h (wk_same (wk_same (wk_same (wk_same (wk_free (eS_ok.noo .frz _) (wk_same wk_nil)))))))))⟩⟩))⟩)))))))))))⟩) (xs_at [.is (.ins .own 0 [(Sum.inr ("above_by" : Str), ((eK (eO eS)) .own above_by2)), (Sum.inr ("below_by" : Str), ((eK (eL eS)) .frz t11)), (Sum.inr ("top" : Str), (.str top21)), (Sum.inr ("branches" : Str), ((eK (eF (eL eS))) .own t25))]), .is ((eK (eO eS)) .frz a_above_by), .is (.str x27), .is ((eL eS) .own t32), .free, .free] (xs_cons (x_setK rfl (e_frzE (e_op (ws_cons (e_var rfl (ws_nil (bx h fun l36 hl36 h => ⟨_, _, (vsC rfl vsN), (o_srtS hl36), ⟨_, rfl, ((eL_ok eS_ok.toEncOk).nbo _), (p_fl (p_sl rfl ⟨⟨_, node_f rfl (va_s kne_above_by_branches (va_s kne_below_by_branches (va_s kne_top_branches va_z)))⟩, (e_var rfl (bx h fun d37 hd37 h => ⟨_, _, _, _, _, (tcast ((eL_ok eS_ok.toEncOk).frz _) rfl), rfl, rfl, rfl, (a_fld (m := .own) (va_s kne_above_by_branches (va_s kne_below_by_branches (va_s kne_top_branches va_z))) (a_put hd37) (pa_s kne_above_by_branches (pa_s kne_below_by_branches (pa_s kne_top_branches pa_z)))), (xs_at [.is (.ins .own 0 [(Sum.inr ("above_by" : Str), ((eK (eO eS)) .own above_by2)), (Sum.inr ("below_by" : Str), ((eK (eL eS)) .frz t11)), (Sum.inr ("top" : Str), (.str top21)), (Sum.inr ("branches" : Str), ((eK (eF (eL eS))) .own d37))]), .is ((eK (eO eS)) .frz a_above_by), .is (.str x27), .is ((eL eS) .own t32), .free, .free] (xs_nil (end_ (S := fun t25 => [.is (.ins .own 0 [(Sum.inr ("above_by" : Str), ((eK (eO eS)) .own above_by2)), (Sum.inr ("below_by" : Str), ((eK (eL eS)) .frz t11)), (Sum.inr ("top" : Str), (.str top21)), (Sum.inr ("branches" : Str), ((eK (eF (eL eS))) .own t25))]), .is ((eK (eO eS)) .frz a_above_by), .free, .any, .free, .free]) h (wk_same (wk_same (wk_free (eS_ok.noo .frz _) (wk_any (wk_same (wk_same wk_nil)))))))))⟩))⟩))⟩⟩))))))))))))))⟩)⟩))))))⟩) (xs_at [.is (.ins .own 0 [(Sum.inr ("above_by" : Str), ((eK (eO eS)) .own above_by2)), (Sum.inr ("below_by" : Str), ((eK (eL eS)) .frz t11)), (Sum.inr ("top" : Str), (.str top21)), (Sum.inr ("branches" : Str), ((eK (eF (eL eS))) .own t26))]), .is ((eK (eO eS)) .frz a_above_by), .free, .any, .free, .free] (xs_cons (x_ife (e_op (ws_cons (e_op (ws_cons (e_opF rfl rfl (getP_f (va_s kne_above_by_branches (va_s kne_below_by_branches (va_s kne_top_branches va_z)))) (ws_cons (e_fld (e_var rfl ⟨_, _, _, _, rfl, (va_s kne_above_by_top (va_s kne_below_by_top va_z)), (eS_ok.noo .frz _), (ws_nil (bx h fun v38 hv38 h => ⟨_, _, _, _, rfl, getP_f (va_s kne_above_by_branches (va_s kne_below_by_branches (va_s kne_top_branches va_z))), (vsC rfl vsN), o_ixK ((eF_ok (eL_ok eS_ok.toEncOk)).noo _) hv38, (ws_nil ⟨_, _, (vsC rfl vsN), (o_lenL _), (ws_cons (e_op (ws_cons (e_var rfl (ws_nil ⟨_, _, (vsC rfl vsN), (o_lenK _), (ws_nil ⟨_, _, (vsC rfl (vsC rfl vsN)), (o_lt _ _), ⟨_, rfl, (fun hc => kT hc h fun h => (xs_cons (nomatch h))), (fun hc => kF hc h fun h => (xs_nil (xs_at [.is (.ins .own 0 [(Sum.inr ("above_by" : Str), ((eK (eO eS)) .own above_by2)), (Sum.inr ("below_by" : Str), ((eK (eL eS)) .frz t11)), (Sum.inr ("top" : Str), (.str top21)), (Sum.inr ("branches" : Str), ((eK (eF (eL eS))) .own t26))]), .is ((eK (eO eS)) .frz a_above_by), .free, .any, .free, .free] (xs_nil (ret_top (σ := [.is (.ins .own 0 [(Sum.inr ("above_by" : Str), ((eK (eO eS)) .own above_by2)), (Sum.inr ("below_by" : Str), ((eK (eL eS)) .frz t11)), (Sum.inr ("top" : Str), (.str top21)), (Sum.inr ("branches" : Str), ((eK (eF (eL eS))) .own t26))]), .is ((eK (eO eS)) .frz a_above_by), .free, .any, .free, .free]) (eq := (fun (y_ : (Unit × I_Tree)) => (.non, some (e_Tree .own y_.2)))) (y := ((), ⟨above_by2, t11, top21, t26⟩)) h (fin_t (.inr ⟨rfl, rfl⟩) rfl rfl (e_Tree_ok.nbo (⟨above_by2, t11, top21, t26⟩ : I_Tree)) rfl))))))⟩⟩)⟩)))))⟩)⟩))⟩))))))))))))))))))⟩))⟩)))))⟩))⟩))))))))))))))))⟩))))))))⟩))⟩)))))))))⟩⟩⟩)))))))))

theorem all_Tree__init : ∀ ds q, M 9 ds q → RunOk Γ b_Tree__init 6 true ds q := by
  intro ds q hm
  rcases hm with ⟨x0, r, h, rfl, rfl⟩ | ⟨x0, r, h, rfl, rfl⟩
  · exact run_Tree__init_ab x0 r h
  · exact run_Tree__init_af x0 r h

theorem sem_Tree__init : ∀ ds r o, Γ 9 ds = some (r, o) → o.isSome = true ∧ ∃ fuel, runF fuel Γ b_Tree__init 6 true ds = some (r, o) := mkG_sem all_Tree__init

theorem call_Tree__init_ab {a_above_by : List (Str × Option (Str))} {r : Unit × I_Tree} (h : F_Tree__init a_above_by = some r) : Γ 9 [.ins .own 0 [], ((eK (eO eS)) .bor a_above_by)] = some (.non, some (e_Tree .own r.2)) := mkG_call all_Tree__init (Or.inl ⟨_, _, h, rfl, rfl⟩)

theorem call_Tree__init_af {a_above_by : List (Str × Option (Str))} {r : Unit × I_Tree} (h : F_Tree__init a_above_by = some r) : Γ 9 [.ins .own 0 [], ((eK (eO eS)) .frz a_above_by)] = some (.non, some (e_Tree .own r.2)) := mkG_call all_Tree__init (Or.inr ⟨_, _, h, rfl, rfl⟩)

theorem run_Tree_checked_ba (a_self : I_Tree) (a_post : Str) (r : Str) (h : F_Tree_checked a_self a_post = some r) : RunOk Γ b_Tree_checked 2 false [(e_Tree .bor a_self), (.str a_post)] ((fun (y_ : Str) => ((eS .own y_), none)) r) := by
  refine run_of ?_
  delta F_Tree_checked at h
  exact (xs_at [.is (e_Tree .bor a_self), .is (.str a_post)] (xs_cons (x_ife (bx h fun x2 hx2 h => (e_or' (have h := hx2; (e_not (e_call (ws_cons (e_var rfl (ws_nil (bx h fun r1 hr1 h => ⟨_, _, _, (vsC rfl vsN), (bcC (eS_ok.toEncOk.borf _) bcN), call_is_name_a hr1, ⟨_, rfl, ⟨rfl, vcast (someD (e := D.bl) h) rfl⟩⟩⟩))))))) (fun _ y3 h => (e_op (ws_cons (e_var rfl (ws_cons (e_fld (e_var rfl ⟨_, _, _, _, rfl, (Tree_above_by .bor a_self), ((eK_ok (eO_ok eS_ok.toEncOk).toEncOk).nob _), (ws_nil ⟨_, _, (vsC rfl (vsC rfl vsN)), (o_ninK _ _), ⟨rfl, congrArg (fun b => Rv.val (.bl b)) (Option.some.inj h)⟩⟩)⟩))))))) (orO_tot _ _) ⟨_, rfl, (fun hc => kT hc h fun h => (xs_cons (nomatch h))), (fun hc => kF hc h fun h => (xs_nil (xs_at [.is (e_Tree .bor a_self), .is (.str a_post)] (xs_cons (x_ret (e_var rfl ⟨_, (tref rfl (eS_ok.noo .frz _)), (ret_top (σ := [.is (e_Tree .bor a_self), .is (.str a_post)]) (eq := (fun (y_ : Str) => ((eS .own y_), none))) (y := a_post) h (fin_f (.inl rfl) (eS_ok.toEncOk.nbf (a_post)) rfl))⟩))))))⟩)))))

theorem all_Tree_checked : ∀ ds q, M 10 ds q → RunOk Γ b_Tree_checked 2 false ds q := by
  intro ds q hm
  rcases hm with ⟨x0, x1, r, h, rfl, rfl⟩
  · exact run_Tree_checked_ba x0 x1 r h

theorem sem_Tree_checked : ∀ ds r o, Γ 10 ds = some (r, o) → o.isSome = false ∧ ∃ fuel, runF fuel Γ b_Tree_checked 2 false ds = some (r, o) := mkG_sem all_Tree_checked

theorem call_Tree_checked_ba {a_self : I_Tree} {a_post : Str} {r : Str} (h : F_Tree_checked a_self a_post = some r) : Γ 10 [(e_Tree .bor a_self), (.str a_post)] = some ((eS .own r), none) := mkG_call all_Tree_checked ⟨_, _, _, h, rfl, rfl⟩

theorem run_Tree_head_b (a_self : I_Tree) (r : Str) (h : F_Tree_head a_self = some r) : RunOk Γ b_Tree_head 1 false [(e_Tree .bor a_self)] ((fun (y_ : Str) => ((eS .own y_), none)) r) := by
  refine run_of ?_
  delta F_Tree_head at h
  exact (xs_at [.is (e_Tree .bor a_self)] (xs_cons (x_ret (e_fld (e_var rfl ⟨_, _, _, _, rfl, (Tree_top .bor a_self), (eS_ok.noo .frz _), ⟨_, rfl, (ret_top (σ := [.is (e_Tree .bor a_self)]) (eq := (fun (y_ : Str) => ((eS .own y_), none))) (y := a_self.top) h (fin_f (.inl rfl) (eS_ok.toEncOk.nbf (a_self.top)) rfl))⟩⟩)))))

theorem all_Tree_head : ∀ ds q, M 11 ds q → RunOk Γ b_Tree_head 1 false ds q := by
  intro ds q hm
  rcases hm with ⟨x0, r, h, rfl, rfl⟩
  · exact run_Tree_head_b x0 r h

theorem sem_Tree_head : ∀ ds r o, Γ 11 ds = some (r, o) → o.isSome = false ∧ ∃ fuel, runF fuel Γ b_Tree_head 1 false ds = some (r, o) := mkG_sem all_Tree_head

theorem call_Tree_head_b {a_self : I_Tree} {r : Str} (h : F_Tree_head a_self = some r) : Γ 11 [(e_Tree .bor a_self)] = some ((eS .own r), none) := mkG_call all_Tree_head ⟨_, _, h, rfl, rfl⟩

theorem run_Tree_posts_b (a_self : I_Tree) (r : List (Str)) (h : F_Tree_posts a_self = some r) : RunOk Γ b_Tree_posts 1 false [(e_Tree .bor a_self)] ((fun (y_ : List (Str)) => (((eL eS) .own y_), none)) r) := by
  refine run_of ?_
  delta F_Tree_posts at h
  exact (xs_at [.is (e_Tree .bor a_self)] (xs_cons (x_ret (e_op (ws_cons (e_fld (e_var rfl ⟨_, _, _, _, rfl, (Tree_above_by .bor a_self), ((eK_ok (eO_ok eS_ok.toEncOk).toEncOk).nob _), (ws_nil (bx h fun l1 hl1 h => ⟨_, _, (vsC rfl vsN), (o_srtK hl1), ⟨_, rfl, (ret_top (σ := [.is (e_Tree .bor a_self)]) (eq := (fun (y_ : List (Str)) => (((eL eS) .own y_), none))) (y := l1) h (fin_f (.inl rfl) ((eL_ok eS_ok.toEncOk).nbo (l1)) rfl))⟩⟩))⟩)))))))

theorem all_Tree_posts : ∀ ds q, M 12 ds q → RunOk Γ b_Tree_posts 1 false ds q := by
  intro ds q hm
  rcases hm with ⟨x0, r, h, rfl, rfl⟩
  · exact run_Tree_posts_b x0 r h

theorem sem_Tree_posts : ∀ ds r o, Γ 12 ds = some (r, o) → o.isSome = false ∧ ∃ fuel, runF fuel Γ b_Tree_posts 1 false ds = some (r, o) := mkG_sem all_Tree_posts

theorem call_Tree_posts_b {a_self : I_Tree} {r : List (Str)} (h : F_Tree_posts a_self = some r) : Γ 12 [(e_Tree .bor a_self)] = some (((eL eS) .own r), none) := mkG_call all_Tree_posts ⟨_, _, h, rfl, rfl⟩

theorem run_Tree_above_ba (a_self : I_Tree) (a_post : Str) (r : Option (Str)) (h : F_Tree_above a_self a_post = some r) : RunOk Γ b_Tree_above 2 false [(e_Tree .bor a_self), (.str a_post)] ((fun (y_ : Option (Str)) => (((eO eS) .own y_), none)) r) := by
  refine run_of ?_
  delta F_Tree_above at h
  exact (xs_at [.is (e_Tree .bor a_self), .is (.str a_post)] (xs_cons (x_ret (e_op (ws_cons (e_fld (e_var rfl ⟨_, _, _, _, rfl, (Tree_above_by .bor a_self), ((eK_ok (eO_ok eS_ok.toEncOk).toEncOk).nob _), (ws_cons (e_meth (e_var rfl ⟨_, rfl, (Tree_no_checked .bor a_self), (ws_cons (e_var rfl (ws_nil (bx h fun r1 hr1 h => ⟨_, _, _, (vsC rfl (vsC rfl vsN)), (bcC (e_Tree_ok.borb _) (bcC (eS_ok.toEncOk.borf _) bcN)), call_Tree_checked_ba hr1, (ws_nil (bx h fun v2 hv2 h => ⟨_, _, (vsC rfl (vsC rfl vsN)), (o_ixK ((eO_ok eS_ok.toEncOk).noo _) hv2), ⟨_, rfl, (ret_top (σ := [.is (e_Tree .bor a_self), .is (.str a_post)]) (eq := (fun (y_ : Option (Str)) => (((eO eS) .own y_), none))) (y := v2) h (fin_f (.inl rfl) ((eO_ok eS_ok.toEncOk).toEncOk.nbf (v2)) rfl))⟩⟩))⟩))))⟩)))⟩)))))))

theorem all_Tree_above : ∀ ds q, M 13 ds q → RunOk Γ b_Tree_above 2 false ds q := by
  intro ds q hm
  rcases hm with ⟨x0, x1, r, h, rfl, rfl⟩
  · exact run_Tree_above_ba x0 x1 r h

theorem sem_Tree_above : ∀ ds r o, Γ 13 ds = some (r, o) → o.isSome = false ∧ ∃ fuel, runF fuel Γ b_Tree_above 2 false ds = some (r, o) := mkG_sem all_Tree_above

theorem call_Tree_above_ba {a_self : I_Tree} {a_post : Str} {r : Option (Str)} (h : F_Tree_above a_self a_post = some r) : Γ 13 [(e_Tree .bor a_self), (.str a_post)] = some (((eO eS) .own r), none) := mkG_call all_Tree_above ⟨_, _, _, h, rfl, rfl⟩

theorem run_Tree_below_ba (a_self : I_Tree) (a_post : Str) (r : List (Str)) (h : F_Tree_below a_self a_post = some r) : RunOk Γ b_Tree_below 2 false [(e_Tree .bor a_self), (.str a_post)] ((fun (y_ : List (Str)) => (((eL eS) .own y_), none)) r) := by
  refine run_of ?_
  delta F_Tree_below at h
  exact (xs_at [.is (e_Tree .bor a_self), .is (.str a_post)] (xs_cons (x_ret (e_op (ws_cons (e_op (ws_cons (e_fld (e_var rfl ⟨_, _, _, _, rfl, (Tree_below_by .bor a_self), ((eK_ok (eL_ok eS_ok.toEncOk)).nof _), (ws_cons (e_meth (e_var rfl ⟨_, rfl, (Tree_no_checked .bor a_self), (ws_cons (e_var rfl (ws_nil (bx h fun r1 hr1 h => ⟨_, _, _, (vsC rfl (vsC rfl vsN)), (bcC (e_Tree_ok.borb _) (bcC (eS_ok.toEncOk.borf _) bcN)), call_Tree_checked_ba hr1, (ws_nil (bx h fun v2 hv2 h => ⟨_, _, (vsC rfl (vsC rfl vsN)), (o_ixK (eL_ok eS_ok.toEncOk).nof hv2), (ws_nil ⟨_, _, (vsC rfl vsN), (o_cpL eS_ok _), ⟨_, rfl, (ret_top (σ := [.is (e_Tree .bor a_self), .is (.str a_post)]) (eq := (fun (y_ : List (Str)) => (((eL eS) .own y_), none))) (y := v2) h (fin_f (.inl rfl) ((eL_ok eS_ok.toEncOk).nbo (v2)) rfl))⟩⟩)⟩))⟩))))⟩)))⟩)))))))))

theorem all_Tree_below : ∀ ds q, M 14 ds q → RunOk Γ b_Tree_below 2 false ds q := by
  intro ds q hm
  rcases hm with ⟨x0, x1, r, h, rfl, rfl⟩
  · exact run_Tree_below_ba x0 x1 r h

theorem sem_Tree_below : ∀ ds r o, Γ 14 ds = some (r, o) → o.isSome = false ∧ ∃ fuel, runF fuel Γ b_Tree_below 2 false ds = some (r, o) := mkG_sem all_Tree_below

theorem call_Tree_below_ba {a_self : I_Tree} {a_post : Str} {r : List (Str)} (h : F_Tree_below a_self a_post = some r) : Γ 14 [(e_Tree .bor a_self), (.str a_post)] = some (((eL eS) .own r), none) := mkG_call all_Tree_below ⟨_, _, _, h, rfl, rfl⟩

theorem run_Tree_branch_ba (a_self : I_Tree) (a_post : Str) (r : List (Str)) (h : F_Tree_branch a_self a_post = some r) : RunOk Γ b_Tree_branch 2 false [(e_Tree .bor a_self), (.str a_post)] ((fun (y_ : List (Str)) => (((eL eS) .own y_), none)) r) := by
  refine run_of ?_
  delta F_Tree_branch at h
  exact (xs_at [.is (e_Tree .bor a_self), .is (.str a_post)] (xs_cons (x_ret (e_op (ws_cons (e_op (ws_cons (e_fld (e_var rfl ⟨_, _, _, _, rfl, (Tree_branches .bor a_self), ((eK_ok (eF_ok (eL_ok eS_ok.toEncOk)).toEncOk).nob _), (ws_cons (e_meth (e_var rfl ⟨_, rfl, (Tree_no_checked .bor a_self), (ws_cons (e_var rfl (ws_nil (bx h fun r1 hr1 h => ⟨_, _, _, (vsC rfl (vsC rfl vsN)), (bcC (e_Tree_ok.borb _) (bcC (eS_ok.toEncOk.borf _) bcN)), call_Tree_checked_ba hr1, (ws_nil (bx h fun v2 hv2 h => ⟨_, _, (vsC rfl (vsC rfl vsN)), (o_ixK ((eF_ok (eL_ok eS_ok.toEncOk)).noo _) hv2), (ws_nil ⟨_, _, (vsC rfl vsN), (o_cpL eS_ok _), ⟨_, rfl, (ret_top (σ := [.is (e_Tree .bor a_self), .is (.str a_post)]) (eq := (fun (y_ : List (Str)) => (((eL eS) .own y_), none))) (y := v2) h (fin_f (.inl rfl) ((eL_ok eS_ok.toEncOk).nbo (v2)) rfl))⟩⟩)⟩))⟩))))⟩)))⟩)))))))))

theorem all_Tree_branch : ∀ ds q, M 15 ds q → RunOk Γ b_Tree_branch 2 false ds q := by
  intro ds q hm
  rcases hm with ⟨x0, x1, r, h, rfl, rfl⟩
  · exact run_Tree_branch_ba x0 x1 r h

theorem sem_Tree_branch : ∀ ds r o, Γ 15 ds = some (r, o) → o.isSome = false ∧ ∃ fuel, runF fuel Γ b_Tree_branch 2 false ds = some (r, o) := mkG_sem all_Tree_branch

theorem call_Tree_branch_ba {a_self : I_Tree} {a_post : Str} {r : List (Str)} (h : F_Tree_branch a_self a_post = some r) : Γ 15 [(e_Tree .bor a_self), (.str a_post)] = some (((eL eS) .own r), none) := mkG_call all_Tree_branch ⟨_, _, _, h, rfl, rfl⟩

theorem run_Tree_size_ba (a_self : I_Tree) (a_post : Str) (r : Int) (h : F_Tree_size a_self a_post = some r) : RunOk Γ b_Tree_size 2 false [(e_Tree .bor a_self), (.str a_post)] ((fun (y_ : Int) => ((eI .own y_), none)) r) := by
  refine run_of ?_
  delta F_Tree_size at h
  exact (xs_at [.is (e_Tree .bor a_self), .is (.str a_post)] (xs_cons (x_ret (e_op (ws_cons (e_op (ws_cons (e_fld (e_var rfl ⟨_, _, _, _, rfl, (Tree_branches .bor a_self), ((eK_ok (eF_ok (eL_ok eS_ok.toEncOk)).toEncOk).nob _), (ws_cons (e_meth (e_var rfl ⟨_, rfl, (Tree_no_checked .bor a_self), (ws_cons (e_var rfl (ws_nil (bx h fun r1 hr1 h => ⟨_, _, _, (vsC rfl (vsC rfl vsN)), (bcC (e_Tree_ok.borb _) (bcC (eS_ok.toEncOk.borf _) bcN)), call_Tree_checked_ba hr1, (ws_nil (bx h fun v2 hv2 h => ⟨_, _, (vsC rfl (vsC rfl vsN)), (o_ixK ((eF_ok (eL_ok eS_ok.toEncOk)).noo _) hv2), (ws_nil ⟨_, _, (vsC rfl vsN), (o_lenL _), ⟨_, rfl, (ret_top (σ := [.is (e_Tree .bor a_self), .is (.str a_post)]) (eq := (fun (y_ : Int) => ((eI .own y_), none))) (y := (v2.length : Int)) h (fin_f (.inl rfl) (eI_ok.toEncOk.nbf ((v2.length : Int))) rfl))⟩⟩)⟩))⟩))))⟩)))⟩)))))))))

theorem all_Tree_size : ∀ ds q, M 16 ds q → RunOk Γ b_Tree_size 2 false ds q := by
  intro ds q hm
  rcases hm with ⟨x0, x1, r, h, rfl, rfl⟩
  · exact run_Tree_size_ba x0 x1 r h

theorem sem_Tree_size : ∀ ds r o, Γ 16 ds = some (r, o) → o.isSome = false ∧ ∃ fuel, runF fuel Γ b_Tree_size 2 false ds = some (r, o) := mkG_sem all_Tree_size

theorem call_Tree_size_ba {a_self : I_Tree} {a_post : Str} {r : Int} (h : F_Tree_size a_self a_post = some r) : Γ 16 [(e_Tree .bor a_self), (.str a_post)] = some ((eI .own r), none) := mkG_call all_Tree_size ⟨_, _, _, h, rfl, rfl⟩

theorem run_Tree__eq_bb (a_self : I_Tree) (a_other : I_Tree) (r : Bool) (h : F_Tree__eq a_self a_other = some r) : RunOk Γ b_Tree__eq 2 false [(e_Tree .bor a_self), (e_Tree .bor a_other)] ((fun (y_ : Bool) => ((eB .own y_), none)) r) := by
  refine run_of ?_
  delta F_Tree__eq at h
  exact (xs_at [.is (e_Tree .bor a_self), .is (e_Tree .bor a_other)] (xs_cons (x_ret (bx h fun b2 hb2 h => (e_and' (e_op (ws_cons (e_var rfl (ws_nil ⟨_, _, (vsC rfl vsN), rfl, ⟨rfl, rfl⟩⟩)))) (fun _ y2 h => (e_op (ws_cons (e_fld (e_var rfl ⟨_, _, _, _, rfl, (Tree_above_by .bor a_self), ((eK_ok (eO_ok eS_ok.toEncOk).toEncOk).nob _), (ws_cons (e_fld (e_var rfl ⟨_, _, _, _, rfl, (Tree_above_by .bor a_other), ((eK_ok (eO_ok eS_ok.toEncOk).toEncOk).nob _), (ws_nil (bx h fun b1 hb1 h => ⟨_, _, (vsC rfl (vsC rfl vsN)), (o_eqK pyOS rfl hb1), ⟨rfl, congrArg (fun b => Rv.val (.bl b)) (Option.some.inj h)⟩⟩))⟩)))⟩))))) hb2 ⟨_, rfl, (ret_top (σ := [.is (e_Tree .bor a_self), .is (e_Tree .bor a_other)]) (eq := (fun (y_ : Bool) => ((eB .own y_), none))) (y := b2) h (fin_f (.inl rfl) (eB_ok.toEncOk.nbf (b2)) rfl))⟩)))))

theorem all_Tree__eq : ∀ ds q, M 17 ds q → RunOk Γ b_Tree__eq 2 false ds q := by
  intro ds q hm
  rcases hm with ⟨x0, x1, r, h, rfl, rfl⟩ | ⟨o, x, hx, rfl, rfl⟩
  · exact run_Tree__eq_bb x0 x1 r h
  · exact ⟨rfl, 0, fun N _ => by cases x <;> first | rfl | (simp [D.bi] at hx)⟩

theorem sem_Tree__eq : ∀ ds r o, Γ 17 ds = some (r, o) → o.isSome = false ∧ ∃ fuel, runF fuel Γ b_Tree__eq 2 false ds = some (r, o) := mkG_sem all_Tree__eq

theorem call_Tree__eq_bb {a_self : I_Tree} {a_other : I_Tree} {r : Bool} (h : F_Tree__eq a_self a_other = some r) : Γ 17 [(e_Tree .bor a_self), (e_Tree .bor a_other)] = some ((eB .own r), none) := mkG_call all_Tree__eq (Or.inl ⟨_, _, _, h, rfl, rfl⟩)

theorem odd_Tree__eq_0 (o : I_Tree) (x : D) (hx : x.bi = true) : Γ 17 [(e_Tree .bor o), x] = some (.bl false, none) := mkG_call all_Tree__eq (Or.inr ⟨_, _, hx, rfl, rfl⟩)

theorem run_law_above_aa (a_source : List (Int)) (a_many : Int) (r : List (Str × Option (Str)) × List (Int)) (h : F_law_above a_source a_many = some r) : RunOk Γ b_law_above 10 true [((eL eI) .own a_source), (.int a_many)] ((fun (y_ : (List (Str × Option (Str)) × List (Int))) => (((eK (eO eS)) .own y_.1), some ((eL eI) .own y_.2))) r) := by
  refine run_of ?_
  delta F_law_above at h
  exact (xs_at [.is ((eL eI) .own a_source), .is (.int a_many), .free, .free, .free, .free, .free, .free, .free, .free] (xs_cons (x_asg (e_callio rfl (ws_cons (e_var rfl (ws_nil (bx h fun d1 hd1 h => ⟨_, _, _, _, _, rfl, (vsC rfl vsN), (bcC (eI_ok.toEncOk.borf _) bcN), rfl, call_law_names_aa hd1, ⟨_, rfl, rfl, (xs_at [.is ((eL eI) .own d1.2), .is (.int a_many), .is ((eL eS) .own d1.1), .free, .free, .free, .free, .free, .free, .free] (xs_cons (x_asg (e_callio rfl (ws_cons (e_cst rfl (ws_nil (bx h fun d2 hd2 h => ⟨_, _, _, _, _, rfl, (vsC rfl vsN), (bcC (eI_ok.toEncOk.borf _) bcN), rfl, call_law_next_aa hd2, ⟨_, rfl, rfl, (xs_at [.is ((eL eI) .own d2.2), .is (.int a_many), .is ((eL eS) .own d1.1), .is (.int d2.1), .free, .free, .free, .free, .free, .free] (xs_cons (x_asg (e_dct (ws_cons (e_op (ws_cons (e_var rfl (ws_cons (e_cst rfl (ws_nil (bx h fun x3 hx3 h => ⟨_, _, (vsC rfl (vsC rfl vsN)), (o_ixL (eS_ok.noo _) hx3), (ws_cons (e_cst rfl (ws_nil ⟨[(.str x3), ((eO eS) .frz none)], [(Sum.inr x3, ((eO eS) .frz none))], (tsC rfl (tsC rfl tsN)), rfl, ⟨(show 1 ≤ 15 by decide), nd1⟩, (bx h fun found4 hfound4 h => ⟨_, tcast (someD (e := ((eK (eO eS)) .own)) hfound4) rfl, rfl, (xs_at [.is ((eL eI) .own d2.2), .is (.int a_many), .is ((eL eS) .own d1.1), .is (.int d2.1), .is ((eK (eO eS)) .own found4), .free, .free, .free, .free, .free] (xs_cons (bx h fun xs5 hxs5 h => (bx h fun t7 ht7 h => (x_forP (f := fun x8 => [(.int x8)]) ht7 (fun t6 => [.is ((eL eI) .own t6.1), .is (.int a_many), .is ((eL eS) .own d1.1), .is (.int d2.1), .is ((eK (eO eS)) .own t6.2), .free, .free, .free, .free, .free]) (ws_isw (d := (.int (1 : Int))) (σ1 := [.is ((eL eI) .own d2.2), .is (.int a_many), .is ((eL eS) .own d1.1), .is (.int d2.1), .is ((eK (eO eS)) .own found4), .free, .free, .free, .free, .free]) (e_cst rfl ⟨rfl, rfl⟩) (ws_cons (e_var rfl (ws_nil ⟨(wk_same (wk_same (wk_same (wk_same (wk_same (wk_same (wk_same (wk_same (wk_same (wk_same wk_nil)))))))))), _, (vsC rfl (vsC rfl vsN)), (it_range2 hxs5), rfl⟩)))) (fun x8 t6 q_ h => ⟨[.is ((eL eI) .own t6.1), .is (.int a_many), .is ((eL eS) .own d1.1), .is (.int d2.1), .is ((eK (eO eS)) .own t6.2), .is (.int x8), .free, .free, .free, .free], rfl, (xs_cons (x_asg (e_op (ws_cons (e_lst (ws_cons (e_op (ws_cons (e_var rfl (ws_cons (e_cst rfl (ws_nil ⟨_, _, (vsC rfl (vsC rfl vsN)), (o_sub _ _), (ws_cons (e_cst rfl (ws_cons (e_callio rfl (ws_cons (e_var rfl (ws_nil (bx h fun d9 hd9 h => ⟨_, _, _, _, _, rfl, (vsC rfl vsN), (bcC (eI_ok.toEncOk.borf _) bcN), rfl, call_law_next_aa hd9, (ws_cons (e_op (ws_cons (e_cst rfl (ws_cons (e_op (ws_cons (e_op (ws_cons (e_var rfl (ws_cons (e_cst rfl (ws_nil ⟨_, _, (vsC rfl (vsC rfl vsN)), (o_sub _ _), (ws_cons (e_callio rfl (ws_cons (e_cst rfl (ws_nil (bx h fun d10 hd10 h => ⟨_, _, _, _, _, rfl, (vsC rfl vsN), (bcC (eI_ok.toEncOk.borf _) bcN), rfl, call_law_next_aa hd10, (ws_nil ⟨_, _, (vsC rfl (vsC rfl vsN)), (o_sub _ _), (ws_nil ⟨_, _, (vsC rfl (vsC rfl vsN)), (o_max2 _ _), (ws_nil ⟨[(.int (x8 - (1 : Int))), (.int (0 : Int)), (.int d9.1), (.int (if ((x8 - (1 : Int)) - d10.1) > (0 : Int) then ((x8 - (1 : Int)) - d10.1) else (0 : Int)))], (tsC rfl (tsC rfl (tsC rfl (tsC rfl tsN)))), (show 4 ≤ PySem.sizeLine by decide), (ws_cons (e_var rfl (ws_nil (bx h fun x11 hx11 h => ⟨_, _, (vsC rfl (vsC rfl vsN)), (o_ixL (eI_ok.noo _) hx11), ⟨_, rfl, rfl, (xs_at [.is ((eL eI) .own d10.2), .is (.int a_many), .is ((eL eS) .own d1.1), .is (.int d2.1), .is ((eK (eO eS)) .own t6.2), .is (.int x8), .free, .free, .is (.int x11), .free] (xs_cons (x_setK rfl (e_op (ws_cons (e_var rfl (ws_cons (e_var rfl (ws_nil (bx h fun x12 hx12 h => ⟨_, _, (vsC rfl (vsC rfl vsN)), (o_ixL (eS_ok.noo _) hx12), (p_sl rfl ⟨⟨_, rfl⟩, (e_op (ws_cons (e_var rfl (ws_cons (e_var rfl (ws_nil (bx h fun x13 hx13 h => ⟨_, _, (vsC rfl (vsC rfl vsN)), (o_ixL (eS_ok.noo _) hx13), (bx h fun d14 hd14 h => ⟨_, _, _, _, _, rfl, rfl, rfl, rfl, (a_put hd14), (xs_at [.is ((eL eI) .own d10.2), .is (.int a_many), .is ((eL eS) .own d1.1), .is (.int d2.1), .is ((eK (eO eS)) .own d14), .is (.int x8), .free, .free, .is (.int x11), .free] (xs_nil (end_ (S := fun t6 => [.is ((eL eI) .own t6.1), .is (.int a_many), .is ((eL eS) .own d1.1), .is (.int d2.1), .is ((eK (eO eS)) .own t6.2), .free, .free, .free, .free, .free]) h (wk_same (wk_same (wk_same (wk_same (wk_same (wk_free (eI_ok.noo .frz _) (wk_same (wk_same (wk_free (eI_ok.noo .frz _) (wk_same wk_nil)))))))))))))⟩)⟩)))))))⟩)⟩))))))))))⟩⟩))))⟩)⟩)⟩)⟩))))))⟩)))))))))))))⟩))))))))⟩))))))))))))⟩) (xs_at [.is ((eL eI) .own t7.1), .is (.int a_many), .is ((eL eS) .own d1.1), .is (.int d2.1), .is ((eK (eO eS)) .own t7.2), .free, .free, .free, .free, .free] (xs_cons (x_asg (e_op (ws_cons (e_var rfl (ws_nil (bx h fun l15 hl15 h => ⟨_, _, (vsC rfl vsN), (o_srtK hl15), ⟨_, rfl, rfl, (xs_at [.is ((eL eI) .own t7.1), .is (.int a_many), .is ((eL eS) .own d1.1), .is (.int d2.1), .is ((eK (eO eS)) .own t7.2), .free, .is ((eL eS) .own l15), .free, .free, .free] (xs_cons (x_asg (e_callio rfl (ws_cons (e_var rfl (ws_nil (bx h fun d16 hd16 h => ⟨_, _, _, _, _, rfl, (vsC rfl vsN), (bcC (eI_ok.toEncOk.borf _) bcN), rfl, call_law_next_aa hd16, ⟨_, rfl, rfl, (xs_at [.is ((eL eI) .own d16.2), .is (.int a_many), .is ((eL eS) .own d1.1), .is (.int d2.1), .is ((eK (eO eS)) .own t7.2), .free, .is ((eL eS) .own l15), .is (.int d16.1), .free, .free] (xs_cons (x_ret (e_op (ws_cons (bx h fun x18 hx18 h => (bx h fun ys21 hys21 h => (e_compP (f := fun x19 => [(.str x19)]) (enc := (eT2 eS (eO eS)) .own) hys21 [.is ((eL eI) .own d16.2), .is (.int a_many), .is ((eL eS) .own d1.1), .is (.int d2.1), .is ((eK (eO eS)) .own t7.2), .free, .is ((eL eS) .own l15), .is (.int d16.1), .free, .free] (ws_isw (d := ((eL eS) .own x18)) (σ1 := [.is ((eL eI) .own d16.2), .is (.int a_many), .is ((eL eS) .own d1.1), .is (.int d2.1), .is ((eK (eO eS)) .own t7.2), .free, .is ((eL eS) .own l15), .is (.int d16.1), .free, .free]) (have h := hx18; (e_op (ws_cons (e_op (ws_cons (e_var rfl (ws_cons (e_var rfl (ws_nil ⟨_, _, (vsC rfl (vsC rfl vsN)), (o_sl10 eS_ok _ _), (ws_cons (e_op (ws_cons (e_var rfl (ws_cons (e_var rfl (ws_nil ⟨_, _, (vsC rfl (vsC rfl vsN)), (o_sl01 eS_ok _ _), (ws_nil (bx h fun l17 hl17 h => ⟨_, _, (vsC rfl (vsC rfl vsN)), (o_cat eS_ok hl17), ⟨rfl, congrArg Rv.val (someD (e := ((eL eS) .own)) h)⟩⟩))⟩)))))))⟩))))))))) (ws_nil ⟨(wk_refl _), _, (vsC rfl vsN), (it_seq (eS_ok.noo _) _), rfl⟩)) rfl (fun x19 b_ h => ⟨[.is ((eL eI) .own d16.2), .is (.int a_many), .is ((eL eS) .own d1.1), .is (.int d2.1), .is ((eK (eO eS)) .own t7.2), .free, .is ((eL eS) .own l15), .is (.int d16.1), .free, .is (.str x19)], rfl, ⟨Option.some.inj h, fun _ => (wn_js (ds := [(.str x19)]) rfl), fun _ y_ h => (e_tup (ws_cons (e_var rfl (ws_cons (e_op (ws_cons (e_var rfl (ws_cons (e_var rfl (ws_nil (bx h fun v20 hv20 h => ⟨_, _, (vsC rfl (vsC rfl vsN)), (o_ixK ((eO_ok eS_ok.toEncOk).noo _) hv20), (ws_nil ⟨_, (tsC (tref rfl (eS_ok.noo .frz _)) (tsC rfl tsN)), (show 2 ≤ PySem.sizeLine by decide), (ncC (eS_ok.toEncOk.nbf _) (ncC ((eO_ok eS_ok.toEncOk).toEncOk.nbf _) ncN)), ⟨tcast (someD (e := ((eT2 eS (eO eS)) .frz)) h) (tcast (congrArg D.tup (fcC (eS_ok.toEncOk.frzf _) (fcC ((eO_ok eS_ok.toEncOk).toEncOk.frzf _) fcN))) rfl), (wn_js (ds := [(.str x19)]) rfl)⟩⟩)⟩)))))))))))⟩⟩) (ws_nil ⟨_, _, (vsC rfl vsN), (o_mkK (eO_ok eS_ok.toEncOk) _), ⟨_, rfl, (ret_top (σ := [.is ((eL eI) .own d16.2), .is (.int a_many), .is ((eL eS) .own d1.1), .is (.int d2.1), .is ((eK (eO eS)) .own t7.2), .free, .is ((eL eS) .own l15), .is (.int d16.1), .free, .free]) (eq := (fun (y_ : (List (Str × Option (Str)) × List (Int))) => (((eK (eO eS)) .own y_.1), some ((eL eI) .own y_.2)))) (y := ((mrg_ ys21), d16.2)) h (fin_t (.inl rfl) ((eK_ok (eO_ok eS_ok.toEncOk).toEncOk).nbo ((mrg_ ys21))) rfl ((eL_ok eI_ok.toEncOk).nbo (d16.2)) rfl))⟩⟩)))))))))⟩⟩))))))))⟩⟩)))))))))))))⟩)⟩)))⟩))))))))))))⟩⟩))))))))⟩⟩))))))))

theorem all_law_above : ∀ ds q, M 18 ds q → RunOk Γ b_law_above 10 true ds q := by
  intro ds q hm
  rcases hm with ⟨x0, x1, r, h, rfl, rfl⟩
  · exact run_law_above_aa x0 x1 r h

theorem sem_law_above : ∀ ds r o, Γ 18 ds = some (r, o) → o.isSome = true ∧ ∃ fuel, runF fuel Γ b_law_above 10 true ds = some (r, o) := mkG_sem all_law_above

theorem call_law_above_aa {a_source : List (Int)} {a_many : Int} {r : List (Str × Option (Str)) × List (Int)} (h : F_law_above a_source a_many = some r) : Γ 18 [((eL eI) .own a_source), (.int a_many)] = some (((eK (eO eS)) .own r.1), some ((eL eI) .own r.2)) := mkG_call all_law_above ⟨_, _, _, h, rfl, rfl⟩

theorem run_law_head_b (a_above : List (Str × Option (Str))) (r : Str) (h : F_law_head a_above = some r) : RunOk Γ b_law_head 2 false [((eK (eO eS)) .bor a_above)] ((fun (y_ : Str) => ((eS .own y_), none)) r) := by
  refine run_of ?_
  delta F_law_head at h
  exact (xs_at [.is ((eK (eO eS)) .bor a_above), .free] (xs_cons (x_ret (e_op (ws_cons (bx h fun ys3 hys3 h => (e_compP (f := fun x1 => [(.str x1)]) (enc := eS .own) hys3 [.is ((eK (eO eS)) .bor a_above), .free] (ws_cons (e_var rfl (ws_nil ⟨(wk_refl _), _, (vsC rfl vsN), (it_keys (by decide) _), rfl⟩))) rfl (fun x1 b_ h => ⟨[.is ((eK (eO eS)) .bor a_above), .is (.str x1)], rfl, (e_op (ws_cons (e_op (ws_cons (e_var rfl (ws_cons (e_var rfl (ws_nil (bx h fun v2 hv2 h => ⟨_, _, (vsC rfl (vsC rfl vsN)), (o_ixK ((eO_ok eS_ok.toEncOk).noo _) hv2), (ws_nil ⟨_, _, (vsC rfl vsN), (o_isN (fun _ => rfl)), ⟨_, rfl, Option.some.inj h, fun _ => (wn_js (ds := [(.str x1)]) rfl), fun _ y_ h => (e_var rfl ⟨tcast (someD (e := D.str) h) (tref rfl (eS_ok.noo .frz _)), (wn_js (ds := [(.str x1)]) rfl)⟩)⟩⟩)⟩)))))))))⟩) (ws_cons (e_cst rfl (ws_nil (bx h fun x4 hx4 h => ⟨_, _, (vsC rfl (vsC rfl vsN)), (o_ixL (eS_ok.noo _) hx4), ⟨_, rfl, (ret_top (σ := [.is ((eK (eO eS)) .bor a_above), .free]) (eq := (fun (y_ : Str) => ((eS .own y_), none))) (y := x4) h (fin_f (.inl rfl) (eS_ok.toEncOk.nbf (x4)) rfl))⟩⟩)))))))))))

theorem all_law_head : ∀ ds q, M 19 ds q → RunOk Γ b_law_head 2 false ds q := by
  intro ds q hm
  rcases hm with ⟨x0, r, h, rfl, rfl⟩
  · exact run_law_head_b x0 r h

theorem sem_law_head : ∀ ds r o, Γ 19 ds = some (r, o) → o.isSome = false ∧ ∃ fuel, runF fuel Γ b_law_head 2 false ds = some (r, o) := mkG_sem all_law_head

theorem call_law_head_b {a_above : List (Str × Option (Str))} {r : Str} (h : F_law_head a_above = some r) : Γ 19 [((eK (eO eS)) .bor a_above)] = some ((eS .own r), none) := mkG_call all_law_head ⟨_, _, h, rfl, rfl⟩

theorem run_law_line_ba (a_above : List (Str × Option (Str))) (a_post : Str) (r : List (Str)) (h : F_law_line a_above a_post = some r) : RunOk Γ b_law_line 3 false [((eK (eO eS)) .bor a_above), (.str a_post)] ((fun (y_ : List (Str)) => (((eL eS) .own y_), none)) r) := by
  refine run_of ?_
  delta F_law_line at h
  exact (xs_at [.is ((eK (eO eS)) .bor a_above), .is (.str a_post), .free] (xs_cons (x_asg (e_lst (ws_cons (e_var rfl (ws_nil ⟨[(.str a_post)], (tsC (tref rfl (eS_ok.noo .frz _)) tsN), (show 1 ≤ PySem.sizeLine by decide), (bx h fun found1 hfound1 h => ⟨_, tcast (someD (e := ((eL eS) .own)) hfound1) rfl, rfl, (xs_at [.is ((eK (eO eS)) .bor a_above), .is (.str a_post), .is ((eL eS) .own found1)] (xs_cons (bx h fun t3 ht3 h => (x_whP ht3 (fun t2 => [.is ((eK (eO eS)) .bor a_above), .is (.str a_post), .is ((eL eS) .own t2)]) (wk_same (wk_same (wk_same wk_nil))) (fun t2 v_ h => (e_op (ws_cons (e_op (ws_cons (e_var rfl (ws_cons (e_op (ws_cons (e_var rfl (ws_cons (e_op (ws_cons (e_cst rfl (ws_nil ⟨_, _, (vsC rfl vsN), (o_neg _), (ws_nil (bx h fun x4 hx4 h => ⟨_, _, (vsC rfl (vsC rfl vsN)), (o_ixL (eS_ok.noo _) hx4), (ws_nil (bx h fun v5 hv5 h => ⟨_, _, (vsC rfl (vsC rfl vsN)), (o_ixK ((eO_ok eS_ok.toEncOk).noo _) hv5), (ws_nil ⟨_, _, (vsC rfl vsN), (o_notN (fun _ => rfl)), ⟨vcast (someD (e := D.bl) h) rfl, wk_refl _⟩⟩)⟩))⟩))⟩))))))))))))))) (fun t2 t_ h => (xs_cons (x_app rfl (p_sl rfl ⟨⟨_, rfl, rfl⟩, (e_op (ws_cons (e_var rfl (ws_cons (e_op (ws_cons (e_var rfl (ws_cons (e_op (ws_cons (e_cst rfl (ws_nil ⟨_, _, (vsC rfl vsN), (o_neg _), (ws_nil (bx h fun x6 hx6 h => ⟨_, _, (vsC rfl (vsC rfl vsN)), (o_ixL (eS_ok.noo _) hx6), (ws_nil (bx h fun v7 hv7 h => ⟨_, _, (vsC rfl (vsC rfl vsN)), (o_ixK ((eO_ok eS_ok.toEncOk).noo _) hv7), (bx h fun o8 ho8 h => (bx h fun l9 hl9 h => ⟨_, _, _, (tv (vcast (odn ho8) rfl) (eS_ok.noo .frz _)), rfl, (a_app hl9), (xs_at [.is ((eK (eO eS)) .bor a_above), .is (.str a_post), .is ((eL eS) .own l9)] (xs_nil (end_ (S := fun t2 => [.is ((eK (eO eS)) .bor a_above), .is (.str a_post), .is ((eL eS) .own t2)]) h (wk_same (wk_same (wk_same wk_nil))))))⟩))⟩))⟩))⟩))))))))))))⟩)))) (xs_at [.is ((eK (eO eS)) .bor a_above), .is (.str a_post), .is ((eL eS) .own t3)] (xs_cons (x_ret (e_mov rfl ⟨_, rfl, (ret_top (σ := [.is ((eK (eO eS)) .bor a_above), .is (.str a_post), .free]) (eq := (fun (y_ : List (Str)) => (((eL eS) .own y_), none))) (y := t3) h (fin_f (.inl rfl) ((eL_ok eS_ok.toEncOk).nbo (t3)) rfl))⟩))))))))⟩)⟩)))))))

theorem all_law_line : ∀ ds q, M 20 ds q → RunOk Γ b_law_line 3 false ds q := by
  intro ds q hm
  rcases hm with ⟨x0, x1, r, h, rfl, rfl⟩
  · exact run_law_line_ba x0 x1 r h

theorem sem_law_line : ∀ ds r o, Γ 20 ds = some (r, o) → o.isSome = false ∧ ∃ fuel, runF fuel Γ b_law_line 3 false ds = some (r, o) := mkG_sem all_law_line

theorem call_law_line_ba {a_above : List (Str × Option (Str))} {a_post : Str} {r : List (Str)} (h : F_law_line a_above a_post = some r) : Γ 20 [((eK (eO eS)) .bor a_above), (.str a_post)] = some (((eL eS) .own r), none) := mkG_call all_law_line ⟨_, _, _, h, rfl, rfl⟩

theorem run_law_under_ba (a_above : List (Str × Option (Str))) (a_post : Str) (r : List (Str)) (h : F_law_under a_above a_post = some r) : RunOk Γ b_law_under 3 false [((eK (eO eS)) .bor a_above), (.str a_post)] ((fun (y_ : List (Str)) => (((eL eS) .own y_), none)) r) := by
  refine run_of ?_
  delta F_law_under at h
  exact (xs_at [.is ((eK (eO eS)) .bor a_above), .is (.str a_post), .free] (xs_cons (x_ret (e_op (ws_cons (bx h fun ys3 hys3 h => (e_compP (f := fun x1 => [(.str x1)]) (enc := eS .own) hys3 [.is ((eK (eO eS)) .bor a_above), .is (.str a_post), .free] (ws_cons (e_var rfl (ws_nil ⟨(wk_refl _), _, (vsC rfl vsN), (it_keys (by decide) _), rfl⟩))) rfl (fun x1 b_ h => ⟨[.is ((eK (eO eS)) .bor a_above), .is (.str a_post), .is (.str x1)], rfl, (e_op (ws_cons (e_op (ws_cons (e_var rfl (ws_cons (e_var rfl (ws_nil (bx h fun v2 hv2 h => ⟨_, _, (vsC rfl (vsC rfl vsN)), (o_ixK ((eO_ok eS_ok.toEncOk).noo _) hv2), (ws_cons (e_var rfl (ws_nil ⟨_, _, (vsC rfl (vsC rfl vsN)), (o_eqOS (m := .frz) (n := .frz) v2 (some a_post)), ⟨_, rfl, Option.some.inj h, fun _ => (wn_js (ds := [(.str x1)]) rfl), fun _ y_ h => (e_var rfl ⟨tcast (someD (e := D.str) h) (tref rfl (eS_ok.noo .frz _)), (wn_js (ds := [(.str x1)]) rfl)⟩)⟩⟩)))⟩)))))))))⟩) (ws_nil (bx h fun l4 hl4 h => ⟨_, _, (vsC rfl vsN), (o_srtS hl4), ⟨_, rfl, (ret_top (σ := [.is ((eK (eO eS)) .bor a_above), .is (.str a_post), .free]) (eq := (fun (y_ : List (Str)) => (((eL eS) .own y_), none))) (y := l4) h (fin_f (.inl rfl) ((eL_ok eS_ok.toEncOk).nbo (l4)) rfl))⟩⟩)))))))))

theorem all_law_under : ∀ ds q, M 21 ds q → RunOk Γ b_law_under 3 false ds q := by
  intro ds q hm
  rcases hm with ⟨x0, x1, r, h, rfl, rfl⟩
  · exact run_law_under_ba x0 x1 r h

theorem sem_law_under : ∀ ds r o, Γ 21 ds = some (r, o) → o.isSome = false ∧ ∃ fuel, runF fuel Γ b_law_under 3 false ds = some (r, o) := mkG_sem all_law_under

theorem call_law_under_ba {a_above : List (Str × Option (Str))} {a_post : Str} {r : List (Str)} (h : F_law_under a_above a_post = some r) : Γ 21 [((eK (eO eS)) .bor a_above), (.str a_post)] = some (((eL eS) .own r), none) := mkG_call all_law_under ⟨_, _, _, h, rfl, rfl⟩

theorem run_law_branches_b (a_above : List (Str × Option (Str))) (r : List (Str × List (Str))) (h : F_law_branches a_above = some r) : RunOk Γ b_law_branches 4 false [((eK (eO eS)) .bor a_above)] ((fun (y_ : List (Str × List (Str))) => (((eK (eL eS)) .own y_), none)) r) := by
  refine run_of ?_
  delta F_law_branches at h
  exact (xs_at [.is ((eK (eO eS)) .bor a_above), .free, .free, .free] (xs_cons (x_asg (bx h fun ks2 hks2 h => (e_dcP (f := fun x1 => [(.str x1)]) (enc := (eL eS) .own) hks2 [.is ((eK (eO eS)) .bor a_above), .free, .free, .free] (ws_cons (e_var rfl (ws_nil ⟨(wk_refl _), _, (vsC rfl vsN), (it_keys (by decide) _), rfl⟩))) rfl (fun x1 b_ h => ⟨[.is ((eK (eO eS)) .bor a_above), .free, .is (.str x1), .free], rfl, ⟨Option.some.inj h, fun _ => (wn_js (ds := [(.str x1)]) rfl), fun _ k_ h => (e_var rfl ⟨vcast (someD (e := D.str) h) rfl, fun y_ h => (e_lst (ws_nil ⟨_, tsN, by decide, ⟨tcast (someD (e := ((eL eS) .own)) h) rfl, (wn_js (ds := [(.str x1)]) rfl)⟩⟩))⟩)⟩⟩) ⟨_, rfl, rfl, (xs_at [.is ((eK (eO eS)) .bor a_above), .is ((eK (eL eS)) .own ks2), .free, .free] (xs_cons (bx h fun x4 hx4 h => (bx h fun t6 ht6 h => (x_forP (f := fun x7 => [(.str x7)]) ht6 (fun t5 => [.is ((eK (eO eS)) .bor a_above), .is ((eK (eL eS)) .own t5), .free, .free]) (ws_isw (d := ((eL eS) .own x4)) (σ1 := [.is ((eK (eO eS)) .bor a_above), .is ((eK (eL eS)) .own ks2), .free, .free]) (have h := hx4; (e_op (ws_cons (e_var rfl (ws_nil (bx h fun l3 hl3 h => ⟨_, _, (vsC rfl vsN), (o_srtK hl3), ⟨rfl, congrArg Rv.val (someD (e := ((eL eS) .own)) h)⟩⟩)))))) (ws_nil ⟨(wk_same (wk_same (wk_same (wk_same wk_nil)))), _, (vsC rfl vsN), (it_seq (eS_ok.noo _) _), rfl⟩)) (fun x7 t5 q_ h => ⟨[.is ((eK (eO eS)) .bor a_above), .is ((eK (eL eS)) .own t5), .is (.str x7), .free], rfl, (xs_cons (bx h fun x9 hx9 h => (bx h fun t11 ht11 h => (x_forP (f := fun x12 => [(.str x12)]) ht11 (fun t10 => [.is ((eK (eO eS)) .bor a_above), .is ((eK (eL eS)) .own t10), .is (.str x7), .free]) (ws_isw (d := ((eL eS) .own x9)) (σ1 := [.is ((eK (eO eS)) .bor a_above), .is ((eK (eL eS)) .own t5), .is (.str x7), .free]) (have h := hx9; (e_call (ws_cons (e_var rfl (ws_cons (e_var rfl (ws_nil (bx h fun r8 hr8 h => ⟨_, _, _, (vsC rfl (vsC rfl vsN)), (bcC ((eK_ok (eO_ok eS_ok.toEncOk).toEncOk).borb _) (bcC (eS_ok.toEncOk.borf _) bcN)), call_law_line_ba hr8, ⟨rfl, congrArg Rv.val (someD (e := ((eL eS) .own)) h)⟩⟩)))))))) (ws_nil ⟨(wk_same (wk_same (wk_same (wk_same wk_nil)))), _, (vsC rfl vsN), (it_seq (eS_ok.noo _) _), rfl⟩)) (fun x12 t10 q_ h => ⟨[.is ((eK (eO eS)) .bor a_above), .is ((eK (eL eS)) .own t10), .is (.str x7), .is (.str x12)], rfl, (xs_cons (x_app rfl (p_ky (p_sl rfl ⟨⟨_, rfl⟩, (e_var rfl ⟨_, _, rfl, rfl, (bx h fun a_ hn_ h => ⟨⟨_, node_k rfl hn_, rfl⟩, (e_var rfl (bx h fun l13 hl13 h => ⟨_, _, _, (tref rfl (eS_ok.noo .frz _)), rfl, (a_key hl13 (fun a a1 ha_ => (a_app ha_))), (xs_at [.is ((eK (eO eS)) .bor a_above), .is ((eK (eL eS)) .own l13), .is (.str x7), .is (.str x12)] (xs_nil (end_ (S := fun t10 => [.is ((eK (eO eS)) .bor a_above), .is ((eK (eL eS)) .own t10), .is (.str x7), .free]) h (wk_same (wk_same (wk_same (wk_free (eS_ok.noo .frz _) wk_nil)))))))⟩))⟩)⟩)⟩))))⟩) (xs_at [.is ((eK (eO eS)) .bor a_above), .is ((eK (eL eS)) .own t11), .is (.str x7), .free] (xs_nil (end_ (S := fun t5 => [.is ((eK (eO eS)) .bor a_above), .is ((eK (eL eS)) .own t5), .free, .free]) h (wk_same (wk_same (wk_free (eS_ok.noo .frz _) (wk_same wk_nil)))))))))))⟩) (xs_at [.is ((eK (eO eS)) .bor a_above), .is ((eK (eL eS)) .own t6), .free, .free] (xs_cons (x_ret (e_mov rfl ⟨_, rfl, (ret_top (σ := [.is ((eK (eO eS)) .bor a_above), .free, .free, .free]) (eq := (fun (y_ : List (Str × List (Str))) => (((eK (eL eS)) .own y_), none))) (y := t6) h (fin_f (.inl rfl) ((eK_ok (eL_ok eS_ok.toEncOk)).nbo (t6)) rfl))⟩)))))))))⟩)))))

theorem all_law_branches : ∀ ds q, M 22 ds q → RunOk Γ b_law_branches 4 false ds q := by
  intro ds q hm
  rcases hm with ⟨x0, r, h, rfl, rfl⟩
  · exact run_law_branches_b x0 r h

theorem sem_law_branches : ∀ ds r o, Γ 22 ds = some (r, o) → o.isSome = false ∧ ∃ fuel, runF fuel Γ b_law_branches 4 false ds = some (r, o) := mkG_sem all_law_branches

theorem call_law_branches_b {a_above : List (Str × Option (Str))} {r : List (Str × List (Str))} (h : F_law_branches a_above = some r) : Γ 22 [((eK (eO eS)) .bor a_above)] = some (((eK (eL eS)) .own r), none) := mkG_call all_law_branches ⟨_, _, h, rfl, rfl⟩

theorem run_law_others_ab (a_source : List (Int)) (a_above : List (Str × Option (Str))) (r : List (List (Str × Option (Str))) × List (Int)) (h : F_law_others a_source a_above = some r) : RunOk Γ b_law_others 12 true [((eL eI) .own a_source), ((eK (eO eS)) .bor a_above)] ((fun (y_ : (List (List (Str × Option (Str))) × List (Int))) => (((eL (eF (eK (eO eS)))) .own y_.1), some ((eL eI) .own y_.2))) r) := by
  refine run_of ?_
  delta F_law_others at h
  exact (xs_at [.is ((eL eI) .own a_source), .is ((eK (eO eS)) .bor a_above), .free, .free, .free, .free, .free, .free, .free, .free, .free, .free] (xs_cons (x_asg (e_op (ws_cons (e_var rfl (ws_nil (bx h fun l1 hl1 h => ⟨_, _, (vsC rfl vsN), (o_srtK hl1), ⟨_, rfl, rfl, (xs_at [.is ((eL eI) .own a_source), .is ((eK (eO eS)) .bor a_above), .is ((eL eS) .own l1), .free, .free, .free, .free, .free, .free, .free, .free, .free] (xs_cons (x_asg (e_op (ws_cons (e_var rfl (ws_cons (e_callio rfl (ws_cons (e_op (ws_cons (e_var rfl (ws_nil ⟨_, _, (vsC rfl vsN), (o_lenL _), (ws_nil (bx h fun d2 hd2 h => ⟨_, _, _, _, _, rfl, (vsC rfl vsN), (bcC (eI_ok.toEncOk.borf _) bcN), rfl, call_law_next_aa hd2, (ws_nil (bx h fun x3 hx3 h => ⟨_, _, (vsC rfl (vsC rfl vsN)), (o_ixL (eS_ok.noo _) hx3), ⟨_, rfl, rfl, (xs_at [.is ((eL eI) .own d2.2), .is ((eK (eO eS)) .bor a_above), .is ((eL eS) .own l1), .is (.str x3), .free, .free, .free, .free, .free, .free, .free, .free] (xs_cons (x_asg (e_op (ws_cons (e_var rfl (ws_nil ⟨_, _, (vsC rfl vsN), (o_cpK (eO_ok eS_ok.toEncOk) _), ⟨_, rfl, rfl, (xs_at [.is ((eL eI) .own d2.2), .is ((eK (eO eS)) .bor a_above), .is ((eL eS) .own l1), .is (.str x3), .is ((eK (eO eS)) .own a_above), .free, .free, .free, .free, .free, .free, .free] (xs_cons (x_setK rfl (e_var rfl (p_sl rfl ⟨⟨_, rfl⟩, (e_cst rfl (bx h fun d4 hd4 h => ⟨_, _, _, _, _, (tref rfl (eS_ok.noo .frz _)), rfl, rfl, rfl, (a_put hd4), (xs_at [.is ((eL eI) .own d2.2), .is ((eK (eO eS)) .bor a_above), .is ((eL eS) .own l1), .is (.str x3), .is ((eK (eO eS)) .own d4), .free, .free, .free, .free, .free, .free, .free] (xs_cons (x_pre0 rfl ((eK_ok (eO_ok eS_ok.toEncOk).toEncOk).nbo _) ((eK_ok (eO_ok eS_ok.toEncOk).toEncOk).frz _) (x_to [.is ((eL eI) .own d2.2), .is ((eK (eO eS)) .bor a_above), .is ((eL eS) .own l1), .is (.str x3), .is ((eK (eO eS)) .frz d4), .free, .free, .free, .free, .free, .free, .free] (x_asg (e_lst (ws_cons (e_var rfl (ws_nil ⟨[((eK (eO eS)) .frz d4)], (tsC (tref rfl ((eK_ok (eO_ok eS_ok.toEncOk).toEncOk).nof _)) tsN), (show 1 ≤ PySem.sizeLine by decide), (bx h fun found5 hfound5 h => ⟨_, tcast (someD (e := ((eL (eF (eK (eO eS)))) .own)) hfound5) rfl, rfl, (xs_at [.is ((eL eI) .own d2.2), .is ((eK (eO eS)) .bor a_above), .is ((eL eS) .own l1), .is (.str x3), .is ((eK (eO eS)) .frz d4), .is ((eL (eF (eK (eO eS)))) .own found5), .free, .free, .free, .free, .free, .free] (xs_cons (x_asg (e_call (ws_cons (e_var rfl (ws_nil (bx h fun r6 hr6 h => ⟨_, _, _, (vsC rfl vsN), (bcC ((eK_ok (eO_ok eS_ok.toEncOk).toEncOk).borb _) bcN), call_law_branches_b hr6, ⟨_, rfl, rfl, (xs_at [.is ((eL eI) .own d2.2), .is ((eK (eO eS)) .bor a_above), .is ((eL eS) .own l1), .is (.str x3), .is ((eK (eO eS)) .frz d4), .is ((eL (eF (eK (eO eS)))) .own found5), .is ((eK (eL eS)) .own r6), .free, .free, .free, .free, .free] (xs_cons (x_pre0 rfl ((eK_ok (eL_ok eS_ok.toEncOk)).nbo _) ((eK_ok (eL_ok eS_ok.toEncOk)).frz _) (x_to [.is ((eL eI) .own d2.2), .is ((eK (eO eS)) .bor a_above), .is ((eL eS) .own l1), .is (.str x3), .is ((eK (eO eS)) .frz d4), .is ((eL (eF (eK (eO eS)))) .own found5), .is ((eK (eL eS)) .frz r6), .free, .free, .free, .free, .free] (x_asg (bx h fun ys12 hys12 h => (e_compP (f := fun x7 => [(.str x7)]) (enc := eS .own) hys12 [.is ((eL eI) .own d2.2), .is ((eK (eO eS)) .bor a_above), .is ((eL eS) .own l1), .is (.str x3), .is ((eK (eO eS)) .frz d4), .is ((eL (eF (eK (eO eS)))) .own found5), .is ((eK (eL eS)) .frz r6), .free, .free, .free, .free, .free] (ws_cons (e_var rfl (ws_nil ⟨(wk_refl _), _, (vsC rfl vsN), (it_seq (eS_ok.noo _) _), rfl⟩))) rfl (fun x7 b_ h => ⟨[.is ((eL eI) .own d2.2), .is ((eK (eO eS)) .bor a_above), .is ((eL eS) .own l1), .is (.str x3), .is ((eK (eO eS)) .frz d4), .is ((eL (eF (eK (eO eS)))) .own found5), .is ((eK (eL eS)) .frz r6), .free, .free, .free, .free, .is (.str x7)], rfl, (bx h fun x9 hx9 h => (bx h fun b11 hb11 h => (e_and' (have h := hx9; (e_op (ws_cons (e_var rfl (ws_cons (e_op (ws_cons (e_var rfl (ws_cons (e_var rfl (ws_nil (bx h fun v8 hv8 h => ⟨_, _, (vsC rfl (vsC rfl vsN)), (o_ixK (eL_ok eS_ok.toEncOk).nof hv8), (ws_nil ⟨_, _, (vsC rfl (vsC rfl vsN)), (o_ninLS _ _), ⟨rfl, vcast (someD (e := D.bl) h) rfl⟩⟩)⟩)))))))))))) (fun _ y11 h => (e_op (ws_cons (e_var rfl (ws_cons (e_op (ws_cons (e_var rfl (ws_cons (e_var rfl (ws_nil (bx h fun v10 hv10 h => ⟨_, _, (vsC rfl (vsC rfl vsN)), (o_ixK ((eO_ok eS_ok.toEncOk).noo _) hv10), (ws_nil ⟨_, _, (vsC rfl (vsC rfl vsN)), (o_neOS (m := .frz) (n := .frz) (some x7) v10), ⟨rfl, congrArg (fun b => Rv.val (.bl b)) (Option.some.inj h)⟩⟩)⟩)))))))))))) hb11 ⟨_, rfl, Option.some.inj h, fun _ => (wn_js (ds := [(.str x7)]) rfl), fun _ y_ h => (e_var rfl ⟨tcast (someD (e := D.str) h) (tref rfl (eS_ok.noo .frz _)), (wn_js (ds := [(.str x7)]) rfl)⟩)⟩)))⟩) ⟨_, rfl, rfl, (xs_at [.is ((eL eI) .own d2.2), .is ((eK (eO eS)) .bor a_above), .is ((eL eS) .own l1), .is (.str x3), .is ((eK (eO eS)) .frz d4), .is ((eL (eF (eK (eO eS)))) .own found5), .is ((eK (eL eS)) .frz r6), .is ((eL eS) .own ys12), .free, .free, .free, .free] (xs_cons (bx h fun j13 hj13 h => (x_cut [.is ((eL eI) .own j13.1), .is ((eK (eO eS)) .bor a_above), .is ((eL eS) .own l1), .is (.str x3), .is ((eK (eO eS)) .frz d4), .is ((eL (eF (eK (eO eS)))) .own j13.2), .is ((eK (eL eS)) .frz r6), .is ((eL eS) .own ys12), .free, .free, .free, .free] (have h := hj13; (x_ife (bx h fun x15 hx15 h => (bx h fun b17 hb17 h => (e_and' (have h := hx15; (e_op (ws_cons (e_var rfl (ws_cons (e_lst (ws_nil ⟨_, tsN, by decide, (ws_nil (bx h fun b14 hb14 h => ⟨_, _, (vsC rfl (vsC rfl vsN)), (o_neP (pyL pyS) rfl hb14), ⟨rfl, vcast (someD (e := D.bl) h) rfl⟩⟩))⟩))))))) (fun _ y17 h => (e_op (ws_cons (e_op (ws_cons (e_var rfl (ws_cons (e_var rfl (ws_nil (bx h fun v16 hv16 h => ⟨_, _, (vsC rfl (vsC rfl vsN)), (o_ixK ((eO_ok eS_ok.toEncOk).noo _) hv16), (ws_nil ⟨_, _, (vsC rfl vsN), (o_notN (fun _ => rfl)), ⟨rfl, congrArg (fun b => Rv.val (.bl b)) (Option.some.inj h)⟩⟩)⟩)))))))))) hb17 ⟨_, rfl, (fun hc => kT hc h fun h => (xs_cons (x_asg (e_op (ws_cons (e_var rfl (ws_nil ⟨_, _, (vsC rfl vsN), (o_cpK (eO_ok eS_ok.toEncOk) _), ⟨_, rfl, rfl, (xs_at [.is ((eL eI) .own d2.2), .is ((eK (eO eS)) .bor a_above), .is ((eL eS) .own l1), .is (.str x3), .is ((eK (eO eS)) .frz d4), .is ((eL (eF (eK (eO eS)))) .own found5), .is ((eK (eL eS)) .frz r6), .is ((eL eS) .own ys12), .is ((eK (eO eS)) .own a_above), .free, .free, .free] (xs_cons (x_setK rfl (e_op (ws_cons (e_var rfl (ws_cons (e_callio rfl (ws_cons (e_op (ws_cons (e_var rfl (ws_nil ⟨_, _, (vsC rfl vsN), (o_lenL _), (ws_nil (bx h fun d18 hd18 h => ⟨_, _, _, _, _, rfl, (vsC rfl vsN), (bcC (eI_ok.toEncOk.borf _) bcN), rfl, call_law_next_aa hd18, (ws_nil (bx h fun x19 hx19 h => ⟨_, _, (vsC rfl (vsC rfl vsN)), (o_ixL (eS_ok.noo _) hx19), (p_sl rfl ⟨⟨_, rfl⟩, (e_var rfl (bx h fun d20 hd20 h => ⟨_, _, _, _, _, rfl, rfl, rfl, rfl, (a_put hd20), (xs_at [.is ((eL eI) .own d18.2), .is ((eK (eO eS)) .bor a_above), .is ((eL eS) .own l1), .is (.str x3), .is ((eK (eO eS)) .frz d4), .is ((eL (eF (eK (eO eS)))) .own found5), .is ((eK (eL eS)) .frz r6), .is ((eL eS) .own ys12), .is ((eK (eO eS)) .own d20), .free, .free, .free] (xs_cons (x_pre0 rfl ((eK_ok (eO_ok eS_ok.toEncOk).toEncOk).nbo _) ((eK_ok (eO_ok eS_ok.toEncOk).toEncOk).frz _) (x_to [.is ((eL eI) .own d18.2), .is ((eK (eO eS)) .bor a_above), .is ((eL eS) .own l1), .is (.str x3), .is ((eK (eO eS)) .frz d4), .is ((eL (eF (eK (eO eS)))) .own found5), .is ((eK (eL eS)) .frz r6), .is ((eL eS) .own ys12), .is ((eK (eO eS)) .frz d20), .free, .free, .free] (x_app rfl (p_sl rfl ⟨⟨_, rfl, rfl⟩, (e_var rfl (bx h fun l21 hl21 h => ⟨_, _, _, (tref rfl ((eK_ok (eO_ok eS_ok.toEncOk).toEncOk).nof _)), rfl, (a_app hl21), (xs_at [.is ((eL eI) .own d18.2), .is ((eK (eO eS)) .bor a_above), .is ((eL eS) .own l1), .is (.str x3), .is ((eK (eO eS)) .frz d4), .is ((eL (eF (eK (eO eS)))) .own l21), .is ((eK (eL eS)) .frz r6), .is ((eL eS) .own ys12), .is ((eK (eO eS)) .frz d20), .free, .free, .free] (xs_nil (end_ (S := fun j13 => [.is ((eL eI) .own j13.1), .is ((eK (eO eS)) .bor a_above), .is ((eL eS) .own l1), .is (.str x3), .is ((eK (eO eS)) .frz d4), .is ((eL (eF (eK (eO eS)))) .own j13.2), .is ((eK (eL eS)) .frz r6), .is ((eL eS) .own ys12), .free, .free, .free, .free]) h (wk_same (wk_same (wk_same (wk_same (wk_same (wk_same (wk_same (wk_same (wk_free ((eK_ok (eO_ok eS_ok.toEncOk).toEncOk).nof _) (wk_same (wk_same (wk_same wk_nil)))))))))))))))⟩))⟩))))))⟩))⟩)⟩))⟩))⟩)))))))))))))⟩⟩))))))), (fun hc => kF hc h fun h => (xs_nil (end_ (S := fun j13 => [.is ((eL eI) .own j13.1), .is ((eK (eO eS)) .bor a_above), .is ((eL eS) .own l1), .is (.str x3), .is ((eK (eO eS)) .frz d4), .is ((eL (eF (eK (eO eS)))) .own j13.2), .is ((eK (eL eS)) .frz r6), .is ((eL eS) .own ys12), .free, .free, .free, .free]) h (wk_same (wk_same (wk_same (wk_same (wk_same (wk_same (wk_same (wk_same (wk_same (wk_same (wk_same (wk_same wk_nil)))))))))))))))⟩))))) (xs_at [.is ((eL eI) .own j13.1), .is ((eK (eO eS)) .bor a_above), .is ((eL eS) .own l1), .is (.str x3), .is ((eK (eO eS)) .frz d4), .is ((eL (eF (eK (eO eS)))) .own j13.2), .is ((eK (eL eS)) .frz r6), .is ((eL eS) .own ys12), .free, .free, .free, .free] (xs_cons (bx h fun j22 hj22 h => (x_cut [.is ((eL eI) .own j13.1), .is ((eK (eO eS)) .bor a_above), .is ((eL eS) .own l1), .is (.str x3), .is ((eK (eO eS)) .frz d4), .is ((eL (eF (eK (eO eS)))) .own j22), .is ((eK (eL eS)) .frz r6), .is ((eL eS) .own ys12), .free, .free, .free, .free] (have h := hj22; (x_ife (bx h fun x25 hx25 h => (bx h fun b27 hb27 h => (e_and' (have h := hx25; (e_op (ws_cons (e_op (ws_cons (e_var rfl (ws_cons (e_var rfl (ws_nil (bx h fun v23 hv23 h => ⟨_, _, (vsC rfl (vsC rfl vsN)), (o_ixK (eL_ok eS_ok.toEncOk).nof hv23), (ws_cons (e_lst (ws_cons (e_var rfl (ws_nil ⟨[(.str x3)], (tsC (tref rfl (eS_ok.noo .frz _)) tsN), (show 1 ≤ PySem.sizeLine by decide), (ws_nil (bx h fun b24 hb24 h => ⟨_, _, (vsC rfl (vsC rfl vsN)), (o_eqP (pyL pyS) rfl hb24), ⟨rfl, vcast (someD (e := D.bl) h) rfl⟩⟩))⟩)))))⟩)))))))))) (fun _ y27 h => (e_op (ws_cons (e_op (ws_cons (e_var rfl (ws_cons (e_var rfl (ws_nil (bx h fun v26 hv26 h => ⟨_, _, (vsC rfl (vsC rfl vsN)), (o_ixK ((eO_ok eS_ok.toEncOk).noo _) hv26), (ws_nil ⟨_, _, (vsC rfl vsN), (o_notN (fun _ => rfl)), ⟨rfl, congrArg (fun b => Rv.val (.bl b)) (Option.some.inj h)⟩⟩)⟩)))))))))) hb27 ⟨_, rfl, (fun hc => kT hc h fun h => (xs_cons (x_asg (e_op (ws_cons (e_var rfl (ws_nil ⟨_, _, (vsC rfl vsN), (o_cpK (eO_ok eS_ok.toEncOk) _), ⟨_, rfl, rfl, (xs_at [.is ((eL eI) .own j13.1), .is ((eK (eO eS)) .bor a_above), .is ((eL eS) .own l1), .is (.str x3), .is ((eK (eO eS)) .frz d4), .is ((eL (eF (eK (eO eS)))) .own j13.2), .is ((eK (eL eS)) .frz r6), .is ((eL eS) .own ys12), .free, .is ((eK (eO eS)) .own a_above), .free, .free] (xs_cons (x_expr (e_popKS (eO_ok eS_ok.toEncOk) rfl rfl (e_var rfl (bx h fun v28 hv28 h => ⟨_, _, rfl, rfl, hv28, (xs_at [.is ((eL eI) .own j13.1), .is ((eK (eO eS)) .bor a_above), .is ((eL eS) .own l1), .is (.str x3), .is ((eK (eO eS)) .frz d4), .is ((eL (eF (eK (eO eS)))) .own j13.2), .is ((eK (eL eS)) .frz r6), .is ((eL eS) .own ys12), .free, .is ((eK (eO eS)) .own (dropS_ a_above x3)), .free, .free] (xs_cons (x_asg (e_op (ws_cons (e_var rfl (ws_nil ⟨_, _, (vsC rfl vsN), (o_cpK (eO_ok eS_ok.toEncOk) _), (bx h fun called29 hcalled29 h => ⟨_, tcast (someD (e := ((eK (eO eS)) .own)) hcalled29) rfl, rfl, (xs_at [.is ((eL eI) .own j13.1), .is ((eK (eO eS)) .bor a_above), .is ((eL eS) .own l1), .is (.str x3), .is ((eK (eO eS)) .frz d4), .is ((eL (eF (eK (eO eS)))) .own j13.2), .is ((eK (eL eS)) .frz r6), .is ((eL eS) .own ys12), .free, .is ((eK (eO eS)) .own (dropS_ a_above x3)), .is ((eK (eO eS)) .own called29), .free] (xs_cons (x_setK rfl (e_op (ws_cons (e_var rfl (ws_cons (e_var rfl (ws_nil (bx h fun v30 hv30 h => ⟨_, _, (vsC rfl (vsC rfl vsN)), (o_ixK ((eO_ok eS_ok.toEncOk).noo _) hv30), (p_sl rfl ⟨⟨_, rfl⟩, (e_cst rfl (bx h fun d31 hd31 h => ⟨_, _, _, _, _, rfl, rfl, rfl, rfl, (a_put hd31), (xs_at [.is ((eL eI) .own j13.1), .is ((eK (eO eS)) .bor a_above), .is ((eL eS) .own l1), .is (.str x3), .is ((eK (eO eS)) .frz d4), .is ((eL (eF (eK (eO eS)))) .own j13.2), .is ((eK (eL eS)) .frz r6), .is ((eL eS) .own ys12), .free, .is ((eK (eO eS)) .own (dropS_ a_above x3)), .is ((eK (eO eS)) .own d31), .free] (xs_cons (x_pre0 rfl ((eK_ok (eO_ok eS_ok.toEncOk).toEncOk).nbo _) ((eK_ok (eO_ok eS_ok.toEncOk).toEncOk).frz _) (x_to [.is ((eL eI) .own j13.1), .is ((eK (eO eS)) .bor a_above), .is ((eL eS) .own l1), .is (.str x3), .is ((eK (eO eS)) .frz d4), .is ((eL (eF (eK (eO eS)))) .own j13.2), .is ((eK (eL eS)) .frz r6), .is ((eL eS) .own ys12), .free, .is ((eK (eO eS)) .frz (dropS_ a_above x3)), .is ((eK (eO eS)) .own d31), .free] (x_pre0 rfl ((eK_ok (eO_ok eS_ok.toEncOk).toEncOk).nbo _) ((eK_ok (eO_ok eS_ok.toEncOk).toEncOk).frz _) (x_to [.is ((eL eI) .own j13.1), .is ((eK (eO eS)) .bor a_above), .is ((eL eS) .own l1), .is (.str x3), .is ((eK (eO eS)) .frz d4), .is ((eL (eF (eK (eO eS)))) .own j13.2), .is ((eK (eL eS)) .frz r6), .is ((eL eS) .own ys12), .free, .is ((eK (eO eS)) .frz (dropS_ a_above x3)), .is ((eK (eO eS)) .frz d31), .free] (x_asg (e_op (ws_cons (e_var rfl (ws_cons (e_lst (ws_cons (e_var rfl (ws_cons (e_var rfl (ws_nil ⟨[((eK (eO eS)) .frz (dropS_ a_above x3)), ((eK (eO eS)) .frz d31)], (tsC (tref rfl ((eK_ok (eO_ok eS_ok.toEncOk).toEncOk).nof _)) (tsC (tref rfl ((eK_ok (eO_ok eS_ok.toEncOk).toEncOk).nof _)) tsN)), (show 2 ≤ PySem.sizeLine by decide), (ws_nil (bx h fun l32 hl32 h => ⟨_, _, (vsC rfl (vsC rfl vsN)), (o_cat (eF_ok (eK_ok (eO_ok eS_ok.toEncOk).toEncOk)) hl32), ⟨_, rfl, rfl, (xs_at [.is ((eL eI) .own j13.1), .is ((eK (eO eS)) .bor a_above), .is ((eL eS) .own l1), .is (.str x3), .is ((eK (eO eS)) .frz d4), .is ((eL (eF (eK (eO eS)))) .own l32), .is ((eK (eL eS)) .frz r6), .is ((eL eS) .own ys12), .free, .is ((eK (eO eS)) .frz (dropS_ a_above x3)), .is ((eK (eO eS)) .frz d31), .free] (xs_nil (end_ (S := fun j22 => [.is ((eL eI) .own j13.1), .is ((eK (eO eS)) .bor a_above), .is ((eL eS) .own l1), .is (.str x3), .is ((eK (eO eS)) .frz d4), .is ((eL (eF (eK (eO eS)))) .own j22), .is ((eK (eL eS)) .frz r6), .is ((eL eS) .own ys12), .free, .free, .free, .free]) h (wk_same (wk_same (wk_same (wk_same (wk_same (wk_same (wk_same (wk_same (wk_same (wk_free ((eK_ok (eO_ok eS_ok.toEncOk).toEncOk).nof _) (wk_free ((eK_ok (eO_ok eS_ok.toEncOk).toEncOk).nof _) (wk_same wk_nil)))))))))))))))⟩⟩))⟩)))))))))))))))))⟩))⟩)⟩))))))))))⟩)⟩)))))))⟩))))))⟩⟩))))))), (fun hc => kF hc h fun h => (xs_nil (end_ (S := fun j22 => [.is ((eL eI) .own j13.1), .is ((eK (eO eS)) .bor a_above), .is ((eL eS) .own l1), .is (.str x3), .is ((eK (eO eS)) .frz d4), .is ((eL (eF (eK (eO eS)))) .own j22), .is ((eK (eL eS)) .frz r6), .is ((eL eS) .own ys12), .free, .free, .free, .free]) h (wk_same (wk_same (wk_same (wk_same (wk_same (wk_same (wk_same (wk_same (wk_same (wk_same (wk_same (wk_same wk_nil)))))))))))))))⟩))))) (xs_at [.is ((eL eI) .own j13.1), .is ((eK (eO eS)) .bor a_above), .is ((eL eS) .own l1), .is (.str x3), .is ((eK (eO eS)) .frz d4), .is ((eL (eF (eK (eO eS)))) .own j22), .is ((eK (eL eS)) .frz r6), .is ((eL eS) .own ys12), .free, .free, .free, .free] (xs_cons (x_ret (e_mov rfl ⟨_, rfl, (ret_top (σ := [.is ((eL eI) .own j13.1), .is ((eK (eO eS)) .bor a_above), .is ((eL eS) .own l1), .is (.str x3), .is ((eK (eO eS)) .frz d4), .free, .is ((eK (eL eS)) .frz r6), .is ((eL eS) .own ys12), .free, .free, .free, .free]) (eq := (fun (y_ : (List (List (Str × Option (Str))) × List (Int))) => (((eL (eF (eK (eO eS)))) .own y_.1), some ((eL eI) .own y_.2)))) (y := (j22, j13.1)) h (fin_t (.inl rfl) ((eL_ok (eF_ok (eK_ok (eO_ok eS_ok.toEncOk).toEncOk)).toEncOk).nbo (j22)) rfl ((eL_ok eI_ok.toEncOk).nbo (j13.1)) rfl))⟩))))))))))))⟩)))))))⟩⟩))))))))⟩)⟩)))))))))⟩))⟩)))))⟩⟩)))))))⟩⟩))⟩))⟩)))))))))))))⟩⟩))))))))

theorem all_law_others : ∀ ds q, M 23 ds q → RunOk Γ b_law_others 12 true ds q := by
  intro ds q hm
  rcases hm with ⟨x0, x1, r, h, rfl, rfl⟩
  · exact run_law_others_ab x0 x1 r h

theorem sem_law_others : ∀ ds r o, Γ 23 ds = some (r, o) → o.isSome = true ∧ ∃ fuel, runF fuel Γ b_law_others 12 true ds = some (r, o) := mkG_sem all_law_others

theorem call_law_others_ab {a_source : List (Int)} {a_above : List (Str × Option (Str))} {r : List (List (Str × Option (Str))) × List (Int)} (h : F_law_others a_source a_above = some r) : Γ 23 [((eL eI) .own a_source), ((eK (eO eS)) .bor a_above)] = some (((eL (eF (eK (eO eS)))) .own r.1), some ((eL eI) .own r.2)) := mkG_call all_law_others ⟨_, _, _, h, rfl, rfl⟩

theorem run_law_right_ab (a_source : List (Int)) (a_above : List (Str × Option (Str))) (r : Bool × List (Int)) (h : F_law_right a_source a_above = some r) : RunOk Γ b_law_right 13 true [((eL eI) .own a_source), ((eK (eO eS)) .bor a_above)] ((fun (y_ : (Bool × List (Int))) => ((eB .own y_.1), some ((eL eI) .own y_.2))) r) := by
  refine run_of ?_
  delta F_law_right at h
  exact (xs_at [.is ((eL eI) .own a_source), .is ((eK (eO eS)) .bor a_above), .free, .free, .free, .free, .free, .free, .free, .free, .free, .free, .free] (xs_cons (x_asg (e_op (ws_cons (e_var rfl (ws_nil ⟨_, _, (vsC rfl vsN), (o_cpK (eO_ok eS_ok.toEncOk) _), ⟨_, rfl, rfl, (xs_at [.is ((eL eI) .own a_source), .is ((eK (eO eS)) .bor a_above), .is ((eK (eO eS)) .own a_above), .free, .free, .free, .free, .free, .free, .free, .free, .free, .free] (xs_cons (x_asg (e_mk (ws_cons (e_var rfl (ws_nil (bx h fun tree1 htree1 h => ⟨_, _, _, (vsC rfl vsN), (bcC ((eK_ok (eO_ok eS_ok.toEncOk).toEncOk).bor _) bcN), call_Tree__init_ab htree1, ⟨_, rfl, rfl, (xs_at [.is ((eL eI) .own a_source), .is ((eK (eO eS)) .bor a_above), .is ((eK (eO eS)) .own a_above), .is (e_Tree .own tree1.2), .free, .free, .free, .free, .free, .free, .free, .free, .free] (xs_cons (x_ife (e_op (ws_cons (e_var rfl (ws_cons (e_var rfl (ws_nil (bx h fun b2 hb2 h => ⟨_, _, (vsC rfl (vsC rfl vsN)), (o_neK pyOS rfl hb2), ⟨_, rfl, (fun hc => kT hc h fun h => (xs_cons (x_ret (e_cst rfl ⟨_, rfl, (ret_top (σ := [.is ((eL eI) .own a_source), .is ((eK (eO eS)) .bor a_above), .is ((eK (eO eS)) .own a_above), .is (e_Tree .own tree1.2), .free, .free, .free, .free, .free, .free, .free, .free, .free]) (eq := (fun (y_ : (Bool × List (Int))) => ((eB .own y_.1), some ((eL eI) .own y_.2)))) (y := (false, a_source)) h (fin_t (.inl rfl) (eB_ok.toEncOk.nbf (false)) rfl ((eL_ok eI_ok.toEncOk).nbo (a_source)) rfl))⟩)))), (fun hc => kF hc h fun h => (xs_nil (xs_at [.is ((eL eI) .own a_source), .is ((eK (eO eS)) .bor a_above), .is ((eK (eO eS)) .own a_above), .is (e_Tree .own tree1.2), .free, .free, .free, .free, .free, .free, .free, .free, .free] (xs_cons (x_clrK rfl (p_sl rfl ⟨⟨_, rfl, rfl⟩, _, _, rfl, a_clrK _, (xs_at [.is ((eL eI) .own a_source), .is ((eK (eO eS)) .bor a_above), .is ((eK (eO eS)) .own ([] : List (Str × Option (Str)))), .is (e_Tree .own tree1.2), .free, .free, .free, .free, .free, .free, .free, .free, .free] (xs_cons (x_asg (e_call (ws_cons (e_var rfl (ws_nil (bx h fun r3 hr3 h => ⟨_, _, _, (vsC rfl vsN), (bcC ((eK_ok (eO_ok eS_ok.toEncOk).toEncOk).borb _) bcN), call_law_branches_b hr3, ⟨_, rfl, rfl, (xs_at [.is ((eL eI) .own a_source), .is ((eK (eO eS)) .bor a_above), .is ((eK (eO eS)) .own ([] : List (Str × Option (Str)))), .is (e_Tree .own tree1.2), .is ((eK (eL eS)) .own r3), .free, .free, .free, .free, .free, .free, .free, .free] (xs_cons (x_pre0 rfl ((eK_ok (eL_ok eS_ok.toEncOk)).nbo _) ((eK_ok (eL_ok eS_ok.toEncOk)).frz _) (x_to [.is ((eL eI) .own a_source), .is ((eK (eO eS)) .bor a_above), .is ((eK (eO eS)) .own ([] : List (Str × Option (Str)))), .is (e_Tree .own tree1.2), .is ((eK (eL eS)) .frz r3), .free, .free, .free, .free, .free, .free, .free, .free] (bx h fun xs4 hxs4 h => (bx h fun q40 hq40 h => (x_forR (f := fun x7 => [(.int x7)]) hq40 (fun t5 => [.is ((eL eI) .own a_source), .is ((eK (eO eS)) .bor a_above), .is ((eK (eO eS)) .own ([] : List (Str × Option (Str)))), .is (e_Tree .own tree1.2), .is ((eK (eL eS)) .frz r3), .free, .free, .free, .any, .free, .any, .any, .free]) (RetR true (fun (y_ : (Bool × List (Int))) => ((eB .own y_.1), some ((eL eI) .own y_.2)))) (retR _ _) (ws_isw (d := (.int (2 : Int))) (σ1 := [.is ((eL eI) .own a_source), .is ((eK (eO eS)) .bor a_above), .is ((eK (eO eS)) .own ([] : List (Str × Option (Str)))), .is (e_Tree .own tree1.2), .is ((eK (eL eS)) .frz r3), .free, .free, .free, .free, .free, .free, .free, .free]) (e_cst rfl ⟨rfl, rfl⟩) (ws_nil ⟨(wk_same (wk_same (wk_same (wk_same (wk_same (wk_same (wk_same (wk_same (wk_any (wk_same (wk_any (wk_any (wk_same wk_nil))))))))))))), _, (vsC rfl vsN), (it_range1 hxs4), rfl⟩)) (fun x7 t5 q_ h => ⟨[.is ((eL eI) .own a_source), .is ((eK (eO eS)) .bor a_above), .is ((eK (eO eS)) .own ([] : List (Str × Option (Str)))), .is (e_Tree .own tree1.2), .is ((eK (eL eS)) .frz r3), .is (.int x7), .free, .free, .any, .free, .any, .any, .free], rfl, (xs_cons (x_asg (e_meth (e_var rfl ⟨_, rfl, (Tree_no_posts .own tree1.2), (ws_nil (bx h fun r8 hr8 h => ⟨_, _, _, (vsC rfl vsN), (bcC (e_Tree_ok.bor _) bcN), call_Tree_posts_b hr8, ⟨_, rfl, rfl, (xs_at [.is ((eL eI) .own a_source), .is ((eK (eO eS)) .bor a_above), .is ((eK (eO eS)) .own ([] : List (Str × Option (Str)))), .is (e_Tree .own tree1.2), .is ((eK (eL eS)) .frz r3), .is (.int x7), .free, .free, .is ((eL eS) .own r8), .free, .any, .any, .free] (xs_cons (x_ife (bx h fun x11 hx11 h => (bx h fun b14 hb14 h => (e_or' (have h := hx11; (e_op (ws_cons (e_meth (e_var rfl ⟨_, rfl, (Tree_no_head .own tree1.2), (ws_nil (bx h fun r9 hr9 h => ⟨_, _, _, (vsC rfl vsN), (bcC (e_Tree_ok.bor _) bcN), call_Tree_head_b hr9, (ws_cons (e_call (ws_cons (e_var rfl (ws_nil (bx h fun r10 hr10 h => ⟨_, _, _, (vsC rfl vsN), (bcC ((eK_ok (eO_ok eS_ok.toEncOk).toEncOk).borb _) bcN), call_law_head_b hr10, (ws_nil ⟨_, _, (vsC rfl (vsC rfl vsN)), (o_neS r9 r10), ⟨rfl, vcast (someD (e := D.bl) h) rfl⟩⟩)⟩))))))⟩))⟩))))) (fun _ y14 h => (e_op (ws_cons (e_var rfl (ws_cons (e_op (ws_cons (e_var rfl (ws_nil (bx h fun l12 hl12 h => ⟨_, _, (vsC rfl vsN), (o_srtK hl12), (ws_nil (bx h fun b13 hb13 h => ⟨_, _, (vsC rfl (vsC rfl vsN)), (o_neP (pyL pyS) rfl hb13), ⟨rfl, congrArg (fun b => Rv.val (.bl b)) (Option.some.inj h)⟩⟩))⟩)))))))))) hb14 ⟨_, rfl, (fun hc => kT hc h fun h => (xs_cons (x_ret (e_cst rfl ⟨_, rfl, (ret_loop (σ := [.is ((eL eI) .own a_source), .is ((eK (eO eS)) .bor a_above), .is ((eK (eO eS)) .own ([] : List (Str × Option (Str)))), .is (e_Tree .own tree1.2), .is ((eK (eL eS)) .frz r3), .is (.int x7), .free, .free, .is ((eL eS) .own r8), .free, .any, .any, .free]) (eq := (fun (y_ : (Bool × List (Int))) => ((eB .own y_.1), some ((eL eI) .own y_.2)))) (y := (false, a_source)) h (fin_t (.inl rfl) (eB_ok.toEncOk.nbf (false)) rfl ((eL_ok eI_ok.toEncOk).nbo (a_source)) rfl))⟩)))), (fun hc => kF hc h fun h => (xs_nil (xs_at [.is ((eL eI) .own a_source), .is ((eK (eO eS)) .bor a_above), .is ((eK (eO eS)) .own ([] : List (Str × Option (Str)))), .is (e_Tree .own tree1.2), .is ((eK (eL eS)) .frz r3), .is (.int x7), .free, .free, .is ((eL eS) .own r8), .free, .any, .any, .free] (xs_cons (x_revL rfl (p_sl rfl ⟨⟨_, rfl, rfl⟩, _, _, rfl, a_rev _, (xs_at [.is ((eL eI) .own a_source), .is ((eK (eO eS)) .bor a_above), .is ((eK (eO eS)) .own ([] : List (Str × Option (Str)))), .is (e_Tree .own tree1.2), .is ((eK (eL eS)) .frz r3), .is (.int x7), .free, .free, .is ((eL eS) .own (r8.reverse)), .free, .any, .any, .free] (xs_cons (x_app rfl (p_sl rfl ⟨⟨_, rfl, rfl⟩, (e_cst rfl (bx h fun l15 hl15 h => ⟨_, _, _, rfl, rfl, (a_app hl15), (xs_at [.is ((eL eI) .own a_source), .is ((eK (eO eS)) .bor a_above), .is ((eK (eO eS)) .own ([] : List (Str × Option (Str)))), .is (e_Tree .own tree1.2), .is ((eK (eL eS)) .frz r3), .is (.int x7), .free, .free, .is ((eL eS) .own l15), .free, .any, .any, .free] (xs_cons (bx h fun q38 hq38 h => (x_forR (f := fun x18 => [(.str x18)]) hq38 (fun t16 => [.is ((eL eI) .own a_source), .is ((eK (eO eS)) .bor a_above), .is ((eK (eO eS)) .own ([] : List (Str × Option (Str)))), .is (e_Tree .own tree1.2), .is ((eK (eL eS)) .frz r3), .is (.int x7), .free, .free, .is ((eL eS) .own l15), .free, .any, .any, .free]) (RetR true (fun (y_ : (Bool × List (Int))) => ((eB .own y_.1), some ((eL eI) .own y_.2)))) (retR _ _) (ws_cons (e_var rfl (ws_nil ⟨(wk_same (wk_same (wk_same (wk_same (wk_same (wk_same (wk_same (wk_same (wk_same (wk_same (wk_same (wk_same (wk_same wk_nil))))))))))))), _, (vsC rfl vsN), (it_keys (by decide) _), rfl⟩))) (fun x18 t16 q_ h => ⟨[.is ((eL eI) .own a_source), .is ((eK (eO eS)) .bor a_above), .is ((eK (eO eS)) .own ([] : List (Str × Option (Str)))), .is (e_Tree .own tree1.2), .is ((eK (eL eS)) .frz r3), .is (.int x7), .free, .free, .is ((eL eS) .own l15), .is (.str x18), .any, .any, .free], rfl, (xs_cons (x_par (ws_cons (e_meth (e_var rfl ⟨_, rfl, (Tree_no_below .own tree1.2), (ws_cons (e_var rfl (ws_nil (bx h fun r19 hr19 h => ⟨_, _, _, (vsC rfl (vsC rfl vsN)), (bcC (e_Tree_ok.bor _) (bcC (eS_ok.toEncOk.borf _) bcN)), call_Tree_below_ba hr19, (ws_cons (e_meth (e_var rfl ⟨_, rfl, (Tree_no_branch .own tree1.2), (ws_cons (e_var rfl (ws_nil (bx h fun r20 hr20 h => ⟨_, _, _, (vsC rfl (vsC rfl vsN)), (bcC (e_Tree_ok.bor _) (bcC (eS_ok.toEncOk.borf _) bcN)), call_Tree_branch_ba hr20, (ws_nil (bx h fun below21 hbelow21 h => (bx h fun branch22 hbranch22 h => ⟨_, _, (tsC (tcast (someD (e := ((eL eS) .own)) hbelow21) rfl) (tsC (tcast (someD (e := ((eL eS) .own)) hbranch22) rfl) tsN)), rfl, (xs_at [.is ((eL eI) .own a_source), .is ((eK (eO eS)) .bor a_above), .is ((eK (eO eS)) .own ([] : List (Str × Option (Str)))), .is (e_Tree .own tree1.2), .is ((eK (eL eS)) .frz r3), .is (.int x7), .free, .free, .is ((eL eS) .own l15), .is (.str x18), .is ((eL eS) .own below21), .is ((eL eS) .own branch22), .free] (xs_cons (x_ife (bx h fun x25 hx25 h => (bx h fun b32 hb32 h => (e_or' (have h := hx25; (e_op (ws_cons (e_meth (e_var rfl ⟨_, rfl, (Tree_no_above .own tree1.2), (ws_cons (e_var rfl (ws_nil (bx h fun r23 hr23 h => ⟨_, _, _, (vsC rfl (vsC rfl vsN)), (bcC (e_Tree_ok.bor _) (bcC (eS_ok.toEncOk.borf _) bcN)), call_Tree_above_ba hr23, (ws_cons (e_op (ws_cons (e_var rfl (ws_cons (e_var rfl (ws_nil (bx h fun v24 hv24 h => ⟨_, _, (vsC rfl (vsC rfl vsN)), (o_ixK ((eO_ok eS_ok.toEncOk).noo _) hv24), (ws_nil ⟨_, _, (vsC rfl (vsC rfl vsN)), (o_neOS (m := .frz) (n := .frz) r23 v24), ⟨rfl, vcast (someD (e := D.bl) h) rfl⟩⟩)⟩))))))))⟩))))⟩))))) (fun _ y32 h => (bx h fun x28 hx28 h => (bx h fun b31 hb31 h => (e_or' (have h := hx28; (e_op (ws_cons (e_var rfl (ws_cons (e_call (ws_cons (e_var rfl (ws_cons (e_var rfl (ws_nil (bx h fun r26 hr26 h => ⟨_, _, _, (vsC rfl (vsC rfl vsN)), (bcC ((eK_ok (eO_ok eS_ok.toEncOk).toEncOk).borb _) (bcC (eS_ok.toEncOk.borf _) bcN)), call_law_under_ba hr26, (ws_nil (bx h fun b27 hb27 h => ⟨_, _, (vsC rfl (vsC rfl vsN)), (o_neP (pyL pyS) rfl hb27), ⟨rfl, vcast (someD (e := D.bl) h) rfl⟩⟩))⟩)))))))))))) (fun _ y31 h => (e_op (ws_cons (e_var rfl (ws_cons (e_op (ws_cons (e_var rfl (ws_cons (e_var rfl (ws_nil (bx h fun v29 hv29 h => ⟨_, _, (vsC rfl (vsC rfl vsN)), (o_ixK (eL_ok eS_ok.toEncOk).nof hv29), (ws_nil (bx h fun b30 hb30 h => ⟨_, _, (vsC rfl (vsC rfl vsN)), (o_neP (pyL pyS) rfl hb30), ⟨rfl, congrArg (fun b => Rv.val (.bl b)) (Option.some.inj h)⟩⟩))⟩)))))))))))) hb31 ⟨rfl, congrArg (fun b => Rv.val (.bl b)) (Option.some.inj h)⟩)))) hb32 ⟨_, rfl, (fun hc => kT hc h fun h => (xs_cons (x_ret (e_cst rfl ⟨_, rfl, (ret_loop (σ := [.is ((eL eI) .own a_source), .is ((eK (eO eS)) .bor a_above), .is ((eK (eO eS)) .own ([] : List (Str × Option (Str)))), .is (e_Tree .own tree1.2), .is ((eK (eL eS)) .frz r3), .is (.int x7), .free, .free, .is ((eL eS) .own l15), .is (.str x18), .is ((eL eS) .own below21), .is ((eL eS) .own branch22), .free]) (eq := (fun (y_ : (Bool × List (Int))) => ((eB .own y_.1), some ((eL eI) .own y_.2)))) (y := (false, a_source)) h (fin_t (.inl rfl) (eB_ok.toEncOk.nbf (false)) rfl ((eL_ok eI_ok.toEncOk).nbo (a_source)) rfl))⟩)))), (fun hc => kF hc h fun h => (xs_nil (xs_at [.is ((eL eI) .own a_source), .is ((eK (eO eS)) .bor a_above), .is ((eK (eO eS)) .own ([] : List (Str × Option (Str)))), .is (e_Tree .own tree1.2), .is ((eK (eL eS)) .frz r3), .is (.int x7), .free, .free, .is ((eL eS) .own l15), .is (.str x18), .is ((eL eS) .own below21), .is ((eL eS) .own branch22), .free] (xs_cons (x_ife (bx h fun x34 hx34 h => (bx h fun b36 hb36 h => (e_or' (have h := hx34; (e_op (ws_cons (e_meth (e_var rfl ⟨_, rfl, (Tree_no_size .own tree1.2), (ws_cons (e_var rfl (ws_nil (bx h fun r33 hr33 h => ⟨_, _, _, (vsC rfl (vsC rfl vsN)), (bcC (e_Tree_ok.bor _) (bcC (eS_ok.toEncOk.borf _) bcN)), call_Tree_size_ba hr33, (ws_cons (e_op (ws_cons (e_var rfl (ws_nil ⟨_, _, (vsC rfl vsN), (o_lenL _), (ws_nil ⟨_, _, (vsC rfl (vsC rfl vsN)), (o_neI r33 (branch22.length : Int)), ⟨rfl, vcast (someD (e := D.bl) h) rfl⟩⟩)⟩)))))⟩))))⟩))))) (fun _ y36 h => (e_op (ws_cons (e_meth (e_var rfl ⟨_, rfl, (Tree_no_size .own tree1.2), (ws_cons (e_var rfl (ws_nil (bx h fun r35 hr35 h => ⟨_, _, _, (vsC rfl (vsC rfl vsN)), (bcC (e_Tree_ok.bor _) (bcC (eS_ok.toEncOk.borf _) bcN)), call_Tree_size_ba hr35, (ws_nil ⟨_, _, (vsC rfl vsN), rfl, ⟨rfl, congrArg (fun b => Rv.val (.bl b)) (Option.some.inj h)⟩⟩)⟩))))⟩))))) hb36 ⟨_, rfl, (fun hc => kT hc h fun h => (xs_cons (x_ret (e_cst rfl ⟨_, rfl, (ret_loop (σ := [.is ((eL eI) .own a_source), .is ((eK (eO eS)) .bor a_above), .is ((eK (eO eS)) .own ([] : List (Str × Option (Str)))), .is (e_Tree .own tree1.2), .is ((eK (eL eS)) .frz r3), .is (.int x7), .free, .free, .is ((eL eS) .own l15), .is (.str x18), .is ((eL eS) .own below21), .is ((eL eS) .own branch22), .free]) (eq := (fun (y_ : (Bool × List (Int))) => ((eB .own y_.1), some ((eL eI) .own y_.2)))) (y := (false, a_source)) h (fin_t (.inl rfl) (eB_ok.toEncOk.nbf (false)) rfl ((eL_ok eI_ok.toEncOk).nbo (a_source)) rfl))⟩)))), (fun hc => kF hc h fun h => (xs_nil (xs_at [.is ((eL eI) .own a_source), .is ((eK (eO eS)) .bor a_above), .is ((eK (eO eS)) .own ([] : List (Str × Option (Str)))), .is (e_Tree .own tree1.2), .is ((eK (eL eS)) .frz r3), .is (.int x7), .free, .free, .is ((eL eS) .own l15), .is (.str x18), .is ((eL eS) .own below21), .is ((eL eS) .own branch22), .free] (xs_cons (x_app rfl (p_sl rfl ⟨⟨_, rfl, rfl⟩, (e_cst rfl (bx h fun l37 hl37 h => ⟨_, _, _, rfl, rfl, (a_app hl37), (xs_at [.is ((eL eI) .own a_source), .is ((eK (eO eS)) .bor a_above), .is ((eK (eO eS)) .own ([] : List (Str × Option (Str)))), .is (e_Tree .own tree1.2), .is ((eK (eL eS)) .frz r3), .is (.int x7), .free, .free, .is ((eL eS) .own l15), .is (.str x18), .is ((eL eS) .own l37), .is ((eL eS) .own branch22), .free] (xs_cons (x_clrL rfl (p_sl rfl ⟨⟨_, rfl, rfl⟩, _, _, rfl, a_clr _, (xs_at [.is ((eL eI) .own a_source), .is ((eK (eO eS)) .bor a_above), .is ((eK (eO eS)) .own ([] : List (Str × Option (Str)))), .is (e_Tree .own tree1.2), .is ((eK (eL eS)) .frz r3), .is (.int x7), .free, .free, .is ((eL eS) .own l15), .is (.str x18), .is ((eL eS) .own l37), .is ((eL eS) .own ([] : List (Str))), .free] (xs_nil (nx_loop (S := fun t16 => [.is ((eL eI) .own a_source), .is ((eK (eO eS)) .bor a_above), .is ((eK (eO eS)) .own ([] : List (Str × Option (Str)))), .is (e_Tree .own tree1.2), .is ((eK (eL eS)) .frz r3), .is (.int x7), .free, .free, .is ((eL eS) .own l15), .free, .any, .any, .free]) h (wk_same (wk_same (wk_same (wk_same (wk_same (wk_same (wk_same (wk_same (wk_same (wk_free (eS_ok.noo .frz _) (wk_any (wk_any (wk_same wk_nil))))))))))))))))⟩))))⟩))⟩))))))⟩))))))))⟩))))))⟩)))⟩))))⟩)))⟩))))⟩)))))⟩) (fun y39 hy_ fl_ s_ hR_ => (ret_loopR (eq := (fun (y_ : (Bool × List (Int))) => ((eB .own y_.1), some ((eL eI) .own y_.2)))) (sumL (A := fun y => some (Sum.inl y)) hy_ h) hR_)) (fun t17 ht_ => (have h := sumR ht_ h; (xs_at [.is ((eL eI) .own a_source), .is ((eK (eO eS)) .bor a_above), .is ((eK (eO eS)) .own ([] : List (Str × Option (Str)))), .is (e_Tree .own tree1.2), .is ((eK (eL eS)) .frz r3), .is (.int x7), .free, .free, .is ((eL eS) .own l15), .free, .any, .any, .free] (xs_nil (nx_loop (S := fun t5 => [.is ((eL eI) .own a_source), .is ((eK (eO eS)) .bor a_above), .is ((eK (eO eS)) .own ([] : List (Str × Option (Str)))), .is (e_Tree .own tree1.2), .is ((eK (eL eS)) .frz r3), .free, .free, .free, .any, .free, .any, .any, .free]) h (wk_same (wk_same (wk_same (wk_same (wk_same (wk_free (eI_ok.noo .frz _) (wk_same (wk_same (wk_any (wk_same (wk_same (wk_same (wk_same wk_nil))))))))))))))))))))))⟩))⟩))))⟩))))))⟩))))))⟩⟩))⟩))))⟩) (fun y41 hy_ fl_ s_ hR_ => (ret_topR (eq := (fun (y_ : (Bool × List (Int))) => ((eB .own y_.1), some ((eL eI) .own y_.2)))) (sumL (A := fun y => some y) hy_ h) hR_)) (fun t6 ht_ => (have h := sumR ht_ h; (xs_at [.is ((eL eI) .own a_source), .is ((eK (eO eS)) .bor a_above), .is ((eK (eO eS)) .own ([] : List (Str × Option (Str)))), .is (e_Tree .own tree1.2), .is ((eK (eL eS)) .frz r3), .free, .free, .free, .any, .free, .any, .any, .free] (xs_cons (x_asg (e_mk (ws_cons (e_op (ws_cons (e_op (ws_cons (e_op (ws_cons (e_var rfl (ws_nil ⟨_, _, (vsC rfl vsN), (o_itm (eO_ok eS_ok.toEncOk) _), (ws_nil ⟨_, _, (vsC rfl vsN), (o_rev eT2_ok _), (ws_nil ⟨_, _, (vsC rfl vsN), (o_mkK (eO_ok eS_ok.toEncOk) _), (ws_nil (bx h fun tree42 htree42 h => ⟨_, _, _, (vsC rfl vsN), (bcC ((eK_ok (eO_ok eS_ok.toEncOk).toEncOk).bor _) bcN), call_Tree__init_ab htree42, ⟨_, rfl, rfl, (xs_at [.is ((eL eI) .own a_source), .is ((eK (eO eS)) .bor a_above), .is ((eK (eO eS)) .own ([] : List (Str × Option (Str)))), .is (e_Tree .own tree1.2), .is ((eK (eL eS)) .frz r3), .free, .is (e_Tree .own tree42.2), .free, .any, .free, .any, .any, .free] (xs_cons (x_ife (bx h fun x44 hx44 h => (bx h fun b46 hb46 h => (e_or' (have h := hx44; (e_not (e_eqO (e_var rfl (e_var rfl (bx h fun b43 hb43 h => ⟨_, _, _, (vsC rfl (vsC rfl vsN)), rfl, (bcC (e_Tree_ok.bor _) (bcC (e_Tree_ok.bor _) bcN)), call_Tree__eq_bb hb43, ⟨_, rfl, ⟨rfl, vcast (someD (e := D.bl) h) rfl⟩⟩⟩)))))) (fun _ y46 h => (e_not (e_eqO (e_var rfl (e_var rfl (bx h fun b45 hb45 h => ⟨_, _, _, (vsC rfl (vsC rfl vsN)), rfl, (bcC (e_Tree_ok.bor _) (bcC (e_Tree_ok.bor _) bcN)), call_Tree__eq_bb hb45, ⟨_, rfl, ⟨rfl, congrArg (fun b => Rv.val (.bl b)) (Option.some.inj h)⟩⟩⟩)))))) hb46 ⟨_, rfl, (fun hc => kT hc h fun h => (xs_cons (x_ret (e_cst rfl ⟨_, rfl, (ret_top (σ := [.is ((eL eI) .own a_source), .is ((eK (eO eS)) .bor a_above), .is ((eK (eO eS)) .own ([] : List (Str × Option (Str)))), .is (e_Tree .own tree1.2), .is ((eK (eL eS)) .frz r3), .free, .is (e_Tree .own tree42.2), .free, .any, .free, .any, .any, .free]) (eq := (fun (y_ : (Bool × List (Int))) => ((eB .own y_.1), some ((eL eI) .own y_.2)))) (y := (false, a_source)) h (fin_t (.inl rfl) (eB_ok.toEncOk.nbf (false)) rfl ((eL_ok eI_ok.toEncOk).nbo (a_source)) rfl))⟩)))), (fun hc => kF hc h fun h => (xs_nil (xs_at [.is ((eL eI) .own a_source), .is ((eK (eO eS)) .bor a_above), .is ((eK (eO eS)) .own ([] : List (Str × Option (Str)))), .is (e_Tree .own tree1.2), .is ((eK (eL eS)) .frz r3), .free, .is (e_Tree .own tree42.2), .free, .any, .free, .any, .any, .free] (xs_cons (x_ife (e_op (ws_cons (bx h fun x48 hx48 h => (bx h fun ys51 hys51 h => (e_compP (f := fun x49 => [(x49).1]) (enc := eX .own) hys51 [.is ((eL eI) .own a_source), .is ((eK (eO eS)) .bor a_above), .is ((eK (eO eS)) .own ([] : List (Str × Option (Str)))), .is (e_Tree .own tree1.2), .is ((eK (eL eS)) .frz r3), .free, .is (e_Tree .own tree42.2), .free, .any, .free, .any, .any, .free] (ws_isw (d := ((eL eX) .own x48)) (σ1 := [.is ((eL eI) .own a_source), .is ((eK (eO eS)) .bor a_above), .is ((eK (eO eS)) .own ([] : List (Str × Option (Str)))), .is (e_Tree .own tree1.2), .is ((eK (eL eS)) .frz r3), .free, .is (e_Tree .own tree42.2), .free, .any, .free, .any, .any, .free]) (have h := hx48; (e_lst (ws_cons (e_var rfl (ws_cons (e_cst rfl (ws_cons (e_frzE (e_op (ws_cons (e_var rfl (ws_nil (bx h fun l47 hl47 h => ⟨_, _, (vsC rfl vsN), (o_srtK hl47), ⟨_, rfl, ((eL_ok eS_ok.toEncOk).nbo _), (ws_cons (e_cst rfl (ws_nil ⟨[((⟨((eK (eO eS)) .bor a_above), rfl⟩ : Dn)).1, ((⟨.non, rfl⟩ : Dn)).1, ((⟨((eL eS) .frz l47), rfl⟩ : Dn)).1, ((⟨(.str ("a" : Str)), rfl⟩ : Dn)).1], (tsC (tref rfl ((eK_ok (eO_ok eS_ok.toEncOk).toEncOk).nob _)) (tsC rfl (tsC (tcast ((eL_ok eS_ok.toEncOk).frz _) rfl) (tsC rfl tsN)))), (show 4 ≤ PySem.sizeLine by decide), ⟨rfl, congrArg Rv.val (someD (e := ((eL eX) .own)) h)⟩⟩)))⟩⟩))))))))))))) (ws_nil ⟨(wk_refl _), _, (vsC rfl vsN), (it_seq (fun x => x.2) _), rfl⟩)) rfl (fun x49 b_ h => ⟨[.is ((eL eI) .own a_source), .is ((eK (eO eS)) .bor a_above), .is ((eK (eO eS)) .own ([] : List (Str × Option (Str)))), .is (e_Tree .own tree1.2), .is ((eK (eL eS)) .frz r3), .free, .is (e_Tree .own tree42.2), .free, .any, .free, .any, .any, .is (x49).1], rfl, (e_eqO (e_var rfl (e_var rfl (bx h fun u50 hu50 h => ⟨_, _, _, (vsC rfl (vsC rfl vsN)), (okEqX (biX hu50)), (bcC (e_Tree_ok.bor _) (bcC (bor_no x49.2) bcN)), odd_Tree__eq_0 _ _ (biX hu50), ⟨_, rfl, Option.some.inj h, fun _ => (wn_js (ds := [(x49).1]) rfl), fun _ y_ h => (e_var rfl ⟨tcast (someD (e := (eX .frz)) h) (tref rfl x49.2), (wn_js (ds := [(x49).1]) rfl)⟩)⟩⟩))))⟩) (ws_cons (e_lst (ws_nil ⟨_, tsN, by decide, (ws_nil (bx h fun b52 hb52 h => ⟨_, _, (vsC rfl (vsC rfl vsN)), (o_neX hb52), ⟨_, rfl, (fun hc => kT hc h fun h => (xs_cons (x_ret (e_cst rfl ⟨_, rfl, (ret_top (σ := [.is ((eL eI) .own a_source), .is ((eK (eO eS)) .bor a_above), .is ((eK (eO eS)) .own ([] : List (Str × Option (Str)))), .is (e_Tree .own tree1.2), .is ((eK (eL eS)) .frz r3), .free, .is (e_Tree .own tree42.2), .free, .any, .free, .any, .any, .free]) (eq := (fun (y_ : (Bool × List (Int))) => ((eB .own y_.1), some ((eL eI) .own y_.2)))) (y := (false, a_source)) h (fin_t (.inl rfl) (eB_ok.toEncOk.nbf (false)) rfl ((eL_ok eI_ok.toEncOk).nbo (a_source)) rfl))⟩)))), (fun hc => kF hc h fun h => (xs_nil (xs_at [.is ((eL eI) .own a_source), .is ((eK (eO eS)) .bor a_above), .is ((eK (eO eS)) .own ([] : List (Str × Option (Str)))), .is (e_Tree .own tree1.2), .is ((eK (eL eS)) .frz r3), .free, .is (e_Tree .own tree42.2), .free, .any, .free, .any, .any, .free] (xs_cons (bx h fun x54 hx54 h => (bx h fun q69 hq69 h => (x_forR (f := fun x57 => [((eK (eO eS)) .frz x57)]) hq69 (fun t55 => [.is ((eL eI) .own x54.2), .is ((eK (eO eS)) .bor a_above), .is ((eK (eO eS)) .own ([] : List (Str × Option (Str)))), .is (e_Tree .own tree1.2), .is ((eK (eL eS)) .frz r3), .free, .is (e_Tree .own tree42.2), .free, .any, .free, .any, .any, .free]) (RetR true (fun (y_ : (Bool × List (Int))) => ((eB .own y_.1), some ((eL eI) .own y_.2)))) (retR _ _) (ws_isw (d := ((eL (eF (eK (eO eS)))) .own x54.1)) (σ1 := [.is ((eL eI) .own x54.2), .is ((eK (eO eS)) .bor a_above), .is ((eK (eO eS)) .own ([] : List (Str × Option (Str)))), .is (e_Tree .own tree1.2), .is ((eK (eL eS)) .frz r3), .free, .is (e_Tree .own tree42.2), .free, .any, .free, .any, .any, .free]) (have h := hx54; (e_callio rfl (ws_cons (e_var rfl (ws_nil (bx h fun d53 hd53 h => ⟨_, _, _, _, _, rfl, (vsC rfl vsN), (bcC ((eK_ok (eO_ok eS_ok.toEncOk).toEncOk).borb _) bcN), rfl, call_law_others_ab hd53, ⟨someX (e := fun (z_ : (List (List (Str × Option (Str)))) × (List (Int))) => ([.is ((eL eI) .own z_.2), .is ((eK (eO eS)) .bor a_above), .is ((eK (eO eS)) .own ([] : List (Str × Option (Str)))), .is (e_Tree .own tree1.2), .is ((eK (eL eS)) .frz r3), .free, .is (e_Tree .own tree42.2), .free, .any, .free, .any, .any, .free] : Spec)) h, congrArg Rv.val (someD (e := fun (z_ : (List (List (Str × Option (Str)))) × (List (Int))) => ((eL (eF (eK (eO eS)))) .own z_.1)) h)⟩⟩)))))) (ws_nil ⟨(wk_same (wk_same (wk_same (wk_same (wk_same (wk_same (wk_same (wk_same (wk_same (wk_same (wk_same (wk_same (wk_same wk_nil))))))))))))), _, (vsC rfl vsN), (it_seq ((eF_ok (eK_ok (eO_ok eS_ok.toEncOk).toEncOk)).noo _) _), rfl⟩)) (fun x57 t55 q_ h => ⟨[.is ((eL eI) .own x54.2), .is ((eK (eO eS)) .bor a_above), .is ((eK (eO eS)) .own ([] : List (Str × Option (Str)))), .is (e_Tree .own tree1.2), .is ((eK (eL eS)) .frz r3), .free, .is (e_Tree .own tree42.2), .is ((eK (eO eS)) .frz x57), .any, .free, .any, .any, .free], rfl, (xs_cons (x_ife (bx h fun x60 hx60 h => (bx h fun b68 hb68 h => (e_or' (have h := hx60; (e_eqO (e_mk (ws_cons (e_var rfl (ws_nil (bx h fun tree58 htree58 h => ⟨_, _, _, (vsC rfl vsN), (bcC ((eK_ok (eO_ok eS_ok.toEncOk).toEncOk).borf _) bcN), call_Tree__init_af htree58, (e_var rfl (bx h fun b59 hb59 h => ⟨_, _, _, (vsC rfl (vsC rfl vsN)), rfl, (bcC (e_Tree_ok.bor _) (bcC (e_Tree_ok.bor _) bcN)), call_Tree__eq_bb hb59, ⟨rfl, vcast (someD (e := D.bl) h) rfl⟩⟩))⟩))))))) (fun _ y68 h => (bx h fun x63 hx63 h => (bx h fun b67 hb67 h => (e_or' (have h := hx63; (e_eqO (e_var rfl (e_mk (ws_cons (e_var rfl (ws_nil (bx h fun tree61 htree61 h => ⟨_, _, _, (vsC rfl vsN), (bcC ((eK_ok (eO_ok eS_ok.toEncOk).toEncOk).borf _) bcN), call_Tree__init_af htree61, (bx h fun b62 hb62 h => ⟨_, _, _, (vsC rfl (vsC rfl vsN)), rfl, (bcC (e_Tree_ok.bor _) (bcC (e_Tree_ok.bor _) bcN)), call_Tree__eq_bb hb62, ⟨rfl, vcast (someD (e := D.bl) h) rfl⟩⟩)⟩)))))))) (fun _ y67 h => (e_not (e_eqO (e_mk (ws_cons (e_var rfl (ws_nil (bx h fun tree64 htree64 h => ⟨_, _, _, (vsC rfl vsN), (bcC ((eK_ok (eO_ok eS_ok.toEncOk).toEncOk).borf _) bcN), call_Tree__init_af htree64, (e_mk (ws_cons (e_op (ws_cons (e_var rfl (ws_nil ⟨_, _, (vsC rfl vsN), (o_cpK (eO_ok eS_ok.toEncOk) _), (ws_nil (bx h fun tree65 htree65 h => ⟨_, _, _, (vsC rfl vsN), (bcC ((eK_ok (eO_ok eS_ok.toEncOk).toEncOk).bor _) bcN), call_Tree__init_ab htree65, (bx h fun b66 hb66 h => ⟨_, _, _, (vsC rfl (vsC rfl vsN)), rfl, (bcC (e_Tree_ok.bor _) (bcC (e_Tree_ok.bor _) bcN)), call_Tree__eq_bb hb66, ⟨_, rfl, ⟨rfl, congrArg (fun b => Rv.val (.bl b)) (Option.some.inj h)⟩⟩⟩)⟩))⟩))))))⟩)))))))) hb67 ⟨rfl, congrArg (fun b => Rv.val (.bl b)) (Option.some.inj h)⟩)))) hb68 ⟨_, rfl, (fun hc => kT hc h fun h => (xs_cons (x_ret (e_cst rfl ⟨_, rfl, (ret_loop (σ := [.is ((eL eI) .own x54.2), .is ((eK (eO eS)) .bor a_above), .is ((eK (eO eS)) .own ([] : List (Str × Option (Str)))), .is (e_Tree .own tree1.2), .is ((eK (eL eS)) .frz r3), .free, .is (e_Tree .own tree42.2), .is ((eK (eO eS)) .frz x57), .any, .free, .any, .any, .free]) (eq := (fun (y_ : (Bool × List (Int))) => ((eB .own y_.1), some ((eL eI) .own y_.2)))) (y := (false, x54.2)) h (fin_t (.inl rfl) (eB_ok.toEncOk.nbf (false)) rfl ((eL_ok eI_ok.toEncOk).nbo (x54.2)) rfl))⟩)))), (fun hc => kF hc h fun h => (xs_nil (xs_at [.is ((eL eI) .own x54.2), .is ((eK (eO eS)) .bor a_above), .is ((eK (eO eS)) .own ([] : List (Str × Option (Str)))), .is (e_Tree .own tree1.2), .is ((eK (eL eS)) .frz r3), .free, .is (e_Tree .own tree42.2), .is ((eK (eO eS)) .frz x57), .any, .free, .any, .any, .free] (xs_nil (nx_loop (S := fun t55 => [.is ((eL eI) .own x54.2), .is ((eK (eO eS)) .bor a_above), .is ((eK (eO eS)) .own ([] : List (Str × Option (Str)))), .is (e_Tree .own tree1.2), .is ((eK (eL eS)) .frz r3), .free, .is (e_Tree .own tree42.2), .free, .any, .free, .any, .any, .free]) h (wk_same (wk_same (wk_same (wk_same (wk_same (wk_same (wk_same (wk_free ((eK_ok (eO_ok eS_ok.toEncOk).toEncOk).nof _) (wk_same (wk_same (wk_same (wk_same (wk_same wk_nil))))))))))))))))))⟩)))))⟩) (fun y70 hy_ fl_ s_ hR_ => (ret_topR (eq := (fun (y_ : (Bool × List (Int))) => ((eB .own y_.1), some ((eL eI) .own y_.2)))) (sumL (A := fun y => some y) hy_ h) hR_)) (fun t56 ht_ => (have h := sumR ht_ h; (xs_at [.is ((eL eI) .own x54.2), .is ((eK (eO eS)) .bor a_above), .is ((eK (eO eS)) .own ([] : List (Str × Option (Str)))), .is (e_Tree .own tree1.2), .is ((eK (eL eS)) .frz r3), .free, .is (e_Tree .own tree42.2), .free, .any, .free, .any, .any, .free] (xs_cons (x_ret (e_cst rfl ⟨_, rfl, (ret_top (σ := [.is ((eL eI) .own x54.2), .is ((eK (eO eS)) .bor a_above), .is ((eK (eO eS)) .own ([] : List (Str × Option (Str)))), .is (e_Tree .own tree1.2), .is ((eK (eL eS)) .frz r3), .free, .is (e_Tree .own tree42.2), .free, .any, .free, .any, .any, .free]) (eq := (fun (y_ : (Bool × List (Int))) => ((eB .own y_.1), some ((eL eI) .own y_.2)))) (y := (true, x54.2)) h (fin_t (.inl rfl) (eB_ok.toEncOk.nbf (true)) rfl ((eL_ok eI_ok.toEncOk).nbo (x54.2)) rfl))⟩)))))))))))))⟩⟩))⟩)))))))))))))⟩))))))⟩⟩))⟩)⟩)⟩))))))))))))))))))))))⟩⟩))))))))⟩))))))⟩⟩))))))))))⟩⟩))))))))⟩⟩)))))))

theorem all_law_right : ∀ ds q, M 24 ds q → RunOk Γ b_law_right 13 true ds q := by
  intro ds q hm
  rcases hm with ⟨x0, x1, r, h, rfl, rfl⟩
  · exact run_law_right_ab x0 x1 r h

theorem sem_law_right : ∀ ds r o, Γ 24 ds = some (r, o) → o.isSome = true ∧ ∃ fuel, runF fuel Γ b_law_right 13 true ds = some (r, o) := mkG_sem all_law_right

theorem call_law_right_ab {a_source : List (Int)} {a_above : List (Str × Option (Str))} {r : Bool × List (Int)} (h : F_law_right a_source a_above = some r) : Γ 24 [((eL eI) .own a_source), ((eK (eO eS)) .bor a_above)] = some ((eB .own r.1), some ((eL eI) .own r.2)) := mkG_call all_law_right ⟨_, _, _, h, rfl, rfl⟩

theorem run_law_a (a_script : List Int) (r : Bool) (h : F_law a_script = some r) : RunOk Γ b_law 4 false [(.scr a_script)] ((fun (y_ : Bool) => ((eB .own y_), none)) r) := by
  refine run_of ?_
  delta F_law at h
  exact (xs_at [.is (.scr a_script), .free, .free, .free] (xs_cons (bx h fun xs1 hxs1 h => (bx h fun q13 hq13 h => (x_forR (f := fun x4 => [(.int x4)]) hq13 (fun t2 => [.is (.scr a_script), .free, .any, .free]) (RetR false (fun (y_ : Bool) => ((eB .own y_), none))) (retR _ _) (ws_isw (d := (.int (if (if (a_script.length : Int) < (6 : Int) then (a_script.length : Int) else (6 : Int)) > (1 : Int) then (if (a_script.length : Int) < (6 : Int) then (a_script.length : Int) else (6 : Int)) else (1 : Int)))) (σ1 := [.is (.scr a_script), .free, .free, .free]) (e_op (ws_cons (e_cst rfl (ws_cons (e_op (ws_cons (e_cst rfl (ws_cons (e_op (ws_cons (e_var rfl (ws_nil ⟨_, _, (vsC rfl vsN), (o_lenC _), (ws_nil ⟨_, _, (vsC rfl (vsC rfl vsN)), (o_min2 _ _), (ws_nil ⟨_, _, (vsC rfl (vsC rfl vsN)), (o_max2 _ _), ⟨rfl, rfl⟩⟩)⟩)⟩)))))))))))) (ws_nil ⟨(wk_same (wk_same (wk_any (wk_same wk_nil)))), _, (vsC rfl vsN), (it_range1 hxs1), rfl⟩)) (fun x4 t2 q_ h => ⟨[.is (.scr a_script), .is (.int x4), .any, .free], rfl, (xs_cons (x_asg (e_call (ws_cons (e_var rfl (ws_cons (e_var rfl (ws_nil (bx h fun r5 hr5 h => ⟨_, _, _, (vsC rfl (vsC rfl vsN)), (bcC rfl (bcC (eI_ok.toEncOk.borf _) bcN)), call_law_source_aa hr5, ⟨_, rfl, rfl, (xs_at [.is (.scr a_script), .is (.int x4), .is ((eL eI) .own r5), .free] (xs_cons (x_asg (e_op (ws_cons (e_cst rfl (ws_cons (e_op (ws_cons (e_lst (ws_cons (e_callio rfl (ws_cons (e_cst rfl (ws_nil (bx h fun d6 hd6 h => ⟨_, _, _, _, _, rfl, (vsC rfl vsN), (bcC (eI_ok.toEncOk.borf _) bcN), rfl, call_law_next_aa hd6, (ws_cons (e_callio rfl (ws_cons (e_cst rfl (ws_nil (bx h fun d7 hd7 h => ⟨_, _, _, _, _, rfl, (vsC rfl vsN), (bcC (eI_ok.toEncOk.borf _) bcN), rfl, call_law_next_aa hd7, (ws_nil ⟨[(.int d6.1), (.int d7.1)], (tsC rfl (tsC rfl tsN)), (show 2 ≤ PySem.sizeLine by decide), (ws_cons (e_op (ws_cons (e_op (ws_cons (e_callio rfl (ws_cons (e_cst rfl (ws_nil (bx h fun d8 hd8 h => ⟨_, _, _, _, _, rfl, (vsC rfl vsN), (bcC (eI_ok.toEncOk.borf _) bcN), rfl, call_law_next_aa hd8, (ws_cons (e_cst rfl (ws_nil ⟨_, _, (vsC rfl (vsC rfl vsN)), (o_eqI d8.1 (0 : Int)), (ws_nil ⟨_, _, (vsC rfl vsN), (o_int1 _), (ws_nil (bx h fun x9 hx9 h => ⟨_, _, (vsC rfl (vsC rfl vsN)), (o_ixL (eI_ok.noo _) hx9), (ws_nil ⟨_, _, (vsC rfl (vsC rfl vsN)), (o_add _ _), (bx h fun many10 hmany10 h => ⟨_, tcast (someD (e := D.int) hmany10) rfl, rfl, (xs_at [.is (.scr a_script), .is (.int x4), .is ((eL eI) .own d8.2), .is (.int many10)] (xs_cons (x_ife (e_not (e_callio rfl (ws_cons (e_callio rfl (ws_cons (e_var rfl (ws_nil (bx h fun d11 hd11 h => ⟨_, _, _, _, _, rfl, (vsC rfl vsN), (bcC (eI_ok.toEncOk.borf _) bcN), rfl, call_law_above_aa hd11, (ws_nil (bx h fun d12 hd12 h => ⟨_, _, _, _, _, rfl, (vsC rfl vsN), (bcC ((eK_ok (eO_ok eS_ok.toEncOk).toEncOk).bor _) bcN), rfl, call_law_right_ab hd12, ⟨_, rfl, ⟨_, rfl, (fun hc => kT hc h fun h => (xs_cons (x_ret (e_cst rfl ⟨_, rfl, (ret_loop (σ := [.is (.scr a_script), .is (.int x4), .is ((eL eI) .own d12.2), .is (.int many10)]) (eq := (fun (y_ : Bool) => ((eB .own y_), none))) (y := false) h (fin_f (.inl rfl) (eB_ok.toEncOk.nbf (false)) rfl))⟩)))), (fun hc => kF hc h fun h => (xs_nil (xs_at [.is (.scr a_script), .is (.int x4), .is ((eL eI) .own d12.2), .is (.int many10)] (xs_nil (nx_loop (S := fun t2 => [.is (.scr a_script), .free, .any, .free]) h (wk_same (wk_free (eI_ok.noo .frz _) (wk_any (wk_free (eI_ok.noo .frz _) wk_nil)))))))))⟩⟩⟩))⟩)))))))))))⟩)⟩)⟩))⟩)⟩)))⟩))))))))))⟩)⟩))))))⟩))))))))))))))))⟩⟩)))))))))⟩) (fun y14 hy_ fl_ s_ hR_ => (ret_topR (eq := (fun (y_ : Bool) => ((eB .own y_), none))) (sumL (A := fun y => some y) hy_ h) hR_)) (fun t3 ht_ => (have h := sumR ht_ h; (xs_at [.is (.scr a_script), .free, .any, .free] (xs_cons (x_ret (e_cst rfl ⟨_, rfl, (ret_top (σ := [.is (.scr a_script), .free, .any, .free]) (eq := (fun (y_ : Bool) => ((eB .own y_), none))) (y := true) h (fin_f (.inl rfl) (eB_ok.toEncOk.nbf (true)) rfl))⟩)))))))))))

theorem all_law : ∀ ds q, M 25 ds q → RunOk Γ b_law 4 false ds q := by
  intro ds q hm
  rcases hm with ⟨x0, r, h, rfl, rfl⟩
  · exact run_law_a x0 r h

theorem sem_law : ∀ ds r o, Γ 25 ds = some (r, o) → o.isSome = false ∧ ∃ fuel, runF fuel Γ b_law 4 false ds = some (r, o) := mkG_sem all_law

theorem call_law_a {a_script : List Int} {r : Bool} (h : F_law a_script = some r) : Γ 25 [(.scr a_script)] = some ((eB .own r), none) := mkG_call all_law ⟨_, _, h, rfl, rfl⟩

end K01

set_option Elab.async false
set_option linter.all false
set_option maxRecDepth 100000
set_option maxHeartbeats 4000000
namespace K01
open Pv
open PySem (Str)
open L2 (Key atI ixN)
theorem is_name_of {s : Str} (h : Nm s) : F_is_name s = some true := by
  have h1 : lenS_ s = some (s.length : Int) := by
    unfold lenS_; rw [if_pos (Nat.le_trans h.hi (by decide))]
  have h2 : (decide ((1 : Int) ≤ (s.length : Int))) = true := decide_eq_true (by have := h.lo; omega)
  have h3 : (decide ((s.length : Int) ≤ 8)) = true := decide_eq_true (by have := h.hi; omega)
  have hl : (chars_ s).length ≤ 1000000 := by
    unfold chars_
    rw [List.length_map]
    exact Nat.le_trans h.hi (by decide)
  have h4 : compP (fun x5 => some true) (fun x5 => (inS_ x5 ("abcdefghijklmnopqrstuvwxyz" : Str)).bind fun b6 => some b6) (chars_ s) = some ((chars_ s).map fun _ => true) := by
    refine compP_map _ hl fun x hx => ?_
    obtain ⟨c, hc, rfl⟩ := List.mem_map.mp hx
    have : inS_ ⟨#[c]⟩ ("abcdefghijklmnopqrstuvwxyz" : Str) = some true := by
      unfold inS_
      rw [if_pos (by rfl)]
      exact congrArg some (decide_eq_true (h.sm c hc))
    rw [this]; rfl
  unfold F_is_name
  simp only [orO, Bool.not_true, Bool.false_eq_true, if_false, h1, Option.bind_some, h2, h3, andO, if_true, h4]
  simp
theorem count_one {h : Str} : ∀ {A : Ab}, (keys A).Nodup → (h, none) ∈ A → (∀ p, (p, none) ∈ A → p = h) → ((A.map (·.2)).filter fun v => v.isSome).length + 1 = A.length
  | [], _, hd, _ => by cases hd
  | (a, none) :: A, nd, _, one => by
    simp only [keys, List.map_cons, List.nodup_cons] at nd
    have ha : a = h := one a List.mem_cons_self
    have hf : (A.map (·.2)).filter (fun v => v.isSome) = A.map (·.2) := List.filter_eq_self.mpr fun x hx => by
      obtain ⟨y, hy, rfl⟩ := List.mem_map.mp hx
      obtain ⟨x1, x2⟩ := y
      cases x2 with
      | some _ => rfl
      | none =>
        have : x1 = h := one x1 (List.mem_cons_of_mem _ hy)
        exact absurd (List.mem_map_of_mem (f := fun q : Str × Option Str => q.1) hy) (by rw [this, ← ha]; exact nd.1)
    rw [List.map_cons, List.filter_cons, if_neg (by simp), hf, List.length_map]; rfl
  | (a, some s) :: A, nd, hd, one => by
    simp only [keys, List.map_cons, List.nodup_cons] at nd
    have hd2 : (h, none) ∈ A := by
      rcases List.mem_cons.mp hd with z | z
      · cases z
      · exact z
    have ih := count_one nd.2 hd2 fun p hp => one p (List.mem_cons_of_mem _ hp)
    rw [List.map_cons, List.filter_cons, if_pos (by rfl), List.length_cons, List.length_cons, ih]
theorem all_id_map {α : Type} (l : List α) : (l.map fun _ => true).all id = true := by simp
theorem keys_len (A : Ab) : (keys A).length = A.length := by simp [keys]
theorem is_tree_form_of {A : Ab} {h : Str} (t : TreeOk A h) : F_is_tree_form A = some true := by
  have hk : (A.map (·.1)).length ≤ 1000000 := by rw [List.length_map]; exact Nat.le_trans t.sz (by decide)
  have hv : (A.map (·.2)).length ≤ 1000000 := by rw [List.length_map]; exact Nat.le_trans t.sz (by decide)
  have h1 : compP (fun x1 => some true) (fun x1 => (F_is_name x1).bind fun r2 => some r2) (A.map (·.1)) = some ((A.map (·.1)).map fun _ => true) :=
    compP_map _ hk fun x hx => by rw [is_name_of (t.nm x hx)]; rfl
  have h2 : compP (fun x5 : Option Str => some (x5.isSome)) (fun x5 => some x5) (A.map (·.2)) = some ((A.map (·.2)).filter fun v => v.isSome) := compP_sel _ hv fun _ _ => rfl
  have hc := count_one t.nd t.hd t.one
  have h3 : (decide ((A.length : Int) = (((A.map (·.2)).filter fun v => v.isSome).length : Int) + 1)) = true := decide_eq_true (by omega)
  have h4 : compP (fun x7 => some true) (fun x7 : Option Str => (((x7)).bind fun o8 => (F_is_name o8).bind fun r9 => some r9).bind fun x10 => (andO x10 (((x7)).bind fun o11 => some ((getK A o11).isSome))).bind fun b12 => some b12) ((A.map (·.2)).filter fun v => v.isSome) = some (((A.map (·.2)).filter fun v => v.isSome).map fun _ => true) := by
    refine compP_map _ (Nat.le_trans (List.length_filter_le _ _) hv) fun x hx => ?_
    obtain ⟨hx1, hx2⟩ := List.mem_filter.mp hx
    obtain ⟨⟨p, v⟩, hp, rfl⟩ := List.mem_map.mp hx1
    cases v with
    | none => cases hx2
    | some q =>
      have hq := t.up p q hp
      have hn := is_name_of (t.nm q hq)
      have hg : (getK A q).isSome = true := by rw [getK_isSome]; exact decide_eq_true hq
      simp only [Option.bind_some, hn, andO, if_true, hg]
  unfold F_is_tree_form
  simp only [orO, Bool.not_true, Bool.false_eq_true, if_false, h1, Option.bind_some, all_id_map, h2, h3, h4]
/-- the posts from the head on, each behind the one above it -/
structure Dw (A : Ab) (dl : List Str) : Prop where
  nd : dl.Nodup
  mem : ∀ p, p ∈ dl ↔ p ∈ keys A
  ord : ∀ l1 p l2, dl = l1 ++ p :: l2 → ∀ q, par A p = some q → q ∈ l1
theorem ne_nil {l : List Str} (h : ∀ x ∈ l, sOk x = true) : neG (pyL pyS).ok l [] = some (!decide (l = [])) := by
  unfold neG
  rw [if_pos]
  have : l.all sOk = true := List.all_eq_true.mpr h
  show ((pyL pyS).ok l && (pyL pyS).ok []) = true
  simp only [pyL, pyS, this, List.all_nil, Bool.and_self]
theorem downward_of {A : Ab} {h : Str} (t : TreeOk A h) {T : I_Tree} (ht : T.top = h) (hb : ∀ p ∈ keys A, getK T.below_by p = some (kids A p)) : Ok (F_Tree_downward T) (Dw A) := by
  unfold F_Tree_downward
  simp only [Option.bind_some]
  refine ok_bind (P := fun r => Dw A r.1) (ok_whP (fun m (s : List Str × List Str) => (s.1 ++ s.2).Nodup ∧ (∀ x ∈ s.1 ++ s.2, x ∈ keys A) ∧ (∀ x ∈ s.1, ∀ k, par A k = some x → k ∈ s.1 ++ s.2) ∧ h ∈ s.1 ++ s.2 ∧
      (∀ l1 p l2, s.1 = l1 ++ p :: l2 → ∀ q, par A p = some q → q ∈ l1) ∧ (∀ p ∈ s.2, ∀ q, par A p = some q → q ∈ s.1) ∧ m = A.length - s.1.length) _ A.length ?_ ?_) fun r hr => ok_some hr
  · refine ⟨by simp, fun x hx => ?_, fun x hx => (nomatch hx), by simp [ht], fun l1 p l2 e => ?_, fun p hp q e => ?_, by simp⟩
    · simp only [List.nil_append, List.mem_singleton, ht] at hx; subst hx; exact t.h_key
    · cases l1 <;> cases e
    · simp only [List.mem_singleton, ht] at hp; subst hp; rw [t.par_h] at e; cases e
  · rintro m ⟨found, left⟩ ⟨nd, ks, cl, hd, ord, lo, rfl⟩
    simp only at nd ks cl hd ord lo ⊢
    rw [ne_nil fun x hx => (t.nm x (ks x (List.mem_append_right _ hx))).ok]
    refine ok_some ?_
    by_cases hl : left = []
    · refine .inl ⟨by simp [hl], ?_⟩
      subst hl
      simp only [List.append_nil] at nd ks cl hd
      refine ⟨nd, fun p => ⟨ks p, fun hp => ?_⟩, ord⟩
      refine t.line_ind (P := fun p => p ∈ keys A → p ∈ found) (fun p e hp => ?_) (fun p q e ih hp => ?_) p hp
      · rw [t.par_none hp e]; exact hd
      · exact cl q (ih (t.par_key e).2) p e
    · refine .inr ⟨by simp [hl], ?_⟩
      obtain ⟨l', p, rfl⟩ : ∃ l' p, left = l' ++ [p] := ⟨left.dropLast, left.getLast hl, (List.dropLast_concat_getLast hl).symm⟩
      have hp : p ∈ keys A := ks p (by simp)
      have hlen : (found ++ (l' ++ [p])).length ≤ A.length := by rw [← keys_len]; exact nd_len nd ks
      simp only [List.length_append, List.length_singleton] at hlen
      have hsz := t.sz
      have hkl := t.kids_len p
      have hpop : pop_ (l' ++ [p]) = some (p, l') := by unfold pop_; simp
      have hpf : p ∉ found := fun hm => (List.nodup_append.mp nd).2.2 p hm p (by simp) rfl
      have hfp : ∀ k, par A k = some p → k ∉ found ++ (l' ++ [p]) := fun k e hk => by
        rcases List.mem_append.mp hk with z | z
        · obtain ⟨l1, l2, rfl⟩ := List.append_of_mem z
          have := ord l1 k l2 rfl p e
          exact hpf (List.mem_append_left _ this)
        · exact hpf (lo k z p e)
      refine ok_b hpop (ok_b (app_of (by omega)) ?_)
      rw [hb p hp]
      simp only [Option.bind_some]
      refine ok_b (catL_of (by omega)) (ok_some ⟨A.length - (found ++ [p]).length, ?_, ?_, ?_, ?_, ?_, ?_, ?_, rfl⟩)
      · rw [List.length_append, List.length_singleton]; omega
      · have nd2 : (found ++ [p] ++ l').Nodup := by
          rw [List.append_assoc]
          exact ((List.Perm.append_left found List.perm_append_comm).nodup_iff).mp nd
        rw [← List.append_assoc]
        refine List.nodup_append.mpr ⟨nd2, t.kids_nd p, fun x hx y hy e => ?_⟩
        subst e
        refine hfp x (t.mem_kids.mp hy) ?_
        simp only [List.mem_append, List.mem_singleton] at hx ⊢
        grind
      · intro x hx
        simp only [List.mem_append, List.mem_singleton] at hx
        rcases hx with (z | z) | z | z
        · exact ks x (by simp [z])
        · subst z; exact hp
        · exact ks x (by simp [z])
        · exact (t.par_key (t.mem_kids.mp z)).1
      · intro x hx k e
        simp only [List.mem_append, List.mem_singleton] at hx ⊢
        rcases hx with z | rfl
        · have := cl x z k e
          simp only [List.mem_append, List.mem_singleton] at this
          grind
        · exact .inr (.inr (t.mem_kids.mpr e))
      · simp only [List.mem_append, List.mem_singleton] at hd ⊢
        grind
      · intro l1 x l2 e q eq
        rcases List.append_eq_append_iff.mp e with ⟨a, ha, hb'⟩ | ⟨a, ha, hb'⟩
        · -- l1 = found ++ a, [p] = a ++ x :: l2
          cases a with
          | nil =>
            simp only [List.nil_append, List.cons.injEq] at hb'
            obtain ⟨rfl, _⟩ := hb'
            rw [ha, List.append_nil]
            exact lo p (by simp) q eq
          | cons y a =>
            simp only [List.cons_append, List.cons.injEq] at hb'
            exact absurd hb'.2 (by simp)
        · cases a with
          | nil =>
            simp only [List.nil_append, List.cons.injEq] at hb'
            obtain ⟨rfl, _⟩ := hb'
            rw [List.append_nil] at ha
            rw [← ha]
            exact lo x (by simp) q eq
          | cons y a =>
            simp only [List.cons_append, List.cons.injEq] at hb'
            obtain ⟨rfl, hb'⟩ := hb'
            exact ord l1 x a ha q eq
      · intro x hx q e
        simp only [List.mem_append, List.mem_singleton] at hx ⊢
        rcases hx with z | z
        · exact .inl (lo x (by simp [z]) q e)
        · have := t.mem_kids.mp z
          rw [this] at e; cases e
          exact .inr rfl
/-- what a tree's object is to be -/
structure TrOk (A : Ab) (h : Str) (T : I_Tree) : Prop where
  above : T.above_by = A
  top : T.top = h
  below : T.below_by = (srt A).map fun p => (p, kids A p)
  br : ∀ p ∈ keys A, getK T.branches p = some (branch A p)
theorem TrOk.bel {A : Ab} {h : Str} {T : I_Tree} (o : TrOk A h T) {p : Str} (hp : p ∈ keys A) : getK T.below_by p = some (kids A p) := by
  rw [o.below, getK_map, if_pos]
  exact sortS_mem.mpr hp
theorem flat_cat (l : List Str) (f : Str → List Str) : ∀ acc : List Str, l.foldl (fun acc k => acc ++ f k) acc = acc ++ l.flatMap f := by
  induction l with
  | nil => intro acc; simp
  | cons k l ih => intro acc; rw [List.foldl_cons, ih, List.flatMap_cons, List.append_assoc]
theorem init_of {A : Ab} {h : Str} (t : TreeOk A h) : Ok (F_Tree__init A) (fun r => TrOk A h r.2) := by
  have hsz := t.sz
  have hk : (A.map (·.1)).length ≤ 1000000 := by rw [List.length_map]; omega
  unfold F_Tree__init
  refine ok_b (is_tree_form_of t) (ok_F rfl ?_)
  simp only [Option.bind_some]
  refine ok_b (by rw [srt_of hk]; rfl) ?_
  have hsl : (sortS (A.map (·.1))).length ≤ 1000000 := by rw [sortS_len]; exact hk
  refine ok_b (dcP_self (fun _ => ([] : List Str)) hsl t.srt_nd fun _ _ => rfl) (ok_b (by rw [srt_of hk]; rfl) ?_)
  refine ok_bind (ok_forP (fun pre b => b = (srt A).map fun p => (p, pre.filter fun q => decide (par A q = some p))) (by rfl) fun pre x suf b e hb => ?_) fun b hb => ?_
  · subst hb
    have hx : x ∈ keys A := sortS_mem.mp (show x ∈ sortS (keys A) by show x ∈ sortS (A.map (·.1)); rw [e]; simp)
    rw [t.get hx]
    simp only [Option.bind_some]
    cases ep : par A x with
    | none =>
      refine ok_some ?_
      refine List.map_congr_left fun p _ => ?_
      rw [List.filter_append, List.filter_cons, if_neg (by rw [ep]; simp)]
      simp
    | some q =>
      have hq : q ∈ srt A := sortS_mem.mpr (t.par_key ep).2
      have hpl : pre.length < 1000000 := by
        have := congrArg List.length e
        rw [List.length_append, List.length_cons] at this
        omega
      refine ok_b (r := (srt A).map fun p => (p, (pre ++ [x]).filter fun q => decide (par A q = some p))) ?_ (ok_some rfl)
      simp only [Option.isSome_some, if_true, Option.bind_some, getK_map, if_pos hq]
      rw [mod_map (srt A) _ _ ((pre.filter fun q' => decide (par A q' = some q)) ++ [x]) t.srt_nd hq (by
        rw [app_of (Nat.lt_of_le_of_lt (List.length_filter_le _ _) hpl)])]
      refine congrArg some (List.map_congr_left fun p _ => ?_)
      by_cases hpq : p = q
      · subst hpq
        rw [if_pos rfl, List.filter_append, List.filter_cons, if_pos (by rw [ep]; simp)]
        rfl
      · rw [if_neg hpq, List.filter_append, List.filter_cons, if_neg (by rw [ep]; simpa using fun z => hpq z.symm)]
        simp
  · have hb' : b = (srt A).map fun p => (p, kids A p) := hb
    have hAl : A.length ≤ 1000000 := by omega
    have h5 : compP (fun x18 : Str × Option Str => some (x18.2.isNone)) (fun x18 => some x18.1) A = some ((A.filter fun x => x.2.isNone).map (·.1)) := compP_fil _ _ hAl (fun _ _ => rfl) fun _ _ _ => rfl
    have h6 : atI ((A.filter fun x => x.2.isNone).map (·.1)) 0 = some h := by
      have hm : (h, none) ∈ A.filter fun x => x.2.isNone := List.mem_filter.mpr ⟨t.hd, rfl⟩
      cases hf : A.filter fun x => x.2.isNone with
      | nil => rw [hf] at hm; cases hm
      | cons y l =>
        have hy : y ∈ A.filter fun x => x.2.isNone := by rw [hf]; exact List.mem_cons_self
        obtain ⟨hy1, hy2⟩ := List.mem_filter.mp hy
        obtain ⟨y1, y2⟩ := y
        cases y2 with
        | some _ => cases hy2
        | none => rw [List.map_cons, atI_0, t.one y1 hy1]
    refine ok_b h5 (ok_b h6 ?_)
    have hbel : ∀ p ∈ keys A, getK b p = some (kids A p) := fun p hp => by
      have hp' : p ∈ srt A := sortS_mem.mpr hp
      rw [hb', getK_map, if_pos hp']
    refine ok_bind (P := Dw A) ?_ fun dl hdl => ?_
    · obtain ⟨dl, e, p⟩ := downward_of t (T := ⟨A, b, h, []⟩) rfl hbel
      exact ⟨dl, by rw [e]; rfl, p⟩
    · have hdll : dl.length = A.length := by
        rw [← keys_len]
        exact Nat.le_antisymm (nd_len hdl.nd fun x hx => (hdl.mem x).mp hx) (nd_len t.nd fun x hx => (hdl.mem x).mpr hx)
      refine ok_bind (ok_forP (fun pre (B : List (Str × List Str)) => (∀ p ∈ pre, getK B p = some (branch A p)) ∧ B.length ≤ pre.length) ⟨fun p hp => (nomatch hp), Nat.le_refl _⟩ fun pre x suf B e hB => ?_) fun B hB => ?_
      · obtain ⟨hB, hBl⟩ := hB
        have hx : x ∈ keys A := (hdl.mem x).mp (List.mem_reverse.mp (by rw [e]; simp))
        rw [hbel x hx]
        simp only [Option.bind_some]
        have hkid : ∀ k ∈ kids A x, k ∈ pre := fun k hk => by
          have ek := t.mem_kids.mp hk
          have hkd : k ∈ dl := (hdl.mem k).mpr (t.par_key ek).1
          have e2 : dl = suf.reverse ++ x :: pre.reverse := by
            have := congrArg List.reverse e
            simpa using this
          rw [e2] at hkd
          rcases List.mem_append.mp hkd with z | z
          · exfalso
            obtain ⟨l1, l2, hl⟩ := List.append_of_mem z
            have := hdl.ord l1 k (l2 ++ x :: pre.reverse) (by rw [e2, hl]; simp) x ek
            have nd := hdl.nd
            rw [e2, hl] at nd
            exact (List.nodup_append.mp nd).2.2 x (List.mem_append_left _ this) x List.mem_cons_self rfl
          · rcases List.mem_cons.mp z with rfl | z
            · have := t.lt ek; omega
            · exact List.mem_reverse.mp z
        have hfl : ∀ ks : List Str, (∀ k ∈ ks, k ∈ kids A x) → ks.Nodup → (x :: ks.flatMap (branch A)).length ≤ A.length := fun ks hks nd => by
          have hsub : ks.flatMap (branch A) ⊆ (kids A x).flatMap (branch A) := fun y hy => by
            obtain ⟨k, h1, h2⟩ := List.mem_flatMap.mp hy
            exact List.mem_flatMap.mpr ⟨k, hks k h1, h2⟩
          have h1 : (x :: (kids A x).flatMap (branch A)).Nodup := (t.branch_step hx).nodup_iff.mpr (t.branch_nd x)
          have h2 : (ks.flatMap (branch A)).Nodup := nd_flat (fun k _ => t.branch_nd k) (nd.imp_of_mem fun {a b} ha hb ne y hy1 hy2 =>
            ne (t.line_uniq (t.mem_kids.mp (hks a ha)) (t.mem_kids.mp (hks b hb)) y (t.mem_branch.mp hy1).2 (t.mem_branch.mp hy2).2))
          have h3 := nd_len h2 hsub
          have h4 := (t.branch_step hx).length_eq
          have h5 := t.branch_len x
          rw [List.length_cons] at h4 ⊢
          omega
        refine ok_bind (ok_forP (fun pk f => f = x :: pk.flatMap (branch A)) (by rfl) fun pk k sk f ek hf => ?_) fun f hf => ?_
        · subst hf
          have hk : k ∈ kids A x := by rw [ek]; simp
          rw [hB k (hkid k hk)]
          simp only [Option.bind_some]
          have hnd := t.kids_nd x
          rw [ek] at hnd
          have := hfl (pk ++ [k]) (fun y hy => by rw [ek]; simp only [List.mem_append, List.mem_cons, List.mem_singleton] at hy ⊢; grind) (by
            have : (pk ++ [k] ++ sk).Nodup := by rw [List.append_assoc]; exact hnd
            exact (List.nodup_append.mp this).1)
          rw [List.flatMap_append, List.length_cons, List.length_append] at this
          simp only [List.flatMap_cons, List.flatMap_nil, List.append_nil] at this
          refine ok_b (catL_of (by rw [List.length_cons]; omega)) (ok_some ?_)
          rw [List.flatMap_append]
          simp
        · subst hf
          have := hfl (kids A x) (fun _ h => h) (t.kids_nd x)
          rw [srt_of (by omega), t.branch_srt hx]
          simp only [Option.bind_some]
          have hBl2 : B.length < 1000000 := by
            have := congrArg List.length e
            rw [List.length_reverse, List.length_append, List.length_cons] at this
            omega
          refine ok_b (r := putS_ B x (branch A x)) (by unfold put_; rw [if_pos hBl2]) (ok_some ⟨fun p hp => ?_, ?_⟩)
          · rw [getK_put]
            by_cases hpx : p = x
            · rw [if_pos hpx, hpx]
            · rw [if_neg hpx]
              rcases List.mem_append.mp hp with z | z
              · exact hB p z
              · exact absurd (List.mem_singleton.mp z) hpx
          · rw [List.length_append, List.length_singleton]
            have : (putS_ B x (branch A x)).length ≤ B.length + 1 := by
              have h1 := congrArg List.length (keys_put B x (branch A x))
              have h2 : (keys (putS_ B x (branch A x))).length = (putS_ B x (branch A x)).length := by simp [keys]
              have h3 : (keys B).length = B.length := by simp [keys]
              rw [h2] at h1
              split at h1
              · omega
              · rw [List.length_append, List.length_singleton] at h1; omega
            omega
      · obtain ⟨hB, _⟩ := hB
        have hall : ∀ p ∈ keys A, getK B p = some (branch A p) := fun p hp => hB p (List.mem_reverse.mpr ((hdl.mem p).mpr hp))
        rw [hall h t.h_key, t.branch_h]
        simp only [Option.bind_some]
        refine ok_F (by rw [t.srt_len]; simp) (ok_some ⟨rfl, rfl, hb', hall⟩)
end K01

set_option Elab.async false
set_option linter.all false
set_option maxRecDepth 100000
set_option maxHeartbeats 4000000
namespace K01
open Pv
open PySem (Str)
open L2 (Key atI ixN)
section
variable {A : Ab} {h : Str} {T : I_Tree} (t : TreeOk A h) (o : TrOk A h T)
include t o
theorem checked_of {p : Str} (hp : p ∈ keys A) : F_Tree_checked T p = some p := by
  have h1 : (getK T.above_by p).isSome = true := by rw [o.above, getK_isSome]; exact decide_eq_true hp
  unfold F_Tree_checked
  rw [is_name_of (t.nm p hp)]
  simp only [Option.bind_some, h1]
  rfl
theorem head_of : F_Tree_head T = some h := by unfold F_Tree_head; rw [o.top]
theorem posts_of : F_Tree_posts T = some (srt A) := by
  unfold F_Tree_posts
  rw [o.above, srt_of (by rw [List.length_map]; exact Nat.le_trans t.sz (by decide))]
  rfl
theorem above_of {p : Str} (hp : p ∈ keys A) : F_Tree_above T p = some (par A p) := by
  unfold F_Tree_above
  rw [checked_of t o hp, Option.bind_some, o.above, t.get hp]; rfl
theorem below_of {p : Str} (hp : p ∈ keys A) : F_Tree_below T p = some (kids A p) := by
  unfold F_Tree_below
  rw [checked_of t o hp, Option.bind_some, o.bel hp]; rfl
theorem branch_of {p : Str} (hp : p ∈ keys A) : F_Tree_branch T p = some (branch A p) := by
  unfold F_Tree_branch
  rw [checked_of t o hp, Option.bind_some, o.br p hp]; rfl
theorem size_of {p : Str} (hp : p ∈ keys A) : F_Tree_size T p = some ((branch A p).length : Int) := by
  unfold F_Tree_size
  rw [checked_of t o hp, Option.bind_some, o.br p hp]; rfl
end
theorem vals_ok {A : Ab} {h : Str} (t : TreeOk A h) : (A.all fun p => pyOS.ok p.2) = true := by
  rw [List.all_eq_true]
  rintro ⟨p, v⟩ hp
  cases v with
  | none => rfl
  | some q => exact (t.nm q (t.up p q hp)).ok
theorem eq_of {A B : Ab} {h k : Str} {T U : I_Tree} (t : TreeOk A h) (o : TrOk A h T) (u : TreeOk B k) (o2 : TrOk B k U) : F_Tree__eq T U = some (sameK A B) := by
  have : eqK_ pyOS.ok T.above_by U.above_by = some (sameK A B) := by
    rw [o.above, o2.above]
    unfold eqK_
    rw [if_pos]
    rw [vals_ok t, vals_ok u]; rfl
  unfold F_Tree__eq
  simp only [this, andO, if_true, Option.bind_some]
theorem sameK_of {A B : Ab} (na : (keys A).Nodup) (nb : (keys B).Nodup) : sameK A B = true ↔ ∀ p v, (p, v) ∈ A ↔ (p, v) ∈ B := by
  unfold sameK
  rw [Bool.and_eq_true, decide_eq_true_eq, List.all_eq_true]
  have sub : (∀ x ∈ A, decide (getK B x.1 = some x.2) = true) ↔ ∀ p v, (p, v) ∈ A → (p, v) ∈ B := by
    constructor
    · intro hx p v hm; exact getK_mem (of_decide_eq_true (hx _ hm))
    · rintro hx ⟨p, v⟩ hm; exact decide_eq_true (getK_of nb (hx p v hm))
  rw [sub]
  have nA : A.Nodup := (List.pairwise_map.mp na).imp fun hne e => hne (by rw [e])
  have nB : B.Nodup := (List.pairwise_map.mp nb).imp fun hne e => hne (by rw [e])
  constructor
  · rintro ⟨hl, hs⟩ p v
    refine ⟨hs p v, fun hm => ?_⟩
    refine Classical.byContradiction fun hn => ?_
    have : ((p, v) :: A).length ≤ B.length := nd_len (List.nodup_cons.mpr ⟨hn, nA⟩) fun x hx => by
      rcases List.mem_cons.mp hx with rfl | hx
      · exact hm
      · exact hs x.1 x.2 hx
    rw [List.length_cons] at this
    omega
  · intro hx
    exact ⟨Nat.le_antisymm (nd_len nA fun x hm => (hx x.1 x.2).mp hm) (nd_len nB fun x hm => (hx x.1 x.2).mpr hm), fun p v => (hx p v).mp⟩
end K01

set_option Elab.async false
set_option linter.all false
set_option maxRecDepth 100000
set_option maxHeartbeats 4000000
namespace K01
open Pv
open PySem (Str)
open L2 (Key atI ixN)
section
variable {A : Ab} {h : Str} (t : TreeOk A h)
include t
theorem klen : (A.map (·.1)).length ≤ 1000000 := by rw [List.length_map]; exact Nat.le_trans t.sz (by decide)
theorem law_head_of : F_law_head A = some h := by
  have h1 : compP (fun x1 => (getK A x1).bind fun v2 => some (v2.isNone)) (fun x1 => some x1) (A.map (·.1)) = some ((A.map (·.1)).filter fun p => (par A p).isNone) :=
    compP_sel _ (klen t) fun x hx => by rw [t.get hx]; rfl
  have hm : h ∈ (A.map (·.1)).filter fun p => (par A p).isNone := List.mem_filter.mpr ⟨t.h_key, by rw [t.par_h]; rfl⟩
  unfold F_law_head
  rw [h1, Option.bind_some]
  cases hf : (A.map (·.1)).filter fun p => (par A p).isNone with
  | nil => rw [hf] at hm; cases hm
  | cons y l =>
    have hy : y ∈ (A.map (·.1)).filter fun p => (par A p).isNone := by rw [hf]; exact List.mem_cons_self
    obtain ⟨hy1, hy2⟩ := List.mem_filter.mp hy
    have : y = h := t.par_none hy1 (by cases e : par A y with | none => rfl | some q => rw [e] at hy2; cases hy2)
    rw [this, atI_0]; rfl
theorem law_line_of {p : Str} (hp : p ∈ keys A) : F_law_line A p = some (lineF A p) := by
  have hsz := t.sz
  have : Ok (F_law_line A p) (fun r => r = lineF A p) := by
    unfold F_law_line
    refine ok_b rfl (ok_bind (P := fun r => r = lineF A p) (ok_whP (fun m l => ∃ l' q, l = l' ++ [q] ∧ q ∈ keys A ∧ l' ++ lineF A q = lineF A p ∧ m = (lineF A q).length) _ (lineF A p).length ⟨[], p, rfl, hp, rfl, rfl⟩ ?_) fun r hr => ok_some hr)
    rintro m l ⟨l', q, rfl, hq, e, rfl⟩
    rw [atI_last, Option.bind_some, t.get hq, Option.bind_some]
    cases ep : par A q with
    | none =>
      rw [t.line_none ep] at e
      exact ok_some (.inl ⟨rfl, e⟩)
    | some q2 =>
      have h1 := t.line_len hp
      have h2 := congrArg List.length e
      rw [t.line_some ep] at e h2 ⊢
      rw [List.length_append, List.length_cons] at h2
      refine ok_some (.inr ⟨rfl, ?_⟩)
      refine ok_b rfl (ok_b ((t.get hq).trans (by rw [ep])) (ok_b rfl ?_))
      refine ok_b (app_of (by rw [List.length_append, List.length_singleton]; omega)) (ok_some ⟨(lineF A q2).length, by simp, l' ++ [q], q2, rfl, (t.par_key ep).2, ?_, rfl⟩)
      rw [List.append_assoc]; exact e
  obtain ⟨r, e, rfl⟩ := this
  exact e
theorem law_under_of (p : Str) : F_law_under A p = some (kids A p) := by
  have h1 : compP (fun x1 => (getK A x1).bind fun v2 => some (decide (v2 = (some p)))) (fun x1 => some x1) (A.map (·.1)) = some ((A.map (·.1)).filter fun q => decide (par A q = some p)) :=
    compP_sel _ (klen t) fun x hx => by rw [t.get hx]; rfl
  unfold F_law_under
  rw [h1, Option.bind_some, srt_of (Nat.le_trans (List.length_filter_le _ _) (klen t)), sortS_fil]
  rfl
theorem law_branches_of : Ok (F_law_branches A) (fun r => ∀ p ∈ keys A, getK r p = some (branch A p)) := by
  have hsz := t.sz
  unfold F_law_branches
  refine ok_b (dcP_self (fun _ => ([] : List Str)) (klen t) t.nd fun _ _ => rfl) (ok_b (by rw [srt_of (klen t)]; rfl) ?_)
  refine ok_bind (ok_forP (fun pre b => b = (keys A).map fun p => (p, pre.filter fun q => decide (p ∈ lineF A q))) (by rfl) fun pre x suf b e hb => ?_) fun b hb => ok_some ?_
  · have hxs : x ∈ srt A := by show x ∈ sortS (A.map (·.1)); rw [e]; simp
    have hx : x ∈ keys A := sortS_mem.mp hxs
    have hpl : pre.length < 1000000 := by
      have h1 := congrArg List.length e
      rw [sortS_len, List.length_append, List.length_cons, List.length_map] at h1
      omega
    subst hb
    refine ok_b (by rw [law_line_of t hx]; rfl) ?_
    refine ok_bind (ok_forP (fun pl b => b = (keys A).map fun p => (p, (pre.filter fun q => decide (p ∈ lineF A q)) ++ if p ∈ pl then [x] else [])) ?_ fun pl y sl b el hb => ?_) fun b hb => ok_some ?_
    · simp
    · subst hb
      have hy : y ∈ keys A := t.line_key hx y (by rw [el]; simp)
      have hny : y ∉ pl := fun hm => by
        have nd := t.line_nd x
        rw [el] at nd
        exact (List.nodup_append.mp nd).2.2 y hm y List.mem_cons_self rfl
      rw [getK_map, if_pos hy]
      refine ok_b rfl (ok_b (mod_map (keys A) _ _ ((pre.filter fun q => decide (y ∈ lineF A q)) ++ [x]) t.nd hy ?_) (ok_some ?_))
      · rw [if_neg hny, List.append_nil, app_of (Nat.lt_of_le_of_lt (List.length_filter_le _ _) hpl)]
      · refine List.map_congr_left fun p _ => ?_
        by_cases hpy : p = y
        · subst hpy
          rw [if_pos rfl, if_pos (by simp)]
        · rw [if_neg hpy]
          congr 2
          by_cases hp : p ∈ pl
          · rw [if_pos hp, if_pos (List.mem_append_left _ hp)]
          · rw [if_neg hp, if_neg (by simp [hp, hpy])]
    · rw [hb]
      refine List.map_congr_left fun p _ => ?_
      congr 1
      rw [List.filter_append, List.filter_cons]
      by_cases hp : p ∈ lineF A x
      · rw [if_pos hp, if_pos (decide_eq_true hp)]; rfl
      · rw [if_neg hp, if_neg (by simpa using hp)]; rfl
  · intro p hp
    rw [hb, getK_map, if_pos hp]
    rfl
end
end K01

set_option Elab.async false
set_option linter.all false
set_option maxRecDepth 100000
set_option maxHeartbeats 4000000
namespace K01
open Pv
open PySem (Str)
open L2 (Key atI ixN)
def SrcOk (s : List Int) : Prop := ∃ a b n : Int, s = [a, b, n]
theorem mulI_of {i j : Int} (h : (-(2 ^ 64) < i ∧ i < 2 ^ 64) ∨ (-(2 ^ 64) < j ∧ j < 2 ^ 64)) : mulI i j = some (i * j) := by unfold mulI; rw [if_pos h]
theorem modI_of {i j : Int} (h : 0 < j) : modI i j = some (i % j) := by unfold modI; rw [if_pos h]
theorem fdivI_of {i j : Int} (h : 0 < j) (h2 : j.natAbs.log2 < 9000) : fdivI i j = some (i / j) := by unfold fdivI; rw [if_pos ⟨h, h2⟩]
theorem mixed_ok (c k : Int) : Ok (F_law_mixed c k) fun _ => True := by
  unfold F_law_mixed
  refine ok_b rfl (ok_b rfl ?_)
  have b1 : ∀ m : Int, -(2 ^ 64) < m % 2147483629 ∧ m % 2147483629 < 2 ^ 64 := fun m => by
    have := Int.emod_nonneg m (b := 2147483629) (by decide)
    have := Int.emod_lt_of_pos m (b := 2147483629) (by decide)
    omega
  have b2 : ∀ m : Int, -(2 ^ 64) < m % 2147483587 ∧ m % 2147483587 < 2 ^ 64 := fun m => by
    have := Int.emod_nonneg m (b := 2147483587) (by decide)
    have := Int.emod_lt_of_pos m (b := 2147483587) (by decide)
    omega
  exact ok_b (mulI_of (.inl (b1 _))) (ok_b rfl (ok_b (mulI_of (.inl (b2 _))) (ok_some trivial)))
theorem next_of {s : List Int} (hs : SrcOk s) {m : Int} (hm : 0 < m) (hm2 : m < 1000000) : Ok (F_law_next s m) fun r => 0 ≤ r.1 ∧ r.1 < m ∧ SrcOk r.2 := by
  obtain ⟨a, b, n, rfl⟩ := hs
  have hl : m.natAbs.log2 < 9000 := by
    have h1 : m.natAbs < 2 ^ 20 := by omega
    have h2 : m.natAbs ≠ 0 := by omega
    have := (Nat.log2_lt h2).mpr h1
    omega
  unfold F_law_next
  refine ok_b (r := a) rfl (ok_ite (fun _ => ?_) fun _ => ?_)
  · refine ok_b (r := a) rfl (ok_b (modI_of hm) (ok_b (r := a) rfl (ok_b (fdivI_of hm hl) (ok_b (r := [a / m, b, n]) rfl (ok_some ⟨Int.emod_nonneg _ (by omega), Int.emod_lt_of_pos _ hm, _, _, _, rfl⟩)))))
  · refine ok_b (r := n) rfl (ok_b (r := [a, b, n + 1]) rfl (ok_b (r := b) rfl (ok_b (r := n + 1) rfl (ok_bind (mixed_ok _ _) fun y _ => ok_b (modI_of hm) (ok_some ⟨Int.emod_nonneg _ (by omega), Int.emod_lt_of_pos _ hm, _, _, _, rfl⟩)))))
theorem cell_ok (ns : List Int) : Ok (F_law_cell_at ns 0) fun _ => True := by
  unfold F_law_cell_at
  refine ok_ite (fun h => ?_) fun _ => ok_some trivial
  cases ns with
  | nil => simp at h
  | cons n ns => exact ok_b (atI_0 n ns) (ok_some trivial)
theorem source_of (ns : List Int) (k : Nat) : Ok (F_law_source ns (k : Int)) SrcOk := by
  unfold F_law_source
  refine ok_ite (fun h => ?_) fun h => ?_
  · have hk : k < ns.length := by have := of_decide_eq_true h; omega
    have : atI ns (k : Int) = some ns[k] := by rw [atI_nat', List.getElem?_eq_getElem hk]
    exact ok_b this (ok_b this (ok_some ⟨_, _, _, rfl⟩))
  · exact ok_bind (cell_ok ns) fun r _ => ok_bind (mixed_ok _ _) fun y _ => ok_some ⟨_, _, _, rfl⟩
def nameL (n : Nat) : List Nat := if h : n < 26 then [97 + n] else nameL (n / 26 - 1) ++ [97 + n % 26]
termination_by n
decreasing_by omega
def nameS (n : Nat) : Str := ⟨(nameL n).toArray⟩
theorem nameL_lt {n : Nat} (h : n < 26) : nameL n = [97 + n] := by rw [nameL, dif_pos h]
theorem nameL_ge {n : Nat} (h : ¬ n < 26) : nameL n = nameL (n / 26 - 1) ++ [97 + n % 26] := by rw [nameL, dif_neg h]
theorem nameL_len {n : Nat} (h : n < 18278) : (nameL n).length ≤ 3 := by
  by_cases h1 : n < 26
  · rw [nameL_lt h1]; simp
  · rw [nameL_ge h1]
    by_cases h2 : n / 26 - 1 < 26
    · rw [nameL_lt h2]; simp
    · rw [nameL_ge h2]
      have h3 : (n / 26 - 1) / 26 - 1 < 26 := by omega
      rw [nameL_lt h3]; simp
theorem nameL_pos (n : Nat) : 1 ≤ (nameL n).length := by
  by_cases h1 : n < 26
  · rw [nameL_lt h1]; simp
  · rw [nameL_ge h1]; simp
theorem nameL_inj : ∀ (n m : Nat), nameL n = nameL m → n = m := by
  intro n
  induction n using Nat.strongRecOn with
  | ind n ih =>
    intro m e
    by_cases h1 : n < 26 <;> by_cases h2 : m < 26
    · rw [nameL_lt h1, nameL_lt h2] at e
      simp only [List.cons.injEq, and_true] at e
      omega
    · rw [nameL_lt h1, nameL_ge h2] at e
      have h3 := congrArg List.length e
      have := nameL_pos (m / 26 - 1)
      rw [List.length_append, List.length_singleton, List.length_singleton] at h3
      omega
    · rw [nameL_ge h1, nameL_lt h2] at e
      have h3 := congrArg List.length e
      have := nameL_pos (n / 26 - 1)
      rw [List.length_append, List.length_singleton, List.length_singleton] at h3
      omega
    · rw [nameL_ge h1, nameL_ge h2] at e
      obtain ⟨e1, e2⟩ := List.append_inj' e rfl
      have := ih (n / 26 - 1) (by omega) _ e1
      simp only [List.cons.injEq, and_true] at e2
      omega
theorem sign_sm : ∀ i : Fin 26, (97 + i.val) ∈ small := by decide
theorem nameL_sm : ∀ (n : Nat), ∀ c ∈ nameL n, c ∈ small := by
  intro n
  induction n using Nat.strongRecOn with
  | ind n ih =>
    intro c hc
    by_cases h1 : n < 26
    · rw [nameL_lt h1, List.mem_singleton] at hc
      subst hc
      exact sign_sm ⟨n, h1⟩
    · rw [nameL_ge h1] at hc
      rcases List.mem_append.mp hc with z | z
      · exact ih _ (by omega) c z
      · rw [List.mem_singleton] at z
        subst z
        exact sign_sm ⟨n % 26, Nat.mod_lt _ (by decide)⟩
theorem sign_at : ∀ i : Fin 26, atI ("abcdefghijklmnopqrstuvwxyz" : Str).cps.toList (i.val : Int) = some (97 + i.val) := by decide +kernel
theorem name_of {n : Nat} (hn : n < 18278) : F_law_name (n : Int) = some (nameS n) := by
  have : Ok (F_law_name (n : Int)) fun r => r = nameS n := by
    unfold F_law_name
    refine ok_b rfl (ok_bind (P := fun t => t.2 = nameS n) (ok_whP (fun m (t : Int × Str) => ∃ (k : Int) (suf : List Nat), -1 ≤ k ∧ m = (k + 1).toNat ∧ (if k = -1 then suf else nameL k.toNat ++ suf) = nameL n ∧ t = (k, ⟨suf.toArray⟩)) _ (n + 1) ?_ ?_) fun t ht => ok_some ht)
    · exact ⟨(n : Int), [], by omega, by omega, by rw [if_neg (by omega), Int.toNat_natCast, List.append_nil], rfl⟩
    · rintro m t ⟨k, suf, hk, rfl, e, rfl⟩
      refine ok_some ?_
      by_cases h : k = -1
      · refine .inl ⟨decide_eq_false (by show ¬ (0 : Int) ≤ k; omega), ?_⟩
        rw [if_pos h] at e
        show (⟨suf.toArray⟩ : Str) = _
        rw [e]; rfl
      · refine .inr ⟨decide_eq_true (by show (0 : Int) ≤ k; omega), ?_⟩
        rw [if_neg h] at e
        obtain ⟨j, rfl⟩ : ∃ j : Nat, k = j := ⟨k.toNat, by omega⟩
        rw [Int.toNat_natCast] at e
        have hm : (j : Int) % 26 = ((j % 26 : Nat) : Int) := by omega
        have hc := sign_at ⟨j % 26, Nat.mod_lt _ (by decide)⟩
        have hl3 := congrArg List.length e
        rw [List.length_append] at hl3
        have hl := nameL_len hn
        have h1 : ixS_ ("abcdefghijklmnopqrstuvwxyz" : Str) ((j : Int) % 26) = some ⟨#[97 + j % 26]⟩ := by
          unfold ixS_
          rw [if_pos (by decide +kernel), hm, hc]; rfl
        have h2 : catS (⟨#[97 + j % 26]⟩ : Str) ⟨suf.toArray⟩ = some ⟨((97 + j % 26) :: suf).toArray⟩ := by
          unfold catS
          rw [if_pos (by
            have : (⟨#[97 + j % 26]⟩ : Str).length + (⟨suf.toArray⟩ : Str).length = 1 + suf.length := by simp [PySem.Str.length]
            rw [this]
            exact Nat.le_trans (by omega : 1 + suf.length ≤ 4) (by decide))]
          refine congrArg some ?_
          show PySem.Str.append _ _ = _
          unfold PySem.Str.append
          simp
        refine ok_b h1 (ok_b h2 (ok_b rfl (ok_some ⟨((j : Int) / 26 - 1 + 1).toNat, ?_, (j : Int) / 26 - 1, (97 + j % 26) :: suf, ?_, rfl, ?_, rfl⟩)))
        · omega
        · omega
        · by_cases hj : j < 26
          · rw [if_pos (by omega), ← e, nameL_lt hj, Nat.mod_eq_of_lt hj]; rfl
          · have h5 : ¬ ((j : Int) / 26 - 1 = -1) := by omega
            have h6 : ((j : Int) / 26 - 1).toNat = j / 26 - 1 := by omega
            rw [if_neg h5, h6, ← e, nameL_ge hj, List.append_assoc]; rfl
  obtain ⟨r, e, rfl⟩ := this
  exact e
theorem cop : ∀ s ∈ [1, 3, 7, 11], ∀ r ∈ List.range s, r ≠ 0 → Nat.gcd r s = 1 := by decide
theorem step_inj {m s : Nat} (hs : s ∈ [1, 3, 7, 11]) (h : s = 1 ∨ m % s ≠ 0) {i j : Nat} (hi : i < m) (hj : j < m) (e : i * s % m = j * s % m) : i = j := by
  have hg : Nat.gcd m s = 1 := by
    rcases h with rfl | h
    · exact Nat.gcd_one_right m
    · have hp : 0 < s := by
        rcases List.mem_cons.mp hs with rfl | hs
        · decide
        · have : ∀ x ∈ [3, 7, 11], 0 < x := by decide
          exact this s hs
      have := cop s hs (m % s) (List.mem_range.mpr (Nat.mod_lt _ hp)) h
      rw [Nat.gcd_comm, Nat.gcd_rec]; exact this
  have hc : Nat.Coprime m s := hg
  have key : ∀ a b : Nat, a ≤ b → b < m → a * s % m = b * s % m → a = b := fun a b hab hb e => by
    have h1 : m ∣ (b - a) * s := by
      rw [Nat.sub_mul]
      exact Nat.dvd_of_mod_eq_zero (Nat.sub_mod_eq_zero_of_mod_eq e.symm)
    have h2 : m ∣ b - a := hc.dvd_of_dvd_mul_right h1
    rcases Nat.eq_zero_or_pos (b - a) with z | z
    · omega
    · have := Nat.le_of_dvd z h2; omega
  rcases Nat.le_total i j with h | h
  · exact key i j h hj e
  · exact (key j i h hi e.symm).symm
structure NamesOk (ns : List Str) (m : Nat) : Prop where
  len : ns.length = m
  nd : ns.Nodup
  nm : ∀ x ∈ ns, Nm x
  z : ("zzzzzzzz" : Str) ∉ ns ∧ ("yyyyyyyy" : Str) ∉ ns
theorem at4 {α : Type} (a b c d : α) : ∀ i : Nat, i < 4 → atI [a, b, c, d] (i : Int) = some ([a, b, c, d].getD i a) := by
  intro i hi
  rw [atI_nat']
  rcases i with _ | _ | _ | _ | i <;> first | rfl | omega
theorem stem_cps (st : Str) (hst : st ∈ (["", "", "", "grand"] : List Str)) : st.length ≤ 5 ∧ (∀ c ∈ st.cps.toList, c ∈ small) ∧ (st.length = 0 ∨ st.cps.toList.head? = some 103) := by
  have : ∀ s ∈ (["", "", "", "grand"] : List Str), s.length ≤ 5 ∧ (∀ c ∈ s.cps.toList, c ∈ small) ∧ (s.length = 0 ∨ s.cps.toList.head? = some 103) := by decide
  exact this st hst
theorem app_cps (s t : Str) : (s ++ t).cps.toList = s.cps.toList ++ t.cps.toList := by
  show (PySem.Str.append s t).cps.toList = _
  unfold PySem.Str.append
  simp
theorem app_len (s t : Str) : (s ++ t).length = s.length + t.length := by
  show (PySem.Str.append s t).cps.size = _
  unfold PySem.Str.append
  simp [PySem.Str.length]
theorem str_ext {s t : Str} (h : s.cps.toList = t.cps.toList) : s = t := by
  obtain ⟨a⟩ := s; obtain ⟨b⟩ := t
  simp only at h
  congr 1
  exact Array.toList_inj.mp h
theorem names_of {s : List Int} (hs : SrcOk s) {m : Nat} (h0 : 0 < m) (hm : m ≤ 101) : Ok (F_law_names s (m : Int)) fun r => NamesOk r.1 m ∧ SrcOk r.2 := by
  unfold F_law_names
  refine ok_bind (next_of hs (by decide) (by decide)) fun d1 ⟨a1, a2, a3⟩ => ?_
  obtain ⟨i, ei⟩ : ∃ i : Nat, d1.1 = i := ⟨d1.1.toNat, by omega⟩
  have hi : i < 4 := by omega
  rw [ei]
  refine ok_b (at4 _ _ _ _ i hi) (ok_b (at4 _ _ _ _ i hi) ?_)
  refine ok_bind (next_of a3 (by decide) (by decide)) fun d4 ⟨b1, b2, b3⟩ => ?_
  obtain ⟨j, ej⟩ : ∃ j : Nat, d4.1 = j := ⟨d4.1.toNat, by omega⟩
  have hj : j < 4 := by omega
  rw [ej]
  refine ok_b (at4 _ _ _ _ j hj) ?_
  obtain ⟨f, ef, hf⟩ : ∃ f : Nat, [(0 : Int), 20, 700, 18000].getD i 0 = f ∧ f ≤ 18000 := by
    rcases i with _ | _ | _ | _ | i
    · exact ⟨0, rfl, by decide⟩
    · exact ⟨20, rfl, by decide⟩
    · exact ⟨700, rfl, by decide⟩
    · exact ⟨18000, rfl, by decide⟩
    · omega
  rw [ef]
  have hst : (["", "", "", "grand"] : List Str).getD i "" ∈ (["", "", "", "grand"] : List Str) := by
    rcases i with _ | _ | _ | _ | i
    · exact List.mem_cons_self
    · exact List.mem_cons_self
    · exact List.mem_cons_self
    · exact List.mem_cons_of_mem _ (List.mem_cons_of_mem _ (List.mem_cons_of_mem _ List.mem_cons_self))
    · omega
  generalize (["", "", "", "grand"] : List Str).getD i "" = st at hst ⊢
  obtain ⟨st1, st2, st3⟩ := stem_cps st hst
  obtain ⟨q, eq, hq⟩ : ∃ q : Nat, [(1 : Int), 3, 7, 11].getD j 1 = q ∧ q ∈ [1, 3, 7, 11] := by
    rcases j with _ | _ | _ | _ | j
    · exact ⟨1, rfl, by decide⟩
    · exact ⟨3, rfl, by decide⟩
    · exact ⟨7, rfl, by decide⟩
    · exact ⟨11, rfl, by decide⟩
    · omega
  rw [eq]
  have hq0 : 0 < q ∧ q ≤ 11 := by
    have : ∀ x ∈ [1, 3, 7, 11], 0 < x ∧ x ≤ 11 := by decide
    exact this q hq
  refine ok_bind (P := fun t : Int => ∃ p : Nat, t = p ∧ p ∈ [1, 3, 7, 11] ∧ (p = 1 ∨ m % p ≠ 0)) ?_ fun t ⟨p, ep, hp, hp2⟩ => ?_
  · refine ok_b (modI_of (by omega)) (ok_ite (fun h => ok_b rfl (ok_some ⟨1, rfl, by decide, .inl rfl⟩)) fun h => ok_some ⟨q, rfl, hq, .inr fun z => ?_⟩)
    have := of_decide_eq_false h
    exact this (by omega)
  · subst ep
    have hp0 : p ≤ 11 := by
      have : ∀ x ∈ [1, 3, 7, 11], x ≤ 11 := by decide
      exact this p hp
    have hr : rng1 (m : Int) = some ((List.range m).map fun (i : Nat) => (i : Int)) := by
      unfold rng1
      rw [if_pos (by omega), Int.toNat_natCast]
    have hc : compP (fun x10 => some true) (fun x10 : Int => (mulI x10 (p : Int)).bind fun m11 => (modI m11 (m : Int)).bind fun r12 => (F_law_name ((f : Int) + r12)).bind fun r13 => (catS st r13).bind fun s14 => some s14) ((List.range m).map fun (i : Nat) => (i : Int)) = some (((List.range m).map fun (i : Nat) => (i : Int)).map fun i => st ++ nameS (f + i.toNat * p % m)) := by
      refine compP_map _ (by rw [List.length_map, List.length_range]; omega) fun x hx => ?_
      obtain ⟨k, hk, rfl⟩ := List.mem_map.mp hx
      have hk := List.mem_range.mp hk
      have hkm : k * p % m < m := Nat.mod_lt _ h0
      have e1 : (f : Int) + (k : Int) * (p : Int) % (m : Int) = ((f + k * p % m : Nat) : Int) := by simp
      have hlt : f + k * p % m < 18278 := by omega
      have hl := nameL_len hlt
      rw [mulI_of (.inl (by omega)), Option.bind_some, modI_of (by omega), Option.bind_some, e1, name_of hlt, Option.bind_some]
      have : catS st (nameS (f + k * p % m)) = some (st ++ nameS (f + k * p % m)) := by
        unfold catS
        rw [if_pos]
        have h3 : (nameS (f + k * p % m)).length = (nameL (f + k * p % m)).length := by simp [nameS, PySem.Str.length]
        rw [h3]
        exact Nat.le_trans (by omega : _ ≤ 8) (by decide)
      rw [this, Option.bind_some, Int.toNat_natCast]
    refine ok_b hr (ok_b hc (ok_some ⟨?_, b3⟩))
    rw [List.map_map]
    have hcps : ∀ k < m, (st ++ nameS (f + k * p % m)).cps.toList = st.cps.toList ++ nameL (f + k * p % m) := fun k hk => by rw [app_cps]; rfl
    have hlen : ∀ k < m, (st ++ nameS (f + k * p % m)).length = st.length + (nameL (f + k * p % m)).length := fun k hk => by rw [app_len]; simp [nameS, PySem.Str.length]
    have hlt : ∀ k < m, f + k * p % m < 18278 := fun k hk => by have := Nat.mod_lt (k * p) h0; omega
    have hz : ∀ (w : Str) (c : Nat), w.length = 8 → w.cps.toList.head? = some c → c ≠ 103 → ∀ k < m, st ++ nameS (f + k * p % m) ≠ w := fun w c hw hc0 hc k hk e => by
      have h1 := hlen k hk
      rw [e, hw] at h1
      have h2 := nameL_len (hlt k hk)
      rcases st3 with z | z
      · omega
      · have h3 : (st ++ nameS (f + k * p % m)).cps.toList.head? = w.cps.toList.head? := by rw [e]
        rw [hcps k hk, hc0] at h3
        cases hh : st.cps.toList with
        | nil => rw [hh] at z; cases z
        | cons y l =>
          rw [hh] at h3 z
          simp only [List.cons_append, List.head?_cons, Option.some.injEq] at h3 z
          exact hc (h3.symm.trans z)
    refine ⟨by simp, ?_, fun x hx => ?_, fun hx => ?_, fun hx => ?_⟩
    · refine List.pairwise_map.mpr (List.nodup_range.imp_of_mem fun {a b} ha hb hab e => hab ?_)
      have ha := List.mem_range.mp ha
      have hb := List.mem_range.mp hb
      simp only [Function.comp, Int.toNat_natCast] at e
      have h1 : (st ++ nameS (f + a * p % m)).cps.toList = (st ++ nameS (f + b * p % m)).cps.toList := by rw [e]
      rw [hcps a ha, hcps b hb] at h1
      have h2 := nameL_inj _ _ (List.append_cancel_left h1)
      exact step_inj hp hp2 ha hb (by omega)
    · obtain ⟨k, hk, rfl⟩ := List.mem_map.mp hx
      have hk := List.mem_range.mp hk
      simp only [Function.comp, Int.toNat_natCast]
      refine ⟨?_, ?_, ?_⟩
      · rw [hlen k hk]; have := nameL_pos (f + k * p % m); omega
      · rw [hlen k hk]; have := nameL_len (hlt k hk); omega
      · intro c hc
        rw [hcps k hk] at hc
        rcases List.mem_append.mp hc with z | z
        · exact st2 c z
        · exact nameL_sm _ c z
    · obtain ⟨k, hk, e⟩ := List.mem_map.mp hx
      simp only [Function.comp, Int.toNat_natCast] at e
      exact hz "zzzzzzzz" 122 (by decide) (by decide) (by decide) k (List.mem_range.mp hk) e
    · obtain ⟨k, hk, e⟩ := List.mem_map.mp hx
      simp only [Function.comp, Int.toNat_natCast] at e
      exact hz "yyyyyyyy" 121 (by decide) (by decide) (by decide) k (List.mem_range.mp hk) e
end K01

set_option Elab.async false
set_option linter.all false
set_option maxRecDepth 100000
set_option maxHeartbeats 4000000
namespace K01
open Pv
open PySem (Str)
open L2 (Key atI ixN)
theorem cut10 {α : Type} (l : List α) (i : Nat) (h : i ≤ l.length) : cutD l (some (i : Int)) none = l.drop i := by
  unfold cutD
  rw [HT.sIx_nat, HT.sIx_none, Nat.min_eq_left h]
  exact List.take_of_length_le (by rw [List.length_drop]; exact Nat.le_refl _)
theorem cut01 {α : Type} (l : List α) (i : Nat) (h : i ≤ l.length) : cutD l none (some (i : Int)) = l.take i := by
  unfold cutD
  rw [HT.sIx_nat, HT.sIx_none, Nat.min_eq_left h, Nat.sub_zero, List.drop_zero]
theorem TreeOk.congr {A B : Ab} {h : Str} (t : TreeOk A h) (nd : (keys B).Nodup) (e : ∀ p v, (p, v) ∈ A ↔ (p, v) ∈ B) : TreeOk B h := by
  have hp : ∀ p q, par B p = some q → par A p = some q := fun p q hq => by
    unfold par at hq
    cases h1 : getK B p with
    | none => rw [h1] at hq; cases hq
    | some v =>
      rw [h1] at hq
      have : v = some q := hq
      subst this
      exact t.par_of ((e _ _).mpr (getK_mem h1))
  have hk : ∀ p, p ∈ keys B ↔ p ∈ keys A := fun p => by
    constructor
    · intro hm
      obtain ⟨⟨p', v⟩, h1, rfl⟩ := List.mem_map.mp hm
      exact List.mem_map_of_mem (f := fun x : Str × Option Str => x.1) ((e _ _).mpr h1)
    · intro hm
      obtain ⟨⟨p', v⟩, h1, rfl⟩ := List.mem_map.mp hm
      exact List.mem_map_of_mem (f := fun x : Str × Option Str => x.1) ((e _ _).mp h1)
  obtain ⟨rk, hr⟩ := t.rk
  refine ⟨nd, (e _ _).mp t.hd, fun p hm => t.one p ((e _ _).mpr hm), fun p q hm => (hk q).mpr (t.up p q ((e _ _).mpr hm)), ⟨rk, fun p q hq => hr p q (hp p q hq)⟩, fun p hm => t.nm p ((hk p).mp hm), ?_⟩
  have h1 : (keys B).length ≤ (keys A).length := nd_len nd fun x hx => (hk x).mp hx
  simp only [keys, List.length_map] at h1
  exact Nat.le_trans h1 t.sz
theorem above_ok {s : List Int} (hs : SrcOk s) {m : Nat} (h0 : 0 < m) (hm : m ≤ 101) : Ok (F_law_above s (m : Int)) fun r => (∃ h, TreeOk r.1 h) ∧ r.1.length = m ∧ ("zzzzzzzz" : Str) ∉ keys r.1 ∧ ("yyyyyyyy" : Str) ∉ keys r.1 ∧ SrcOk r.2 := by
  unfold F_law_above
  refine ok_bind (names_of hs h0 hm) fun d1 ⟨N, s1⟩ => ok_bind (next_of s1 (by decide) (by decide)) fun d2 ⟨a1, a2, s2⟩ => ?_
  obtain ⟨sh, esh⟩ : ∃ i : Nat, d2.1 = i := ⟨d2.1.toNat, by omega⟩
  have hsh : sh < 4 := by omega
  rw [esh]
  obtain ⟨n0, e0⟩ : ∃ n0, d1.1[0]? = some n0 := ⟨_, List.getElem?_eq_getElem (by rw [N.len]; exact h0)⟩
  have hN := N.len
  refine ok_b (show atI d1.1 ((0 : Nat) : Int) = some n0 by rw [atI_nat', e0]) (ok_b rfl ?_)
  have hr : rng2 (1 : Int) (m : Int) = some ((List.range (m - 1)).map fun (i : Nat) => 1 + (i : Int)) := by
    unfold rng2
    rw [if_pos (by omega)]
    congr 2
    congr 1
    omega
  refine ok_b hr ?_
  refine ok_bind (ok_forP (fun pre (t : List Int × Ab) => SrcOk t.1 ∧ keys t.2 = d1.1.take (pre.length + 1) ∧ (n0, none) ∈ t.2 ∧ ∀ p v, (p, v) ∈ t.2 → ∃ i, i < pre.length + 1 ∧ d1.1[i]? = some p ∧ ((i = 0 ∧ v = none) ∨ ∃ j, j < i ∧ ∃ q, d1.1[j]? = some q ∧ v = some q)) ?_ fun pre x suf t e ht => ?_) fun t ht => ?_
  · refine ⟨s2, ?_, by simp, fun p v hm => ?_⟩
    · show [n0] = d1.1.take 1
      cases hd : d1.1 with
      | nil => rw [hd] at e0; cases e0
      | cons y l => rw [hd] at e0; simp at e0; subst e0; rfl
    · simp only [List.mem_singleton, Prod.mk.injEq] at hm
      obtain ⟨rfl, rfl⟩ := hm
      exact ⟨0, by simp, e0, .inl ⟨rfl, rfl⟩⟩
  · obtain ⟨t1, t2, t3, t4⟩ := ht
    have hlen := congrArg List.length e
    rw [List.length_map, List.length_range, List.length_append, List.length_cons] at hlen
    have hx : x = 1 + (pre.length : Int) := by
      have h1 : (pre ++ x :: suf)[pre.length]? = some x := by simp
      rw [← e, List.getElem?_map, List.getElem?_range (by omega)] at h1
      simp only [Option.map_some, Option.some.injEq] at h1
      exact h1.symm
    subst hx
    refine ok_bind (next_of t1 (by omega) (by omega)) fun d9 ⟨b1, b2, s3⟩ => ok_bind (next_of s3 (by decide) (by decide)) fun d10 ⟨c1, c2, s4⟩ => ?_
    refine ok_bind (P := fun y : Int => ∃ j : Nat, y = j ∧ j < pre.length + 1) ?_ fun y ⟨j, ej, hj⟩ => ?_
    · refine ok_eq (at4 _ _ _ _ sh hsh) ?_
      rcases sh with _ | _ | _ | _ | sh
      · exact ⟨pre.length, by show (1 : Int) + _ - 1 = _; omega, by omega⟩
      · exact ⟨0, rfl, by omega⟩
      · exact ⟨d9.1.toNat, by show d9.1 = _; omega, by omega⟩
      · show ∃ j : Nat, (if (1 + (pre.length : Int) - 1 - d10.1) > (0 : Int) then (1 + (pre.length : Int) - 1 - d10.1) else (0 : Int)) = j ∧ _
        split
        · exact ⟨(1 + (pre.length : Int) - 1 - d10.1).toNat, by omega, by omega⟩
        · exact ⟨0, rfl, by omega⟩
      · omega
    · subst ej
      obtain ⟨q, hq⟩ : ∃ q, d1.1[j]? = some q := ⟨_, List.getElem?_eq_getElem (by omega)⟩
      obtain ⟨p, hp⟩ : ∃ p, d1.1[pre.length + 1]? = some p := ⟨_, List.getElem?_eq_getElem (by omega)⟩
      have hpx : atI d1.1 (1 + (pre.length : Int)) = some p := by
        rw [show (1 + (pre.length : Int)) = ((pre.length + 1 : Nat) : Int) by omega, atI_nat', hp]
      refine ok_b (by rw [atI_nat', hq]) (ok_b hpx ?_)
      have htk : d1.1.take (pre.length + 1 + 1) = d1.1.take (pre.length + 1) ++ [p] := by
        rw [List.take_add_one, hp]; rfl
      have hnew : p ∉ keys t.2 := fun hm => by
        rw [t2] at hm
        have nd := N.nd
        have nd2 : (d1.1.take (pre.length + 1 + 1)).Nodup := nd.sublist (List.take_sublist _ _)
        rw [htk] at nd2
        exact (List.nodup_append.mp nd2).2.2 p hm p List.mem_cons_self rfl
      have hkl : t.2.length ≤ 1000 := by
        have := congrArg List.length t2
        rw [List.length_take] at this
        simp only [keys, List.length_map] at this
        omega
      refine ok_b (r := t.2 ++ [(p, some q)]) (by unfold put_; rw [if_pos (by omega), put_new _ hnew]) (ok_some ⟨s4, ?_, List.mem_append_left _ t3, fun p' v hm => ?_⟩)
      · rw [List.length_append, List.length_singleton, htk]
        show keys (t.2 ++ [(p, some q)]) = _
        rw [← t2]; simp [keys]
      · rw [List.length_append, List.length_singleton]
        rcases List.mem_append.mp hm with z | z
        · obtain ⟨i, h1, h2, h3⟩ := t4 p' v z
          exact ⟨i, by omega, h2, h3⟩
        · simp only [List.mem_singleton, Prod.mk.injEq] at z
          obtain ⟨rfl, rfl⟩ := z
          exact ⟨pre.length + 1, by omega, hp, .inr ⟨j, hj, q, hq, rfl⟩⟩
  · obtain ⟨t1, t2, t3, t4⟩ := ht
    rw [List.length_map, List.length_range] at t2 t4
    have em : m - 1 + 1 = m := by omega
    rw [em] at t2 t4
    have hkt : keys t.2 = d1.1 := by rw [t2, List.take_of_length_le (by omega)]
    have hkl : t.2.length = m := by
      have := congrArg List.length hkt
      rw [hN] at this
      simpa [keys] using this
    have nd : (keys t.2).Nodup := by rw [hkt]; exact N.nd
    have inj : ∀ i j p, d1.1[i]? = some p → d1.1[j]? = some p → i = j := fun i j p h1 h2 => by
      obtain ⟨hi, e1⟩ := List.getElem?_eq_some_iff.mp h1
      obtain ⟨hj, e2⟩ := List.getElem?_eq_some_iff.mp h2
      exact (List.getElem_inj N.nd).mp (e1.trans e2.symm)
    have hidx : ∀ i p, d1.1[i]? = some p → d1.1.idxOf p = i := fun i p h1 => by
      have hm := List.mem_of_getElem? h1
      have h2 : d1.1[d1.1.idxOf p]? = some p := by
        rw [List.getElem?_eq_getElem (List.idxOf_lt_length_of_mem hm)]
        simp
      exact inj _ _ p h2 h1
    have tr : TreeOk t.2 n0 := by
      refine ⟨nd, t3, fun p hm => ?_, fun p q hm => ?_, ⟨fun p => d1.1.idxOf p, fun p q hpq => ?_⟩, fun p hp => N.nm p (by rw [← hkt]; exact hp), by omega⟩
      · obtain ⟨i, h1, h2, h3⟩ := t4 p none hm
        rcases h3 with ⟨rfl, _⟩ | ⟨j, _, q, _, z⟩
        · rw [e0] at h2; cases h2; rfl
        · cases z
      · obtain ⟨i, h1, h2, h3⟩ := t4 p (some q) hm
        rcases h3 with ⟨rfl, z⟩ | ⟨j, _, q', h4, z⟩
        · cases z
        · cases z
          rw [hkt]; exact List.mem_of_getElem? h4
      · have hm : (p, some q) ∈ t.2 := by
          unfold par at hpq
          cases h1 : getK t.2 p with
          | none => rw [h1] at hpq; cases hpq
          | some v => rw [h1] at hpq; have : v = some q := hpq; subst this; exact getK_mem h1
        obtain ⟨i, h1, h2, h3⟩ := t4 p (some q) hm
        rcases h3 with ⟨rfl, z⟩ | ⟨j, hj, q', h4, z⟩
        · cases z
        · cases z
          show d1.1.idxOf q < d1.1.idxOf p
          rw [hidx i p h2, hidx j q h4]; exact hj
    have hk1 : (t.2.map (·.1)).length ≤ 1000000 := by rw [List.length_map]; omega
    refine ok_b (srt_of hk1) (ok_bind (next_of t1 (by omega) (by omega)) fun d16 ⟨b1, b2, s3⟩ => ?_)
    obtain ⟨k, ek⟩ : ∃ i : Nat, d16.1 = i := ⟨d16.1.toNat, by omega⟩
    have hsl : (sortS (t.2.map (·.1))).length = m := by rw [sortS_len, List.length_map, hkl]
    rw [ek, cut10 _ k (by omega), cut01 _ k (by omega)]
    generalize hord : sortS (t.2.map (·.1)) = ord at hsl ⊢
    have hperm : (ord.drop k ++ ord.take k).Perm (keys t.2) := by
      refine (List.perm_append_comm.trans ?_)
      rw [List.take_append_drop, ← hord]
      exact sortS_perm' _
    have hol : (ord.drop k ++ ord.take k).length = m := by rw [hperm.length_eq]; simp [keys, hkl]
    refine ok_b (r := ord.drop k ++ ord.take k) (by
      rw [catL_of (by rw [← List.length_append]; omega)]; rfl) ?_
    have hnd2 : (ord.drop k ++ ord.take k).Nodup := hperm.nodup_iff.mpr nd
    have hc : compP (fun x19 => some true) (fun x19 => (getK t.2 x19).bind fun v20 => some (x19, v20)) (ord.drop k ++ ord.take k) = some ((ord.drop k ++ ord.take k).map fun p => (p, par t.2 p)) :=
      compP_map _ (by omega) fun x hx => by rw [tr.get (hperm.mem_iff.mp hx)]; rfl
    refine ok_b hc (ok_some ?_)
    have hkB : keys ((ord.drop k ++ ord.take k).map fun p => (p, par t.2 p)) = ord.drop k ++ ord.take k := keys_map _ _
    have hB : mrg_ ((ord.drop k ++ ord.take k).map fun p => (p, par t.2 p)) = (ord.drop k ++ ord.take k).map fun p => (p, par t.2 p) := mrg_self (by rw [hkB]; exact hnd2)
    show (∃ h, TreeOk (mrg_ ((ord.drop k ++ ord.take k).map fun p => (p, par t.2 p))) h) ∧ (mrg_ ((ord.drop k ++ ord.take k).map fun p => (p, par t.2 p))).length = m ∧ _ ∉ keys (mrg_ ((ord.drop k ++ ord.take k).map fun p => (p, par t.2 p))) ∧ _ ∉ keys (mrg_ ((ord.drop k ++ ord.take k).map fun p => (p, par t.2 p))) ∧ SrcOk d16.2
    rw [hB]
    refine ⟨⟨n0, TreeOk.congr tr (by rw [hkB]; exact hnd2) fun p v => ?_⟩, by rw [List.length_map, hol], ?_, ?_, s3⟩
    · constructor
      · intro hm
        have hp : p ∈ keys t.2 := List.mem_map_of_mem (f := fun x : Str × Option Str => x.1) hm
        exact List.mem_map.mpr ⟨p, hperm.mem_iff.mpr hp, by rw [tr.par_of hm]⟩
      · intro hm
        obtain ⟨p', hp', e⟩ := List.mem_map.mp hm
        cases e
        exact getK_mem (tr.get (hperm.mem_iff.mp hp'))
    · rw [hkB]; exact fun hm => N.z.1 (by rw [← hkt]; exact hperm.mem_iff.mp hm)
    · rw [hkB]; exact fun hm => N.z.2 (by rw [← hkt]; exact hperm.mem_iff.mp hm)
end K01

set_option Elab.async false
set_option linter.all false
set_option maxRecDepth 100000
set_option maxHeartbeats 4000000
namespace K01
open Pv
open PySem (Str)
open L2 (Key atI ixN)
theorem TreeOk.rank_of {A B : Ab} (h : ∀ p q, (p, some q) ∈ B → ∀ C : Prop, C → C) : True := trivial
theorem par_in {B : Ab} {p q : Str} (h : par B p = some q) : (p, some q) ∈ B := by
  unfold par at h
  cases h1 : getK B p with
  | none => rw [h1] at h; cases h
  | some v => rw [h1] at h; have : v = some q := h; subst this; exact getK_mem h1
theorem key_in {B : Ab} {p : Str} {v : Option Str} (h : (p, v) ∈ B) : p ∈ keys B := List.mem_map_of_mem (f := fun x : Str × Option Str => x.1) h
section
variable {A : Ab} {h : Str} (t : TreeOk A h)
include t
theorem add_ok {z q : Str} (hz : z ∉ keys A) (nz : Nm z) (hq : q ∈ keys A) (hl : A.length < 1000) : TreeOk (A ++ [(z, some q)]) h := by
  have hk : keys (A ++ [(z, some q)]) = keys A ++ [z] := by simp [keys]
  have hzp : ∀ p r, par A p = some r → p ≠ z ∧ r ≠ z := fun p r e => ⟨fun w => hz (w ▸ (t.par_key e).1), fun w => hz (w ▸ (t.par_key e).2)⟩
  have hqz : q ≠ z := fun w => hz (w ▸ hq)
  refine ⟨by rw [hk]; exact List.nodup_append.mpr ⟨t.nd, by simp, fun a ha b hb e => hz (by rw [List.mem_singleton] at hb; rw [← hb, ← e]; exact ha)⟩, List.mem_append_left _ t.hd, fun p hm => ?_, fun p r hm => ?_, ⟨fun x => if x = z then rkOf A q + 1 else rkOf A x, fun p r e => ?_⟩, fun p hp => ?_, by rw [List.length_append, List.length_singleton]; omega⟩
  · rcases List.mem_append.mp hm with w | w
    · exact t.one p w
    · simp at w
  · rw [hk]
    rcases List.mem_append.mp hm with w | w
    · exact List.mem_append_left _ (t.up p r w)
    · simp only [List.mem_singleton, Prod.mk.injEq, Option.some.injEq] at w
      rw [w.2]; exact List.mem_append_left _ hq
  · have hm := par_in e
    rcases List.mem_append.mp hm with w | w
    · have e2 := t.par_of w
      obtain ⟨n1, n2⟩ := hzp p r e2
      simp only [if_neg n1, if_neg n2]
      exact t.lt e2
    · simp only [List.mem_singleton, Prod.mk.injEq, Option.some.injEq] at w
      obtain ⟨rfl, rfl⟩ := w
      simp only [if_pos, if_neg hqz]
      omega
  · rw [hk] at hp
    rcases List.mem_append.mp hp with w | w
    · exact t.nm p w
    · rw [List.mem_singleton] at w; rw [w]; exact nz
theorem mem_put {p : Str} (hp : p ∈ keys A) (v : Option Str) (x : Str) (w : Option Str) : (x, w) ∈ putS_ A p v ↔ (x = p ∧ w = v) ∨ (x ≠ p ∧ (x, w) ∈ A) := by
  have hk : keys (putS_ A p v) = keys A := by rw [keys_put, if_pos hp]
  have nd : (keys (putS_ A p v)).Nodup := by rw [hk]; exact t.nd
  constructor
  · intro hm
    have h1 := getK_of nd hm
    rw [getK_put] at h1
    by_cases e : x = p
    · rw [if_pos e] at h1; cases h1; exact .inl ⟨e, rfl⟩
    · rw [if_neg e] at h1; exact .inr ⟨e, getK_mem h1⟩
  · rintro (⟨rfl, rfl⟩ | ⟨e, hm⟩)
    · exact getK_mem (by rw [getK_put, if_pos rfl])
    · exact getK_mem (by rw [getK_put, if_neg e]; exact getK_of t.nd hm)
theorem move_ok {p g : Str} (hp : p ∈ keys A) (hg : g ∈ keys A) (hb : p ∉ lineF A g) (hpar : par A p ≠ none) : TreeOk (putS_ A p (some g)) h := by
  have hk : keys (putS_ A p (some g)) = keys A := by rw [keys_put, if_pos hp]
  have hph : h ≠ p := fun e => hpar (by rw [← e]; exact t.par_h)
  refine ⟨by rw [hk]; exact t.nd, (mem_put t hp _ _ _).mpr (.inr ⟨hph, t.hd⟩), fun x hm => ?_, fun x r hm => ?_, ?_, fun x hx => t.nm x (by rw [hk] at hx; exact hx), ?_⟩
  · rcases (mem_put t hp _ _ _).mp hm with ⟨_, z⟩ | ⟨_, z⟩
    · cases z
    · exact t.one x z
  · rw [hk]
    rcases (mem_put t hp _ _ _).mp hm with ⟨_, z⟩ | ⟨_, z⟩
    · cases z; exact hg
    · exact t.up x r z
  · classical
    refine ⟨fun x => if p ∈ lineF A x then rkOf A g + 1 + rkOf A x else rkOf A x, fun x r e => ?_⟩
    rcases (mem_put t hp _ _ _).mp (par_in e) with ⟨rfl, z⟩ | ⟨n, z⟩
    · cases z
      simp only [if_neg hb, if_pos (t.line_self x)]
      omega
    · have e2 := t.par_of z
      have hlt := t.lt e2
      have hl := t.line_some e2
      by_cases hr : p ∈ lineF A r
      · simp only [if_pos hr, if_pos (show p ∈ lineF A x by rw [hl]; exact List.mem_cons_of_mem _ hr)]
        omega
      · have : p ∉ lineF A x := fun hm => by
          rw [hl] at hm
          rcases List.mem_cons.mp hm with w | w
          · exact n w.symm
          · exact hr w
        simp only [if_neg hr, if_neg this]
        exact hlt
  · have h1 := congrArg List.length hk
    simp only [keys, List.length_map] at h1
    rw [h1]; exact t.sz
theorem drop_ok {p : Str} (hl : ∀ x, par A x ≠ some p) (hpar : par A p ≠ none) : TreeOk (dropS_ A p) h := by
  have hm : ∀ x v, (x, v) ∈ dropS_ A p ↔ (x, v) ∈ A ∧ x ≠ p := fun x v => by unfold dropS_; rw [List.mem_filter, decide_eq_true_eq]
  have hph : h ≠ p := fun e => hpar (by rw [← e]; exact t.par_h)
  have hk : ∀ x, x ∈ keys (dropS_ A p) ↔ x ∈ keys A ∧ x ≠ p := fun x => by
    constructor
    · intro hx
      obtain ⟨⟨x', v⟩, h1, rfl⟩ := List.mem_map.mp hx
      obtain ⟨h2, h3⟩ := (hm _ _).mp h1
      exact ⟨key_in h2, h3⟩
    · rintro ⟨hx, n⟩
      obtain ⟨⟨x', v⟩, h1, rfl⟩ := List.mem_map.mp hx
      exact key_in ((hm _ _).mpr ⟨h1, n⟩)
  have hsub : (dropS_ A p).Sublist A := List.filter_sublist
  refine ⟨?_, (hm _ _).mpr ⟨t.hd, hph⟩, fun x hx => t.one x ((hm _ _).mp hx).1, fun x r hx => ?_, ⟨rkOf A, fun x r e => t.lt (t.par_of ((hm _ _).mp (par_in e)).1)⟩, fun x hx => t.nm x ((hk x).mp hx).1, Nat.le_trans hsub.length_le t.sz⟩
  · exact t.nd.sublist (hsub.map (fun x : Str × Option Str => x.1))
  · have h1 := ((hm _ _).mp hx).1
    exact (hk r).mpr ⟨t.up x r h1, fun e => hl x (by rw [← e]; exact t.par_of h1)⟩
end
theorem z8_nm : Nm "zzzzzzzz" := ⟨by decide, by decide, by decide⟩
/-- other trees than A -/
def Oth (A B : Ab) : Prop := (∃ k, TreeOk B k) ∧ ¬ ∀ p v, (p, v) ∈ A ↔ (p, v) ∈ B
theorem names_list_ok {A : Ab} {h : Str} (t : TreeOk A h) {l : List Str} (hl : ∀ x ∈ l, x ∈ keys A) : (pyL pyS).ok l = true := by
  show l.all sOk = true
  exact List.all_eq_true.mpr fun x hx => (t.nm x (hl x hx)).ok
theorem others_of {s : List Int} (hs : SrcOk s) {A : Ab} {h : Str} (t : TreeOk A h) (hz : ("zzzzzzzz" : Str) ∉ keys A) (hl : A.length < 1000) : Ok (F_law_others s A) fun r => (∀ B ∈ r.1, Oth A B) ∧ SrcOk r.2 := by
  unfold F_law_others
  have hsz := t.sz
  have hA0 : 0 < A.length := List.length_pos_of_mem t.hd
  have hls : (srt A).length = A.length := t.srt_len
  refine ok_b (r := srt A) (srt_of (klen t)) (ok_bind (next_of hs (by omega) (by omega)) fun d2 ⟨a1, a2, s2⟩ => ?_)
  obtain ⟨i, ei⟩ : ∃ i : Nat, d2.1 = i := ⟨d2.1.toNat, by omega⟩
  rw [ei, atI_nat']
  obtain ⟨p, hp'⟩ : ∃ p, (srt A)[i]? = some p := ⟨_, List.getElem?_eq_getElem (by omega)⟩
  have hp : p ∈ keys A := sortS_mem.mp (List.mem_of_getElem? hp')
  have hput : put_ A ("zzzzzzzz" : Str) (some p) = some (A ++ [(("zzzzzzzz" : Str), some p)]) := by unfold put_; rw [if_pos (by omega), put_new _ hz]
  refine ok_b hp' (ok_b hput (ok_b rfl (ok_bind (law_branches_of t) fun r6 h6 => ?_)))
  have more : Oth A (A ++ [(("zzzzzzzz" : Str), some p)]) := ⟨⟨h, add_ok t hz z8_nm hp hl⟩, fun e => hz (key_in ((e _ _).mpr (List.mem_append_right _ List.mem_cons_self)))⟩
  have hc : compP (fun x7 => ((getK r6 p).bind fun v8 => some (!decide (x7 ∈ v8))).bind fun x9 => (andO x9 ((getK A p).bind fun v10 => some (!decide ((some x7) = v10)))).bind fun b11 => some b11) (fun x7 => some x7) (srt A) = some ((srt A).filter fun x => !decide (x ∈ branch A p) && !decide (some x = par A p)) := by
    refine compP_sel _ (by omega) fun x hx => ?_
    rw [h6 p hp, t.get hp]
    simp only [Option.bind_some]
    cases hd : (!decide (x ∈ branch A p)) <;> simp [andO]
  refine ok_b hc ?_
  generalize hG : ((srt A).filter fun x => !decide (x ∈ branch A p) && !decide (some x = par A p)) = G
  have hGm : ∀ x ∈ G, x ∈ keys A ∧ x ∉ branch A p ∧ some x ≠ par A p := fun x hx => by
    rw [← hG, List.mem_filter] at hx
    obtain ⟨h1, h2⟩ := hx
    simp only [Bool.and_eq_true, Bool.not_eq_true', decide_eq_false_iff_not] at h2
    exact ⟨sortS_mem.mp h1, h2.1, h2.2⟩
  have hGl : G.length ≤ A.length := by rw [← hG, ← hls]; exact List.length_filter_le _ _
  refine ok_bind (P := fun r : List Int × List Ab => SrcOk r.1 ∧ (∀ B ∈ r.2, Oth A B) ∧ r.2.length ≤ 2) ?_ fun r13 ⟨q1, q2, q3⟩ => ?_
  · rw [ne_nil fun x hx => (t.nm x (hGm x hx).1).ok, t.get hp]
    refine ok_b (r := !decide (G = [])) rfl (ok_bind (P := fun b => b = true → G ≠ [] ∧ par A p ≠ none) ?_ fun b hb => ok_ite (fun hbt => ?_) fun _ => ok_some ⟨s2, fun B hB => by rw [List.mem_singleton.mp hB]; exact more, by simp⟩)
    · by_cases hg : G = []
      · rw [hg]; exact ok_some fun z => nomatch z
      · have : (!decide (G = [])) = true := by simp [hg]
        rw [this]
        refine ok_some fun z => ⟨hg, fun e => ?_⟩
        rw [e] at z; cases z
    · obtain ⟨hg, hpn⟩ := hb hbt
      have hG0 : 0 < G.length := List.length_pos_iff.mpr hg
      refine ok_bind (next_of s2 (by omega) (by omega)) fun d18 ⟨b1, b2, s3⟩ => ?_
      obtain ⟨j, ej⟩ : ∃ i : Nat, d18.1 = i := ⟨d18.1.toNat, by omega⟩
      obtain ⟨g, hg'⟩ : ∃ g, G[j]? = some g := ⟨_, List.getElem?_eq_getElem (by omega)⟩
      obtain ⟨g1, g2, g3⟩ := hGm g (List.mem_of_getElem? hg')
      rw [ej, atI_nat']
      have hput2 : put_ A p (some g) = some (putS_ A p (some g)) := by unfold put_; rw [if_pos (by omega)]
      refine ok_b hg' (ok_b hput2 (ok_b (app_of (by simp)) (ok_some ⟨s3, fun B hB => ?_, by simp⟩)))
      rcases List.mem_append.mp hB with z | z
      · rw [List.mem_singleton.mp z]; exact more
      · rw [List.mem_singleton.mp z]
        refine ⟨⟨h, move_ok t hp g1 (fun hm => g2 (t.mem_branch.mpr ⟨g1, hm⟩)) hpn⟩, fun e => g3 ?_⟩
        have := (e p (some g)).mpr ((mem_put t hp _ _ _).mpr (.inl ⟨rfl, rfl⟩))
        exact (t.par_of this).symm
  · refine ok_bind (P := fun r : List Ab => ∀ B ∈ r, Oth A B) ?_ fun r hr => ok_some ⟨hr, q1⟩
    rw [h6 p hp, t.get hp]
    have hok : eqG (pyL pyS).ok (branch A p) [p] = some (decide (branch A p = [p])) := by
      unfold eqG
      rw [if_pos]
      rw [names_list_ok t fun x hx => (t.mem_branch.mp hx).1, names_list_ok t fun x hx => by rw [List.mem_singleton.mp hx]; exact hp]; rfl
    refine ok_b (r := decide (branch A p = [p])) (by simp only [Option.bind_some, hok]) (ok_bind (P := fun b => b = true → branch A p = [p] ∧ par A p ≠ none) ?_ fun b hb => ok_ite (fun hbt => ?_) fun _ => ok_some q2)
    · by_cases hg : branch A p = [p]
      · rw [decide_eq_true hg]
        refine ok_some fun z => ⟨hg, fun e => ?_⟩
        rw [e] at z; cases z
      · rw [decide_eq_false hg]; exact ok_some fun z => nomatch z
    · obtain ⟨hbr, hpn⟩ := hb hbt
      have hleaf : ∀ x, par A x ≠ some p := fun x e => by
        have h1 : x ∈ branch A p := t.mem_branch.mpr ⟨(t.par_key e).1, by rw [t.line_some e]; exact List.mem_cons_of_mem _ (t.line_self p)⟩
        rw [hbr, List.mem_singleton] at h1
        subst h1
        have := t.lt e; omega
      have tl := drop_ok t hleaf hpn
      obtain ⟨q, hq⟩ : ∃ q, par A p = some q := by cases e : par A p with | none => exact absurd e hpn | some q => exact ⟨q, rfl⟩
      have hqp : q ≠ p := fun e => hleaf p (by rw [hq, e])
      have hql : q ∈ keys (dropS_ A p) := by
        obtain ⟨v, hv⟩ := getK_some (t.par_key hq).2
        exact key_in (v := v) (by unfold dropS_; rw [List.mem_filter]; exact ⟨getK_mem hv, decide_eq_true hqp⟩)
      have hzl : ("zzzzzzzz" : Str) ∉ keys (dropS_ A p) := fun hm => by
        obtain ⟨⟨x', v⟩, h1, e⟩ := List.mem_map.mp hm
        unfold dropS_ at h1
        have := (List.mem_filter.mp h1).1
        exact hz (e ▸ key_in this)
      have hll : (dropS_ A p).length ≤ A.length := List.length_filter_le _ _
      have hput3 : put_ (dropS_ A p) ("zzzzzzzz" : Str) (par A p) = some (dropS_ A p ++ [(("zzzzzzzz" : Str), some q)]) := by unfold put_; rw [if_pos (by omega), put_new _ hzl, hq]
      refine ok_b rfl (ok_b rfl (ok_b rfl (ok_b hput3 (ok_b (catL_of (by simp only [List.length_cons, List.length_nil]; omega)) (ok_some fun B hB => ?_)))))
      rcases List.mem_append.mp hB with z | z
      · exact q2 B z
      · rcases List.mem_cons.mp z with rfl | z
        · refine ⟨⟨h, tl⟩, fun e => ?_⟩
          have := (e p (some q)).mp (t.par_mem hq)
          unfold dropS_ at this
          have := (List.mem_filter.mp this).2
          simp at this
        · rw [List.mem_singleton.mp z]
          exact ⟨⟨h, add_ok tl hzl z8_nm hql (by omega)⟩, fun e => hz (key_in ((e _ _).mpr (List.mem_append_right _ List.mem_cons_self)))⟩
theorem neG_same {A : Ab} {h : Str} (t : TreeOk A h) {l : List Str} (hl : ∀ x ∈ l, x ∈ keys A) : neG (pyL pyS).ok l l = some false := by
  unfold neG
  rw [if_pos (by rw [names_list_ok t hl]; rfl)]
  simp
theorem orO_f (b : Option Bool) : orO false b = b := rfl
theorem right_of {s : List Int} (hs : SrcOk s) {A : Ab} {h : Str} (t : TreeOk A h) (hz : ("zzzzzzzz" : Str) ∉ keys A) (hl : A.length < 1000) : Ok (F_law_right s A) fun r => r.1 = true ∧ SrcOk r.2 := by
  unfold F_law_right
  have hsz := t.sz
  obtain ⟨r1, hr1, o1⟩ := init_of t
  have hself : ∀ {B : Ab} {k : Str}, TreeOk B k → sameK B B = true := fun u => (sameK_of u.nd u.nd).mpr fun _ _ => Iff.rfl
  have hne : neK_ pyOS.ok A A = some false := by
    unfold neK_
    rw [if_pos (by rw [vals_ok t]; rfl), hself t]; rfl
  refine ok_b hr1 (ok_b hne (ok_F rfl (ok_bind (law_branches_of t) fun r3 h3 => ok_b (r := [0, 1]) (by rfl) ?_)))
  refine ok_bind (P := fun q : (Bool × List Int) ⊕ Unit => q = .inr ()) ?_ fun q hq => ?_
  · refine ok_eq (forG_unit fun x _ => ?_) rfl
    rw [posts_of t o1, head_of t o1, law_head_of t, srt_of (klen t)]
    simp only [Option.bind_some, decide_true, Bool.not_true, orO_f]
    have e1 : neG (pyL pyS).ok (srt A) (sortS (A.map (·.1))) = some false := neG_same t fun x hx => sortS_mem.mp hx
    have hlr : (srt A).reverse.length < 1000000 := by rw [List.length_reverse, t.srt_len]; omega
    rw [e1]
    simp only [Option.bind_some, Bool.false_eq_true, if_false]
    rw [app_of hlr, Option.bind_some]
    rw [forG_unit (b := _) (xs := A.map (·.1)) fun y hy => ?_]
    · rfl
    · have hy : y ∈ keys A := hy
      rw [below_of t o1 hy, branch_of t o1 hy, above_of t o1 hy, t.get hy, law_under_of t y, h3 y hy, size_of t o1 hy]
      simp only [Option.bind_some, decide_true, Bool.not_true, orO_f]
      rw [neG_same t (l := kids A y) fun x hx => (t.par_key (t.mem_kids.mp hx)).1, neG_same t (l := branch A y) fun x hx => (t.mem_branch.mp hx).1]
      simp only [Option.bind_some, orO_f, Bool.false_eq_true, if_false, decide_true, Bool.not_true]
      rw [app_of (by have := t.kids_len y; omega)]
      rfl
  · subst hq
    have hrn : (keys A.reverse).Nodup := by
      have : keys A.reverse = (keys A).reverse := by simp [keys]
      rw [this]; exact (List.reverse_perm _).nodup_iff.mpr t.nd
    have u : TreeOk A.reverse h := TreeOk.congr t hrn fun p v => List.mem_reverse.symm
    have hmr : mrg_ A.reverse = A.reverse := mrg_self hrn
    show Ok ((F_Tree__init (mrg_ A.reverse)).bind _) _
    rw [hmr]
    obtain ⟨r2, hr2, o2⟩ := init_of u
    have s1 : sameK A A.reverse = true := (sameK_of t.nd hrn).mpr fun p v => List.mem_reverse.symm
    have s2 : sameK A.reverse A = true := (sameK_of hrn t.nd).mpr fun p v => List.mem_reverse
    refine ok_b hr2 ?_
    rw [eq_of t o1 u o2, eq_of u o2 t o1, s1, s2, srt_of (klen t)]
    refine ok_b rfl (ok_b rfl (ok_F rfl (ok_b rfl ?_)))
    refine ok_b (r := []) ?_ (ok_b rfl (ok_F rfl ?_))
    · exact compP_sel (fun _ => false) (show 4 ≤ 1000000 by decide) fun x hx => by
        have : biG x = some () := by
          rcases List.mem_cons.mp hx with rfl | hx
          · rfl
          rcases List.mem_cons.mp hx with rfl | hx
          · rfl
          rcases List.mem_cons.mp hx with rfl | hx
          · rfl
          rw [List.mem_singleton.mp hx]; rfl
        rw [this]; rfl
    · refine ok_bind (P := fun r : List Ab × List Int => (∀ B ∈ r.1, Oth A B) ∧ SrcOk r.2) ?_ fun x54 ⟨w1, w2⟩ => ?_
      · exact ok_bind (others_of hs t hz hl) fun r hr => ok_some hr
      · refine ok_b (forG_unit fun B hB => ?_) (ok_some ⟨rfl, w2⟩)
        obtain ⟨⟨k, v⟩, hne⟩ := w1 B hB
        obtain ⟨r5, hr5, o5⟩ := init_of v
        have s3 : sameK B A = false := by
          cases e : sameK B A with
          | false => rfl
          | true => exact absurd (fun p w => ((sameK_of v.nd t.nd).mp e p w).symm) hne
        have s4 : sameK A B = false := by
          cases e : sameK A B with
          | false => rfl
          | true => exact absurd ((sameK_of t.nd v.nd).mp e) hne
        rw [hr5]
        simp only [Option.bind_some]
        rw [eq_of v o5 t o1, eq_of t o1 v o5, eq_of v o5 v o5, s3, s4, hself v]
        rfl
theorem law_true (ns : List Int) (hn : ns.length ≤ 63) : F_law ns = some true := by
  have : Ok (F_law ns) fun r => r = true := by
    unfold F_law
    generalize hN : (if (if (ns.length : Int) < (6 : Int) then (ns.length : Int) else (6 : Int)) > (1 : Int) then (if (ns.length : Int) < (6 : Int) then (ns.length : Int) else (6 : Int)) else (1 : Int)) = N
    have hb : 0 ≤ N ∧ N ≤ 6 := by subst hN; split <;> split <;> omega
    have hr : rng1 N = some ((List.range N.toNat).map fun (i : Nat) => (i : Int)) := by unfold rng1; rw [if_pos (by omega)]
    refine ok_b hr (ok_b (forG_unit fun x hx => ?_) (ok_some rfl))
    obtain ⟨k, _, rfl⟩ := List.mem_map.mp hx
    have : Ok ((F_law_source ns (k : Int)).bind fun r5 => (F_law_next r5 (12 : Int)).bind fun d6 => (F_law_next d6.2 (99 : Int)).bind fun d7 => (F_law_next d7.2 (4 : Int)).bind fun d8 => (atI [d6.1, d7.1] (if (decide (d8.1 = (0 : Int))) = true then (1 : Int) else 0)).bind fun x9 => (some ((1 : Int) + x9)).bind fun many10 => (F_law_above d8.2 many10).bind fun d11 => (F_law_right d11.2 d11.1).bind fun d12 => (if (!d12.1) = true then some (Sum.inl false) else some (Sum.inr ()) : Option (Bool ⊕ Unit))) fun r => r = .inr () := by
      refine ok_bind (source_of ns k) fun r5 s5 => ok_bind (next_of s5 (by decide) (by decide)) fun d6 ⟨a1, a2, s6⟩ => ok_bind (next_of s6 (by decide) (by decide)) fun d7 ⟨b1, b2, s7⟩ => ok_bind (next_of s7 (by decide) (by decide)) fun d8 ⟨c1, c2, s8⟩ => ?_
      refine ok_bind (P := fun y : Int => 0 ≤ y ∧ y < 99) ?_ fun y ⟨y1, y2⟩ => ?_
      · by_cases h8 : d8.1 = 0
        · rw [decide_eq_true h8]; exact ok_eq (r := d7.1) rfl ⟨b1, b2⟩
        · rw [decide_eq_false h8]; exact ok_eq (r := d6.1) rfl ⟨a1, by omega⟩
      · obtain ⟨m, hm⟩ : ∃ m : Nat, 1 + y = m := ⟨(1 + y).toNat, by omega⟩
        rw [hm]
        refine ok_b rfl (ok_bind (above_ok s8 (m := m) (by omega) (by omega)) fun d11 ⟨⟨h, t⟩, hl, hz, _, s9⟩ => ok_bind (right_of s9 t hz (by omega)) fun d12 ⟨e, _⟩ => ?_)
        rw [e]
        exact ok_some rfl
    obtain ⟨r, e, rfl⟩ := this
    exact e
  obtain ⟨r, e, rfl⟩ := this
  exact e
end K01

set_option Elab.async false
set_option linter.all false
set_option maxRecDepth 100000
set_option maxHeartbeats 4000000
set_option pp.oneline true
set_option pp.deepTerms false
set_option pp.maxSteps 40
namespace K01
open PySem L2 PyProof.Rows Pv
def spLaw (K : PySem.W.Frag) : Sp := fun vs H Q _ => ∃ (a : Addr) (ns : List Int), vs = [.ref a] ∧ SqL K H a (ns.map V.int) ∧ ns.length ≤ 63 ∧ ∀ H', Q (.bl true) H'
theorem spLaw_of {K : PySem.W.Frag} {CT : Nat → Addr} {vs : List V} {H : Hp} {Q : VK} {E : XK} (h : spLaw K vs H Q E) : spV K CT (Γ 25) 1 vs H Q E := by
  obtain ⟨a, ns, rfl, hS, hl, hq⟩ := h
  refine ⟨rfl, e0, [.scr ns], .bl true, none, [], fun a u e => (nomatch e), List.nodup_nil, call_law_a (law_true ns hl), ⟨rfl, ?_⟩, fun v F' H' fp A' _ hr _ _ _ => ?_⟩
  · simp only [Rs]
    refine ⟨.ref a, [], [], [], rfl, ?_, ⟨rfl, rfl⟩, rfl⟩
    simp only [R]
    exact ⟨⟨a, rfl, hS⟩, by first | trivial | rfl⟩
  · simp only [R] at hr
    rw [hr.1]
    exact hq _
theorem law_fn {P : Program} {w : World} {K : PySem.W.Frag} {mg : Str → Option Value} {base : Heap} {CT : Nat → Addr} {k : Nat} {f : Addr} {fd : FuncData} (G : FnOk P w K mg base CX0 k f fd ["script"] (spV K CT (Γ 25) 1)) : FnOk P w K mg base CX0 k f fd ["script"] (spLaw K) :=
  FnOk.imp G fun vs H Q E h => spLaw_of h
theorem all_mk {l : PySem.W.OpenLaw} {w : World} {K : PySem.W.Frag} {h : Heap} {mg : Str → Option Value} {fa C0 f1 f2 f3 f4 f5 f6 f7 f8 f9 f10 f11 f12 f13 f14 f15 f16 f17 f18 f19 f20 f21 f22 f23 f24 f25 f26 : Addr} (X : K.In h) (G : h.Ns mainGlobals mg) (hfa : mg "law" = some (.ref fa))
    {od1 an1 od2 an2 od3 an3 od4 an4 od5 an5 od6 an6 od7 an7 od8 an8 od9 an9 od10 an10 od11 an11 od12 an12 od13 an13 od14 an14 od15 an15 od16 an16 od17 an17 od18 an18 od19 an19 od20 an20 od21 an21 od22 an22 od23 an23 od24 an24 od25 an25 od26 an26 : Option Addr} {sl1 sl2 sl3 sl4 sl5 sl6 sl7 sl8 sl9 sl10 sl11 sl12 sl13 sl14 sl15 sl16 sl17 sl18 sl19 sl20 sl21 sl22 sl23 sl24 sl25 sl26 : Array (Option Value)} {oc1 kV1 dc1 pm1 cd1 ct1 oc2 kV2 dc2 pm2 cd2 ct2 oc3 kV3 dc3 pm3 cd3 ct3 oc4 kV4 dc4 pm4 cd4 ct4 oc5 kV5 dc5 pm5 cd5 ct5 oc6 kV6 dc6 pm6 cd6 ct6 oc7 kV7 dc7 pm7 cd7 ct7 oc8 kV8 dc8 pm8 cd8 ct8 oc9 kV9 dc9 pm9 cd9 ct9 oc10 kV10 dc10 pm10 cd10 ct10 oc11 kV11 dc11 pm11 cd11 ct11 oc12 kV12 dc12 pm12 cd12 ct12 oc13 kV13 dc13 pm13 cd13 ct13 oc14 kV14 dc14 pm14 cd14 ct14 oc15 kV15 dc15 pm15 cd15 ct15 oc16 kV16 dc16 pm16 cd16 ct16 oc17 kV17 dc17 pm17 cd17 ct17 oc18 kV18 dc18 pm18 cd18 ct18 oc19 kV19 dc19 pm19 cd19 ct19 oc20 kV20 dc20 pm20 cd20 ct20 oc21 kV21 dc21 pm21 cd21 ct21 oc22 kV22 dc22 pm22 cd22 ct22 oc23 kV23 dc23 pm23 cd23 ct23 oc24 kV24 dc24 pm24 cd24 ct24 oc25 kV25 dc25 pm25 cd25 ct25 oc26 kV26 dc26 pm26 cd26 ct26 : Value} {t_SMALL t_MOST_LETTERS : Nat}
    (aC0 : PySem.W.nsIn K mainGlobals "Tree" = some (some (.ref C0)))
    (a1 : PySem.W.nsIn K mainGlobals "_law_cell_at" = some (some (.ref f1)))
    (l1 : K.lookup f1 = some ⟨oc1, od1, .func (PySem.W.fnOf "_law_cell_at" "_law_cell_at" (defArgs s_law_cell_at) (defBody s_law_cell_at) (defScope s_law_cell_at) .none kV1 dc1 pm1 an1 cd1 ct1), sl1⟩)
    (c1 : PySem.W.codeIn K cd1 "_law_cell_at" = true)
    (k1 : PySem.W.keepIn K (.ref f1) = true)
    (a2 : PySem.W.nsIn K mainGlobals "_law_mixed" = some (some (.ref f2)))
    (l2 : K.lookup f2 = some ⟨oc2, od2, .func (PySem.W.fnOf "_law_mixed" "_law_mixed" (defArgs s_law_mixed) (defBody s_law_mixed) (defScope s_law_mixed) .none kV2 dc2 pm2 an2 cd2 ct2), sl2⟩)
    (c2 : PySem.W.codeIn K cd2 "_law_mixed" = true)
    (k2 : PySem.W.keepIn K (.ref f2) = true)
    (a3 : PySem.W.nsIn K mainGlobals "_law_source" = some (some (.ref f3)))
    (l3 : K.lookup f3 = some ⟨oc3, od3, .func (PySem.W.fnOf "_law_source" "_law_source" (defArgs s_law_source) (defBody s_law_source) (defScope s_law_source) .none kV3 dc3 pm3 an3 cd3 ct3), sl3⟩)
    (c3 : PySem.W.codeIn K cd3 "_law_source" = true)
    (k3 : PySem.W.keepIn K (.ref f3) = true)
    (a4 : PySem.W.nsIn K mainGlobals "_law_next" = some (some (.ref f4)))
    (l4 : K.lookup f4 = some ⟨oc4, od4, .func (PySem.W.fnOf "_law_next" "_law_next" (defArgs s_law_next) (defBody s_law_next) (defScope s_law_next) .none kV4 dc4 pm4 an4 cd4 ct4), sl4⟩)
    (c4 : PySem.W.codeIn K cd4 "_law_next" = true)
    (k4 : PySem.W.keepIn K (.ref f4) = true)
    (a5 : PySem.W.nsIn K mainGlobals "_law_name" = some (some (.ref f5)))
    (l5 : K.lookup f5 = some ⟨oc5, od5, .func (PySem.W.fnOf "_law_name" "_law_name" (defArgs s_law_name) (defBody s_law_name) (defScope s_law_name) .none kV5 dc5 pm5 an5 cd5 ct5), sl5⟩)
    (c5 : PySem.W.codeIn K cd5 "_law_name" = true)
    (k5 : PySem.W.keepIn K (.ref f5) = true)
    (a6 : PySem.W.nsIn K mainGlobals "_law_names" = some (some (.ref f6)))
    (l6 : K.lookup f6 = some ⟨oc6, od6, .func (PySem.W.fnOf "_law_names" "_law_names" (defArgs s_law_names) (defBody s_law_names) (defScope s_law_names) .none kV6 dc6 pm6 an6 cd6 ct6), sl6⟩)
    (c6 : PySem.W.codeIn K cd6 "_law_names" = true)
    (k6 : PySem.W.keepIn K (.ref f6) = true)
    (a7 : PySem.W.nsIn K mainGlobals "is_name" = some (some (.ref f7)))
    (l7 : K.lookup f7 = some ⟨oc7, od7, .func (PySem.W.fnOf "is_name" "is_name" (defArgs s_is_name) (defBody s_is_name) (defScope s_is_name) .none kV7 dc7 pm7 an7 cd7 ct7), sl7⟩)
    (c7 : PySem.W.codeIn K cd7 "is_name" = true)
    (k7 : PySem.W.keepIn K (.ref f7) = true)
    (a8 : PySem.W.nsIn K mainGlobals "is_tree_form" = some (some (.ref f8)))
    (l8 : K.lookup f8 = some ⟨oc8, od8, .func (PySem.W.fnOf "is_tree_form" "is_tree_form" (defArgs s_is_tree_form) (defBody s_is_tree_form) (defScope s_is_tree_form) .none kV8 dc8 pm8 an8 cd8 ct8), sl8⟩)
    (c8 : PySem.W.codeIn K cd8 "is_tree_form" = true)
    (k8 : PySem.W.keepIn K (.ref f8) = true)
    (a9 : PySem.W.findIn K (.ref C0) "downward" = some (some (.ref f9)))
    (i9 : PySem.W.isFn K (.ref f9) = true)
    (l9 : K.lookup f9 = some ⟨oc9, od9, .func (PySem.W.fnOf "downward" "Tree.downward" (defArgs s_Tree_downward) (defBody s_Tree_downward) (defScope s_Tree_downward) .none kV9 dc9 pm9 an9 cd9 ct9), sl9⟩)
    (c9 : PySem.W.codeIn K cd9 "Tree.downward" = true)
    (k9 : PySem.W.keepIn K (.ref f9) = true)
    (a10 : PySem.W.findIn K (.ref C0) "__init__" = some (some (.ref f10)))
    (i10 : PySem.W.isFn K (.ref f10) = true)
    (l10 : K.lookup f10 = some ⟨oc10, od10, .func (PySem.W.fnOf "__init__" "Tree.__init__" (defArgs s_Tree__init) (defBody s_Tree__init) (defScope s_Tree__init) .none kV10 dc10 pm10 an10 cd10 ct10), sl10⟩)
    (c10 : PySem.W.codeIn K cd10 "Tree.__init__" = true)
    (k10 : PySem.W.keepIn K (.ref f10) = true)
    (a11 : PySem.W.findIn K (.ref C0) "checked" = some (some (.ref f11)))
    (i11 : PySem.W.isFn K (.ref f11) = true)
    (l11 : K.lookup f11 = some ⟨oc11, od11, .func (PySem.W.fnOf "checked" "Tree.checked" (defArgs s_Tree_checked) (defBody s_Tree_checked) (defScope s_Tree_checked) .none kV11 dc11 pm11 an11 cd11 ct11), sl11⟩)
    (c11 : PySem.W.codeIn K cd11 "Tree.checked" = true)
    (k11 : PySem.W.keepIn K (.ref f11) = true)
    (a12 : PySem.W.findIn K (.ref C0) "head" = some (some (.ref f12)))
    (i12 : PySem.W.isFn K (.ref f12) = true)
    (l12 : K.lookup f12 = some ⟨oc12, od12, .func (PySem.W.fnOf "head" "Tree.head" (defArgs s_Tree_head) (defBody s_Tree_head) (defScope s_Tree_head) .none kV12 dc12 pm12 an12 cd12 ct12), sl12⟩)
    (c12 : PySem.W.codeIn K cd12 "Tree.head" = true)
    (k12 : PySem.W.keepIn K (.ref f12) = true)
    (a13 : PySem.W.findIn K (.ref C0) "posts" = some (some (.ref f13)))
    (i13 : PySem.W.isFn K (.ref f13) = true)
    (l13 : K.lookup f13 = some ⟨oc13, od13, .func (PySem.W.fnOf "posts" "Tree.posts" (defArgs s_Tree_posts) (defBody s_Tree_posts) (defScope s_Tree_posts) .none kV13 dc13 pm13 an13 cd13 ct13), sl13⟩)
    (c13 : PySem.W.codeIn K cd13 "Tree.posts" = true)
    (k13 : PySem.W.keepIn K (.ref f13) = true)
    (a14 : PySem.W.findIn K (.ref C0) "above" = some (some (.ref f14)))
    (i14 : PySem.W.isFn K (.ref f14) = true)
    (l14 : K.lookup f14 = some ⟨oc14, od14, .func (PySem.W.fnOf "above" "Tree.above" (defArgs s_Tree_above) (defBody s_Tree_above) (defScope s_Tree_above) .none kV14 dc14 pm14 an14 cd14 ct14), sl14⟩)
    (c14 : PySem.W.codeIn K cd14 "Tree.above" = true)
    (k14 : PySem.W.keepIn K (.ref f14) = true)
    (a15 : PySem.W.findIn K (.ref C0) "below" = some (some (.ref f15)))
    (i15 : PySem.W.isFn K (.ref f15) = true)
    (l15 : K.lookup f15 = some ⟨oc15, od15, .func (PySem.W.fnOf "below" "Tree.below" (defArgs s_Tree_below) (defBody s_Tree_below) (defScope s_Tree_below) .none kV15 dc15 pm15 an15 cd15 ct15), sl15⟩)
    (c15 : PySem.W.codeIn K cd15 "Tree.below" = true)
    (k15 : PySem.W.keepIn K (.ref f15) = true)
    (a16 : PySem.W.findIn K (.ref C0) "branch" = some (some (.ref f16)))
    (i16 : PySem.W.isFn K (.ref f16) = true)
    (l16 : K.lookup f16 = some ⟨oc16, od16, .func (PySem.W.fnOf "branch" "Tree.branch" (defArgs s_Tree_branch) (defBody s_Tree_branch) (defScope s_Tree_branch) .none kV16 dc16 pm16 an16 cd16 ct16), sl16⟩)
    (c16 : PySem.W.codeIn K cd16 "Tree.branch" = true)
    (k16 : PySem.W.keepIn K (.ref f16) = true)
    (a17 : PySem.W.findIn K (.ref C0) "size" = some (some (.ref f17)))
    (i17 : PySem.W.isFn K (.ref f17) = true)
    (l17 : K.lookup f17 = some ⟨oc17, od17, .func (PySem.W.fnOf "size" "Tree.size" (defArgs s_Tree_size) (defBody s_Tree_size) (defScope s_Tree_size) .none kV17 dc17 pm17 an17 cd17 ct17), sl17⟩)
    (c17 : PySem.W.codeIn K cd17 "Tree.size" = true)
    (k17 : PySem.W.keepIn K (.ref f17) = true)
    (a18 : PySem.W.findIn K (.ref C0) "__eq__" = some (some (.ref f18)))
    (i18 : PySem.W.isFn K (.ref f18) = true)
    (l18 : K.lookup f18 = some ⟨oc18, od18, .func (PySem.W.fnOf "__eq__" "Tree.__eq__" (defArgs s_Tree__eq) (defBody s_Tree__eq) (defScope s_Tree__eq) .none kV18 dc18 pm18 an18 cd18 ct18), sl18⟩)
    (c18 : PySem.W.codeIn K cd18 "Tree.__eq__" = true)
    (k18 : PySem.W.keepIn K (.ref f18) = true)
    (a19 : PySem.W.nsIn K mainGlobals "_law_above" = some (some (.ref f19)))
    (l19 : K.lookup f19 = some ⟨oc19, od19, .func (PySem.W.fnOf "_law_above" "_law_above" (defArgs s_law_above) (defBody s_law_above) (defScope s_law_above) .none kV19 dc19 pm19 an19 cd19 ct19), sl19⟩)
    (c19 : PySem.W.codeIn K cd19 "_law_above" = true)
    (k19 : PySem.W.keepIn K (.ref f19) = true)
    (a20 : PySem.W.nsIn K mainGlobals "_law_head" = some (some (.ref f20)))
    (l20 : K.lookup f20 = some ⟨oc20, od20, .func (PySem.W.fnOf "_law_head" "_law_head" (defArgs s_law_head) (defBody s_law_head) (defScope s_law_head) .none kV20 dc20 pm20 an20 cd20 ct20), sl20⟩)
    (c20 : PySem.W.codeIn K cd20 "_law_head" = true)
    (k20 : PySem.W.keepIn K (.ref f20) = true)
    (a21 : PySem.W.nsIn K mainGlobals "_law_line" = some (some (.ref f21)))
    (l21 : K.lookup f21 = some ⟨oc21, od21, .func (PySem.W.fnOf "_law_line" "_law_line" (defArgs s_law_line) (defBody s_law_line) (defScope s_law_line) .none kV21 dc21 pm21 an21 cd21 ct21), sl21⟩)
    (c21 : PySem.W.codeIn K cd21 "_law_line" = true)
    (k21 : PySem.W.keepIn K (.ref f21) = true)
    (a22 : PySem.W.nsIn K mainGlobals "_law_under" = some (some (.ref f22)))
    (l22 : K.lookup f22 = some ⟨oc22, od22, .func (PySem.W.fnOf "_law_under" "_law_under" (defArgs s_law_under) (defBody s_law_under) (defScope s_law_under) .none kV22 dc22 pm22 an22 cd22 ct22), sl22⟩)
    (c22 : PySem.W.codeIn K cd22 "_law_under" = true)
    (k22 : PySem.W.keepIn K (.ref f22) = true)
    (a23 : PySem.W.nsIn K mainGlobals "_law_branches" = some (some (.ref f23)))
    (l23 : K.lookup f23 = some ⟨oc23, od23, .func (PySem.W.fnOf "_law_branches" "_law_branches" (defArgs s_law_branches) (defBody s_law_branches) (defScope s_law_branches) .none kV23 dc23 pm23 an23 cd23 ct23), sl23⟩)
    (c23 : PySem.W.codeIn K cd23 "_law_branches" = true)
    (k23 : PySem.W.keepIn K (.ref f23) = true)
    (a24 : PySem.W.nsIn K mainGlobals "_law_others" = some (some (.ref f24)))
    (l24 : K.lookup f24 = some ⟨oc24, od24, .func (PySem.W.fnOf "_law_others" "_law_others" (defArgs s_law_others) (defBody s_law_others) (defScope s_law_others) .none kV24 dc24 pm24 an24 cd24 ct24), sl24⟩)
    (c24 : PySem.W.codeIn K cd24 "_law_others" = true)
    (k24 : PySem.W.keepIn K (.ref f24) = true)
    (a25 : PySem.W.nsIn K mainGlobals "_law_right" = some (some (.ref f25)))
    (l25 : K.lookup f25 = some ⟨oc25, od25, .func (PySem.W.fnOf "_law_right" "_law_right" (defArgs s_law_right) (defBody s_law_right) (defScope s_law_right) .none kV25 dc25 pm25 an25 cd25 ct25), sl25⟩)
    (c25 : PySem.W.codeIn K cd25 "_law_right" = true)
    (k25 : PySem.W.keepIn K (.ref f25) = true)
    (a26 : PySem.W.nsIn K mainGlobals "law" = some (some (.ref f26)))
    (l26 : K.lookup f26 = some ⟨oc26, od26, .func (PySem.W.fnOf "law" "law" (defArgs s_law) (defBody s_law) (defScope s_law) .none kV26 dc26 pm26 an26 cd26 ct26), sl26⟩)
    (c26 : PySem.W.codeIn K cd26 "law" = true)
    (k26 : PySem.W.keepIn K (.ref f26) = true)
    (pg0 : PySem.W.plainGet K C0 Str.empty = true)
    (hd0 : PySem.W.hasDictIn K C0 = true)
    (po0 : PySem.W.plainOver K C0 = true)
    (sa0 : PySem.W.findIn K (.ref C0) "__setattr__" = some (some (.builtin "object.__setattr__")))
    (mk0 : PySem.W.makesIn K C0 = true)
    (kc0 : PySem.W.keepIn K (.ref C0) = true)
    (n0_above_by : PySem.W.findIn K (.ref C0) "above_by" = some none)
    (n0_below_by : PySem.W.findIn K (.ref C0) "below_by" = some none)
    (n0_top : PySem.W.findIn K (.ref C0) "top" = some none)
    (n0_branches : PySem.W.findIn K (.ref C0) "branches" = some none)
    (ha0 : PySem.W.findIn K (.ref C0) "__class__" = some (some (.builtin "object.__class__")))
    (hn0 : PySem.W.specialIn K (.builtin "object.__class__") "__get__" = some (some (.builtin "getset_descriptor.__get__")))
    (htk0 : PySem.W.takesIn K (.builtin "object.__class__") = some true)
    (hm0 : PySem.W.mroIn K C0 (.type "object") = some true)
    (me0 : PySem.W.kitOne K (.ref C0) (.ref C0) = some true)
    (t1_0 : PySem.W.kitOne K (.type "NoneType") (.ref C0) = some false)
    (t2_0 : PySem.W.kitOne K (.type "bool") (.ref C0) = some false)
    (t3_0 : PySem.W.kitOne K (.type "int") (.ref C0) = some false)
    (t4_0 : PySem.W.kitOne K (.type "str") (.ref C0) = some false)
    (t5_0 : PySem.W.kitOne K (.type "tuple") (.ref C0) = some false)
    (t6_0 : PySem.W.kitOne K (.type "list") (.ref C0) = some false)
    (t7_0 : PySem.W.kitOne K (.type "dict") (.ref C0) = some false)
    (q0_0 : PySem.W.notFirst K C0 (.ref C0) = true)
    (q1_0 : PySem.W.notFirst K C0 (.type "NoneType") = true)
    (q2_0 : PySem.W.notFirst K C0 (.type "bool") = true)
    (q3_0 : PySem.W.notFirst K C0 (.type "int") = true)
    (q4_0 : PySem.W.notFirst K C0 (.type "str") = true)
    (q5_0 : PySem.W.notFirst K C0 (.type "tuple") = true)
    (q6_0 : PySem.W.notFirst K C0 (.type "list") = true)
    (q7_0 : PySem.W.notFirst K C0 (.type "dict") = true)
    (z_len : PySem.W.nsIn K mainGlobals "len" = some none)
    (z_sorted : PySem.W.nsIn K mainGlobals "sorted" = some none)
    (z_max : PySem.W.nsIn K mainGlobals "max" = some none)
    (z_min : PySem.W.nsIn K mainGlobals "min" = some none)
    (z_all : PySem.W.nsIn K mainGlobals "all" = some none)
    (z_any : PySem.W.nsIn K mainGlobals "any" = some none)
    (z_dict : PySem.W.nsIn K mainGlobals "dict" = some none)
    (z_list : PySem.W.nsIn K mainGlobals "list" = some none)
    (z_int : PySem.W.nsIn K mainGlobals "int" = some none)
    (z_str : PySem.W.nsIn K mainGlobals "str" = some none)
    (z_bool : PySem.W.nsIn K mainGlobals "bool" = some none)
    (z_tuple : PySem.W.nsIn K mainGlobals "tuple" = some none)
    (z_isinstance : PySem.W.nsIn K mainGlobals "isinstance" = some none)
    (z_range : PySem.W.nsIn K mainGlobals "range" = some none)
    (z_reversed : PySem.W.nsIn K mainGlobals "reversed" = some none)
    (z_zip : PySem.W.nsIn K mainGlobals "zip" = some none)
    (z_enumerate : PySem.W.nsIn K mainGlobals "enumerate" = some none)
    (g_SMALL : PySem.W.nsIn K mainGlobals "SMALL" = some (some (.str "abcdefghijklmnopqrstuvwxyz" t_SMALL)))
    (g_MOST_LETTERS : PySem.W.nsIn K mainGlobals "MOST_LETTERS" = some (some (.int 8 t_MOST_LETTERS))) :
    ∃ fd : FuncData, (∀ (s : Shared) (v : Value), BindsTo s fd ⟨[v], []⟩ [("script", v)]) ∧ ∀ base : Heap, K.In base → base.Ns mainGlobals mg → FnOk l.prog w K mg base CX0 6 fa fd ["script"] (spLaw K) := by
  have e := hfa.symm.trans (PySem.W.mg_of X G a26)
  cases e
  let CT : Nat → Addr := fun _ => C0
  let T : Txt K mg CT := { cl := fun _ => ⟨pg0, hd0, po0, sa0⟩, n_above_by := fun _ => n0_above_by, n_below_by := fun _ => n0_below_by, n_top := fun _ => n0_top, n_branches := fun _ => n0_branches, SMALL := ⟨_, PySem.W.mg_of X G g_SMALL, ⟨_, rfl⟩⟩, MOST_LETTERS := ⟨_, PySem.W.mg_of X G g_MOST_LETTERS, ⟨_, rfl⟩⟩, kc := ⟨⟨pg0, hd0, po0, sa0⟩, ha0, hn0, htk0, hm0, me0, t1_0, t2_0, t3_0, t4_0, t5_0, t6_0, t7_0⟩, kq := ⟨⟨⟨pg0, hd0, po0, sa0⟩, ha0, hn0, htk0, hm0, me0, t1_0, t2_0, t3_0, t4_0, t5_0, t6_0, t7_0⟩, q0_0, q1_0, q2_0, q3_0, q4_0, q5_0, q6_0, q7_0⟩, m_Tree := PySem.W.mg_of X G aC0, eq := f18, q_s := a18, q_f := i18 }
  have B : Bn mg := ⟨PySem.W.mg_none_of X G z_len, PySem.W.mg_none_of X G z_sorted, PySem.W.mg_none_of X G z_max, PySem.W.mg_none_of X G z_min, PySem.W.mg_none_of X G z_all, PySem.W.mg_none_of X G z_any, PySem.W.mg_none_of X G z_dict, PySem.W.mg_none_of X G z_list, PySem.W.mg_none_of X G z_int, PySem.W.mg_none_of X G z_str, PySem.W.mg_none_of X G z_bool, PySem.W.mg_none_of X G z_tuple, PySem.W.mg_none_of X G z_isinstance, PySem.W.mg_none_of X G z_range, PySem.W.mg_none_of X G z_reversed, PySem.W.mg_none_of X G z_zip, PySem.W.mg_none_of X G z_enumerate⟩
  have F1 := fun_mk (st := s_law_cell_at) l1 c1 k1
  have b1 := F1.binds (ps := ["script", "k"]) fun _ _ _ _ _ _ us hl => match us, hl with | [_, _], _ => rfl
  have F2 := fun_mk (st := s_law_mixed) l2 c2 k2
  have b2 := F2.binds (ps := ["cell", "k"]) fun _ _ _ _ _ _ us hl => match us, hl with | [_, _], _ => rfl
  have F3 := fun_mk (st := s_law_source) l3 c3 k3
  have b3 := F3.binds (ps := ["script", "k"]) fun _ _ _ _ _ _ us hl => match us, hl with | [_, _], _ => rfl
  have F4 := fun_mk (st := s_law_next) l4 c4 k4
  have b4 := F4.binds (ps := ["source", "many"]) fun _ _ _ _ _ _ us hl => match us, hl with | [_, _], _ => rfl
  have F5 := fun_mk (st := s_law_name) l5 c5 k5
  have b5 := F5.binds (ps := ["number"]) fun _ _ _ _ _ _ us hl => match us, hl with | [_], _ => rfl
  have F6 := fun_mk (st := s_law_names) l6 c6 k6
  have b6 := F6.binds (ps := ["source", "many"]) fun _ _ _ _ _ _ us hl => match us, hl with | [_, _], _ => rfl
  have F7 := fun_mk (st := s_is_name) l7 c7 k7
  have b7 := F7.binds (ps := ["thing"]) fun _ _ _ _ _ _ us hl => match us, hl with | [_], _ => rfl
  have F8 := fun_mk (st := s_is_tree_form) l8 c8 k8
  have b8 := F8.binds (ps := ["thing"]) fun _ _ _ _ _ _ us hl => match us, hl with | [_], _ => rfl
  have F9 := fun_mk (st := s_Tree_downward) l9 c9 k9
  have b9 := F9.binds (ps := ["self"]) fun _ _ _ _ _ _ us hl => match us, hl with | [_], _ => rfl
  have F10 := fun_mk (st := s_Tree__init) l10 c10 k10
  have b10 := F10.binds (ps := ["self", "above_by"]) fun _ _ _ _ _ _ us hl => match us, hl with | [_, _], _ => rfl
  have F11 := fun_mk (st := s_Tree_checked) l11 c11 k11
  have b11 := F11.binds (ps := ["self", "post"]) fun _ _ _ _ _ _ us hl => match us, hl with | [_, _], _ => rfl
  have F12 := fun_mk (st := s_Tree_head) l12 c12 k12
  have b12 := F12.binds (ps := ["self"]) fun _ _ _ _ _ _ us hl => match us, hl with | [_], _ => rfl
  have F13 := fun_mk (st := s_Tree_posts) l13 c13 k13
  have b13 := F13.binds (ps := ["self"]) fun _ _ _ _ _ _ us hl => match us, hl with | [_], _ => rfl
  have F14 := fun_mk (st := s_Tree_above) l14 c14 k14
  have b14 := F14.binds (ps := ["self", "post"]) fun _ _ _ _ _ _ us hl => match us, hl with | [_, _], _ => rfl
  have F15 := fun_mk (st := s_Tree_below) l15 c15 k15
  have b15 := F15.binds (ps := ["self", "post"]) fun _ _ _ _ _ _ us hl => match us, hl with | [_, _], _ => rfl
  have F16 := fun_mk (st := s_Tree_branch) l16 c16 k16
  have b16 := F16.binds (ps := ["self", "post"]) fun _ _ _ _ _ _ us hl => match us, hl with | [_, _], _ => rfl
  have F17 := fun_mk (st := s_Tree_size) l17 c17 k17
  have b17 := F17.binds (ps := ["self", "post"]) fun _ _ _ _ _ _ us hl => match us, hl with | [_, _], _ => rfl
  have F18 := fun_mk (st := s_Tree__eq) l18 c18 k18
  have b18 := F18.binds (ps := ["self", "other"]) fun _ _ _ _ _ _ us hl => match us, hl with | [_, _], _ => rfl
  have F19 := fun_mk (st := s_law_above) l19 c19 k19
  have b19 := F19.binds (ps := ["source", "many"]) fun _ _ _ _ _ _ us hl => match us, hl with | [_, _], _ => rfl
  have F20 := fun_mk (st := s_law_head) l20 c20 k20
  have b20 := F20.binds (ps := ["above"]) fun _ _ _ _ _ _ us hl => match us, hl with | [_], _ => rfl
  have F21 := fun_mk (st := s_law_line) l21 c21 k21
  have b21 := F21.binds (ps := ["above", "post"]) fun _ _ _ _ _ _ us hl => match us, hl with | [_, _], _ => rfl
  have F22 := fun_mk (st := s_law_under) l22 c22 k22
  have b22 := F22.binds (ps := ["above", "post"]) fun _ _ _ _ _ _ us hl => match us, hl with | [_, _], _ => rfl
  have F23 := fun_mk (st := s_law_branches) l23 c23 k23
  have b23 := F23.binds (ps := ["above"]) fun _ _ _ _ _ _ us hl => match us, hl with | [_], _ => rfl
  have F24 := fun_mk (st := s_law_others) l24 c24 k24
  have b24 := F24.binds (ps := ["source", "above"]) fun _ _ _ _ _ _ us hl => match us, hl with | [_, _], _ => rfl
  have F25 := fun_mk (st := s_law_right) l25 c25 k25
  have b25 := F25.binds (ps := ["source", "above"]) fun _ _ _ _ _ _ us hl => match us, hl with | [_, _], _ => rfl
  have F26 := fun_mk (st := s_law) l26 c26 k26
  have b26 := F26.binds (ps := ["script"]) fun _ _ _ _ _ _ us hl => match us, hl with | [_], _ => rfl
  refine ⟨PySem.W.fnOf "law" "law" (defArgs s_law) (defBody s_law) (defScope s_law) .none kV26 dc26 pm26 an26 cd26 ct26, fun s v => .of_eq rfl, fun base _ _ => ?_⟩
  have G1 : FnOk l.prog w K mg base CX0 1 f1 _ ["script", "k"] (spV K CT (Γ 0) 2) := ok_law_cell_at F1 T B  sem_law_cell_at
  have c_law_cell_at : C8.Cal l.prog w K mg base 1 "_law_cell_at" (spV K CT (Γ 0) 2) [] := ⟨⟨_, _, _, [], G1, PySem.W.mg_of X G a1, k1, b1, .nil⟩⟩
  have G2 : FnOk l.prog w K mg base CX0 1 f2 _ ["cell", "k"] (spV K CT (Γ 1) 2) := ok_law_mixed F2 T B  sem_law_mixed
  have c_law_mixed : C8.Cal l.prog w K mg base 1 "_law_mixed" (spV K CT (Γ 1) 2) [] := ⟨⟨_, _, _, [], G2, PySem.W.mg_of X G a2, k2, b2, .nil⟩⟩
  have G3 : FnOk l.prog w K mg base CX0 2 f3 _ ["script", "k"] (spV K CT (Γ 2) 2) := ok_law_source F3 T B c_law_mixed c_law_cell_at sem_law_source
  have c_law_source : C8.Cal l.prog w K mg base 2 "_law_source" (spV K CT (Γ 2) 2) [] := ⟨⟨_, _, _, [], G3, PySem.W.mg_of X G a3, k3, b3, .nil⟩⟩
  have G4 : FnOk l.prog w K mg base CX0 2 f4 _ ["source", "many"] (spV K CT (Γ 3) 2) := ok_law_next F4 T B c_law_mixed sem_law_next
  have c_law_next : C8.Cal l.prog w K mg base 2 "_law_next" (spV K CT (Γ 3) 2) [] := ⟨⟨_, _, _, [], G4, PySem.W.mg_of X G a4, k4, b4, .nil⟩⟩
  have G5 : FnOk l.prog w K mg base CX0 1 f5 _ ["number"] (spV K CT (Γ 4) 1) := ok_law_name F5 T B  sem_law_name
  have c_law_name : C8.Cal l.prog w K mg base 1 "_law_name" (spV K CT (Γ 4) 1) [] := ⟨⟨_, _, _, [], G5, PySem.W.mg_of X G a5, k5, b5, .nil⟩⟩
  have G6 : FnOk l.prog w K mg base CX0 3 f6 _ ["source", "many"] (spV K CT (Γ 5) 2) := ok_law_names F6 T B c_law_next c_law_name sem_law_names
  have c_law_names : C8.Cal l.prog w K mg base 3 "_law_names" (spV K CT (Γ 5) 2) [] := ⟨⟨_, _, _, [], G6, PySem.W.mg_of X G a6, k6, b6, .nil⟩⟩
  have G7 : FnOk l.prog w K mg base CX0 1 f7 _ ["thing"] (spV K CT (Γ 6) 1) := ok_is_name F7 T B  sem_is_name
  have c_is_name : C8.Cal l.prog w K mg base 1 "is_name" (spV K CT (Γ 6) 1) [] := ⟨⟨_, _, _, [], G7, PySem.W.mg_of X G a7, k7, b7, .nil⟩⟩
  have G8 : FnOk l.prog w K mg base CX0 2 f8 _ ["thing"] (spV K CT (Γ 7) 1) := ok_is_tree_form F8 T B c_is_name sem_is_tree_form
  have c_is_tree_form : C8.Cal l.prog w K mg base 2 "is_tree_form" (spV K CT (Γ 7) 1) [] := ⟨⟨_, _, _, [], G8, PySem.W.mg_of X G a8, k8, b8, .nil⟩⟩
  have G9 : FnOk l.prog w K mg base CX0 1 f9 _ ["self"] (spV K CT (Γ 8) 1) := ok_Tree_downward F9 T B  sem_Tree_downward
  have c_Tree_downward : C8.Met l.prog w K mg base 1 (CT 0) "downward" (spV K CT (Γ 8) 1) [] := ⟨⟨_, _, _, [], T.cl 0, ⟨a9, i9, k9⟩, G9, b9, .nil⟩⟩
  have G10 : FnOk l.prog w K mg base CX0 3 f10 _ ["self", "above_by"] (spV K CT (Γ 9) 2) := ok_Tree__init F10 T B c_is_tree_form c_Tree_downward sem_Tree__init
  have c_Tree__init : C8.Mak l.prog w K mg base 3 "Tree" (CT 0) (spV K CT (Γ 9) 2) [] := ⟨⟨_, _, _, [], ⟨mk0, a10, i10, kc0⟩, G10, PySem.W.mg_of X G aC0, b10, .nil⟩⟩
  have G11 : FnOk l.prog w K mg base CX0 2 f11 _ ["self", "post"] (spV K CT (Γ 10) 2) := ok_Tree_checked F11 T B c_is_name sem_Tree_checked
  have c_Tree_checked : C8.Met l.prog w K mg base 2 (CT 0) "checked" (spV K CT (Γ 10) 2) [] := ⟨⟨_, _, _, [], T.cl 0, ⟨a11, i11, k11⟩, G11, b11, .nil⟩⟩
  have G12 : FnOk l.prog w K mg base CX0 1 f12 _ ["self"] (spV K CT (Γ 11) 1) := ok_Tree_head F12 T B  sem_Tree_head
  have c_Tree_head : C8.Met l.prog w K mg base 1 (CT 0) "head" (spV K CT (Γ 11) 1) [] := ⟨⟨_, _, _, [], T.cl 0, ⟨a12, i12, k12⟩, G12, b12, .nil⟩⟩
  have G13 : FnOk l.prog w K mg base CX0 1 f13 _ ["self"] (spV K CT (Γ 12) 1) := ok_Tree_posts F13 T B  sem_Tree_posts
  have c_Tree_posts : C8.Met l.prog w K mg base 1 (CT 0) "posts" (spV K CT (Γ 12) 1) [] := ⟨⟨_, _, _, [], T.cl 0, ⟨a13, i13, k13⟩, G13, b13, .nil⟩⟩
  have G14 : FnOk l.prog w K mg base CX0 3 f14 _ ["self", "post"] (spV K CT (Γ 13) 2) := ok_Tree_above F14 T B c_Tree_checked sem_Tree_above
  have c_Tree_above : C8.Met l.prog w K mg base 3 (CT 0) "above" (spV K CT (Γ 13) 2) [] := ⟨⟨_, _, _, [], T.cl 0, ⟨a14, i14, k14⟩, G14, b14, .nil⟩⟩
  have G15 : FnOk l.prog w K mg base CX0 3 f15 _ ["self", "post"] (spV K CT (Γ 14) 2) := ok_Tree_below F15 T B c_Tree_checked sem_Tree_below
  have c_Tree_below : C8.Met l.prog w K mg base 3 (CT 0) "below" (spV K CT (Γ 14) 2) [] := ⟨⟨_, _, _, [], T.cl 0, ⟨a15, i15, k15⟩, G15, b15, .nil⟩⟩
  have G16 : FnOk l.prog w K mg base CX0 3 f16 _ ["self", "post"] (spV K CT (Γ 15) 2) := ok_Tree_branch F16 T B c_Tree_checked sem_Tree_branch
  have c_Tree_branch : C8.Met l.prog w K mg base 3 (CT 0) "branch" (spV K CT (Γ 15) 2) [] := ⟨⟨_, _, _, [], T.cl 0, ⟨a16, i16, k16⟩, G16, b16, .nil⟩⟩
  have G17 : FnOk l.prog w K mg base CX0 3 f17 _ ["self", "post"] (spV K CT (Γ 16) 2) := ok_Tree_size F17 T B c_Tree_checked sem_Tree_size
  have c_Tree_size : C8.Met l.prog w K mg base 3 (CT 0) "size" (spV K CT (Γ 16) 2) [] := ⟨⟨_, _, _, [], T.cl 0, ⟨a17, i17, k17⟩, G17, b17, .nil⟩⟩
  have G18 : FnOk l.prog w K mg base CX0 1 f18 _ ["self", "other"] (spV K CT (Γ 17) 2) := ok_Tree__eq F18 T B  sem_Tree__eq
  have c_Tree__eq : C8.Met l.prog w K mg base 1 (CT 0) "__eq__" (spV K CT (Γ 17) 2) [] := ⟨⟨_, _, _, [], T.cl 0, ⟨a18, i18, k18⟩, G18, b18, .nil⟩⟩
  have G19 : FnOk l.prog w K mg base CX0 4 f19 _ ["source", "many"] (spV K CT (Γ 18) 2) := ok_law_above F19 T B c_law_names c_law_next sem_law_above
  have c_law_above : C8.Cal l.prog w K mg base 4 "_law_above" (spV K CT (Γ 18) 2) [] := ⟨⟨_, _, _, [], G19, PySem.W.mg_of X G a19, k19, b19, .nil⟩⟩
  have G20 : FnOk l.prog w K mg base CX0 1 f20 _ ["above"] (spV K CT (Γ 19) 1) := ok_law_head F20 T B  sem_law_head
  have c_law_head : C8.Cal l.prog w K mg base 1 "_law_head" (spV K CT (Γ 19) 1) [] := ⟨⟨_, _, _, [], G20, PySem.W.mg_of X G a20, k20, b20, .nil⟩⟩
  have G21 : FnOk l.prog w K mg base CX0 1 f21 _ ["above", "post"] (spV K CT (Γ 20) 2) := ok_law_line F21 T B  sem_law_line
  have c_law_line : C8.Cal l.prog w K mg base 1 "_law_line" (spV K CT (Γ 20) 2) [] := ⟨⟨_, _, _, [], G21, PySem.W.mg_of X G a21, k21, b21, .nil⟩⟩
  have G22 : FnOk l.prog w K mg base CX0 1 f22 _ ["above", "post"] (spV K CT (Γ 21) 2) := ok_law_under F22 T B  sem_law_under
  have c_law_under : C8.Cal l.prog w K mg base 1 "_law_under" (spV K CT (Γ 21) 2) [] := ⟨⟨_, _, _, [], G22, PySem.W.mg_of X G a22, k22, b22, .nil⟩⟩
  have G23 : FnOk l.prog w K mg base CX0 2 f23 _ ["above"] (spV K CT (Γ 22) 1) := ok_law_branches F23 T B c_law_line sem_law_branches
  have c_law_branches : C8.Cal l.prog w K mg base 2 "_law_branches" (spV K CT (Γ 22) 1) [] := ⟨⟨_, _, _, [], G23, PySem.W.mg_of X G a23, k23, b23, .nil⟩⟩
  have G24 : FnOk l.prog w K mg base CX0 3 f24 _ ["source", "above"] (spV K CT (Γ 23) 2) := ok_law_others F24 T B c_law_next c_law_branches sem_law_others
  have c_law_others : C8.Cal l.prog w K mg base 3 "_law_others" (spV K CT (Γ 23) 2) [] := ⟨⟨_, _, _, [], G24, PySem.W.mg_of X G a24, k24, b24, .nil⟩⟩
  have G25 : FnOk l.prog w K mg base CX0 5 f25 _ ["source", "above"] (spV K CT (Γ 24) 2) := ok_law_right F25 T B c_Tree__init c_law_branches c_Tree_posts c_Tree_head c_law_head c_Tree_below c_Tree_branch c_Tree_above c_law_under c_Tree_size G18 b18 c_law_others sem_law_right
  have c_law_right : C8.Cal l.prog w K mg base 5 "_law_right" (spV K CT (Γ 24) 2) [] := ⟨⟨_, _, _, [], G25, PySem.W.mg_of X G a25, k25, b25, .nil⟩⟩
  have G26 : FnOk l.prog w K mg base CX0 6 fa _ ["script"] (spV K CT (Γ 25) 1) := ok_law F26 T B c_law_source c_law_next c_law_right c_law_above sem_law
  exact law_fn G26
theorem walk {l : PySem.W.OpenLaw} {q : Program} {loose : List Str} {XP : (Str → Option Value) → Heap → Prop} {YP : World → Heap → Prop} {d : DefRec} {K : Params → PySem.W.Frag} (hn : l.most = some 63) (hdf : d.params.defaults = [])
    (hY : ∀ (w : World) (h : Heap), YP w h → (K w.params).In h)
    (F : ∀ (w : World) (mg : Str → Option Value) (fa : Addr) (h : Heap), (K w.params).In h → h.Ns mainGlobals mg → mg d.name = some (.ref fa) →
      ∃ fd : FuncData, (∀ (s : Shared) (u : Value), BindsTo s fd ⟨[u], []⟩ [("script", u)]) ∧ ∀ base : Heap, (K w.params).In base → base.Ns mainGlobals mg → FnOk l.prog w (K w.params) mg base CX0 6 fa fd ["script"] (spLaw (K w.params))) :
    PySem.W.WalkO q loose XP YP l.row.toRowW d [] (fun f vs => PySem.call f vs) :=
  L2.walk_of (n := 63) (k := 6) (x := "script") (CX := fun _ => CX0) (sp := fun w => spLaw (K w.params)) hn (by decide) hdf ⟨by decide, by decide, by decide⟩ hY F (fun _ _ a ns hl _ hS => ⟨a, ns, rfl, hS, hl, fun _ => rfl⟩) fun _ _ _ _ _ z => z
end K01
open PySem PySem.W PyProof.Rows in
set_option maxRecDepth 100000 in
set_option maxHeartbeats 0 in
set_option pp.oneline true in
set_option pp.deepTerms false in
set_option pp.maxSteps 60 in
theorem PySem.Challenge.cw_stepposts_k01_trees_told_holds : PySem.Challenge.rw_stepposts_k01_trees_told.Holds := by
  w_on; o_law; k_head; (case hw => w_witness2)
  k_fill
  refine K01.walk (l := PySem.Challenge.rw_stepposts_k01_trees_told) rfl rfl (fun w h Y => PySem.W.kIn_of Y) ?F
  case F =>
    intro w mg fa h KX G hmg
    refine' K01.all_mk KX G hmg ?aC0 ?a1 ?l1 ?c1 ?k1 ?a2 ?l2 ?c2 ?k2 ?a3 ?l3 ?c3 ?k3 ?a4 ?l4 ?c4 ?k4 ?a5 ?l5 ?c5 ?k5 ?a6 ?l6 ?c6 ?k6 ?a7 ?l7 ?c7 ?k7 ?a8 ?l8 ?c8 ?k8 ?a9 ?i9 ?l9 ?c9 ?k9 ?a10 ?i10 ?l10 ?c10 ?k10 ?a11 ?i11 ?l11 ?c11 ?k11 ?a12 ?i12 ?l12 ?c12 ?k12 ?a13 ?i13 ?l13 ?c13 ?k13 ?a14 ?i14 ?l14 ?c14 ?k14 ?a15 ?i15 ?l15 ?c15 ?k15 ?a16 ?i16 ?l16 ?c16 ?k16 ?a17 ?i17 ?l17 ?c17 ?k17 ?a18 ?i18 ?l18 ?c18 ?k18 ?a19 ?l19 ?c19 ?k19 ?a20 ?l20 ?c20 ?k20 ?a21 ?l21 ?c21 ?k21 ?a22 ?l22 ?c22 ?k22 ?a23 ?l23 ?c23 ?k23 ?a24 ?l24 ?c24 ?k24 ?a25 ?l25 ?c25 ?k25 ?a26 ?l26 ?c26 ?k26 ?pg0 ?hd0 ?po0 ?sa0 ?mk0 ?kc0 ?n0_above_by ?n0_below_by ?n0_top ?n0_branches ?ha0 ?hn0 ?htk0 ?hm0 ?me0 ?t1_0 ?t2_0 ?t3_0 ?t4_0 ?t5_0 ?t6_0 ?t7_0 ?q0_0 ?q1_0 ?q2_0 ?q3_0 ?q4_0 ?q5_0 ?q6_0 ?q7_0 ?z_len ?z_sorted ?z_max ?z_min ?z_all ?z_any ?z_dict ?z_list ?z_int ?z_str ?z_bool ?z_tuple ?z_isinstance ?z_range ?z_reversed ?z_zip ?z_enumerate ?g_SMALL ?g_MOST_LETTERS
    (case aC0 => k_is)
    (case a1 => k_is)
    (case l1 => k_is)
    (case c1 => k_is)
    (case k1 => k_is)
    (case a2 => k_is)
    (case l2 => k_is)
    (case c2 => k_is)
    (case k2 => k_is)
    (case a3 => k_is)
    (case l3 => k_is)
    (case c3 => k_is)
    (case k3 => k_is)
    (case a4 => k_is)
    (case l4 => k_is)
    (case c4 => k_is)
    (case k4 => k_is)
    (case a5 => k_is)
    (case l5 => k_is)
    (case c5 => k_is)
    (case k5 => k_is)
    (case a6 => k_is)
    (case l6 => k_is)
    (case c6 => k_is)
    (case k6 => k_is)
    (case a7 => k_is)
    (case l7 => k_is)
    (case c7 => k_is)
    (case k7 => k_is)
    (case a8 => k_is)
    (case l8 => k_is)
    (case c8 => k_is)
    (case k8 => k_is)
    (case a9 => k_is)
    (case i9 => k_is)
    (case l9 => k_is)
    (case c9 => k_is)
    (case k9 => k_is)
    (case a10 => k_is)
    (case i10 => k_is)
    (case l10 => k_is)
    (case c10 => k_is)
    (case k10 => k_is)
    (case a11 => k_is)
    (case i11 => k_is)
    (case l11 => k_is)
    (case c11 => k_is)
    (case k11 => k_is)
    (case a12 => k_is)
    (case i12 => k_is)
    (case l12 => k_is)
    (case c12 => k_is)
    (case k12 => k_is)
    (case a13 => k_is)
    (case i13 => k_is)
    (case l13 => k_is)
    (case c13 => k_is)
    (case k13 => k_is)
    (case a14 => k_is)
    (case i14 => k_is)
    (case l14 => k_is)
    (case c14 => k_is)
    (case k14 => k_is)
    (case a15 => k_is)
    (case i15 => k_is)
    (case l15 => k_is)
    (case c15 => k_is)
    (case k15 => k_is)
    (case a16 => k_is)
    (case i16 => k_is)
    (case l16 => k_is)
    (case c16 => k_is)
    (case k16 => k_is)
    (case a17 => k_is)
    (case i17 => k_is)
    (case l17 => k_is)
    (case c17 => k_is)
    (case k17 => k_is)
    (case a18 => k_is)
    (case i18 => k_is)
    (case l18 => k_is)
    (case c18 => k_is)
    (case k18 => k_is)
    (case a19 => k_is)
    (case l19 => k_is)
    (case c19 => k_is)
    (case k19 => k_is)
    (case a20 => k_is)
    (case l20 => k_is)
    (case c20 => k_is)
    (case k20 => k_is)
    (case a21 => k_is)
    (case l21 => k_is)
    (case c21 => k_is)
    (case k21 => k_is)
    (case a22 => k_is)
    (case l22 => k_is)
    (case c22 => k_is)
    (case k22 => k_is)
    (case a23 => k_is)
    (case l23 => k_is)
    (case c23 => k_is)
    (case k23 => k_is)
    (case a24 => k_is)
    (case l24 => k_is)
    (case c24 => k_is)
    (case k24 => k_is)
    (case a25 => k_is)
    (case l25 => k_is)
    (case c25 => k_is)
    (case k25 => k_is)
    (case a26 => k_is)
    (case l26 => k_is)
    (case c26 => k_is)
    (case k26 => k_is)
    (case pg0 => k_is)
    (case hd0 => k_is)
    (case po0 => k_is)
    (case sa0 => k_is)
    (case mk0 => k_is)
    (case kc0 => k_is)
    (case n0_above_by => k_is)
    (case n0_below_by => k_is)
    (case n0_top => k_is)
    (case n0_branches => k_is)
    (case ha0 => k_is)
    (case hn0 => k_is)
    (case htk0 => k_is)
    (case hm0 => k_is)
    (case me0 => kit_is)
    (case t1_0 => kit_is)
    (case t2_0 => kit_is)
    (case t3_0 => kit_is)
    (case t4_0 => kit_is)
    (case t5_0 => kit_is)
    (case t6_0 => kit_is)
    (case t7_0 => kit_is)
    (case q0_0 => k_is)
    (case q1_0 => k_is)
    (case q2_0 => k_is)
    (case q3_0 => k_is)
    (case q4_0 => k_is)
    (case q5_0 => k_is)
    (case q6_0 => k_is)
    (case q7_0 => k_is)
    (case z_len => k_is)
    (case z_sorted => k_is)
    (case z_max => k_is)
    (case z_min => k_is)
    (case z_all => k_is)
    (case z_any => k_is)
    (case z_dict => k_is)
    (case z_list => k_is)
    (case z_int => k_is)
    (case z_str => k_is)
    (case z_bool => k_is)
    (case z_tuple => k_is)
    (case z_isinstance => k_is)
    (case z_range => k_is)
    (case z_reversed => k_is)
    (case z_zip => k_is)
    (case z_enumerate => k_is)
    (case g_SMALL => k_is)
    (case g_MOST_LETTERS => k_is)
