import PyProof.Rows.All
import Wide.All
import OpenK.AllK
import Wide.FinOn
import HandS.ForMost
import HandS.Exc
import HandS.TryOnly
import HandS.ExcOwn
import HandS.WordsExc
import HandS.IsInst
import HandS.Wide
import HandS.Flow
import PySem.Challenge.RW_fairknife_k01_fractions
set_option Elab.async false
set_option linter.all false
set_option maxRecDepth 100000
set_option maxHeartbeats 4000000
/-! A layer over the hand layer: values without a heap (D), lists of one's own by number (cells), readings over both. -/
namespace L3
open PySem PySem.Spec PyProof.Rows L2

inductive D where
  | non | bl (b : Bool) | int (i : Int) | str (x : Str) | tup (ds : List D) | lst (ds : List D) | ob (n : Nat) (ds : List D)

structure Gx where
  K : PySem.W.Frag
  cl : Nat → Addr
/-- the attributes of an own class's objects: 0 is Taste, the others have none -/
def fl : Nat → List Str
  | 0 => ["rows", "total"]
  | _ => []

mutual
inductive Rp (G : Gx) (F : Hp) : V → D → Prop
  | non : Rp G F .non .non
  | bl (b : Bool) : Rp G F (.bl b) (.bl b)
  | int (i : Int) : Rp G F (.int i) (.int i)
  | str (x : Str) : Rp G F (.str x) (.str x)
  | tup {a : Addr} {xs : List V} {ds : List D} : SqT G.K F a xs → RpAll G F xs ds → Rp G F (.ref a) (.tup ds)
  | lst {a : Addr} {xs : List V} {ds : List D} : SqL G.K F a xs → RpAll G F xs ds → Rp G F (.ref a) (.lst ds)
  | ob {a dx : Addr} {n : Nat} {fs : List (Str × V)} {ds : List D} : F a = some (.ins (G.cl n) dx fs) → fs.map (·.1) = fl n → RpAll G F (fs.map (·.2)) ds → Rp G F (.ref a) (.ob n ds)
inductive RpAll (G : Gx) (F : Hp) : List V → List D → Prop
  | nil : RpAll G F [] []
  | cons {v : V} {vs : List V} {d : D} {ds : List D} : Rp G F v d → RpAll G F vs ds → RpAll G F (v :: vs) (d :: ds)
end

theorem Same.rd {H H' : Hp} {a : Addr} {u : HO} (e : Same H H') (h : Rd H a u) : Rd H' a u := by
  rcases h with h | ⟨o, h⟩
  · exact .inl (e _ _ h)
  · exact .inr ⟨o, e _ _ h⟩
theorem Same.sqT {K : PySem.W.Frag} {H H' : Hp} {a : Addr} {xs : List V} (e : Same H H') (h : SqT K H a xs) : SqT K H' a xs := by
  rcases h with h | h
  · exact .inl (Same.rd e h)
  · exact .inr h
theorem Same.sqL {K : PySem.W.Frag} {H H' : Hp} {a : Addr} {xs : List V} (e : Same H H') (h : SqL K H a xs) : SqL K H' a xs := by
  rcases h with h | h
  · exact .inl (Same.rd e h)
  · exact .inr h

section
variable {G : Gx} {F F' : Hp}
mutual
theorem Rp.mono (h : Same F F') : ∀ (d : D) {v : V}, Rp G F v d → Rp G F' v d
  | .non, _, q => by cases q; exact .non
  | .bl b, _, q => by cases q; exact .bl b
  | .int i, _, q => by cases q; exact .int i
  | .str x, _, q => by cases q; exact .str x
  | .tup ds, _, q => by
    cases q with
    | tup hs ha => exact .tup (Same.sqT h hs) (RpAll.mono h ds ha)
  | .lst ds, _, q => by
    cases q with
    | lst hs ha => exact .lst (Same.sqL h hs) (RpAll.mono h ds ha)
  | .ob n ds, _, q => by
    cases q with
    | ob hs hf ha => exact .ob (h _ _ hs) hf (RpAll.mono h ds ha)
theorem RpAll.mono (h : Same F F') : ∀ (ds : List D) {vs : List V}, RpAll G F vs ds → RpAll G F' vs ds
  | [], _, q => by cases q; exact .nil
  | d :: ds, _, q => by
    cases q with
    | cons a b => exact .cons (Rp.mono h d a) (RpAll.mono h ds b)
end
theorem RpAll.length : ∀ {vs : List V} {ds : List D}, RpAll G F vs ds → vs.length = ds.length
  | _, _, .nil => rfl
  | _, _, .cons _ t => by simp [RpAll.length t]
theorem RpAll.get : ∀ {vs : List V} {ds : List D} {i : Nat} {d : D}, RpAll G F vs ds → ds[i]? = some d → ∃ v, vs[i]? = some v ∧ Rp G F v d
  | _, _, _, _, .nil, e => by simp at e
  | _, _, 0, _, .cons r _, e => by simp at e; subst e; exact ⟨_, rfl, r⟩
  | _, _, i + 1, d, .cons _ t, e => by
    obtain ⟨v, h1, h2⟩ := RpAll.get (i := i) (d := d) t (by simpa using e)
    exact ⟨v, by simpa using h1, h2⟩
theorem RpAll.getV : ∀ {vs : List V} {ds : List D} {i : Nat} {v : V}, RpAll G F vs ds → vs[i]? = some v → ∃ d, ds[i]? = some d ∧ Rp G F v d
  | _, _, _, _, .nil, e => by simp at e
  | _, _, 0, _, .cons r _, e => by simp at e; subst e; exact ⟨_, rfl, r⟩
  | _, _, i + 1, d, .cons _ t, e => by
    obtain ⟨v, h1, h2⟩ := RpAll.getV (i := i) t (by simpa using e)
    exact ⟨v, by simpa using h1, h2⟩
theorem RpAll.append : ∀ {xs ys : List V} {ds es : List D}, RpAll G F xs ds → RpAll G F ys es → RpAll G F (xs ++ ys) (ds ++ es)
  | _, _, _, _, .nil, s => s
  | _, _, _, _, .cons r t, s => .cons r (RpAll.append t s)
theorem RpAll.one {v : V} {d : D} (h : Rp G F v d) : RpAll G F [v] [d] := .cons h .nil
theorem RpAll.set {v : V} {d : D} (r : Rp G F v d) : ∀ {xs : List V} {ds : List D} (i : Nat), RpAll G F xs ds → RpAll G F (xs.set i v) (ds.set i d)
  | _, _, _, .nil => .nil
  | _, _, 0, .cons _ t => .cons r t
  | _, _, i + 1, .cons q t => .cons q (RpAll.set r i t)
theorem RpAll.take : ∀ {xs : List V} {ds : List D} (n : Nat), RpAll G F xs ds → RpAll G F (xs.take n) (ds.take n)
  | _, _, 0, _ => .nil
  | _, _, _ + 1, .nil => .nil
  | _, _, n + 1, .cons r t => .cons r (RpAll.take n t)
theorem RpAll.drop : ∀ {xs : List V} {ds : List D} (n : Nat), RpAll G F xs ds → RpAll G F (xs.drop n) (ds.drop n)
  | _, _, 0, r => r
  | _, _, _ + 1, .nil => .nil
  | _, _, n + 1, .cons _ t => RpAll.drop n t
theorem RpAll.insertIdx {v : V} {d : D} (r : Rp G F v d) : ∀ {xs : List V} {ds : List D} (i : Nat), RpAll G F xs ds → RpAll G F (xs.insertIdx i v) (ds.insertIdx i d)
  | _, _, 0, t => .cons r t
  | _, _, _ + 1, .nil => .nil
  | _, _, i + 1, .cons q t => .cons q (RpAll.insertIdx r i t)
theorem RpAll.eraseIdx : ∀ {xs : List V} {ds : List D} (i : Nat), RpAll G F xs ds → RpAll G F (xs.eraseIdx i) (ds.eraseIdx i)
  | _, _, _, .nil => .nil
  | _, _, 0, .cons _ t => t
  | _, _, i + 1, .cons q t => .cons q (RpAll.eraseIdx i t)
theorem RpAll.reverse {xs : List V} {ds : List D} (h : RpAll G F xs ds) : RpAll G F xs.reverse ds.reverse := by
  induction ds generalizing xs with
  | nil => cases h; exact .nil
  | cons d ds ih =>
    cases h with
    | cons a b => rw [List.reverse_cons, List.reverse_cons]; exact RpAll.append (ih b) (.one a)
theorem RpAll.ints : ∀ (ns : List Int), RpAll G F (ns.map V.int) (ns.map D.int)
  | [] => .nil
  | n :: ns => .cons (.int n) (RpAll.ints ns)
theorem RpAll.of_ints : ∀ {ns : List Int} {vs : List V}, RpAll G F vs (ns.map D.int) → vs = ns.map V.int
  | [], _, h => by cases h; rfl
  | n :: ns, _, h => by
    cases h with
    | cons a b => cases a; rw [RpAll.of_ints b]; rfl
theorem RpAll.of_bls : ∀ {ns : List Bool} {vs : List V}, RpAll G F vs (ns.map D.bl) → vs = ns.map V.bl
  | [], _, h => by cases h; rfl
  | n :: ns, _, h => by
    cases h with
    | cons a b => cases a; rw [RpAll.of_bls b]; rfl
theorem RpAll.of_strs : ∀ {ns : List Str} {vs : List V}, RpAll G F vs (ns.map D.str) → vs = ns.map V.str
  | [], _, h => by cases h; rfl
  | n :: ns, _, h => by
    cases h with
    | cons a b => cases a; rw [RpAll.of_strs b]; rfl
end

inductive Cell where
  | rw (ds : List D) | ro (ds : List D) | pl (ks : List Nat) | dct (kvs : List (Int × D)) | gone
inductive U where
  | d (x : D) | p (k : Nat)
def Mt : Cell → Bool
  | .rw _ => true
  | .pl _ => true
  | .dct _ => true
  | _ => false
def CellOk (G : Gx) (as : List Addr) (H0 F H : Hp) (a : Addr) : Cell → Prop
  | .rw ds => H0 a = none ∧ F a = none ∧ ∃ vs, H a = some (.lst vs) ∧ RpAll G F vs ds
  | .ro ds => ∃ vs, SqL G.K H0 a vs ∧ RpAll G F vs ds
  | .pl ks => H0 a = none ∧ F a = none ∧ ∃ ps : List Addr, H a = some (.lst (ps.map V.ref)) ∧ Paired (fun (p : Addr) (k : Nat) => as[k]? = some p) ps ks
  | .dct kvs => H0 a = none ∧ F a = none ∧ ∃ es : List (Key × V), H a = some (.dK es) ∧ Paired (fun (e : Key × V) (k : Int × D) => e.1 = Sum.inl k.1 ∧ Rp G F e.2 k.2) es kvs
  | .gone => True
structure Bs (F0 H0 F H : Hp) : Prop where
  fh : Same F H
  f0 : Same F0 F
  h0 : Same H0 H
  nw : ∀ a, H0 a ≠ none → F a = F0 a
def RpU (G : Gx) (as : List Addr) (F : Hp) (v : V) : U → Prop
  | .d x => Rp G F v x
  | .p k => ∃ a, v = .ref a ∧ as[k]? = some a
abbrev Ro := List (Option U)
abbrev Mu := List Cell
structure Ev (G : Gx) (F0 H0 F H : Hp) (as : List Addr) (σ : L2.St) (ρ : Ro) (μ : Mu) : Prop where
  bs : Bs F0 H0 F H
  len : σ.length = ρ.length
  sl : ∀ (i : Nat) (u : U), ρ[i]? = some (some u) → ∃ v, σ[i]? = some (some v) ∧ RpU G as F v u
  al : as.length = μ.length
  nd : ∀ (i j : Nat) (a : Addr) (c c' : Cell), as[i]? = some a → as[j]? = some a → μ[i]? = some c → μ[j]? = some c' → Mt c = true → Mt c' = true → i = j
  ce : ∀ (k : Nat) (c : Cell) (a : Addr), μ[k]? = some c → as[k]? = some a → CellOk G as H0 F H a c

section
variable {G : Gx} {F0 H0 F H F' H' : Hp} {as as' : List Addr} {σ : L2.St} {ρ : Ro} {μ : Mu}
theorem same_upd {H : Hp} {p : Addr} {o : HO} (h : H p = none) : Same H (upd H p o) := fun b x e => by
  rw [upd_ne (ne_of_none e h)]
  exact e
/-- a list's growth keeps places -/
def Grw (as as' : List Addr) : Prop := ∀ (k : Nat) (a : Addr), as[k]? = some a → as'[k]? = some a
theorem Grw.refl : Grw as as := fun _ _ h => h
theorem Grw.trans {a b c : List Addr} (h : Grw a b) (h' : Grw b c) : Grw a c := fun k x e => h' k x (h k x e)
theorem Grw.app {l : List Addr} : Grw as (as ++ l) := fun k a h => by
  obtain ⟨hk, e⟩ := List.getElem?_eq_some_iff.mp h
  rw [List.getElem?_append_left hk]
  exact h
theorem RpU.mono (hF : Same F F') (ha : Grw as as') {v : V} : ∀ {u : U}, RpU G as F v u → RpU G as' F' v u
  | .d x, h => Rp.mono hF x h
  | .p k, ⟨a, e, h⟩ => ⟨a, e, ha _ _ h⟩
theorem paired_imp {α β : Type} {R S : α → β → Prop} (h : ∀ a b, R a b → S a b) : ∀ {xs : List α} {ys : List β}, Paired R xs ys → Paired S xs ys
  | _, _, .nil => .nil
  | _, _, .cons r t => .cons (h _ _ r) (paired_imp h t)
theorem CellOk.mono (hF : Same F F') (ha : Grw as as') {a : Addr} {c : Cell} (hh : Mt c = true → F' a = F a ∧ H' a = H a) (h : CellOk G as H0 F H a c) : CellOk G as' H0 F' H' a c := by
  cases c with
  | rw ds =>
    obtain ⟨h1, h2, vs, h3, h4⟩ := h
    obtain ⟨e1, e2⟩ := hh rfl
    exact ⟨h1, e1.trans h2, vs, e2.trans h3, RpAll.mono hF _ h4⟩
  | ro ds =>
    obtain ⟨vs, h3, h4⟩ := h
    exact ⟨vs, h3, RpAll.mono hF _ h4⟩
  | pl ks =>
    obtain ⟨h1, h2, vs, h3, h4⟩ := h
    obtain ⟨e1, e2⟩ := hh rfl
    exact ⟨h1, e1.trans h2, vs, e2.trans h3, paired_imp (fun _ _ e => ha _ _ e) h4⟩
  | dct kvs =>
    obtain ⟨h1, h2, vs, h3, h4⟩ := h
    obtain ⟨e1, e2⟩ := hh rfl
    exact ⟨h1, e1.trans h2, vs, e2.trans h3, paired_imp (fun _ _ e => ⟨e.1, Rp.mono hF _ e.2⟩) h4⟩
  | gone => trivial
theorem CellOk.some {a : Addr} {c : Cell} (hm : Mt c = true) (h : CellOk G as H0 F H a c) : H0 a = none ∧ F a = none ∧ ∃ o, H a = some o := by
  cases c with
  | rw ds =>
    obtain ⟨h1, h2, vs, h3, h4⟩ := h
    exact ⟨h1, h2, _, h3⟩
  | pl ds =>
    obtain ⟨h1, h2, vs, h3, h4⟩ := h
    exact ⟨h1, h2, _, h3⟩
  | dct ds =>
    obtain ⟨h1, h2, vs, h3, h4⟩ := h
    exact ⟨h1, h2, _, h3⟩
  | ro _ => cases hm
  | gone => cases hm
/-- the heap grows: new things alone -/
theorem Ev.grow (e : Ev G F0 H0 F H as σ ρ μ) (hF : Same F F') (hH : Same H H') (hs : Same F' H') (hn : ∀ a, H a ≠ none → F' a = F a) : Ev G F0 H0 F' H' as σ ρ μ where
  bs := ⟨hs, e.bs.f0.trans hF, e.bs.h0.trans hH, fun a ha => by
    have : H a ≠ none := fun z => by
      cases q : H0 a with
      | none => exact ha q
      | some o => rw [e.bs.h0 _ _ q] at z; cases z
    rw [hn a this]
    exact e.bs.nw a ha⟩
  len := e.len
  sl := fun i u h => let ⟨v, h1, h2⟩ := e.sl i u h; ⟨v, h1, h2.mono hF .refl⟩
  al := e.al
  nd := e.nd
  ce := fun k c a hk ha => (e.ce k c a hk ha).mono hF .refl fun hm => by
    obtain ⟨_, _, o, ho⟩ := (e.ce k c a hk ha).some hm
    exact ⟨hn a (by rw [ho]; intro z; cases z), (hH _ _ ho).trans ho.symm⟩
/-- a new thing that is never changed -/
theorem Ev.fresh (e : Ev G F0 H0 F H as σ ρ μ) {p : Addr} {o : HO} (hp : H p = none) : Ev G F0 H0 (upd F p o) (upd H p o) as σ ρ μ ∧ Same F (upd F p o) := by
  have fp : F p = none := e.bs.fh.free hp
  refine ⟨e.grow (same_upd fp) (same_upd hp) (fun b x h => ?_) (fun a ha => ?_), same_upd fp⟩
  · by_cases hb : b = p
    · subst hb; rw [upd_same] at h ⊢; exact h
    · rw [upd_ne hb] at h ⊢; exact e.bs.fh _ _ h
  · by_cases hb : a = p
    · subst hb; exact absurd hp ha
    · rw [upd_ne hb]
/-- a new cell -/
theorem Ev.cell (e : Ev G F0 H0 F H as σ ρ μ) {p : Addr} {o : HO} {c : Cell} (hp : H p = none) (hc : CellOk G (as ++ [p]) H0 F (upd H p o) p c) : Ev G F0 H0 F (upd H p o) (as ++ [p]) σ ρ (μ ++ [c]) := by
  have fp : F p = none := e.bs.fh.free hp
  have npa : ∀ (k : Nat) (a : Addr) (c : Cell), μ[k]? = some c → as[k]? = some a → Mt c = true → a ≠ p := fun k a c hk ha hm z => by
    obtain ⟨_, _, o, ho⟩ := (e.ce k c a hk ha).some hm
    rw [z, hp] at ho; cases ho
  refine ⟨⟨fun b x h => ?_, e.bs.f0, e.bs.h0.trans (same_upd hp), e.bs.nw⟩, e.len, fun i u h => ?_, ?_, ?_, ?_⟩
  · have hb : b ≠ p := fun z => by subst z; rw [fp] at h; cases h
    rw [upd_ne hb]
    exact e.bs.fh _ _ h
  · obtain ⟨v, h1, h2⟩ := e.sl i u h
    exact ⟨v, h1, h2.mono (.refl _) .app⟩
  · rw [List.length_append, List.length_append, e.al]; rfl
  · have old : ∀ i a c, (as ++ [p])[i]? = some a → (μ ++ [c])[i]? = some c → i < as.length ∨ i = as.length := fun i a c h _ => by
      have := (List.getElem?_eq_some_iff.mp h).1
      rw [List.length_append] at this
      simp at this
      omega
    intro i j a c1 c2 hi hj h1 h2 m1 m2
    have li := (List.getElem?_eq_some_iff.mp hi).1
    have lj := (List.getElem?_eq_some_iff.mp hj).1
    simp only [List.length_append, List.length_cons, List.length_nil] at li lj
    by_cases ii : i < as.length
    · rw [List.getElem?_append_left ii] at hi
      rw [List.getElem?_append_left (by rw [← e.al]; exact ii)] at h1
      by_cases jj : j < as.length
      · rw [List.getElem?_append_left jj] at hj
        rw [List.getElem?_append_left (by rw [← e.al]; exact jj)] at h2
        exact e.nd i j a c1 c2 hi hj h1 h2 m1 m2
      · have ej : j = as.length := by omega
        subst ej
        simp at hj
        exact absurd hj.symm (npa i a c1 h1 hi m1)
    · have ei : i = as.length := by omega
      subst ei
      by_cases jj : j < as.length
      · rw [List.getElem?_append_left jj] at hj
        rw [List.getElem?_append_left (by rw [← e.al]; exact jj)] at h2
        simp at hi
        exact absurd hi.symm (npa j a c2 h2 hj m2)
      · omega
  · intro k c1 a hk ha
    by_cases kk : k < as.length
    · rw [List.getElem?_append_left kk] at ha
      rw [List.getElem?_append_left (by rw [← e.al]; exact kk)] at hk
      refine (e.ce k c1 a hk ha).mono (.refl _) .app fun hm => ⟨rfl, ?_⟩
      rw [upd_ne (npa k a c1 hk ha hm)]
    · have lk := (List.getElem?_eq_some_iff.mp ha).1
      simp only [List.length_append, List.length_cons, List.length_nil] at lk
      have ek : k = as.length := by omega
      subst ek
      have e1 : a = p := by simpa using ha.symm
      have e2 : c1 = c := by rw [e.al] at hk; simpa using hk.symm
      subst e1 e2
      exact hc
/-- a thing that stands there already becomes a cell -/
theorem Ev.adopt (e : Ev G F0 H0 F H as σ ρ μ) {p : Addr} {c : Cell} (npa : ∀ (k : Nat) (a : Addr) (c : Cell), μ[k]? = some c → as[k]? = some a → Mt c = true → a ≠ p) (hc : CellOk G (as ++ [p]) H0 F H p c) : Ev G F0 H0 F H (as ++ [p]) σ ρ (μ ++ [c]) := by
  refine ⟨e.bs, e.len, fun i u h => ?_, ?_, ?_, ?_⟩
  · obtain ⟨v, h1, h2⟩ := e.sl i u h
    exact ⟨v, h1, h2.mono (.refl _) .app⟩
  · rw [List.length_append, List.length_append, e.al]; rfl
  · intro i j a c1 c2 hi hj h1 h2 m1 m2
    have li := (List.getElem?_eq_some_iff.mp hi).1
    have lj := (List.getElem?_eq_some_iff.mp hj).1
    simp only [List.length_append, List.length_cons, List.length_nil] at li lj
    by_cases ii : i < as.length
    · rw [List.getElem?_append_left ii] at hi
      rw [List.getElem?_append_left (by rw [← e.al]; exact ii)] at h1
      by_cases jj : j < as.length
      · rw [List.getElem?_append_left jj] at hj
        rw [List.getElem?_append_left (by rw [← e.al]; exact jj)] at h2
        exact e.nd i j a c1 c2 hi hj h1 h2 m1 m2
      · have ej : j = as.length := by omega
        subst ej
        simp at hj
        exact absurd hj.symm (npa i a c1 h1 hi m1)
    · have ei : i = as.length := by omega
      subst ei
      by_cases jj : j < as.length
      · rw [List.getElem?_append_left jj] at hj
        rw [List.getElem?_append_left (by rw [← e.al]; exact jj)] at h2
        simp at hi
        exact absurd hi.symm (npa j a c2 h2 hj m2)
      · omega
  · intro k c1 a hk ha
    by_cases kk : k < as.length
    · rw [List.getElem?_append_left kk] at ha
      rw [List.getElem?_append_left (by rw [← e.al]; exact kk)] at hk
      exact (e.ce k c1 a hk ha).mono (.refl _) .app fun hm => ⟨rfl, rfl⟩
    · have lk := (List.getElem?_eq_some_iff.mp ha).1
      simp only [List.length_append, List.length_cons, List.length_nil] at lk
      have ek : k = as.length := by omega
      subst ek
      have e1 : a = p := by simpa using ha.symm
      have e2 : c1 = c := by rw [e.al] at hk; simpa using hk.symm
      subst e1 e2
      exact hc
theorem Ev.mutAddr (e : Ev G F0 H0 F H as σ ρ μ) {p : Addr} (hp : H p = none) : ∀ (k : Nat) (a : Addr) (c : Cell), μ[k]? = some c → as[k]? = some a → Mt c = true → a ≠ p := fun k a c hk ha hm z => by
  obtain ⟨_, _, o, ho⟩ := (e.ce k c a hk ha).some hm
  rw [z, hp] at ho; cases ho
/-- a cell is changed -/
theorem Ev.write (e : Ev G F0 H0 F H as σ ρ μ) {k : Nat} {p : Addr} {o : HO} {c c' : Cell} (hk : μ[k]? = some c) (ha : as[k]? = some p) (hm : Mt c = true) (hm' : Mt c' = true) (hc : CellOk G as H0 F (upd H p o) p c') : Ev G F0 H0 F (upd H p o) as σ ρ (μ.set k c') := by
  obtain ⟨n0, nF, o1, ho⟩ := (e.ce k c p hk ha).some hm
  have kl : k < μ.length := (List.getElem?_eq_some_iff.mp hk).1
  refine ⟨⟨fun b x h => ?_, e.bs.f0, fun b x h => ?_, e.bs.nw⟩, e.len, e.sl, by rw [List.length_set]; exact e.al, ?_, ?_⟩
  · have hb : b ≠ p := fun z => by subst z; rw [nF] at h; cases h
    rw [upd_ne hb]
    exact e.bs.fh _ _ h
  · have hb : b ≠ p := fun z => by subst z; rw [n0] at h; cases h
    rw [upd_ne hb]
    exact e.bs.h0 _ _ h
  · have pick : ∀ i c1, (μ.set k c')[i]? = some c1 → Mt c1 = true → ∃ c2, μ[i]? = some c2 ∧ Mt c2 = true := fun i c1 h m => by
      by_cases ik : i = k
      · subst ik; exact ⟨c, hk, hm⟩
      · rw [List.getElem?_set_ne (Ne.symm ik)] at h; exact ⟨c1, h, m⟩
    intro i j a c1 c2 hi hj h1 h2 m1 m2
    obtain ⟨d1, g1, w1⟩ := pick i c1 h1 m1
    obtain ⟨d2, g2, w2⟩ := pick j c2 h2 m2
    exact e.nd i j a d1 d2 hi hj g1 g2 w1 w2
  · intro i c1 a hi hai
    by_cases ik : i = k
    · subst ik
      rw [List.getElem?_set_self kl] at hi
      cases hi
      rw [ha] at hai; cases hai
      exact hc
    · rw [List.getElem?_set_ne (Ne.symm ik)] at hi
      refine (e.ce i c1 a hi hai).mono (.refl _) .refl fun hmi => ⟨rfl, ?_⟩
      refine upd_ne fun z => ?_
      subst z
      exact ik (e.nd i k a c1 c hai ha hi hk hmi hm)
/-- a slot is stored -/
theorem Ev.store (e : Ev G F0 H0 F H as σ ρ μ) {i : Nat} {v : V} {u : U} (r : RpU G as F v u) : Ev G F0 H0 F H as (σ.set i (some v)) (ρ.set i (some u)) μ := by
  refine ⟨e.bs, by rw [List.length_set, List.length_set]; exact e.len, fun j u' h => ?_, e.al, e.nd, e.ce⟩
  by_cases ij : i = j
  · subst ij
    have hl : i < ρ.length := by
      have := (List.getElem?_eq_some_iff.mp h).1
      simpa using this
    rw [List.getElem?_set_self hl] at h
    cases h
    exact ⟨v, by rw [List.getElem?_set_self (by rw [e.len]; exact hl)], r⟩
  · rw [List.getElem?_set_ne ij] at h
    obtain ⟨v', h1, h2⟩ := e.sl j u' h
    exact ⟨v', by rw [List.getElem?_set_ne ij]; exact h1, h2⟩
/-- slots are forgotten -/
theorem Ev.noSlots (e : Ev G F0 H0 F H as σ ρ μ) : Ev G F0 H0 F H as [] [] μ :=
  ⟨e.bs, rfl, fun i u h => by simp at h, e.al, e.nd, e.ce⟩
/-- a list of one's own becomes data -/
theorem Ev.freeze (e : Ev G F0 H0 F H as σ ρ μ) {k : Nat} {p : Addr} {ds : List D} (hk : μ[k]? = some (.rw ds)) (ha : as[k]? = some p) :
    ∃ F', Same F F' ∧ Rp G F' (.ref p) (.lst ds) ∧ Ev G F0 H0 F' H as σ ρ (μ.set k .gone) := by
  obtain ⟨n0, nF, vs, ho, hr⟩ := e.ce k _ p hk ha
  have kl : k < μ.length := (List.getElem?_eq_some_iff.mp hk).1
  have sF : Same F (upd F p (.lst vs)) := same_upd nF
  refine ⟨upd F p (.lst vs), sF, .lst (.of upd_same) (RpAll.mono sF _ hr), ⟨fun b x h => ?_, e.bs.f0.trans sF, e.bs.h0, fun a h0 => ?_⟩, e.len, fun i u h => ?_, by rw [List.length_set]; exact e.al, ?_, ?_⟩
  · by_cases hb : b = p
    · subst hb; rw [upd_same] at h; cases h; exact ho
    · rw [upd_ne hb] at h; exact e.bs.fh _ _ h
  · have hb : a ≠ p := fun z => by subst z; exact h0 n0
    rw [upd_ne hb]
    exact e.bs.nw a h0
  · obtain ⟨v, h1, h2⟩ := e.sl i u h
    exact ⟨v, h1, h2.mono sF .refl⟩
  · have pick : ∀ i c1, (μ.set k .gone)[i]? = some c1 → Mt c1 = true → μ[i]? = some c1 := fun i c1 h m => by
      by_cases ik : i = k
      · subst ik
        rw [List.getElem?_set_self kl] at h
        cases h
        cases m
      · rw [List.getElem?_set_ne (Ne.symm ik)] at h; exact h
    intro i j a c1 c2 hi hj h1 h2 m1 m2
    exact e.nd i j a c1 c2 hi hj (pick i c1 h1 m1) (pick j c2 h2 m2) m1 m2
  · intro i c1 a hi hai
    by_cases ik : i = k
    · subst ik
      rw [List.getElem?_set_self kl] at hi
      cases hi
      trivial
    · rw [List.getElem?_set_ne (Ne.symm ik)] at hi
      refine (e.ce i c1 a hi hai).mono sF .refl fun hmi => ⟨upd_ne fun z => ?_, rfl⟩
      subst z
      exact ik (e.nd i k a c1 _ hai ha hi hk hmi rfl)
end
end L3

set_option Elab.async false
set_option linter.all false
set_option maxRecDepth 100000
set_option maxHeartbeats 4000000
/-! Readings over D and cells. -/
namespace L3
open PySem PySem.Spec PyProof.Rows L2

abbrev RE := U → Mu → Prop
abbrev RT := Bool → Mu → Prop
abbrev RA := List U → Mu → Prop
structure DE where
  nx : Ro → Mu → Prop
  rt : U → Mu → Prop
  bk : Ro → Mu → Prop := fun _ _ => False
  ct : Ro → Mu → Prop := fun _ _ => False

section
variable (G : Gx) (F0 H0 : Hp)
def KE (F : Hp) (as : List Addr) (σ : L2.St) (ρ : Ro) (R : RE) (Q : VK) : Prop :=
  ∀ (u : U) (μ' : Mu) (v : V) (F' H' : Hp) (as' : List Addr), R u μ' → Ev G F0 H0 F' H' as' σ ρ μ' → Same F F' → Grw as as' → RpU G as' F' v u → Q v H'
def KT (F : Hp) (as : List Addr) (σ : L2.St) (ρ : Ro) (R : RT) (Q : Bool → Hp → Prop) : Prop :=
  ∀ (b : Bool) (μ' : Mu) (F' H' : Hp) (as' : List Addr), R b μ' → Ev G F0 H0 F' H' as' σ ρ μ' → Same F F' → Grw as as' → Q b H'
def KA (F : Hp) (as : List Addr) (σ : L2.St) (ρ : Ro) (R : RA) (Q : List V → Hp → Prop) : Prop :=
  ∀ (us : List U) (μ' : Mu) (vs : List V) (F' H' : Hp) (as' : List Addr), R us μ' → Ev G F0 H0 F' H' as' σ ρ μ' → Same F F' → Grw as as' → Paired (RpU G as' F') vs us → Q vs H'
def KS (F : Hp) (as : List Addr) (R : Ro → Mu → Prop) (Q : L2.St → Hp → Prop) : Prop :=
  ∀ (ρ' : Ro) (μ' : Mu) (σ' : L2.St) (F' H' : Hp) (as' : List Addr), R ρ' μ' → Ev G F0 H0 F' H' as' σ' ρ' μ' → Same F F' → Grw as as' → Q σ' H'
def KR (F : Hp) (as : List Addr) (R : RE) (Q : VK) : Prop :=
  ∀ (u : U) (μ' : Mu) (v : V) (F' H' : Hp) (as' : List Addr), R u μ' → Ev G F0 H0 F' H' as' [] [] μ' → Same F F' → Grw as as' → RpU G as' F' v u → Q v H'
def wE (t : TE) (ρ : Ro) (μ : Mu) (R : RE) : Prop := ∀ (F H : Hp) (as : List Addr) (σ : L2.St) (Q : VK), Ev G F0 H0 F H as σ ρ μ → KE G F0 H0 F as σ ρ R Q → t σ H Q
def wT (t : TT) (ρ : Ro) (μ : Mu) (R : RT) : Prop := ∀ (F H : Hp) (as : List Addr) (σ : L2.St) (Q : Bool → Hp → Prop), Ev G F0 H0 F H as σ ρ μ → KT G F0 H0 F as σ ρ R Q → t σ H Q
def wA (t : TA) (ρ : Ro) (μ : Mu) (R : RA) : Prop := ∀ (F H : Hp) (as : List Addr) (σ : L2.St) (Q : List V → Hp → Prop), Ev G F0 H0 F H as σ ρ μ → KA G F0 H0 F as σ ρ R Q → t σ H Q
structure KD (F : Hp) (as : List Addr) (D : DE) (X : Ends) : Prop where
  nx : KS G F0 H0 F as D.nx X.nx
  rt : KR G F0 H0 F as D.rt X.rt
  bk : KS G F0 H0 F as D.bk X.bk
  ct : KS G F0 H0 F as D.ct X.ct
def wS (t : TS) (ρ : Ro) (μ : Mu) (D : DE) : Prop := ∀ (F H : Hp) (as : List Addr) (σ : L2.St) (X : Ends), Ev G F0 H0 F H as σ ρ μ → KD G F0 H0 F as D X → t X σ H
/-- a target's -/
def wG (t : TG) (u : U) (ρ : Ro) (μ : Mu) (R : Ro → Mu → Prop) : Prop := ∀ (F H : Hp) (as : List Addr) (σ : L2.St) (v : V) (Q : L2.St → Hp → Prop), Ev G F0 H0 F H as σ ρ μ → RpU G as F v u → KS G F0 H0 F as R Q → t v σ H Q
def wGs (t : TGs) (us : List D) (ρ : Ro) (μ : Mu) (R : Ro → Mu → Prop) : Prop := ∀ (F H : Hp) (as : List Addr) (σ : L2.St) (vs : List V) (Q : L2.St → Hp → Prop), Ev G F0 H0 F H as σ ρ μ → RpAll G F vs us → KS G F0 H0 F as R Q → t vs σ H Q
/-- a rule over two values -/
def w2 (r : R2) (x y : U) (ρ : Ro) (μ : Mu) (R : RE) : Prop := ∀ (F H : Hp) (as : List Addr) (σ : L2.St) (v1 v2 : V) (Q : VK), Ev G F0 H0 F H as σ ρ μ → RpU G as F v1 x → RpU G as F v2 y → KE G F0 H0 F as σ ρ R Q → r v1 v2 H Q
/-- a call's rule -/
def wC (r : List V → Hp → VK → Prop) (us : List U) (ρ : Ro) (μ : Mu) (R : RE) : Prop := ∀ (F H : Hp) (as : List Addr) (σ : L2.St) (vs : List V) (Q : VK), Ev G F0 H0 F H as σ ρ μ → Paired (RpU G as F) vs us → KE G F0 H0 F as σ ρ R Q → r vs H Q
end

section
variable {G : Gx} {F0 H0 : Hp} {F F1 H : Hp} {as as1 : List Addr} {σ : L2.St} {ρ : Ro} {μ : Mu}
theorem KE.on {R : RE} {Q : VK} (k : KE G F0 H0 F as σ ρ R Q) (hF : Same F F1) (ha : Grw as as1) : KE G F0 H0 F1 as1 σ ρ R Q := fun u μ' v F' H' as' h e s g r => k u μ' v F' H' as' h e (hF.trans s) (ha.trans g) r
theorem KT.on {R : RT} {Q : Bool → Hp → Prop} (k : KT G F0 H0 F as σ ρ R Q) (hF : Same F F1) (ha : Grw as as1) : KT G F0 H0 F1 as1 σ ρ R Q := fun u μ' F' H' as' h e s g => k u μ' F' H' as' h e (hF.trans s) (ha.trans g)
theorem KA.on {R : RA} {Q : List V → Hp → Prop} (k : KA G F0 H0 F as σ ρ R Q) (hF : Same F F1) (ha : Grw as as1) : KA G F0 H0 F1 as1 σ ρ R Q := fun u μ' v F' H' as' h e s g r => k u μ' v F' H' as' h e (hF.trans s) (ha.trans g) r
theorem KS.on {R : Ro → Mu → Prop} {Q : L2.St → Hp → Prop} (k : KS G F0 H0 F as R Q) (hF : Same F F1) (ha : Grw as as1) : KS G F0 H0 F1 as1 R Q := fun ρ' μ' σ' F' H' as' h e s g => k ρ' μ' σ' F' H' as' h e (hF.trans s) (ha.trans g)
theorem KR.on {R : RE} {Q : VK} (k : KR G F0 H0 F as R Q) (hF : Same F F1) (ha : Grw as as1) : KR G F0 H0 F1 as1 R Q := fun u μ' v F' H' as' h e s g r => k u μ' v F' H' as' h e (hF.trans s) (ha.trans g) r
theorem KD.on {D : DE} {X : Ends} (k : KD G F0 H0 F as D X) (hF : Same F F1) (ha : Grw as as1) : KD G F0 H0 F1 as1 D X := ⟨k.nx.on hF ha, k.rt.on hF ha, k.bk.on hF ha, k.ct.on hF ha⟩
theorem pu_mono (hF : Same F F1) (ha : Grw as as1) : ∀ {vs : List V} {us : List U}, Paired (RpU G as F) vs us → Paired (RpU G as1 F1) vs us := fun h => paired_imp (fun _ _ r => r.mono hF ha) h

/-! ### expressions -/
variable {R : RE}
theorem wE_imp {t : TE} {R' : RE} (h : wE G F0 H0 t ρ μ R') (k : ∀ u μ', R' u μ' → R u μ') : wE G F0 H0 t ρ μ R := fun F H as σ Q e q => h F H as σ Q e fun u μ' v F' H' as' hr => q u μ' v F' H' as' (k u μ' hr)
theorem wE_var {i : Nat} {u : U} (h : ρ[i]? = some (some u)) (k : R u μ) : wE G F0 H0 (tVar i) ρ μ R := fun F H as σ Q e q => by
  obtain ⟨v, h1, h2⟩ := e.sl i u h
  exact ⟨v, h1, q u μ v F H as k e (.refl _) .refl h2⟩
theorem wE_int {i : Int} (k : R (.d (.int i)) μ) : wE G F0 H0 (tC (.int i)) ρ μ R := fun F H as σ Q e q => q _ _ _ _ _ _ k e (.refl _) .refl (Rp.int i)
theorem wE_bl {i : Bool} (k : R (.d (.bl i)) μ) : wE G F0 H0 (tC (.bl i)) ρ μ R := fun F H as σ Q e q => q _ _ _ _ _ _ k e (.refl _) .refl (Rp.bl i)
theorem wE_str {i : Str} (k : R (.d (.str i)) μ) : wE G F0 H0 (tC (.str i)) ρ μ R := fun F H as σ Q e q => q _ _ _ _ _ _ k e (.refl _) .refl (Rp.str i)
theorem wE_non (k : R (.d .non) μ) : wE G F0 H0 (tC .non) ρ μ R := fun F H as σ Q e q => q _ _ _ _ _ _ k e (.refl _) .refl Rp.non
/-- a constant of the module -/
def Cst (G : Gx) (a : Addr) (d : D) : Prop := ∀ F, Rp G F (.ref a) d
theorem wE_cst {a : Addr} {d : D} (h : Cst G a d) (k : R (.d d) μ) : wE G F0 H0 (tC (.ref a)) ρ μ R := fun F H as σ Q e q => q _ _ _ _ _ _ k e (.refl _) .refl (h F)
theorem wE_op {r : R2} {ta tb : TE} (h : wE G F0 H0 ta ρ μ fun x μ1 => wE G F0 H0 tb ρ μ1 fun y μ2 => w2 G F0 H0 r x y ρ μ2 R) : wE G F0 H0 (tOp r ta tb) ρ μ R := fun F H as σ Q e q => by
  refine h F H as σ _ e fun x μ1 v1 F1 H1 as1 h1 e1 s1 g1 r1 => ?_
  refine h1 F1 H1 as1 σ _ e1 fun y μ2 v2 F2 H2 as2 h2 e2 s2 g2 r2 => ?_
  exact h2 F2 H2 as2 σ v1 v2 Q e2 (r1.mono s2 g2) r2 (q.on (s1.trans s2) (g1.trans g2))
theorem w2_I0 {f : Int → Int → Int} {i j : Int} (k : R (.d (.int (f i j))) μ) : w2 G F0 H0 (rI0 fun i j => .int (f i j)) (.d (.int i)) (.d (.int j)) ρ μ R := fun F H as σ v1 v2 Q e r1 r2 q => by
  cases r1; cases r2
  exact ⟨i, j, rfl, rfl, q _ _ _ _ _ _ k e (.refl _) .refl (Rp.int _)⟩
theorem w2_B0 {f : Int → Int → Bool} {i j : Int} (k : R (.d (.bl (f i j))) μ) : w2 G F0 H0 (rI0 fun i j => .bl (f i j)) (.d (.int i)) (.d (.int j)) ρ μ R := fun F H as σ v1 v2 Q e r1 r2 q => by
  cases r1; cases r2
  exact ⟨i, j, rfl, rfl, q _ _ _ _ _ _ k e (.refl _) .refl (Rp.bl _)⟩
theorem w2_I {C : Int → Int → Prop} {f : Int → Int → Int} {i j : Int} (c : C i j) (k : R (.d (.int (f i j))) μ) : w2 G F0 H0 (rI C fun i j => .int (f i j)) (.d (.int i)) (.d (.int j)) ρ μ R := fun F H as σ v1 v2 Q e r1 r2 q => by
  cases r1; cases r2
  exact ⟨i, j, rfl, rfl, c, q _ _ _ _ _ _ k e (.refl _) .refl (Rp.int _)⟩
theorem wE_un {g : Int → Int} {ta : TE} (h : wE G F0 H0 ta ρ μ fun x μ1 => ∃ i, x = .d (.int i) ∧ R (.d (.int (g i))) μ1) : wE G F0 H0 (tUn (rU fun i => .int (g i)) ta) ρ μ R := fun F H as σ Q e q => by
  refine h F H as σ _ e fun x μ1 v1 F1 H1 as1 h1 e1 s1 g1 r1 => ?_
  obtain ⟨i, rfl, k⟩ := h1
  cases r1
  exact ⟨i, rfl, q _ _ _ _ _ _ k e1 s1 g1 (Rp.int _)⟩
/-! ### lists and tuples that are read -/
def IsL (μ : Mu) (u : U) (ds : List D) : Prop := u = .d (.lst ds) ∨ ∃ k, u = .p k ∧ (μ[k]? = some (.rw ds) ∨ μ[k]? = some (.ro ds))
theorem IsL.seq {u : U} {ds : List D} {v : V} (h : IsL μ u ds) (e : Ev G F0 H0 F H as σ ρ μ) (r : RpU G as F v u) : ∃ a vs, v = .ref a ∧ SqL G.K H a vs ∧ RpAll G F vs ds := by
  rcases h with rfl | ⟨k, rfl, h⟩
  · cases (show Rp G F v (.lst ds) from r) with
    | lst hs ha => exact ⟨_, _, rfl, Same.sqL e.bs.fh hs, ha⟩
  · obtain ⟨a, rfl, ha⟩ := r
    rcases h with h | h
    · obtain ⟨_, _, vs, h3, h4⟩ := e.ce k _ a h ha
      exact ⟨a, vs, rfl, .of h3, h4⟩
    · obtain ⟨vs, h3, h4⟩ := e.ce k _ a h ha
      exact ⟨a, vs, rfl, Same.sqL e.bs.h0 h3, h4⟩
theorem tup_seq {ds : List D} {v : V} (e : Ev G F0 H0 F H as σ ρ μ) (r : Rp G F v (.tup ds)) : ∃ a vs, v = .ref a ∧ SqT G.K H a vs ∧ RpAll G F vs ds := by
  cases r with
  | tup hs ha => exact ⟨_, _, rfl, Same.sqT e.bs.fh hs, ha⟩
theorem atI_map {vs : List V} {ds : List D} {i : Int} {d : D} (h : RpAll G F vs ds) (e : atI ds i = some d) : ∃ v, atI vs i = some v ∧ Rp G F v d := by
  unfold atI at e ⊢
  rw [← h.length] at e
  cases q : ixN vs.length i with
  | none => rw [q] at e; cases e
  | some j =>
    rw [q] at e
    obtain ⟨v, h1, h2⟩ := h.get (i := j) (d := d) e
    exact ⟨v, h1, h2⟩
theorem w2_ixT {ds : List D} {i : Int} {d : D} (h : atI ds i = some d) (k : R (.d d) μ) : w2 G F0 H0 (rIxT G.K) (.d (.tup ds)) (.d (.int i)) ρ μ R := fun F H as σ v1 v2 Q e r1 r2 q => by
  cases r2
  obtain ⟨a, vs, rfl, hs, ha⟩ := tup_seq e r1
  obtain ⟨v, h1, h2⟩ := atI_map ha h
  exact ⟨a, vs, i, v, rfl, rfl, hs, h1, q _ _ _ _ _ _ k e (.refl _) .refl h2⟩
theorem w2_ixL {u : U} {ds : List D} {i : Int} {d : D} (hl : IsL μ u ds) (h : atI ds i = some d) (k : R (.d d) μ) : w2 G F0 H0 (rIxL G.K) u (.d (.int i)) ρ μ R := fun F H as σ v1 v2 Q e r1 r2 q => by
  cases r2
  obtain ⟨a, vs, rfl, hs, ha⟩ := hl.seq e r1
  obtain ⟨v, h1, h2⟩ := atI_map ha h
  exact ⟨a, vs, i, v, rfl, rfl, hs, h1, q _ _ _ _ _ _ k e (.refl _) .refl h2⟩
/-! ### argument lists -/
theorem wA_nil {R : RA} (k : R [] μ) : wA G F0 H0 tNil ρ μ R := fun F H as σ Q e q => q _ _ _ _ _ _ k e (.refl _) .refl .nil
theorem wA_cons {R : RA} {te : TE} {t : TA} (h : wE G F0 H0 te ρ μ fun u μ1 => wA G F0 H0 t ρ μ1 fun us μ2 => R (u :: us) μ2) : wA G F0 H0 (tCons te t) ρ μ R := fun F H as σ Q e q => by
  refine h F H as σ _ e fun x μ1 v1 F1 H1 as1 h1 e1 s1 g1 r1 => ?_
  refine h1 F1 H1 as1 σ _ e1 fun us μ2 vs F2 H2 as2 h2 e2 s2 g2 r2 => ?_
  exact q _ _ _ _ _ _ h2 e2 (s1.trans s2) (g1.trans g2) (.cons (r1.mono s2 g2) r2)
theorem rpAll_of_d : ∀ {ds : List D} {vs : List V}, Paired (RpU G as F) vs (ds.map U.d) → RpAll G F vs ds
  | [], _, h => by cases h; exact .nil
  | d :: ds, _, h => by
    cases h with
    | cons a b => exact .cons a (rpAll_of_d b)
theorem line_of {n : Nat} (h : n ≤ 1000000) : n ≤ sizeLine := by rw [sizeLine_eq]; omega
theorem wE_tup {t : TA} (h : wA G F0 H0 t ρ μ fun us μ1 => ∃ ds : List D, us = ds.map U.d ∧ ds.length ≤ 1000000 ∧ R (.d (.tup ds)) μ1) : wE G F0 H0 (tTup t) ρ μ R := fun F H as σ Q e q => by
  refine h F H as σ _ e fun us μ1 vs F1 H1 as1 h1 e1 s1 g1 r1 => ?_
  obtain ⟨ds, rfl, hl, k⟩ := h1
  have ra := rpAll_of_d r1
  refine ⟨by rw [ra.length]; exact line_of hl, fun p hp => ?_⟩
  obtain ⟨e2, s2⟩ := e1.fresh (o := .tup vs) hp
  exact q _ _ _ _ _ _ k e2 (s1.trans s2) g1 (Rp.tup (.of upd_same) (RpAll.mono s2 _ ra))
theorem wE_lst {t : TA} (h : wA G F0 H0 t ρ μ fun us μ1 => ∃ ds : List D, us = ds.map U.d ∧ ds.length ≤ 1000000 ∧ R (.p μ1.length) (μ1 ++ [.rw ds])) : wE G F0 H0 (tLst t) ρ μ R := fun F H as σ Q e q => by
  refine h F H as σ _ e fun us μ1 vs F1 H1 as1 h1 e1 s1 g1 r1 => ?_
  obtain ⟨ds, rfl, hl, k⟩ := h1
  have ra := rpAll_of_d r1
  refine ⟨by rw [ra.length]; exact line_of hl, fun p hp => ?_⟩
  have e2 := e1.cell (o := .lst vs) (c := .rw ds) hp ⟨e1.bs.h0.free hp, e1.bs.fh.free hp, vs, upd_same, ra⟩
  refine q _ _ _ _ _ _ k e2 s1 (g1.trans .app) ⟨p, rfl, ?_⟩
  rw [← e1.al, List.getElem?_append_right (Nat.le_refl _)]
  simp
/-- a list of one's own, made data -/
theorem wE_frz {t : TE} (h : wE G F0 H0 t ρ μ fun u μ1 => ∃ k ds, u = .p k ∧ μ1[k]? = some (.rw ds) ∧ R (.d (.lst ds)) (μ1.set k .gone)) : wE G F0 H0 t ρ μ R := fun F H as σ Q e q => by
  refine h F H as σ _ e fun u μ1 v F1 H1 as1 h1 e1 s1 g1 r1 => ?_
  obtain ⟨k, ds, rfl, hk, kk⟩ := h1
  obtain ⟨a, rfl, ha⟩ := r1
  obtain ⟨F2, s2, r2, e2⟩ := e1.freeze hk ha
  exact q _ _ _ _ _ _ kk e2 (s1.trans s2) g1 r2
/-! ### built-ins called -/
theorem wE_cb {r : List V → Hp → VK → Prop} {t : TA} (h : wA G F0 H0 t ρ μ fun us μ1 => wC G F0 H0 r us ρ μ1 R) : wE G F0 H0 (tCB r t) ρ μ R := fun F H as σ Q e q => by
  refine h F H as σ _ e fun us μ1 vs F1 H1 as1 h1 e1 s1 g1 r1 => ?_
  exact h1 F1 H1 as1 σ vs Q e1 r1 (q.on s1 g1)
theorem p1 {v : List V} {u : U} {RR : V → U → Prop} (h : Paired RR v [u]) : ∃ x, v = [x] ∧ RR x u := by
  cases h with
  | cons a b => cases b; exact ⟨_, rfl, a⟩
theorem p2 {v : List V} {u u' : U} {RR : V → U → Prop} (h : Paired RR v [u, u']) : ∃ x y, v = [x, y] ∧ RR x u ∧ RR y u' := by
  cases h with
  | cons a b => obtain ⟨y, rfl, c⟩ := p1 b; exact ⟨_, _, rfl, a, c⟩
abbrev rLen (K : PySem.W.Frag) : List V → Hp → VK → Prop := fun xs H Q => ∃ p ys, xs = [.ref p] ∧ (SqL K H p ys ∨ SqT K H p ys) ∧ Q (.int ys.length) H
theorem wC_lenL {u : U} {ds : List D} (hl : IsL μ u ds) (k : R (.d (.int ds.length)) μ) : wC G F0 H0 (rLen G.K) [u] ρ μ R := fun F H as σ vs Q e r q => by
  obtain ⟨v, rfl, r9⟩ := p1 r
  obtain ⟨a, vs, rfl, hs, ha⟩ := hl.seq e r9
  refine ⟨a, vs, rfl, .inl hs, ?_⟩
  rw [ha.length]
  exact q _ _ _ _ _ _ k e (.refl _) .refl (Rp.int _)
theorem wC_lenT {ds : List D} (k : R (.d (.int ds.length)) μ) : wC G F0 H0 (rLen G.K) [.d (.tup ds)] ρ μ R := fun F H as σ vs Q e r q => by
  obtain ⟨v, rfl, r9⟩ := p1 r
  obtain ⟨a, vs, rfl, hs, ha⟩ := tup_seq e r9
  refine ⟨a, vs, rfl, .inr hs, ?_⟩
  rw [ha.length]
  exact q _ _ _ _ _ _ k e (.refl _) .refl (Rp.int _)
theorem wC_any {u : U} {bs : List Bool} (hl : IsL μ u (bs.map D.bl)) (k : R (.d (.bl (bs.any id))) μ) : wC G F0 H0 (rAny G.K) [u] ρ μ R := fun F H as σ vs Q e r q => by
  obtain ⟨v, rfl, r9⟩ := p1 r
  obtain ⟨a, vs, rfl, hs, ha⟩ := hl.seq e r9
  rw [ha.of_bls] at hs
  exact ⟨a, bs, rfl, hs, q _ _ _ _ _ _ k e (.refl _) .refl (Rp.bl _)⟩
theorem wC_all {u : U} {bs : List Bool} (hl : IsL μ u (bs.map D.bl)) (k : R (.d (.bl (bs.all id))) μ) : wC G F0 H0 (rAll G.K) [u] ρ μ R := fun F H as σ vs Q e r q => by
  obtain ⟨v, rfl, r9⟩ := p1 r
  obtain ⟨a, vs, rfl, hs, ha⟩ := hl.seq e r9
  rw [ha.of_bls] at hs
  exact ⟨a, bs, rfl, hs, q _ _ _ _ _ _ k e (.refl _) .refl (Rp.bl _)⟩
theorem wC_listof {u : U} {ds : List D} (hl : IsL μ u ds) (k : R (.p μ.length) (μ ++ [.rw ds])) :
    wC G F0 H0 (fun xs H Q => ∃ p ys, xs = [.ref p] ∧ (SqL G.K H p ys ∨ SqT G.K H p ys) ∧ ∀ l, H l = none → Q (.ref l) (upd H l (.lst ys))) [u] ρ μ R := fun F H as σ vs Q e r q => by
  obtain ⟨v, rfl, r9⟩ := p1 r
  obtain ⟨a, vs, rfl, hs, ha⟩ := hl.seq e r9
  refine ⟨a, vs, rfl, .inl hs, fun p hp => ?_⟩
  have e2 := e.cell (o := .lst vs) (c := .rw ds) hp ⟨e.bs.h0.free hp, e.bs.fh.free hp, vs, upd_same, ha⟩
  refine q _ _ _ _ _ _ k e2 (.refl _) .app ⟨p, rfl, ?_⟩
  rw [← e.al, List.getElem?_append_right (Nat.le_refl _)]
  simp
theorem wC_sorted {u : U} {ns : List Int} (hl : IsL μ u (ns.map D.int)) (h64 : ns.length < 64) (k : ∀ ns' : List Int, ns'.Perm ns → ns'.Pairwise (· ≤ ·) → R (.p μ.length) (μ ++ [.rw (ns'.map D.int)])) : wC G F0 H0 (rSorted G.K) [u] ρ μ R := fun F H as σ vs Q e r q => by
  obtain ⟨v, rfl, r9⟩ := p1 r
  obtain ⟨a, vs, rfl, hs, ha⟩ := hl.seq e r9
  rw [ha.of_ints] at hs
  refine ⟨a, ns, rfl, hs, h64, fun ns' p h1 h2 hp => ?_⟩
  have e2 := e.cell (o := .lst (ns'.map V.int)) (c := .rw (ns'.map D.int)) hp ⟨e.bs.h0.free hp, e.bs.fh.free hp, _, upd_same, RpAll.ints _⟩
  refine q _ _ _ _ _ _ (k ns' h1 h2) e2 (.refl _) .app ⟨p, rfl, ?_⟩
  rw [← e.al, List.getElem?_append_right (Nat.le_refl _)]
  simp
/-! ### tests -/
theorem wT_test {t : TE} {R : RT} (h : wE G F0 H0 t ρ μ fun u μ1 => ∃ b, u = .d (.bl b) ∧ R b μ1) : wT G F0 H0 (tTest t) ρ μ R := fun F H as σ Q e q => by
  refine h F H as σ _ e fun x μ1 v1 F1 H1 as1 h1 e1 s1 g1 r1 => ?_
  obtain ⟨b, rfl, k⟩ := h1
  cases r1
  exact ⟨b, rfl, q _ _ _ _ _ k e1 s1 g1⟩
theorem wT_b {t : TE} {R : RT} (h : wE G F0 H0 t ρ μ fun u μ1 => ∃ b, u = .d (.bl b) ∧ R b μ1) : wT G F0 H0 (tB t) ρ μ R := wT_test h
theorem wT_and {t u : TT} {R : RT} (h : wT G F0 H0 t ρ μ fun b μ1 => if b = true then wT G F0 H0 u ρ μ1 R else R false μ1) : wT G F0 H0 (tAnd t u) ρ μ R := fun F H as σ Q e q => by
  refine h F H as σ _ e fun b μ1 F1 H1 as1 h1 e1 s1 g1 => ?_
  cases b with
  | true => exact iteT ((iteT_of h1) F1 H1 as1 σ Q e1 (q.on s1 g1))
  | false => exact iteF (q _ _ _ _ _ (iteF_of h1) e1 s1 g1)
where
  iteT_of {A B : Prop} (h : if true = true then A else B) : A := by rwa [if_pos rfl] at h
  iteF_of {A B : Prop} (h : if false = true then A else B) : B := by rwa [if_neg Bool.false_ne_true] at h
theorem tt_of {A B : Prop} (h : if true = true then A else B) : A := by rwa [if_pos rfl] at h
theorem ff_of {A B : Prop} (h : if false = true then A else B) : B := by rwa [if_neg Bool.false_ne_true] at h
theorem wT_or {t u : TT} {R : RT} (h : wT G F0 H0 t ρ μ fun b μ1 => if b = true then R true μ1 else wT G F0 H0 u ρ μ1 R) : wT G F0 H0 (tOr t u) ρ μ R := fun F H as σ Q e q => by
  refine h F H as σ _ e fun b μ1 F1 H1 as1 h1 e1 s1 g1 => ?_
  cases b with
  | true => exact iteT (q _ _ _ _ _ (tt_of h1) e1 s1 g1)
  | false => exact iteF ((ff_of h1) F1 H1 as1 σ Q e1 (q.on s1 g1))
theorem wT_not {t : TT} {R : RT} (h : wT G F0 H0 t ρ μ fun b μ1 => R (!b) μ1) : wT G F0 H0 (tNot t) ρ μ R := fun F H as σ Q e q =>
  h F H as σ _ e fun b μ1 F1 H1 as1 h1 e1 s1 g1 => q _ _ _ _ _ h1 e1 s1 g1
theorem wT_yes {R : RT} (k : R true μ) : wT G F0 H0 tYes ρ μ R := fun F H as σ Q e q => q _ _ _ _ _ k e (.refl _) .refl
theorem wE_and {ta tb : TE} (h : wE G F0 H0 ta ρ μ fun u μ1 => ∃ b, u = .d (.bl b) ∧ if b = true then wE G F0 H0 tb ρ μ1 R else R (.d (.bl false)) μ1) : wE G F0 H0 (tAndV ta tb) ρ μ R := fun F H as σ Q e q => by
  refine h F H as σ _ e fun x μ1 v1 F1 H1 as1 h1 e1 s1 g1 r1 => ?_
  obtain ⟨b, rfl, k⟩ := h1
  cases r1
  refine ⟨b, rfl, ?_⟩
  cases b with
  | true => exact iteT ((tt_of k) F1 H1 as1 σ Q e1 (q.on s1 g1))
  | false => exact iteF (q _ _ _ _ _ _ (ff_of k) e1 s1 g1 (Rp.bl _))
theorem wE_or {ta tb : TE} (h : wE G F0 H0 ta ρ μ fun u μ1 => ∃ b, u = .d (.bl b) ∧ if b = true then R (.d (.bl true)) μ1 else wE G F0 H0 tb ρ μ1 R) : wE G F0 H0 (tOrV ta tb) ρ μ R := fun F H as σ Q e q => by
  refine h F H as σ _ e fun x μ1 v1 F1 H1 as1 h1 e1 s1 g1 r1 => ?_
  obtain ⟨b, rfl, k⟩ := h1
  cases r1
  refine ⟨b, rfl, ?_⟩
  cases b with
  | true => exact iteT (q _ _ _ _ _ _ (tt_of k) e1 s1 g1 (Rp.bl _))
  | false => exact iteF ((ff_of k) F1 H1 as1 σ Q e1 (q.on s1 g1))
theorem wE_not {ta : TE} (h : wE G F0 H0 ta ρ μ fun u μ1 => ∃ b, u = .d (.bl b) ∧ R (.d (.bl (!b))) μ1) : wE G F0 H0 (tNotV ta) ρ μ R := fun F H as σ Q e q => by
  refine h F H as σ _ e fun x μ1 v1 F1 H1 as1 h1 e1 s1 g1 r1 => ?_
  obtain ⟨b, rfl, k⟩ := h1
  cases r1
  exact ⟨b, rfl, q _ _ _ _ _ _ k e1 s1 g1 (Rp.bl _)⟩
theorem wE_ifE {t : TT} {ta tb : TE} (h : wT G F0 H0 t ρ μ fun b μ1 => if b = true then wE G F0 H0 ta ρ μ1 R else wE G F0 H0 tb ρ μ1 R) : wE G F0 H0 (tIf t ta tb) ρ μ R := fun F H as σ Q e q => by
  refine h F H as σ _ e fun b μ1 F1 H1 as1 h1 e1 s1 g1 => ?_
  cases b with
  | true => exact iteT ((tt_of h1) F1 H1 as1 σ Q e1 (q.on s1 g1))
  | false => exact iteF ((ff_of h1) F1 H1 as1 σ Q e1 (q.on s1 g1))
/-! ### targets -/
theorem wG_name {i : Nat} {u : U} {R : Ro → Mu → Prop} (k : R (ρ.set i (some u)) μ) : wG G F0 H0 (gName i) u ρ μ R := fun F H as σ v Q e r q => q _ _ _ _ _ _ k (e.store r) (.refl _) .refl
theorem wGs_nil {R : Ro → Mu → Prop} (k : R ρ μ) : wGs G F0 H0 gNil [] ρ μ R := fun F H as σ v Q e r q => by
  cases r
  exact ⟨rfl, q _ _ _ _ _ _ k e (.refl _) .refl⟩
theorem wGs_cons {t : TG} {ts : TGs} {d : D} {ds : List D} {R : Ro → Mu → Prop} (h : wG G F0 H0 t (.d d) ρ μ fun ρ' μ' => wGs G F0 H0 ts ds ρ' μ' R) : wGs G F0 H0 (gCons t ts) (d :: ds) ρ μ R := fun F H as σ v Q e r q => by
  cases r with
  | cons a b =>
    refine ⟨_, _, rfl, h F H as σ _ _ e a fun ρ' μ' σ' F' H' as' h1 e1 s1 g1 => ?_⟩
    exact h1 F' H' as' σ' _ Q e1 (RpAll.mono s1 _ b) (q.on s1 g1)
theorem wG_tup {n : Nat} {t : TGs} {ds : List D} {R : Ro → Mu → Prop} (hn : ds.length = n) (h : wGs G F0 H0 t ds ρ μ R) : wG G F0 H0 (gTup G.K n t) (.d (.tup ds)) ρ μ R := fun F H as σ v Q e r q => by
  obtain ⟨a, vs, rfl, hs, ha⟩ := tup_seq e r
  exact ⟨a, vs, rfl, hs, by rw [ha.length]; exact hn, h F H as σ vs Q e ha q⟩
/-! ### statements -/
variable {D' : DE}
theorem wS_seq {t u : TS} (h : wS G F0 H0 t ρ μ { D' with nx := fun ρ' μ' => wS G F0 H0 u ρ' μ' D' }) : wS G F0 H0 (tSeq t u) ρ μ D' := fun F H as σ X e k =>
  h F H as σ _ e ⟨fun ρ' μ' σ' F' H' as' h1 e1 s1 g1 => h1 F' H' as' σ' X e1 (k.on s1 g1), k.rt, k.bk, k.ct⟩
theorem wS_next (k : D'.nx ρ μ) : wS G F0 H0 tNext ρ μ D' := fun F H as σ X e q => q.nx _ _ _ _ _ _ k e (.refl _) .refl
theorem wS_brk (k : D'.bk ρ μ) : wS G F0 H0 tBreak ρ μ D' := fun F H as σ X e q => q.bk _ _ _ _ _ _ k e (.refl _) .refl
theorem wS_cont (k : D'.ct ρ μ) : wS G F0 H0 tCont ρ μ D' := fun F H as σ X e q => q.ct _ _ _ _ _ _ k e (.refl _) .refl
theorem wS_asg {te : TE} {g : TG} (h : wE G F0 H0 te ρ μ fun u μ1 => wG G F0 H0 g u ρ μ1 D'.nx) : wS G F0 H0 (tAsg te g) ρ μ D' := fun F H as σ X e q => by
  refine h F H as σ _ e fun x μ1 v1 F1 H1 as1 h1 e1 s1 g1 r1 => ?_
  exact h1 F1 H1 as1 σ v1 _ e1 r1 (q.nx.on s1 g1)
theorem wS_drop {te : TE} (h : wE G F0 H0 te ρ μ fun _ μ1 => D'.nx ρ μ1) : wS G F0 H0 (tDrop te) ρ μ D' := fun F H as σ X e q => by
  refine h F H as σ _ e fun x μ1 v1 F1 H1 as1 h1 e1 s1 g1 r1 => ?_
  exact q.nx _ _ _ _ _ _ h1 e1 s1 g1
theorem wS_ret {te : TE} (h : wE G F0 H0 te ρ μ D'.rt) : wS G F0 H0 (tRet te) ρ μ D' := fun F H as σ X e q => by
  refine h F H as σ _ e fun x μ1 v1 F1 H1 as1 h1 e1 s1 g1 r1 => ?_
  exact q.rt _ _ _ _ _ _ h1 e1.noSlots s1 g1 r1
theorem wS_retN (h : D'.rt (.d .non) μ) : wS G F0 H0 tRetN ρ μ D' := fun F H as σ X e q => q.rt _ _ _ _ _ _ h e.noSlots (.refl _) .refl Rp.non
theorem wS_if {c : TT} {t u : TS} (h : wT G F0 H0 c ρ μ fun b μ1 => if b = true then wS G F0 H0 t ρ μ1 D' else wS G F0 H0 u ρ μ1 D') : wS G F0 H0 (tIfS c t u) ρ μ D' := fun F H as σ X e q => by
  refine h F H as σ _ e fun b μ1 F1 H1 as1 h1 e1 s1 g1 => ?_
  cases b with
  | true => exact iteT ((tt_of h1) F1 H1 as1 σ X e1 (q.on s1 g1))
  | false => exact iteF ((ff_of h1) F1 H1 as1 σ X e1 (q.on s1 g1))
theorem wS_par {i j : Nat} {ta : TA} (h : wA G F0 H0 ta ρ μ fun us μ1 => ∃ u w, us = [u, w] ∧ D'.nx ((ρ.set i (some u)).set j (some w)) μ1) : wS G F0 H0 (tPar i j ta) ρ μ D' := fun F H as σ X e q => by
  refine h F H as σ _ e fun us μ1 vs F1 H1 as1 h1 e1 s1 g1 r1 => ?_
  obtain ⟨u, w, rfl, k⟩ := h1
  obtain ⟨x, y, rfl, r1, r2⟩ := p2 r1
  exact ⟨x, y, rfl, q.nx _ _ _ _ _ _ k ((e1.store r1).store r2) s1 g1⟩
theorem wS_aug {i : Nat} {te : TE} {f : Int → Int → Int} (h : ∃ a, ρ[i]? = some (some (.d (.int a))) ∧ wE G F0 H0 te ρ μ fun u μ1 => ∃ b, u = .d (.int b) ∧ D'.nx (ρ.set i (some (.d (.int (f a b))))) μ1) :
    wS G F0 H0 (tAug i te (fun x y H Q => ∃ i j, x = .int i ∧ y = .int j ∧ Q (.int (f i j)) H)) ρ μ D' := fun F H as σ X e q => by
  obtain ⟨a, ha, h⟩ := h
  obtain ⟨v, h1, h2⟩ := e.sl i _ ha
  cases h2
  refine ⟨_, h1, h F H as σ _ e fun x μ1 v1 F1 H1 as1 h1 e1 s1 g1 r1 => ?_⟩
  obtain ⟨b, rfl, k⟩ := h1
  cases r1
  exact ⟨a, b, rfl, rfl, q.nx _ _ _ _ _ _ k (e1.store (u := .d (.int (f a b))) (Rp.int (f a b))) s1 g1⟩
theorem wS_while {c : TT} {tb : TS} (I : Ro → Mu → Prop) (f : Ro → Mu → Nat) (h0 : I ρ μ)
    (hs : ∀ ρ' μ', I ρ' μ' → wT G F0 H0 c ρ' μ' fun b μ1 => if b = true then wS G F0 H0 tb ρ' μ1 { nx := fun ρ2 μ2 => I ρ2 μ2 ∧ f ρ2 μ2 < f ρ' μ', ct := fun ρ2 μ2 => I ρ2 μ2 ∧ f ρ2 μ2 < f ρ' μ', bk := D'.nx, rt := D'.rt } else D'.nx ρ' μ1) :
    wS G F0 H0 (tWhile c tb) ρ μ D' := fun F H as σ X e q => by
  refine ⟨fun m σ1 H1 => ∃ F1 as1 ρ1 μ1, Ev G F0 H0 F1 H1 as1 σ1 ρ1 μ1 ∧ Same F F1 ∧ Grw as as1 ∧ I ρ1 μ1 ∧ f ρ1 μ1 = m, ⟨_, F, as, ρ, μ, e, .refl _, .refl, h0, rfl⟩, ?_⟩
  rintro m σ1 H1 ⟨F1, as1, ρ1, μ1, e1, s1, g1, i1, rfl⟩
  refine hs ρ1 μ1 i1 F1 H1 as1 σ1 _ e1 fun b μ2 F2 H2 as2 h2 e2 s2 g2 => ?_
  cases b with
  | true =>
    refine iteT ⟨fun σ' H' => ∃ F3 as3 ρ3 μ3, Ev G F0 H0 F3 H' as3 σ' ρ3 μ3 ∧ Same F F3 ∧ Grw as as3 ∧ I ρ3 μ3 ∧ f ρ3 μ3 < f ρ1 μ1, ?_, ?_⟩
    · rintro σ' H' ⟨F3, as3, ρ3, μ3, e3, s3, g3, i3, l3⟩
      exact ⟨_, l3, F3, as3, ρ3, μ3, e3, s3, g3, i3, rfl⟩
    · refine (tt_of h2) F2 H2 as2 σ1 _ e2 ⟨?_, (q.rt.on s1 g1).on s2 g2, (q.nx.on s1 g1).on s2 g2, ?_⟩
      · intro ρ' μ' σ' F' H' as' h' e' s' g'
        exact ⟨F', as', ρ', μ', e', s1.trans (s2.trans s'), g1.trans (g2.trans g'), h'.1, h'.2⟩
      · intro ρ' μ' σ' F' H' as' h' e' s' g'
        exact ⟨F', as', ρ', μ', e', s1.trans (s2.trans s'), g1.trans (g2.trans g'), h'.1, h'.2⟩
  | false => exact iteF (q.nx _ _ _ _ _ _ (ff_of h2) e2 (s1.trans s2) (g1.trans g2))
theorem wS_for {tl : TE} {g : TG} {tb : TS} (h : wE G F0 H0 tl ρ μ fun u μ1 => ∃ ds, IsL μ1 u ds ∧ ∃ I : Nat → Ro → Mu → Prop, I 0 ρ μ1 ∧ (∀ i ρ' μ', I i ρ' μ' → IsL μ' u ds) ∧
      (∀ i d ρ' μ', ds[i]? = some d → I i ρ' μ' → wG G F0 H0 g (.d d) ρ' μ' fun ρ2 μ2 => wS G F0 H0 tb ρ2 μ2 { nx := I (i + 1), ct := I (i + 1), bk := D'.nx, rt := D'.rt }) ∧ ∀ ρ' μ', I ds.length ρ' μ' → D'.nx ρ' μ') :
    wS G F0 H0 (tFor (iList G.K tl) g tb) ρ μ D' := fun F H as σ X e q => by
  refine h F H as σ _ e fun u μ1 v F1 H1 as1 h1 e1 s1 g1 r1 => ?_
  obtain ⟨ds, hl, I, i0, ip, is, ie⟩ := h1
  obtain ⟨a, vs0, rfl, hs0, _⟩ := hl.seq e1 r1
  have rd : ∀ {F2 H2 as2 σ2 ρ2 μ2} {i : Nat}, Ev G F0 H0 F2 H2 as2 σ2 ρ2 μ2 → Same F1 F2 → Grw as1 as2 → I i ρ2 μ2 → ∃ vs, SqL G.K H2 a vs ∧ RpAll G F2 vs ds := fun {F2 H2 as2 σ2 ρ2 μ2 i} e2 s2 g2 i2 => by
    obtain ⟨a', vs, ea, hs, ha⟩ := (ip i ρ2 μ2 i2).seq e2 (r1.mono s2 g2)
    cases ea
    exact ⟨vs, hs, ha⟩
  refine ⟨a, rfl, ⟨vs0, hs0⟩, fun i m σ2 H2 => ∃ F2 as2 ρ2 μ2, Ev G F0 H0 F2 H2 as2 σ2 ρ2 μ2 ∧ Same F1 F2 ∧ Grw as1 as2 ∧ I i ρ2 μ2 ∧ i + m = ds.length, ⟨ds.length, F1, as1, ρ, μ1, e1, .refl _, .refl, i0, by omega⟩, ?_⟩
  rintro i m σ2 H2 ⟨F2, as2, ρ2, μ2, e2, s2, g2, i2, em⟩
  obtain ⟨vs, hs, ha⟩ := rd e2 s2 g2 i2
  by_cases hi : i < ds.length
  · have hv : i < vs.length := by rw [ha.length]; exact hi
    refine .inr ⟨⟨vs, vs[i], hs, by simp [hv]⟩, fun σ' H' => ∃ F3 as3 ρ3 μ3, Ev G F0 H0 F3 H' as3 σ' ρ3 μ3 ∧ Same F1 F3 ∧ Grw as1 as3 ∧ I (i + 1) ρ3 μ3, ?_, fun x H' y => ?_⟩
    · rintro σ' H' ⟨F3, as3, ρ3, μ3, e3, s3, g3, i3⟩
      exact ⟨m - 1, by omega, F3, as3, ρ3, μ3, e3, s3, g3, i3, by omega⟩
    · obtain ⟨rfl, y⟩ := y
      have hx := y vs hs
      obtain ⟨d, hd, rd⟩ := ha.getV hx
      refine is i d ρ2 μ2 hd i2 F2 H' as2 σ2 x _ e2 rd fun ρ3 μ3 σ3 F3 H3 as3 h3 e3 s3 g3 => ?_
      refine h3 F3 H3 as3 σ3 _ e3 ⟨?_, ((q.rt.on s1 g1).on s2 g2).on s3 g3, ((q.nx.on s1 g1).on s2 g2).on s3 g3, ?_⟩
      · intro ρ' μ' σ' F' H' as' h' e' s' g'
        exact ⟨F', as', ρ', μ', e', s2.trans (s3.trans s'), g2.trans (g3.trans g'), h'⟩
      · intro ρ' μ' σ' F' H' as' h' e' s' g'
        exact ⟨F', as', ρ', μ', e', s2.trans (s3.trans s'), g2.trans (g3.trans g'), h'⟩
  · have ei : i = ds.length := by omega
    subst ei
    exact .inl ⟨⟨vs, hs, by rw [ha.length]; exact Nat.le_refl _⟩, q.nx _ _ _ _ _ _ (ie _ _ i2) e2 (s1.trans s2) (g1.trans g2)⟩
theorem wS_rng {J : TI} {lo : Int} {n : Nat} {g : TG} {tb : TS} (hJ : ∀ (F H : Hp) (as : List Addr) (σ : L2.St) (RR : It → Hp → Prop), Ev G F0 H0 F H as σ ρ μ → (∀ (F' H' : Hp) (as' : List Addr) (μ' : Mu), Ev G F0 H0 F' H' as' σ ρ μ' → μ' = μ → Same F F' → Grw as as' → RR (Itr lo n) H') → J σ H RR)
    (I : Nat → Ro → Mu → Prop) (h0 : I 0 ρ μ)
    (hs : ∀ i ρ' μ', i < n → I i ρ' μ' → wG G F0 H0 g (.d (.int (lo + i))) ρ' μ' fun ρ2 μ2 => wS G F0 H0 tb ρ2 μ2 { nx := I (i + 1), ct := I (i + 1), bk := D'.nx, rt := D'.rt }) (hd : ∀ ρ' μ', I n ρ' μ' → D'.nx ρ' μ') :
    wS G F0 H0 (tFor J g tb) ρ μ D' := fun F H as σ X e q => by
  refine hJ F H as σ _ e fun F1 H1 as1 μ1 e1 em s1 g1 => ?_
  subst em
  refine ⟨fun i m σ2 H2 => ∃ F2 as2 ρ2 μ2, Ev G F0 H0 F2 H2 as2 σ2 ρ2 μ2 ∧ Same F1 F2 ∧ Grw as1 as2 ∧ I i ρ2 μ2 ∧ i + m = n, ⟨n, F1, as1, ρ, μ1, e1, .refl _, .refl, h0, by omega⟩, ?_⟩
  rintro i m σ2 H2 ⟨F2, as2, ρ2, μ2, e2, s2, g2, i2, em⟩
  by_cases hi : i < n
  · refine .inr ⟨hi, fun σ' H' => ∃ F3 as3 ρ3 μ3, Ev G F0 H0 F3 H' as3 σ' ρ3 μ3 ∧ Same F1 F3 ∧ Grw as1 as3 ∧ I (i + 1) ρ3 μ3, ?_, fun x H' y => ?_⟩
    · rintro σ' H' ⟨F3, as3, ρ3, μ3, e3, s3, g3, i3⟩
      exact ⟨m - 1, by omega, F3, as3, ρ3, μ3, e3, s3, g3, i3, by omega⟩
    · obtain ⟨rfl, rfl⟩ := y
      refine hs i ρ2 μ2 hi i2 F2 H' as2 σ2 _ _ e2 (Rp.int _) fun ρ3 μ3 σ3 F3 H3 as3 h3 e3 s3 g3 => ?_
      refine h3 F3 H3 as3 σ3 _ e3 ⟨?_, ((q.rt.on s1 g1).on s2 g2).on s3 g3, ((q.nx.on s1 g1).on s2 g2).on s3 g3, ?_⟩
      · intro ρ' μ' σ' F' H' as' h' e' s' g'
        exact ⟨F', as', ρ', μ', e', s2.trans (s3.trans s'), g2.trans (g3.trans g'), h'⟩
      · intro ρ' μ' σ' F' H' as' h' e' s' g'
        exact ⟨F', as', ρ', μ', e', s2.trans (s3.trans s'), g2.trans (g3.trans g'), h'⟩
  · have ei : i = n := by omega
    subst ei
    exact .inl ⟨Nat.le_refl _, q.nx _ _ _ _ _ _ (hd _ _ i2) e2 (s1.trans s2) (g1.trans g2)⟩
end
end L3

set_option Elab.async false
set_option linter.all false
set_option maxRecDepth 100000
set_option maxHeartbeats 4000000
/-! What a def promises over D; its proof, its call; equality, kinds, comprehensions, attributes, methods. -/
namespace L3
open PySem PySem.Spec PyProof.Rows L2

inductive Arg where
  | d (x : D) | l (ds : List D)
inductive Res where
  | d (x : D) | own (ds : List D) | own2 (dss : List (List D))
def ArgOk (G : Gx) (F H : Hp) (v : V) : Arg → Prop
  | .d x => Rp G F v x
  | .l ds => ∃ p vs, v = .ref p ∧ SqL G.K H p vs ∧ RpAll G F vs ds
def OwnOk (G : Gx) (H F' H' : Hp) (p : Addr) (ds : List D) : Prop := H p = none ∧ F' p = none ∧ ∃ vs, H' p = some (.lst vs) ∧ RpAll G F' vs ds
def ResOk (G : Gx) (H F' H' : Hp) (v : V) : Res → Prop
  | .d x => Rp G F' v x
  | .own ds => ∃ p, v = .ref p ∧ OwnOk G H F' H' p ds
  | .own2 dss => ∃ (p : Addr) (ps : List Addr), v = .ref p ∧ H p = none ∧ F' p = none ∧ H' p = some (.lst (ps.map V.ref)) ∧ (p :: ps).Nodup ∧ Paired (OwnOk G H F' H') ps dss
abbrev Pre := List Arg → Prop
abbrev Post := List Arg → Res → Prop
abbrev Exn := List Arg → Addr → Prop
/-- a def's promise -/
def spD (G : Gx) (pre : Pre) (post : Post) (exn : Exn) : Sp := fun vs H Q E => ∃ (F : Hp) (xs : List Arg), Same F H ∧ Paired (ArgOk G F H) vs xs ∧ pre xs ∧
  (∀ (r : Res) (v : V) (F' H' : Hp), post xs r → Same F F' → Same F' H' → Same H H' → (∀ a, H a ≠ none → F' a = F a) → ResOk G H F' H' v r → Q v H') ∧
  ∀ (c : Addr) (H' : Hp), exn xs c → Same H H' → E (.ref c) none H'
def noX : Exn := fun _ _ => False

def slotsFrom : Nat → List Arg → Ro
  | _, [] => []
  | j, .d x :: r => some (.d x) :: slotsFrom j r
  | j, .l _ :: r => some (.p j) :: slotsFrom (j + 1) r
def cellsOf : List Arg → Mu
  | [] => []
  | .d _ :: r => cellsOf r
  | .l ds :: r => .ro ds :: cellsOf r
/-- what is handed back, as a result -/
inductive Ret (μ : Mu) : U → Res → Prop
  | d (x : D) : Ret μ (.d x) (.d x)
  | own {k : Nat} {ds : List D} : μ[k]? = some (.rw ds) → Ret μ (.p k) (.own ds)
  | frz {k : Nat} {ds : List D} : μ[k]? = some (.rw ds) → Ret μ (.p k) (.d (.lst ds))
  | own2 {k : Nat} {ks : List Nat} {dss : List (List D)} : μ[k]? = some (.pl ks) → ks.Nodup → Paired (fun j ds => μ[j]? = some (.rw ds)) ks dss → Ret μ (.p k) (.own2 dss)

section
variable {G : Gx} {F0 H0 : Hp} {F F1 H : Hp} {as as1 : List Addr} {σ : L2.St} {ρ : Ro} {μ : Mu} {R : RE}
theorem slotsFrom_len : ∀ (xs : List Arg) (j : Nat), (slotsFrom j xs).length = xs.length
  | [], _ => rfl
  | .d x :: r, j => by simp [slotsFrom, slotsFrom_len r]
  | .l x :: r, j => by simp [slotsFrom, slotsFrom_len r]
theorem start_ev : ∀ (xs : List Arg) (vs : List V) (pre : List Addr), Paired (ArgOk G F H) vs xs →
    ∃ as : List Addr, as.length = (cellsOf xs).length ∧ (∀ (i : Nat) (u : U), (slotsFrom pre.length xs)[i]? = some (some u) → ∃ v, (vs.map some)[i]? = some (some v) ∧ RpU G (pre ++ as) F v u) ∧
      ∀ (k : Nat) (c : Cell) (a : Addr), (cellsOf xs)[k]? = some c → as[k]? = some a → Mt c = false ∧ ∀ as', CellOk G as' H F H a c
  | [], _, pre, h => by
    cases h
    exact ⟨[], rfl, fun i u h => by simp [slotsFrom] at h, fun k c a h => by simp [cellsOf] at h⟩
  | .d x :: r, _, pre, h => by
    cases h with
    | cons h1 h2 =>
      obtain ⟨as, e1, e2, e3⟩ := start_ev r _ pre h2
      refine ⟨as, e1, fun i u hu => ?_, e3⟩
      cases i with
      | zero =>
        simp [slotsFrom] at hu
        subst hu
        exact ⟨_, rfl, h1⟩
      | succ i => exact e2 i u hu
  | .l ds :: r, _, pre, h => by
    cases h with
    | cons h1 h2 =>
      obtain ⟨p, ws, rfl, hs, ha⟩ := h1
      obtain ⟨as, e1, e2, e3⟩ := start_ev r _ (pre ++ [p]) h2
      refine ⟨p :: as, by simp [cellsOf, e1], fun i u hu => ?_, fun k c a hk hka => ?_⟩
      · cases i with
        | zero =>
          simp [slotsFrom] at hu
          subst hu
          exact ⟨_, rfl, p, rfl, by simp⟩
        | succ i =>
          obtain ⟨v, g1, g2⟩ := e2 i u (by rw [List.length_append]; exact hu)
          refine ⟨v, g1, ?_⟩
          rw [List.append_assoc] at g2
          exact g2
      · cases k with
        | zero =>
          simp [cellsOf] at hk hka
          subst hk hka
          exact ⟨rfl, fun _ => ⟨ws, hs, ha⟩⟩
        | succ k => exact e3 k c a hk hka
theorem paired_len {α β : Type} {RR : α → β → Prop} : ∀ {xs : List α} {ys : List β}, Paired RR xs ys → xs.length = ys.length
  | _, _, .nil => rfl
  | _, _, .cons _ t => by simp [paired_len t]
theorem paired_get {α β : Type} {RR : α → β → Prop} : ∀ {xs : List α} {ys : List β} {i : Nat} {y : β}, Paired RR xs ys → ys[i]? = some y → ∃ x, xs[i]? = some x ∧ RR x y
  | _, _, _, _, .nil, e => by simp at e
  | _, _, 0, _, .cons r _, e => by simp at e; subst e; exact ⟨_, rfl, r⟩
  | _, _, i + 1, y, .cons _ t, e => by
    obtain ⟨v, h1, h2⟩ := paired_get (i := i) (y := y) t (by simpa using e)
    exact ⟨v, by simpa using h1, h2⟩
/-- THE RULE for a def -/
theorem start_ok {N : List Str} {vs : List V} {xs : List Arg} (hF : Same F H) (ha : Paired (ArgOk G F H) vs xs) (hN : xs.length ≤ N.length) :
    ∃ as, Ev G F H F H as (L2.start N vs) (slotsFrom 0 xs ++ List.replicate (N.length - xs.length) none) (cellsOf xs) := by
  obtain ⟨as, e1, e2, e3⟩ := start_ev xs vs [] ha
  have el := paired_len ha
  refine ⟨as, ⟨hF, .refl _, .refl _, fun _ _ => rfl⟩, ?_, fun i u h => ?_, e1, fun i j a c c' h1 h2 h3 h4 m1 m2 => ?_, fun k c a hk hka => (e3 k c a hk hka).2 _⟩
  · unfold L2.start
    rw [List.length_append, List.length_append, List.length_map, List.length_replicate, List.length_replicate, slotsFrom_len, el]
  · unfold L2.start
    by_cases hi : i < xs.length
    · rw [List.getElem?_append_left (by rw [slotsFrom_len]; exact hi)] at h
      obtain ⟨v, h1, h2⟩ := e2 i u h
      refine ⟨v, ?_, by simpa using h2⟩
      rw [List.getElem?_append_left (by rw [List.length_map, el]; exact hi)]
      exact h1
    · rw [List.getElem?_append_right (by rw [slotsFrom_len]; omega)] at h
      rw [List.getElem?_replicate] at h
      split at h <;> cases h
  · rw [(e3 i c a h3 h1).1] at m1; cases m1
/-- the end of a def's body -/
theorem ret_ok {u : U} {r : Res} {v : V} {H' F' : Hp} (e : Ev G F H F' H' as [] [] μ) (hr : RpU G as F' v u) (h : Ret μ u r) :
    ∃ F2, Same F F2 ∧ Same F2 H' ∧ Same H H' ∧ (∀ a, H a ≠ none → F2 a = F a) ∧ ResOk G H F2 H' v r := by
  cases h with
  | d x => exact ⟨F', e.bs.f0, e.bs.fh, e.bs.h0, e.bs.nw, hr⟩
  | own hk =>
    obtain ⟨a, rfl, ha⟩ := hr
    obtain ⟨n0, nF, vs, h3, h4⟩ := e.ce _ _ a hk ha
    exact ⟨F', e.bs.f0, e.bs.fh, e.bs.h0, e.bs.nw, a, rfl, n0, nF, vs, h3, h4⟩
  | frz hk =>
    obtain ⟨a, rfl, ha⟩ := hr
    obtain ⟨F2, s2, r2, e2⟩ := e.freeze hk ha
    exact ⟨F2, e2.bs.f0, e2.bs.fh, e2.bs.h0, e2.bs.nw, r2⟩
  | own2 hk nd hp =>
    rename_i k ks dss
    obtain ⟨a, rfl, ha⟩ := hr
    obtain ⟨n0, nF, ps, h3, h4⟩ := e.ce _ _ a hk ha
    refine ⟨F', e.bs.f0, e.bs.fh, e.bs.h0, e.bs.nw, a, ps, rfl, n0, nF, h3, ?_, ?_⟩
    · refine List.nodup_cons.mpr ⟨fun hm => ?_, ?_⟩
      · obtain ⟨i, hi, ei⟩ := List.getElem_of_mem hm
        have hi' : i < ks.length := by rw [← paired_len h4]; exact hi
        obtain ⟨q, q1, q2⟩ := paired_get h4 (List.getElem?_eq_getElem hi')
        have eq : q = a := by
          rw [List.getElem?_eq_getElem hi, ei] at q1
          exact (Option.some.inj q1).symm
        subst eq
        have hl : i < dss.length := by rw [← paired_len hp]; exact hi'
        obtain ⟨j, j1, j2⟩ := paired_get hp (List.getElem?_eq_getElem hl)
        rw [List.getElem?_eq_getElem hi'] at j1
        cases j1
        have z := e.nd _ _ q _ _ q2 ha j2 hk rfl rfl
        rw [z] at j2
        rw [hk] at j2
        cases j2
      · have step : ∀ (ps : List Addr) (ks : List Nat) (dss : List (List D)), Paired (fun (p : Addr) (k : Nat) => as[k]? = some p) ps ks → Paired (fun (j : Nat) (ds : List D) => μ[j]? = some (.rw ds)) ks dss → ks.Nodup → ps.Nodup := by
          intro ps
          induction ps with
          | nil => intro ks dss _ _ _; exact List.nodup_nil
          | cons p ps ih =>
            intro ks dss h1 h2 h3
            cases h1 with
            | cons r1 t1 =>
              cases h2 with
              | cons r2 t2 =>
                obtain ⟨n1, n2⟩ := List.nodup_cons.mp h3
                refine List.nodup_cons.mpr ⟨fun hm => ?_, ih _ _ t1 t2 n2⟩
                obtain ⟨i, hi, ei⟩ := List.getElem_of_mem hm
                have hk' := paired_len t1
                have hd' := paired_len t2
                obtain ⟨q, q1, q2⟩ := paired_get t1 (List.getElem?_eq_getElem (by omega : i < _))
                have eq : q = p := by
                  rw [List.getElem?_eq_getElem hi, ei] at q1
                  exact (Option.some.inj q1).symm
                subst eq
                obtain ⟨j, j1, j2⟩ := paired_get t2 (List.getElem?_eq_getElem (by omega : i < _))
                rw [List.getElem?_eq_getElem (by omega)] at j1
                cases j1
                have z := e.nd _ _ q _ _ q2 r1 j2 r2 rfl rfl
                refine n1 (z ▸ List.getElem_mem _)
        exact step ps ks dss h4 hp nd
    · have step : ∀ (ps : List Addr) (ks : List Nat) (dss : List (List D)), Paired (fun (p : Addr) (k : Nat) => as[k]? = some p) ps ks → Paired (fun (j : Nat) (ds : List D) => μ[j]? = some (.rw ds)) ks dss → Paired (OwnOk G H F' H') ps dss := by
        intro ps
        induction ps with
        | nil => intro ks dss h1 h2; cases h1; cases h2; exact .nil
        | cons p ps ih =>
          intro ks dss h1 h2
          cases h1 with
          | cons r1 t1 =>
            cases h2 with
            | cons r2 t2 =>
              obtain ⟨n0, nF, vs, h3, h4⟩ := e.ce _ _ p r2 r1
              exact .cons ⟨n0, nF, vs, h3, h4⟩ (ih _ _ t1 t2)
      exact step ps ks dss h4 hp
/-- what the body's reading is to show -/
def DEof (post : Post) (xs : List Arg) : DE := { nx := fun _ μ => ∃ r, post xs r ∧ Ret μ (.d .non) r, rt := fun u μ => ∃ r, post xs r ∧ Ret μ u r }
theorem body_ok {t : TS} {N : List Str} {vs : List V} {H : Hp} {Q : VK} {E : XK} {pre : Pre} {post : Post} {exn : Exn} (hsp : spD G pre post exn vs H Q E) (hN : ∀ xs, pre xs → xs.length ≤ N.length)
    (h : ∀ (xs : List Arg) (F : Hp), pre xs → (∀ c, exn xs c → ∀ H', Same H H' → E (.ref c) none H') → wS G F H t (slotsFrom 0 xs ++ List.replicate (N.length - xs.length) none) (cellsOf xs) (DEof post xs)) :
    t { nx := fun _ H' => Q .non H', rt := Q } (L2.start N vs) H := by
  obtain ⟨F, xs, hF, ha, hp, hq, hx⟩ := hsp
  obtain ⟨as, e⟩ := start_ok (N := N) hF ha (hN xs hp)
  refine h xs F hp (fun c hc H' hs => hx c H' hc hs) F H as _ _ e ⟨?_, ?_, fun _ _ _ _ _ _ z => z.elim, fun _ _ _ _ _ _ z => z.elim⟩
  · rintro ρ' μ' σ' F' H' as' ⟨r, hr, hu⟩ e' s' g'
    obtain ⟨F2, s2, f2, h2, n2, r2⟩ := ret_ok (u := .d .non) (v := .non) e'.noSlots Rp.non hu
    exact hq r _ F2 H' hr s2 f2 h2 n2 r2
  · rintro u μ' v F' H' as' ⟨r, hr, hu⟩ e' s' g' ru
    obtain ⟨F2, s2, f2, h2, n2, r2⟩ := ret_ok e' ru hu
    exact hq r _ F2 H' hr s2 f2 h2 n2 r2
/-- an argument as the caller has it -/
inductive ArgOf (μ : Mu) : U → Arg → Prop
  | d (x : D) : ArgOf μ (.d x) (.d x)
  | l {u : U} {ds : List D} : IsL μ u ds → ArgOf μ u (.l ds)
/-- the result as the caller gets it -/
def Got (R : RE) (μ : Mu) : Res → Prop
  | .d x => R (.d x) μ
  | .own ds => R (.p μ.length) (μ ++ [.rw ds])
  | .own2 dss => R (.p (μ.length + dss.length)) (μ ++ dss.map Cell.rw ++ [.pl ((List.range dss.length).map (μ.length + ·))])
theorem args_ok (e : Ev G F0 H0 F H as σ ρ μ) : ∀ {vs : List V} {us : List U} {xs : List Arg}, Paired (RpU G as F) vs us → Paired (ArgOf μ) us xs → Paired (ArgOk G F H) vs xs
  | _, _, _, .nil, h => by cases h; exact .nil
  | _, _, _, .cons r t, h => by
    cases h with
    | cons a b =>
      refine .cons ?_ (args_ok e t b)
      cases a with
      | d x => exact r
      | l hl => exact hl.seq e r
theorem adopt_all {F' H' : Hp} : ∀ (ps : List Addr) (dss : List (List D)) (as : List Addr) (μ : Mu), Ev G F0 H0 F' H' as σ ρ μ → (∀ p ∈ ps, ∀ (k : Nat) (a : Addr) (c : Cell), μ[k]? = some c → as[k]? = some a → Mt c = true → a ≠ p) → ps.Nodup →
      Paired (fun p ds => H0 p = none ∧ F' p = none ∧ ∃ vs, H' p = some (.lst vs) ∧ RpAll G F' vs ds) ps dss → Ev G F0 H0 F' H' (as ++ ps) σ ρ (μ ++ dss.map Cell.rw)
  | [], _, as, μ, e, _, _, h => by
    cases h
    simpa using e
  | p :: ps, _, as, μ, e, hn, nd, h => by
    cases h with
    | cons r t =>
      rename_i ds dss
      obtain ⟨r1, r2, vs, r3, r4⟩ := r
      obtain ⟨nd1, nd2⟩ := List.nodup_cons.mp nd
      have e1 := e.adopt (p := p) (c := .rw ds) (hn p List.mem_cons_self) ⟨r1, r2, vs, r3, r4⟩
      have e2 := adopt_all ps dss (as ++ [p]) (μ ++ [.rw ds]) e1 (fun q hq k a c hk ha hm => ?_) nd2 t
      · simpa using e2
      · by_cases kk : k < as.length
        · rw [List.getElem?_append_left kk] at ha
          rw [List.getElem?_append_left (by rw [← e.al]; exact kk)] at hk
          exact hn q (List.mem_cons_of_mem _ hq) k a c hk ha hm
        · have lk := (List.getElem?_eq_some_iff.mp ha).1
          simp only [List.length_append, List.length_cons, List.length_nil] at lk
          have ek : k = as.length := by omega
          subst ek
          have e1 : a = p := by simpa using ha.symm
          rw [e1]
          exact fun z => nd1 (z ▸ hq)
theorem got_ok {r : Res} {v : V} {F' H' : Hp} {Q : VK} (e : Ev G F0 H0 F H as σ ρ μ) (hF : Same F F') (hf : Same F' H') (hH : Same H H') (hn : ∀ a, H a ≠ none → F' a = F a) (hr : ResOk G H F' H' v r) (g : Got R μ r) (q : KE G F0 H0 F as σ ρ R Q) : Q v H' := by
  have e1 := e.grow hF hH hf hn
  cases r with
  | d x => exact q _ _ _ _ _ _ g e1 hF .refl hr
  | own ds =>
    obtain ⟨p, rfl, h1, h2, vs, h3, h4⟩ := hr
    have e2 := e1.adopt (p := p) (c := .rw ds) (e.mutAddr h1) ⟨e.bs.h0.free h1, h2, vs, h3, h4⟩
    refine q _ _ _ _ _ _ g e2 hF .app ⟨p, rfl, ?_⟩
    rw [← e.al, List.getElem?_append_right (Nat.le_refl _)]
    simp
  | own2 dss =>
    obtain ⟨p, ps, rfl, h1, h2, h3, nd, hp⟩ := hr
    obtain ⟨nd1, nd2⟩ := List.nodup_cons.mp nd
    have pn : ∀ q ∈ ps, H q = none := fun q hq => by
      obtain ⟨i, hi, ei⟩ := List.getElem_of_mem hq
      have hl := paired_len hp
      obtain ⟨x, x1, x2, _⟩ := paired_get hp (List.getElem?_eq_getElem (by omega : i < dss.length))
      rw [List.getElem?_eq_getElem hi, ei] at x1
      cases x1
      exact x2
    have e2 := adopt_all ps dss as μ e1 (fun q hq => e.mutAddr (pn q hq)) nd2 (paired_imp (fun _ _ z => ⟨e.bs.h0.free z.1, z.2⟩) hp)
    have el := paired_len hp
    have key : ∀ (ps : List Addr) (n : Nat) (as : List Addr), ps.length = n → Paired (fun (p : Addr) (k : Nat) => (as ++ ps)[k]? = some p) ps ((List.range n).map (as.length + ·)) := by
      intro ps
      induction ps with
      | nil => intro n as h; cases h; exact .nil
      | cons x ps ih =>
        intro n as h
        cases h
        rw [List.length_cons, List.range_succ_eq_map, List.map_cons]
        refine .cons (by simp) ?_
        have z := ih ps.length (as ++ [x]) rfl
        rw [List.map_map]
        have e3 : (List.range ps.length).map ((as ++ [x]).length + ·) = (List.range ps.length).map ((as.length + ·) ∘ Nat.succ) := by
          apply List.map_congr_left
          intro a _
          simp only [List.length_append, List.length_cons, List.length_nil, Function.comp]
          omega
        rw [e3] at z
        simpa using z
    have kk := key ps dss.length as el
    have e3 := e2.adopt (p := p) (c := .pl ((List.range dss.length).map (μ.length + ·))) (fun k a c hk ha hm z => ?_) ⟨e.bs.h0.free h1, h2, ps, h3, ?_⟩
    · refine q _ _ _ _ _ _ g e3 hF (Grw.app.trans .app) ⟨p, rfl, ?_⟩
      rw [← e.al, ← el, ← List.length_append, List.getElem?_append_right (Nat.le_refl _)]
      simp
    · subst z
      by_cases ka : k < as.length
      · rw [List.getElem?_append_left ka] at ha
        rw [List.getElem?_append_left (by rw [← e.al]; exact ka)] at hk
        exact e.mutAddr h1 k a c hk ha hm rfl
      · rw [List.getElem?_append_right (by omega)] at ha
        exact nd1 (List.mem_of_getElem? ha)
    · rw [← e.al]
      exact paired_imp (fun a b z => by
        have := (List.getElem?_eq_some_iff.mp z).1
        rw [List.getElem?_append_left this]
        exact z) kk
theorem wE_call {pre : Pre} {post : Post} {exn : Exn} {E : XK} {t : TA} (h : wA G F0 H0 t ρ μ fun us μ1 => ∃ xs, Paired (ArgOf μ1) us xs ∧ pre xs ∧ (∀ r, post xs r → Got R μ1 r) ∧ ∀ c, exn xs c → ∀ H', Same H0 H' → E (.ref c) none H') :
    wE G F0 H0 (tCall (spD G pre post exn) [] E t) ρ μ R := fun F H as σ Q e q => by
  refine h F H as σ _ e fun us μ1 vs F1 H1 as1 h1 e1 s1 g1 r1 => ?_
  obtain ⟨xs, ha, hp, hg, hx⟩ := h1
  rw [List.append_nil]
  refine ⟨F1, xs, e1.bs.fh, args_ok e1 r1 ha, hp, fun r v F' H' hr sF sf sH sn ro => ?_, fun c H' hc hs => hx c hc H' (e1.bs.h0.trans hs)⟩
  exact got_ok e1 sF sf sH sn ro (hg r hr) (q.on s1 g1)
theorem look_none {fs : List (Str × V)} {ns : List Str} {m : Str} (h : fs.map (·.1) = ns) (hm : ns.contains m = false) : fs.lookup m = none := by
  subst h
  induction fs with
  | nil => rfl
  | cons p fs ih =>
    simp only [List.map_cons, List.contains_cons, Bool.or_eq_false_iff] at hm
    simp only [List.lookup, hm.1]
    exact ih hm.2
theorem wE_meth {pre : Pre} {post : Post} {exn : Exn} {E : XK} {C : Addr} {m : Str} {ta : TE} {t : TA} (h : wE G F0 H0 ta ρ μ fun u μ1 => ∃ n ds, u = .d (.ob n ds) ∧ G.cl n = C ∧ (fl n).contains m = false ∧
      wA G F0 H0 t ρ μ1 fun us μ2 => ∃ xs, Paired (ArgOf μ2) us xs ∧ pre (.d (.ob n ds) :: xs) ∧ (∀ r, post (.d (.ob n ds) :: xs) r → Got R μ2 r) ∧ ∀ c, exn (.d (.ob n ds) :: xs) c → ∀ H', Same H0 H' → E (.ref c) none H') :
    wE G F0 H0 (tMeth C m (spD G pre post exn) [] E ta t) ρ μ R := fun F H as σ Q e q => by
  refine h F H as σ _ e fun u μ1 v F1 H1 as1 h1 e1 s1 g1 r1 => ?_
  obtain ⟨n, ds, rfl, hc, hm, h1⟩ := h1
  cases (show Rp G F1 v (.ob n ds) from r1) with
  | ob ho hf ha0 =>
    rename_i a dx fs
    refine ⟨a, dx, fs, rfl, by rw [← hc]; exact e1.bs.fh _ _ ho, look_none hf hm, ?_⟩
    refine h1 F1 H1 as1 σ _ e1 fun us μ2 vs F2 H2 as2 h2 e2 s2 g2 r2 => ?_
    obtain ⟨xs, ha, hp, hg, hx⟩ := h2
    rw [List.append_nil]
    refine ⟨F2, .d (.ob n ds) :: xs, e2.bs.fh, .cons (Rp.mono s2 _ (Rp.ob ho hf ha0)) (args_ok e2 r2 ha), hp, fun r v F' H' hr sF sf sH sn ro => ?_, fun c H' hc hs => hx c hc H' (e2.bs.h0.trans hs)⟩
    exact got_ok e2 sF sf sH sn ro (hg r hr) ((q.on s1 g1).on s2 g2)
theorem look_at {fs : List (Str × V)} {ns : List Str} {f : Str} {i : Nat} (h : fs.map (·.1) = ns) (hi : ns.findIdx? (· == f) = some i) : ∃ v, fs.lookup f = some v ∧ (fs.map (·.2))[i]? = some v := by
  subst h
  induction fs generalizing i with
  | nil => cases hi
  | cons p fs ih =>
    simp only [List.map_cons, List.findIdx?_cons] at hi
    cases hb : p.1 == f with
    | true =>
      rw [hb] at hi
      simp at hi
      subst hi
      refine ⟨p.2, ?_, rfl⟩
      have : (f == p.1) = true := by
        rw [beq_iff_eq] at hb ⊢
        exact hb.symm
      simp only [List.lookup, this]
    | false =>
      rw [hb] at hi
      simp only [Bool.false_eq_true, if_false, Option.map_eq_some_iff] at hi
      obtain ⟨j, hj, rfl⟩ := hi
      obtain ⟨v, h1, h2⟩ := ih hj
      refine ⟨v, ?_, h2⟩
      have : (f == p.1) = false := by
        rw [beq_eq_false_iff_ne] at hb ⊢
        exact fun z => hb z.symm
      simp only [List.lookup, this]
      exact h1
/-- an attribute -/
theorem wE_fld {ta : TE} {f : Str} (h : wE G F0 H0 ta ρ μ fun u μ1 => ∃ n ds i d, u = .d (.ob n ds) ∧ (fl n).findIdx? (· == f) = some i ∧ ds[i]? = some d ∧ Cls G.K (G.cl n) ∧ NoAttr G.K (G.cl n) f ∧ R (.d d) μ1) :
    wE G F0 H0 (tFld G.K ta f) ρ μ R := fun F H as σ Q e q => by
  refine h F H as σ _ e fun u μ1 v F1 H1 as1 h1 e1 s1 g1 r1 => ?_
  obtain ⟨n, ds, i, d, rfl, hi, hd, hc, hna, k⟩ := h1
  cases (show Rp G F1 v (.ob n ds) from r1) with
  | ob ho hf ha0 =>
    obtain ⟨w, h1, h2⟩ := look_at hf hi
    obtain ⟨w', h3, h4⟩ := ha0.get hd
    rw [h2] at h3
    cases h3
    exact ⟨_, _, _, _, w, rfl, e1.bs.fh _ _ ho, hc, hna, h1, q _ _ _ _ _ _ k e1 s1 g1 h4⟩
end

/-! ### equality of data -/
mutual
def D.py : D → PyData
  | .non => .none
  | .bl b => .bool b
  | .int i => .int i
  | .str x => .str x
  | .tup ds => .tuple (D.pys ds)
  | .lst ds => .list (D.pys ds)
  | .ob _ _ => .none
def D.pys : List D → List PyData
  | [] => []
  | d :: ds => D.py d :: D.pys ds
end
mutual
/-- data that == compares: no objects within, n deep at most -/
def sh : D → Nat → Bool
  | .non, _ => true
  | .bl _, _ => true
  | .int _, _ => true
  | .str x, _ => PyData.canLay0 (.str x)
  | .tup ds, n => match n with
    | 0 => false
    | n + 1 => shs ds n
  | .lst ds, n => match n with
    | 0 => false
    | n + 1 => shs ds n
  | .ob _ _, _ => false
def shs : List D → Nat → Bool
  | [], _ => true
  | d :: ds, n => sh d n && shs ds n
end
mutual
def eqD : D → D → Bool
  | .non, .non => true
  | .bl a, .bl b => a == b
  | .int i, .int j => i == j
  | .str x, .str y => x == y
  | .tup xs, .tup ys => eqDs xs ys
  | .lst xs, .lst ys => eqDs xs ys
  | .bl a, .int j => (if a then 1 else 0) == j
  | .int i, .bl b => i == (if b then 1 else 0)
  | _, _ => false
def eqDs : List D → List D → Bool
  | [], [] => true
  | x :: xs, y :: ys => eqD x y && eqDs xs ys
  | _, _ => false
end
section
variable {G : Gx} {F0 H0 : Hp} {F F1 H : Hp} {as as1 : List Addr} {σ : L2.St} {ρ : Ro} {μ : Mu} {R : RE}
mutual
theorem sh_dp (hF : Same F H) : ∀ (d : D) (n : Nat) (v : V), sh d n = true → Rp G F v d → Dp G.K H v d.py
  | .non, _, _, _, h => by cases h; exact .non
  | .bl b, _, _, _, h => by cases h; exact .bl b
  | .int i, _, _, _, h => by cases h; exact .int i
  | .str x, _, _, _, h => by cases h; exact .str x
  | .tup ds, 0, _, s, h => by simp [sh] at s
  | .tup ds, n + 1, _, s, h => by
    cases h with
    | tup hs ha => exact .tup (Same.sqT hF hs) (shs_dp hF ds n _ (by simpa [sh] using s) ha)
  | .lst ds, 0, _, s, h => by simp [sh] at s
  | .lst ds, n + 1, _, s, h => by
    cases h with
    | lst hs ha => exact .lst (Same.sqL hF hs) (shs_dp hF ds n _ (by simpa [sh] using s) ha)
  | .ob _ _, _, _, s, _ => by simp [sh] at s
theorem shs_dp (hF : Same F H) : ∀ (ds : List D) (n : Nat) (vs : List V), shs ds n = true → RpAll G F vs ds → DpAll G.K H vs (D.pys ds)
  | [], _, _, _, h => by cases h; exact .nil
  | d :: ds, n, _, s, h => by
    cases h with
    | cons a b =>
      simp only [shs, Bool.and_eq_true] at s
      exact .cons (sh_dp hF d n _ s.1 a) (shs_dp hF ds n _ s.2 b)
end
mutual
theorem sh_lay : ∀ (d : D) (n : Nat), sh d n = true → d.py.canLay0 = true ∧ d.py.depth ≤ n
  | .non, _, _ => by simp [D.py, PyData.canLay0, PyData.depth]
  | .bl b, _, _ => by simp [D.py, PyData.canLay0, PyData.depth]
  | .int i, _, _ => by simp [D.py, PyData.canLay0, PyData.depth]
  | .str x, _, h => by simpa [D.py, PyData.canLay0, PyData.depth, sh] using h
  | .tup ds, 0, s => by simp [sh] at s
  | .tup ds, n + 1, s => by
    obtain ⟨h1, h2⟩ := shs_lay ds n (by simpa [sh] using s)
    simp only [D.py, PyData.canLay0, PyData.depth]
    exact ⟨h1, by omega⟩
  | .lst ds, 0, s => by simp [sh] at s
  | .lst ds, n + 1, s => by
    obtain ⟨h1, h2⟩ := shs_lay ds n (by simpa [sh] using s)
    simp only [D.py, PyData.canLay0, PyData.depth]
    exact ⟨h1, by omega⟩
  | .ob _ _, _, s => by simp [sh] at s
theorem shs_lay : ∀ (ds : List D) (n : Nat), shs ds n = true → PyData.canLayAll0 (D.pys ds) = true ∧ PyData.depthAll (D.pys ds) ≤ n
  | [], _, _ => by simp [D.pys, PyData.canLayAll0, PyData.depthAll]
  | d :: ds, n, s => by
    simp only [shs, Bool.and_eq_true] at s
    obtain ⟨h1, h2⟩ := sh_lay d n s.1
    obtain ⟨h3, h4⟩ := shs_lay ds n s.2
    simp only [D.pys, PyData.canLayAll0, PyData.depthAll, Bool.and_eq_true]
    exact ⟨⟨h1, h3⟩, by omega⟩
end
theorem sh_shaped {d : D} {n : Nat} (h : sh d n = true) (hn : n ≤ 64) : SeqAt.shaped d.py = true := by
  obtain ⟨h1, h2⟩ := sh_lay d n h
  have h3 : decide (d.py.depth ≤ 64) = true := decide_eq_true (by omega)
  show (d.py.canLay0 && decide (d.py.depth ≤ 64)) = true
  rw [h1, h3]
  rfl
mutual
theorem eqD_py : ∀ (d e : D) (n m : Nat), sh d n = true → sh e m = true → PyData.eqv d.py e.py = eqD d e
  | .non, e, _, _, _, h => by cases e <;> first | (simp [D.py, PyData.eqv, eqD]; done) | (simp [sh] at h; done)
  | .bl a, e, _, _, _, h => by cases e <;> first | (simp [D.py, PyData.eqv, eqD]; done) | (simp [sh] at h; done)
  | .int a, e, _, _, _, h => by cases e <;> first | (simp [D.py, PyData.eqv, eqD]; done) | (simp [sh] at h; done)
  | .str a, e, _, _, _, h => by cases e <;> first | (simp [D.py, PyData.eqv, eqD]; done) | (simp [sh] at h; done)
  | .tup ds, e, 0, _, s, h => by simp [sh] at s
  | .tup ds, .tup es, n + 1, 0, s, h => by simp [sh] at h
  | .tup ds, .tup es, n + 1, m + 1, s, h => by
    simp only [D.py, PyData.eqv, eqD]
    exact eqDs_py ds es n m (by simpa [sh] using s) (by simpa [sh] using h)
  | .tup ds, .non, n + 1, m, s, h => by simp [D.py, PyData.eqv, eqD]
  | .tup ds, .bl _, n + 1, m, s, h => by simp [D.py, PyData.eqv, eqD]
  | .tup ds, .int _, n + 1, m, s, h => by simp [D.py, PyData.eqv, eqD]
  | .tup ds, .str _, n + 1, m, s, h => by simp [D.py, PyData.eqv, eqD]
  | .tup ds, .lst _, n + 1, m, s, h => by simp [D.py, PyData.eqv, eqD]
  | .tup ds, .ob _ _, n + 1, m, s, h => by simp [sh] at h
  | .lst ds, e, 0, _, s, h => by simp [sh] at s
  | .lst ds, .lst es, n + 1, 0, s, h => by simp [sh] at h
  | .lst ds, .lst es, n + 1, m + 1, s, h => by
    simp only [D.py, PyData.eqv, eqD]
    exact eqDs_py ds es n m (by simpa [sh] using s) (by simpa [sh] using h)
  | .lst ds, .non, n + 1, m, s, h => by simp [D.py, PyData.eqv, eqD]
  | .lst ds, .bl _, n + 1, m, s, h => by simp [D.py, PyData.eqv, eqD]
  | .lst ds, .int _, n + 1, m, s, h => by simp [D.py, PyData.eqv, eqD]
  | .lst ds, .str _, n + 1, m, s, h => by simp [D.py, PyData.eqv, eqD]
  | .lst ds, .tup _, n + 1, m, s, h => by simp [D.py, PyData.eqv, eqD]
  | .lst ds, .ob _ _, n + 1, m, s, h => by simp [sh] at h
  | .ob _ _, _, _, _, s, _ => by simp [sh] at s
theorem eqDs_py : ∀ (ds es : List D) (n m : Nat), shs ds n = true → shs es m = true → PyData.eqvAll (D.pys ds) (D.pys es) = eqDs ds es
  | [], [], _, _, _, _ => by simp [D.pys, PyData.eqvAll, eqDs]
  | [], _ :: _, _, _, _, _ => by simp [D.pys, PyData.eqvAll, eqDs]
  | _ :: _, [], _, _, _, _ => by simp [D.pys, PyData.eqvAll, eqDs]
  | d :: ds, e :: es, n, m, s, h => by
    simp only [shs, Bool.and_eq_true] at s h
    simp only [D.pys, PyData.eqvAll, eqDs]
    rw [eqD_py d e n m s.1 h.1, eqDs_py ds es n m s.2 h.2]
end
/-- a value as data that is compared -/
inductive DatU (μ : Mu) : U → D → Prop
  | d (x : D) : DatU μ (.d x) x
  | l {u : U} {ds : List D} : IsL μ u ds → DatU μ u (.lst ds)
theorem DatU.dp {u : U} {d : D} {v : V} (h : DatU μ u d) (e : Ev G F0 H0 F H as σ ρ μ) (r : RpU G as F v u) {n : Nat} (hs : sh d n = true) : Dp G.K H v d.py := by
  cases h with
  | d x => exact sh_dp e.bs.fh d n v hs r
  | l hl =>
    rename_i ds
    obtain ⟨a, vs, rfl, hq, ha⟩ := hl.seq e r
    cases n with
    | zero => simp [sh] at hs
    | succ n => exact .lst hq (shs_dp e.bs.fh ds n vs (by simpa [sh] using hs) ha)
theorem w2_eqD {x y : U} {d e' : D} (hx : DatU μ x d) (hy : DatU μ y e') (n m : Nat) (hn : n ≤ 64) (hm : m ≤ 64) (h1 : sh d n = true) (h2 : sh e' m = true) (k : R (.d (.bl (eqD d e'))) μ) : w2 G F0 H0 (rEqD G.K) x y ρ μ R := fun F H as σ v1 v2 Q e r1 r2 q => by
  refine ⟨d.py, e'.py, hx.dp e r1 h1, hy.dp e r2 h2, sh_shaped h1 hn, sh_shaped h2 hm, ?_⟩
  rw [eqD_py d e' n m h1 h2]
  exact q _ _ _ _ _ _ k e (.refl _) .refl (Rp.bl _)
theorem w2_neD {x y : U} {d e' : D} (hx : DatU μ x d) (hy : DatU μ y e') (n m : Nat) (hn : n ≤ 64) (hm : m ≤ 64) (h1 : sh d n = true) (h2 : sh e' m = true) (k : R (.d (.bl (!eqD d e'))) μ) : w2 G F0 H0 (rNeD G.K) x y ρ μ R := fun F H as σ v1 v2 Q e r1 r2 q => by
  refine ⟨d.py, e'.py, hx.dp e r1 h1, hy.dp e r2 h2, sh_shaped h1 hn, sh_shaped h2 hm, ?_⟩
  rw [eqD_py d e' n m h1 h2]
  exact q _ _ _ _ _ _ k e (.refl _) .refl (Rp.bl _)
/-! ### isinstance with a built-in class -/
def tyC : Option Cell → Option String
  | some (.rw _) => some "list"
  | some (.ro _) => some "list"
  | some (.pl _) => some "list"
  | some (.dct _) => some "dict"
  | _ => none
def tyD : D → Option String
  | .non => some "NoneType"
  | .bl _ => some "bool"
  | .int _ => some "int"
  | .str _ => some "str"
  | .tup _ => some "tuple"
  | .lst _ => some "list"
  | .ob _ _ => none
def tyU (μ : Mu) : U → Option String
  | .d x => tyD x
  | .p k => tyC μ[k]?
theorem sqL_ty {K : PySem.W.Frag} {H : Hp} {a : Addr} {xs : List V} (h : SqL K H a xs) : TyX K H (.ref a) (.type "list") := by
  rcases h with (h | ⟨o, h⟩) | ⟨o, its, n, h1, h2, _⟩
  · exact .base (.lst h)
  · exact .base (.frz h)
  · exact .kList h1 h2
theorem sqT_ty {K : PySem.W.Frag} {H : Hp} {a : Addr} {xs : List V} (h : SqT K H a xs) : TyX K H (.ref a) (.type "tuple") := by
  rcases h with (h | ⟨o, h⟩) | ⟨o, its, n, h1, h2, _⟩
  · exact .base (.tup h)
  · exact .fTuple h
  · exact .kTuple h1 h2
theorem tyU_ok {u : U} {v : V} {s : String} (h : tyU μ u = some s) (e : Ev G F0 H0 F H as σ ρ μ) (r : RpU G as F v u) : TyX G.K H v (.type s) := by
  cases u with
  | d x =>
    cases x with
    | non => cases h; cases (show Rp G F v .non from r); exact .base .non
    | bl b => cases h; cases (show Rp G F v (.bl b) from r); exact .base (.bl b)
    | int b => cases h; cases (show Rp G F v (.int b) from r); exact .base (.int b)
    | str b => cases h; cases (show Rp G F v (.str b) from r); exact .base (.str b)
    | tup ds =>
      cases h
      obtain ⟨a, vs, rfl, hs, _⟩ := tup_seq e r
      exact sqT_ty hs
    | lst ds =>
      cases h
      obtain ⟨a, vs, rfl, hs, _⟩ := IsL.seq (.inl rfl) e r
      exact sqL_ty hs
    | ob n ds => cases h
  | p k =>
    obtain ⟨a, rfl, ha⟩ := r
    have h' : tyC μ[k]? = some s := h
    cases hk : μ[k]? with
    | none => rw [hk] at h'; cases h'
    | some c =>
      rw [hk] at h'
      have z := e.ce k c a hk ha
      cases c with
      | rw ds => cases h'; obtain ⟨_, _, vs, h3, _⟩ := z; exact .base (.lst h3)
      | ro ds => cases h'; obtain ⟨vs, h3, _⟩ := z; exact sqL_ty (Same.sqL e.bs.h0 h3)
      | pl ds => cases h'; obtain ⟨_, _, vs, h3, _⟩ := z; exact .base (.lst h3)
      | dct ds => cases h'; obtain ⟨_, _, vs, h3, _⟩ := z; exact .base (.dK h3)
      | gone => cases h'
theorem wE_isi {ta : TE} {n : String} (h : wE G F0 H0 ta ρ μ fun u μ1 => ∃ s b, tyU μ1 u = some s ∧ kitB s n = some b ∧ R (.d (.bl b)) μ1) : wE G F0 H0 (tCB (rIsi G.K) (tCons ta (tCons (tC (.ty n)) tNil))) ρ μ R := fun F H as σ Q e q => by
  refine h F H as σ _ e fun u μ1 v F1 H1 as1 h1 e1 s1 g1 r1 => ?_
  obtain ⟨s, b, hs, hb, k⟩ := h1
  exact ⟨v, .ty n, _, _, b, rfl, .ty n, tyU_ok hs e1 r1, kit_ty hb, q _ _ _ _ _ _ k e1 s1 g1 (Rp.bl _)⟩
/-! ### ranges -/
variable {D' : DE}
theorem wS_rng1 {ta : TA} {g : TG} {tb : TS} (h : wA G F0 H0 ta ρ μ fun us μ1 => ∃ j : Int, us = [.d (.int j)] ∧ -(2 ^ 62) ≤ j ∧ j < 2 ^ 62 ∧ ∃ I : Nat → Ro → Mu → Prop, I 0 ρ μ1 ∧
      (∀ i ρ' μ', i < j.toNat → I i ρ' μ' → wG G F0 H0 g (.d (.int i)) ρ' μ' fun ρ2 μ2 => wS G F0 H0 tb ρ2 μ2 { nx := I (i + 1), ct := I (i + 1), bk := D'.nx, rt := D'.rt }) ∧ ∀ ρ' μ', I j.toNat ρ' μ' → D'.nx ρ' μ') :
    wS G F0 H0 (tFor (iRng1 ta) g tb) ρ μ D' := fun F H as σ X e q => by
  refine h F H as σ _ e fun us μ1 vs F1 H1 as1 h1 e1 s1 g1 r1 => ?_
  obtain ⟨j, rfl, b1, b2, I, i0, is, ie⟩ := h1
  obtain ⟨v, rfl, r9⟩ := p1 r1
  cases (show Rp G F1 v (.int j) from r9)
  refine ⟨j, rfl, b1, b2, ?_⟩
  exact wS_rng (J := fun _ H R => R (Itr 0 j.toNat) H) (lo := 0) (n := j.toNat) (g := g) (tb := tb) (D' := D') (fun F H as σ RR e k => k F H as μ1 e rfl (.refl _) .refl) I i0 (fun i ρ' μ' hi hI => by rw [Int.zero_add]; exact is i ρ' μ' hi hI) ie F1 H1 as1 σ X e1 (q.on s1 g1)
theorem wS_rng2 {ta : TA} {g : TG} {tb : TS} (h : wA G F0 H0 ta ρ μ fun us μ1 => ∃ i j : Int, us = [.d (.int i), .d (.int j)] ∧ (-(2 ^ 62) ≤ i ∧ i < 2 ^ 62 ∧ -(2 ^ 62) ≤ j ∧ j < 2 ^ 62) ∧ ∃ I : Nat → Ro → Mu → Prop, I 0 ρ μ1 ∧
      (∀ n ρ' μ', n < (j - i).toNat → I n ρ' μ' → wG G F0 H0 g (.d (.int (i + n))) ρ' μ' fun ρ2 μ2 => wS G F0 H0 tb ρ2 μ2 { nx := I (n + 1), ct := I (n + 1), bk := D'.nx, rt := D'.rt }) ∧ ∀ ρ' μ', I (j - i).toNat ρ' μ' → D'.nx ρ' μ') :
    wS G F0 H0 (tFor (iRng2 ta) g tb) ρ μ D' := fun F H as σ X e q => by
  refine h F H as σ _ e fun us μ1 vs F1 H1 as1 h1 e1 s1 g1 r1 => ?_
  obtain ⟨i, j, rfl, b1, I, i0, is, ie⟩ := h1
  obtain ⟨v, w, rfl, r8, r9⟩ := p2 r1
  cases (show Rp G F1 v (.int i) from r8)
  cases (show Rp G F1 w (.int j) from r9)
  refine ⟨i, j, rfl, b1, ?_⟩
  exact wS_rng (J := fun _ H R => R (Itr i (j - i).toNat) H) (lo := i) (n := (j - i).toNat) (g := g) (tb := tb) (D' := D') (fun F H as σ RR e k => k F H as μ1 e rfl (.refl _) .refl) I i0 is ie F1 H1 as1 σ X e1 (q.on s1 g1)
/-! ### methods of lists -/
theorem wE_append {to : TE} {t : TA} (h : wE G F0 H0 to ρ μ fun x μ1 => ∃ k ds0, x = .p k ∧ μ1[k]? = some (.rw ds0) ∧ wA G F0 H0 t ρ μ1 fun us μ2 => ∃ ds d, us = [.d d] ∧ μ2[k]? = some (.rw ds) ∧ ds.length < 1000000 ∧ R (.d .non) (μ2.set k (.rw (ds ++ [d])))) :
    wE G F0 H0 (tBM G.K "list" rAppend to t) ρ μ R := fun F H as σ Q e q => by
  refine h F H as σ _ e fun u μ1 v F1 H1 as1 h1 e1 s1 g1 r1 => ?_
  obtain ⟨k, ds0, rfl, hk0, h1⟩ := h1
  obtain ⟨a, rfl, ha⟩ := r1
  obtain ⟨_, _, vs0, hv0, _⟩ := e1.ce k _ a hk0 ha
  refine ⟨.inl ⟨rfl, vs0, .of hv0⟩, h1 F1 H1 as1 σ _ e1 fun us μ2 vs F2 H2 as2 h2 e2 s2 g2 r2 => ?_⟩
  obtain ⟨ds, d, rfl, hk, hl, kk⟩ := h2
  obtain ⟨y, rfl, ry⟩ := p1 r2
  obtain ⟨n0, nF, ws, hw, rw'⟩ := e2.ce k _ a hk (g2 _ _ ha)
  refine ⟨a, ws, y, rfl, rfl, hw, by rw [rw'.length, sizeLine_eq]; omega, ?_⟩
  have e3 := e2.write (o := .lst (ws ++ [y])) (c' := .rw (ds ++ [d])) hk (g2 _ _ ha) rfl rfl ⟨n0, nF, _, upd_same, RpAll.append rw' (.one ry)⟩
  exact q _ _ _ _ _ _ kk e3 (s1.trans s2) (g1.trans g2) Rp.non
/-- xs[i] = v -/
theorem wG_sub {to ti : TE} {u : U} {R : Ro → Mu → Prop} (h : ∃ d, u = .d d ∧ wE G F0 H0 to ρ μ fun x μ1 => ∃ k, x = .p k ∧ wE G F0 H0 ti ρ μ1 fun y μ2 => ∃ ds i j, y = .d (.int i) ∧ μ2[k]? = some (.rw ds) ∧ ixN ds.length i = some j ∧ R ρ (μ2.set k (.rw (ds.set j d)))) :
    wG G F0 H0 (gSub to ti rSetL) u ρ μ R := fun F H as σ v Q e r q => by
  obtain ⟨d, rfl, h⟩ := h
  refine h F H as σ _ e fun x μ1 v1 F1 H1 as1 h1 e1 s1 g1 r1 => ?_
  obtain ⟨k, rfl, h1⟩ := h1
  obtain ⟨a, rfl, ha⟩ := r1
  refine h1 F1 H1 as1 σ _ e1 fun y μ2 v2 F2 H2 as2 h2 e2 s2 g2 r2 => ?_
  obtain ⟨ds, i, j, rfl, hk, hj, kk⟩ := h2
  cases (show Rp G F2 v2 (.int i) from r2)
  obtain ⟨n0, nF, ws, hw, rw'⟩ := e2.ce k _ a hk (g2 _ _ ha)
  refine ⟨a, ws, i, j, rfl, rfl, hw, by rw [rw'.length]; exact hj, ?_⟩
  have e3 := e2.write (o := .lst (ws.set j v)) (c' := .rw (ds.set j d)) hk (g2 _ _ ha) rfl rfl ⟨n0, nF, _, upd_same, RpAll.set (Rp.mono (s1.trans s2) _ r) j rw'⟩
  exact q _ _ _ _ _ _ kk e3 (s1.trans s2) (g1.trans g2)
/-! ### a comprehension over a list, over a range -/
def wipeR (ρ : Ro) : List Nat → Ro
  | [] => ρ
  | v :: vs => (wipeR ρ vs).set v none
/-- a target that stores in the places vs alone -/
def Within (g : TG) (vs : List Nat) : Prop := ∀ (v : V) (σ : L2.St) (H : Hp) (Q Q' : L2.St → Hp → Prop), (∀ σ' H', Q σ' H' → (∀ j, j ∉ vs → σ'[j]? = σ[j]?) → σ'.length = σ.length → Q' σ' H') → g v σ H Q → g v σ H Q'
def Withins (g : TGs) (vs : List Nat) : Prop := ∀ (v : List V) (σ : L2.St) (H : Hp) (Q Q' : L2.St → Hp → Prop), (∀ σ' H', Q σ' H' → (∀ j, j ∉ vs → σ'[j]? = σ[j]?) → σ'.length = σ.length → Q' σ' H') → g v σ H Q → g v σ H Q'
theorem within_name {i : Nat} {vs : List Nat} (h : i ∈ vs) : Within (gName i) vs := fun v σ H Q Q' k q => k _ _ q (fun j hj => by
  rw [List.getElem?_set_ne (by intro z; rw [z] at h; exact hj h)]) (by rw [List.length_set])
theorem withins_nil {vs : List Nat} : Withins gNil vs := fun v σ H Q Q' k q => ⟨q.1, k _ _ q.2 (fun _ _ => rfl) rfl⟩
theorem withins_cons {t : TG} {u : TGs} {vs : List Nat} (h1 : Within t vs) (h2 : Withins u vs) : Withins (gCons t u) vs := fun v σ H Q Q' k q => by
  obtain ⟨x, r, rfl, q⟩ := q
  refine ⟨x, r, rfl, h1 _ _ _ _ _ (fun σ1 H1 z z2 z3 => ?_) q⟩
  refine h2 _ _ _ _ _ (fun σ2 H2 w w2 w3 => ?_) z
  exact k _ _ w (fun j hj => (w2 j hj).trans (z2 j hj)) (w3.trans z3)
theorem within_tup {K : PySem.W.Frag} {n : Nat} {t : TGs} {vs : List Nat} (h : Withins t vs) : Within (gTup K n t) vs := fun v σ H Q Q' k q => by
  obtain ⟨a, xs, e, hs, hl, q⟩ := q
  exact ⟨a, xs, e, hs, hl, h _ _ _ _ _ k q⟩
theorem wipe_eq {vs : List Nat} : ∀ {σ σ' : L2.St}, (∀ j, j ∉ vs → σ'[j]? = σ[j]?) → σ'.length = σ.length → wipe σ' vs = wipe σ vs := by
  intro σ σ' h hl
  apply List.ext_getElem?
  intro i
  by_cases hi : i ∈ vs
  · have inn : ∀ (vs : List Nat) (σ : L2.St), i ∈ vs → (wipe σ vs)[i]? = if i < σ.length then some none else none := by
      intro vs
      induction vs with
      | nil => intro σ hm; cases hm
      | cons v vs ih =>
        intro σ hm
        show ((wipe σ vs).set v none)[i]? = _
        by_cases e : v = i
        · subst e
          rw [List.getElem?_set, wipe_length]
          simp
        · rw [List.getElem?_set_ne e]
          exact ih σ (by simpa [Ne.symm e] using hm)
    rw [inn vs σ' hi, inn vs σ hi, hl]
  · rw [wipe_out hi, wipe_out hi]
    exact h i hi
theorem wipe_twice (vs : List Nat) (σ : L2.St) : wipe (wipe σ vs) vs = wipe σ vs := wipe_eq (fun j hj => wipe_out hj) (wipe_length _ _)
theorem wipeR_len (ρ : Ro) : ∀ vs : List Nat, (wipeR ρ vs).length = ρ.length
  | [] => rfl
  | v :: vs => by simp [wipeR, wipeR_len ρ vs]
theorem wipeR_some {i : Nat} {u : U} : ∀ {vs : List Nat}, (wipeR ρ vs)[i]? = some (some u) → ρ[i]? = some (some u) ∧ i ∉ vs
  | [], h => ⟨h, by simp⟩
  | v :: vs, h => by
    have h' : ((wipeR ρ vs).set v none)[i]? = some (some u) := h
    by_cases e : v = i
    · subst e
      rw [List.getElem?_set] at h'
      simp at h'
    · rw [List.getElem?_set_ne e] at h'
      obtain ⟨h1, h2⟩ := wipeR_some (vs := vs) h'
      exact ⟨h1, by simp [Ne.symm e, h2]⟩
theorem Ev.wipe (e : Ev G F0 H0 F H as σ ρ μ) (vs : List Nat) : Ev G F0 H0 F H as (wipe σ vs) (wipeR ρ vs) μ :=
  ⟨e.bs, by rw [wipe_length, wipeR_len]; exact e.len, fun i u h => by
    obtain ⟨h1, h2⟩ := wipeR_some h
    obtain ⟨v, h3, h4⟩ := e.sl i u h1
    exact ⟨v, by rw [wipe_out h2]; exact h3, h4⟩, e.al, e.nd, e.ce⟩
/-- slots as they were -/
theorem Ev.slots {σ' : L2.St} {ρ' : Ro} {F' H' : Hp} {as' : List Addr} {μ' : Mu} (e : Ev G F0 H0 F H as σ ρ μ) (e' : Ev G F0 H0 F' H' as' σ' ρ' μ') (hF : Same F F') (ha : Grw as as') : Ev G F0 H0 F' H' as' σ ρ μ' :=
  ⟨e'.bs, e.len, fun i u h => by
    obtain ⟨v, h1, h2⟩ := e.sl i u h
    exact ⟨v, h1, h2.mono hF ha⟩, e'.al, e'.nd, e'.ce⟩
/-- one turn of a comprehension; n: the new list's number -/
def LcTurn (G : Gx) (F0 H0 : Hp) (tt : TT) (te : TE) (n : Nat) (ρ2 : Ro) (I : Mu → Prop) (J : Mu → Prop) (μ2 : Mu) : Prop :=
  wT G F0 H0 tt ρ2 μ2 fun b μ3 => if b = true then wE G F0 H0 te ρ2 μ3 fun y μ4 => ∃ x acc, y = .d x ∧ μ4[n]? = some (.rw acc) ∧ acc.length < 1000000 ∧ J (μ4.set n (.rw (acc ++ [x]))) else J μ3
theorem lc_any {g : TG} {tt : TT} {te : TE} {vs : List Nat} {F1 H1 : Hp} {as1 : List Addr} {μ1 : Mu} {Q : VK} {JJ : It} {nn : Nat} {itd : Nat → D → Prop} (hw : Within g vs)
    (e1 : Ev G F0 H0 F1 H1 as1 σ ρ μ1) (q : KE G F0 H0 F1 as1 σ ρ R Q) (I : Nat → Mu → Prop)
    (go : ∀ (i : Nat) (F2 H2 : Hp) (as2 : List Addr) (μ2 : Mu), Ev G F0 H0 F2 H2 as2 σ ρ μ2 → Same F1 F2 → Grw as1 as2 → I i μ2 → (i < nn → JJ.go i H2 ∧ ∀ x H', JJ.yld i H2 x H' → H' = H2 ∧ ∃ d, itd i d ∧ Rp G F2 x d) ∧ (i = nn → JJ.stop i H2))
    (i0 : I 0 (μ1 ++ [.rw []]))
    (is : ∀ i d μ', i < nn → itd i d → I i μ' → wG G F0 H0 g (.d d) (wipeR ρ vs) μ' fun ρ2 μ2 => LcTurn G F0 H0 tt te μ1.length ρ2 (I i) (I (i + 1)) μ2)
    (ie : ∀ μ', I nn μ' → R (.p μ1.length) μ') :
    ∀ D, H1 D = none → ∃ W : Nat → Nat → Hp → Prop, (∃ m, W 0 m (upd H1 D (.lst []))) ∧ ∀ i m H, W i m H →
  (JJ.stop i H ∧ Q (.ref D) H) ∨ (JJ.go i H ∧ ∃ Nx : Hp → Prop, (∀ H', Nx H' → ∃ m', m' < m ∧ W (i + 1) m' H') ∧ ∀ x H', JJ.yld i H x H' → g x (L2.wipe σ vs) H' fun σ2 H2 => L2.wipe σ2 vs = L2.wipe σ vs ∧ tt σ2 H2 fun b H3 =>
    if b = true then te σ2 H3 fun y H4 => ∃ acc, H4 D = some (.lst acc) ∧ acc.length < sizeLine ∧ Nx (upd H4 D (.lst (acc ++ [y]))) else Nx H3) := by
  intro p hp
  have ec := e1.cell (o := .lst []) (c := .rw []) hp ⟨e1.bs.h0.free hp, e1.bs.fh.free hp, [], upd_same, .nil⟩
  have hpn : (as1 ++ [p])[μ1.length]? = some p := by
    rw [← e1.al, List.getElem?_append_right (Nat.le_refl _)]
    simp
  refine ⟨fun i m H2 => ∃ F2 as2 μ2, Ev G F0 H0 F2 H2 as2 σ ρ μ2 ∧ Same F1 F2 ∧ Grw (as1 ++ [p]) as2 ∧ I i μ2 ∧ i + m = nn, ⟨nn, F1, as1 ++ [p], _, ec, .refl _, .refl, i0, by omega⟩, ?_⟩
  rintro i m H2 ⟨F2, as2, μ2, e2, s2, g2, i2, em⟩
  obtain ⟨go1, go2⟩ := go i F2 H2 as2 μ2 e2 s2 (Grw.app.trans g2) i2
  by_cases hi : i < nn
  · obtain ⟨ha, hb⟩ := go1 hi
    refine .inr ⟨ha, fun H' => ∃ F3 as3 μ3, Ev G F0 H0 F3 H' as3 σ ρ μ3 ∧ Same F1 F3 ∧ Grw (as1 ++ [p]) as3 ∧ I (i + 1) μ3, ?_, fun x H' y => ?_⟩
    · rintro H' ⟨F3, as3, μ3, e3, s3, g3, i3⟩
      exact ⟨m - 1, by omega, F3, as3, μ3, e3, s3, g3, i3, by omega⟩
    · obtain ⟨rfl, d, hd, rd⟩ := hb x H' y
      have ew := e2.wipe vs
      have base := is i d μ2 hi hd i2 F2 H' as2 (L2.wipe σ vs) x (fun σ2 H2 => tt σ2 H2 fun b H3 =>
        if b = true then te σ2 H3 fun y H4 => ∃ acc, H4 p = some (.lst acc) ∧ acc.length < sizeLine ∧ ∃ F3 as3 μ3, Ev G F0 H0 F3 (upd H4 p (.lst (acc ++ [y]))) as3 σ ρ μ3 ∧ Same F1 F3 ∧ Grw (as1 ++ [p]) as3 ∧ I (i + 1) μ3
        else ∃ F3 as3 μ3, Ev G F0 H0 F3 H3 as3 σ ρ μ3 ∧ Same F1 F3 ∧ Grw (as1 ++ [p]) as3 ∧ I (i + 1) μ3) ew rd (fun ρ3 μ3 σ3 F3 H3 as3 h3 e3 s3 g3 => ?_)
      · refine hw _ _ _ _ _ (fun σ' H' z z2 z3 => ⟨?_, z⟩) base
        exact (wipe_eq z2 z3).trans (wipe_twice vs σ)
      · refine h3 F3 H3 as3 σ3 _ e3 fun b μ4 F4 H4 as4 h4 e4 s4 g4 => ?_
        cases b with
        | false =>
          refine iteF ⟨F4, as4, μ4, ec.slots e4 (s2.trans (s3.trans s4)) (g2.trans (g3.trans g4)), s2.trans (s3.trans s4), g2.trans (g3.trans g4), ff_of h4⟩
        | true =>
          refine iteT ((tt_of h4) F4 H4 as4 σ3 _ e4 fun u μ5 v F5 H5 as5 h5 e5 s5 g5 r5 => ?_)
          obtain ⟨x', acc, rfl, hn, hl, hJ⟩ := h5
          have hp5 : as5[μ1.length]? = some p := g5 _ _ (g4 _ _ (g3 _ _ (g2 _ _ hpn)))
          obtain ⟨n0, nF, ws, hw', ra⟩ := e5.ce _ _ p hn hp5
          refine ⟨ws, hw', by rw [ra.length, sizeLine_eq]; omega, F5, as5, _, ec.slots (e5.write (o := .lst (ws ++ [v])) (c' := .rw (acc ++ [x'])) hn hp5 rfl rfl ⟨n0, nF, _, upd_same, RpAll.append ra (.one r5)⟩) (s2.trans (s3.trans (s4.trans s5))) (g2.trans (g3.trans (g4.trans g5))), s2.trans (s3.trans (s4.trans s5)), g2.trans (g3.trans (g4.trans g5)), hJ⟩
  · have ei : i = nn := by omega
    subst ei
    exact .inl ⟨go2 rfl, q _ _ _ _ _ _ (ie _ i2) e2 s2 (Grw.app.trans g2) ⟨p, rfl, g2 _ _ hpn⟩⟩
theorem wE_lc {tl : TE} {g : TG} {tt : TT} {te : TE} {vs : List Nat} (hw : Within g vs) (h : wE G F0 H0 tl ρ μ fun u μ1 => ∃ ds, IsL μ1 u ds ∧ ∃ I : Nat → Mu → Prop, I 0 (μ1 ++ [.rw []]) ∧ (∀ i μ', I i μ' → IsL μ' u ds) ∧
      (∀ (i : Nat) (d : D) (μ' : Mu), ds[i]? = some d → I i μ' → wG G F0 H0 g (.d d) (wipeR ρ vs) μ' fun ρ2 μ2 => LcTurn G F0 H0 tt te μ1.length ρ2 (I i) (I (i + 1)) μ2) ∧ ∀ μ', I ds.length μ' → R (.p μ1.length) μ') :
    wE G F0 H0 (tLc (iList G.K tl) g tt te vs) ρ μ R := fun F H as σ Q e q => by
  refine h F H as σ _ e fun u μ1 v F1 H1 as1 h1 e1 s1 g1 r1 => ?_
  obtain ⟨ds, hl, I, i0, ip, is, ie⟩ := h1
  obtain ⟨a, vs0, rfl, hs0, _⟩ := hl.seq e1 r1
  refine ⟨a, rfl, ⟨vs0, hs0⟩, lc_any (nn := ds.length) (itd := fun i d => ds[i]? = some d) hw e1 (q.on s1 g1) I (fun i F2 H2 as2 μ2 e2 s2 g2 i2 => ?_) i0 (fun i d μ' _ hd hI => is i d μ' hd hI) ie⟩
  obtain ⟨a', ws, ea, hs, ha⟩ := (ip i μ2 i2).seq e2 (r1.mono s2 g2)
  cases ea
  refine ⟨fun hi => ?_, fun hi => ⟨ws, hs, by rw [ha.length]; omega⟩⟩
  have hv : i < ws.length := by rw [ha.length]; exact hi
  refine ⟨⟨ws, ws[i], hs, by simp [hv]⟩, fun x H' y => ?_⟩
  obtain ⟨rfl, y⟩ := y
  obtain ⟨d, hd, rd⟩ := ha.getV (y ws hs)
  exact ⟨rfl, d, hd, rd⟩
theorem wE_lcR {ta : TA} {g : TG} {tt : TT} {te : TE} {vs : List Nat} (hw : Within g vs) (h : wA G F0 H0 ta ρ μ fun us μ1 => ∃ j : Int, us = [.d (.int j)] ∧ -(2 ^ 62) ≤ j ∧ j < 2 ^ 62 ∧ ∃ I : Nat → Mu → Prop, I 0 (μ1 ++ [.rw []]) ∧
      (∀ i μ', i < j.toNat → I i μ' → wG G F0 H0 g (.d (.int i)) (wipeR ρ vs) μ' fun ρ2 μ2 => LcTurn G F0 H0 tt te μ1.length ρ2 (I i) (I (i + 1)) μ2) ∧ ∀ μ', I j.toNat μ' → R (.p μ1.length) μ') :
    wE G F0 H0 (tLc (iRng1 ta) g tt te vs) ρ μ R := fun F H as σ Q e q => by
  refine h F H as σ _ e fun us μ1 v F1 H1 as1 h1 e1 s1 g1 r1 => ?_
  obtain ⟨j, rfl, b1, b2, I, i0, is, ie⟩ := h1
  obtain ⟨v, rfl, r9⟩ := p1 r1
  cases (show Rp G F1 v (.int j) from r9)
  refine ⟨j, rfl, b1, b2, lc_any (nn := j.toNat) (itd := fun i d => d = .int i) hw e1 (q.on s1 g1) I (fun i F2 H2 as2 μ2 e2 s2 g2 i2 => ⟨fun hi => ⟨hi, fun x H' y => ?_⟩, fun hi => Nat.le_of_eq hi.symm⟩) i0 (fun i d μ' hi hd hI => by subst hd; exact is i μ' hi hI) ie⟩
  obtain ⟨rfl, rfl⟩ := y
  refine ⟨rfl, _, rfl, ?_⟩
  rw [Int.zero_add]
  exact Rp.int _
end
end L3

set_option Elab.async false
set_option linter.all false
set_option maxRecDepth 100000
set_option maxHeartbeats 4000000
/-! Contracts; short words for readings. -/
namespace L3
open PySem PySem.Spec PyProof.Rows L2

/-- how a def ends -/
inductive Out where
  | ret (r : Res) | exc (n : Nat)
structure Ct (α : Type) where
  args : α → List Arg
  pre : α → Prop
  out : α → Out
/-- the program's classes of errors, by number: 0 BadFraction, 1 BadTaste, 2 BadPiece, 3 BadTakers, 4 TooLittle, 5 BadText -/
abbrev Ex := Nat → Addr
def spC {α : Type} (G : Gx) (X : Ex) (c : Ct α) : Sp := fun vs H Q E => ∃ a, c.pre a ∧ spD G (fun xs => xs = c.args a) (fun _ r => c.out a = .ret r) (fun _ e => ∃ n, c.out a = .exc n ∧ e = X n) vs H Q E
/-- what a call's end is to give -/
def Ends' (R : RE) (μ : Mu) (H0 : Hp) (X : Ex) (E : XK) : Out → Prop
  | .ret r => Got R μ r
  | .exc n => ∀ H', Same H0 H' → E (.ref (X n)) none H'
section
variable {G : Gx} {F0 H0 : Hp} {F F1 H : Hp} {as as1 : List Addr} {σ : L2.St} {ρ : Ro} {μ : Mu} {R : RE} {α : Type}
theorem wE_ct {X : Ex} {c : Ct α} {E : XK} {t : TA} (h : wA G F0 H0 t ρ μ fun us μ1 => ∃ a, Paired (ArgOf μ1) us (c.args a) ∧ c.pre a ∧ Ends' R μ1 H0 X E (c.out a)) :
    wE G F0 H0 (tCall (spC G X c) [] E t) ρ μ R := fun F H as σ Q e q => by
  refine h F H as σ _ e fun us μ1 vs F1 H1 as1 h1 e1 s1 g1 r1 => ?_
  obtain ⟨a, ha, hp, hg⟩ := h1
  refine ⟨a, hp, F1, c.args a, e1.bs.fh, by rw [List.append_nil]; exact args_ok e1 r1 ha, rfl, fun r v F' H' hr sF sf sH sn ro => ?_, fun e H' hx hs => ?_⟩
  · rw [hr] at hg
    exact got_ok e1 sF sf sH sn ro hg (q.on s1 g1)
  · obtain ⟨n, hn, rfl⟩ := hx
    rw [hn] at hg
    exact hg H' (e1.bs.h0.trans hs)
theorem wE_cm {X : Ex} {c : Ct α} {E : XK} {C : Addr} {m : Str} {ta : TE} {t : TA} (h : wE G F0 H0 ta ρ μ fun u μ1 => ∃ n ds, u = .d (.ob n ds) ∧ G.cl n = C ∧ (fl n).contains m = false ∧
      wA G F0 H0 t ρ μ1 fun us μ2 => ∃ a, Paired (ArgOf μ2) (.d (.ob n ds) :: us) (c.args a) ∧ c.pre a ∧ Ends' R μ2 H0 X E (c.out a)) :
    wE G F0 H0 (tMeth C m (spC G X c) [] E ta t) ρ μ R := fun F H as σ Q e q => by
  refine h F H as σ _ e fun u μ1 v F1 H1 as1 h1 e1 s1 g1 r1 => ?_
  obtain ⟨n, ds, rfl, hc, hm, h1⟩ := h1
  cases (show Rp G F1 v (.ob n ds) from r1) with
  | ob ho hf ha0 =>
    rename_i a dx fs
    refine ⟨a, dx, fs, rfl, by rw [← hc]; exact e1.bs.fh _ _ ho, look_none hf hm, ?_⟩
    refine h1 F1 H1 as1 σ _ e1 fun us μ2 vs F2 H2 as2 h2 e2 s2 g2 r2 => ?_
    obtain ⟨b, ha, hp, hg⟩ := h2
    have rs : Paired (RpU G as2 F2) (.ref a :: vs) (.d (.ob n ds) :: us) := .cons (Rp.mono s2 _ (Rp.ob ho hf ha0)) r2
    refine ⟨b, hp, F2, c.args b, e2.bs.fh, by rw [List.append_nil]; exact args_ok e2 rs ha, rfl, fun r v F' H' hr sF sf sH sn ro => ?_, fun e H' hx hs => ?_⟩
    · rw [hr] at hg
      exact got_ok e2 sF sf sH sn ro hg ((q.on s1 g1).on s2 g2)
    · obtain ⟨n, hn, rfl⟩ := hx
      rw [hn] at hg
      exact hg H' (e2.bs.h0.trans hs)
/-- what a def's body is to end in -/
def DEc (out : Out) : DE := { nx := fun _ μ => ∃ r, out = .ret r ∧ Ret μ (.d .non) r, rt := fun u μ => ∃ r, out = .ret r ∧ Ret μ u r }
theorem body_ct {X : Ex} {c : Ct α} {t : TS} {N : List Str} {vs : List V} {H : Hp} {Q : VK} {E : XK} (hsp : spC G X c vs H Q E) (hN : ∀ a, (c.args a).length ≤ N.length)
    (h : ∀ (a : α) (F : Hp), c.pre a → (∀ n, c.out a = .exc n → ∀ H', Same H H' → E (.ref (X n)) none H') → wS G F H t (slotsFrom 0 (c.args a) ++ List.replicate (N.length - (c.args a).length) none) (cellsOf (c.args a)) (DEc (c.out a))) :
    t { nx := fun _ H' => Q .non H', rt := Q } (L2.start N vs) H := by
  obtain ⟨a, hp, hsp⟩ := hsp
  refine body_ok hsp (fun xs hx => by rw [hx]; exact hN a) fun xs F hx hE => ?_
  subst hx
  refine h a F hp fun n hn H' hs => hE _ ⟨n, hn, rfl⟩ H' hs
theorem spC_len {X : Ex} {c : Ct α} {n : Nat} (hn : ∀ a, (c.args a).length = n) {vs : List V} {H : Hp} {Q : VK} {E : XK} (h : spC G X c vs H Q E) : vs.length = n := by
  obtain ⟨a, hp, F, xs, hF, ha, hx, _⟩ := h
  subst hx
  rw [paired_len ha]
  exact hn a
theorem wS_raise {W : WX} {t : L2.St → Hp → XK → Prop} {c : Addr} {D' : DE} (ht : ∀ σ H (Q : XK), Q (.ref c) none H → t σ H Q) (h : ∀ σ H', Same H0 H' → W (.ref c) none σ H') : wS G F0 H0 (fun _ σ H => t σ H fun cls d H' => W cls d σ H') ρ μ D' :=
  fun F H as σ X e q => ht _ _ _ (h σ H e.bs.h0)
end
/-- a def of the program, as callers want it -/
structure Def (P : Program) (w : World) (K : PySem.W.Frag) (mg : Str → Option Value) (base : Heap) (x : Str) (k : Nat) (ps : List Str) (sp : Sp) : Prop where
  ex : ∃ (f : Addr) (fd : FuncData), FnOk P w K mg base (L2.CX P w) k f fd ps sp ∧ mg x = some (.ref f) ∧ PySem.W.keepIn K (.ref f) = true ∧ Binds K fd ps []
/-- what the top has laid of a def -/
structure Top (K : PySem.W.Frag) (mg : Str → Option Value) (x : Str) (st : Stmt) (ps : List Str) : Prop where
  ex : ∃ (f : Addr) (fd : FuncData), Fun K x x st f fd ∧ mg x = some (.ref f) ∧ Binds K fd ps []
theorem def_of {P : Program} {w : World} {K : PySem.W.Frag} {mg : Str → Option Value} {base : Heap} {x : Str} {k : Nat} {ps : List Str} {sp : Sp} {st : Stmt} (T : Top K mg x st ps)
    (h : ∀ (f : Addr) (fd : FuncData), Fun K x x st f fd → FnOk P w K mg base (L2.CX P w) k f fd ps sp) : Def P w K mg base x k ps sp := by
  obtain ⟨f, fd, F, m, b⟩ := T.ex
  exact ⟨f, fd, h f fd F, m, F.kp, b⟩
/-- an error of a callee goes on -/
theorem passC {X : Cx} {E : XK} {E₁ : Value → Shared → Prop} (hs : X.stack = X.env :: X.outer) (hf : X.env.frame = some X.env.locals) (hex : X.ex = []) (hx : X.xe = fun e s' => wpAny (model X.prog X.w) X.A (leaving X.env e) (fun _ s'' => L2.CX X.prog X.w X.outer X.H_0 X.s_0 E e s'') E₁ s') : Passes (L2.CX X.prog X.w) X E :=
  passes_call (takes_of hs hf hex hx) fun _ _ _ _ h => h
theorem w2_ix {G : Gx} {F0 H0 : Hp} {ρ : Ro} {μ : Mu} {R : RE} {u : U} {ds : List D} {i : Int} {d : D} (hl : IsL μ u ds ∨ u = .d (.tup ds)) (h : atI ds i = some d) (k : R (.d d) μ) : w2 G F0 H0 (rIx G.K) u (.d (.int i)) ρ μ R := fun F H as σ v1 v2 Q e r1 r2 q => by
  rcases hl with hl | rfl
  · exact .inl (w2_ixL hl h k F H as σ v1 v2 Q e r1 r2 q)
  · exact .inr (.inl (w2_ixT h k F H as σ v1 v2 Q e r1 r2 q))
end L3
namespace L3
open PySem PySem.Spec PyProof.Rows L2
/-- a method of an own class, as callers want it -/
structure Met (P : Program) (w : World) (G : Gx) (mg : Str → Option Value) (base : Heap) (c m : Str) (k : Nat) (ps : List Str) (sp : Sp) : Prop where
  ex : ∃ (f : Addr) (fd : FuncData), FnOk P w G.K mg base (L2.CX P w) k f fd ps sp ∧ True ∧ Binds G.K fd ps []
def CstT (G : Gx) (mg : Str → Option Value) (x : Str) (d : D) : Prop := ∃ a, mg x = some (.ref a) ∧ Cst G a d
def CstI (mg : Str → Option Value) (x : Str) (i : Int) : Prop := ∃ t, mg x = some (.int i t)
def CstS (mg : Str → Option Value) (x : Str) (i : Str) : Prop := ∃ t, mg x = some (.str i t)
structure ClsG (mg : Str → Option Value) (x : Str) (C : Addr) : Prop where
  at_ : mg x = some (.ref C)
structure ExcOk (K : PySem.W.Frag) (mg : Str → Option Value) (x : Str) (C : Addr) : Prop where
  xP : PySem.W.excIn K C [.type "ValueError", .type "Exception", .type "BaseException", .type "object"] "ValueError.__new__" = true
  gP : mg x = some (.ref C)
  kP : PySem.W.keepIn K (.ref C) = true
  bP : PySem.W.subIn K (.ref C) (.type "BaseException") = some true
  tP : PySem.W.typeIn K (.ref C) = some (.type "type")
/-- an int in a slot -/
def getI (ρ : Ro) (i : Nat) : Int := match ρ[i]? with
  | some (some (.d (.int t))) => t
  | _ => 0
/-- a local list's length -/
def getN (μ : Mu) (k : Nat) : Nat := match μ[k]? with
  | some (.rw ds) => ds.length
  | _ => 0
theorem ret_d {μ : Mu} {x y : D} (h : x = y) : ∃ r, Out.ret (Res.d x) = Out.ret r ∧ Ret μ (.d y) r := by
  subst h
  exact ⟨_, rfl, .d x⟩
/-! isinstance by tags -/
inductive Tg where
  | non | bl | int | str | tup | lst | dct
def tgS : Tg → String
  | .non => "NoneType" | .bl => "bool" | .int => "int" | .str => "str" | .tup => "tuple" | .lst => "list" | .dct => "dict"
def kt : Tg → Tg → Bool
  | .non, .non => true | .bl, .bl => true | .bl, .int => true | .int, .int => true | .str, .str => true | .tup, .tup => true | .lst, .lst => true | .dct, .dct => true
  | _, _ => false
theorem kt_ok : ∀ a b : Tg, b ≠ .non → kitB (tgS a) (tgS b) = some (kt a b) := by
  intro a b h
  cases a <;> cases b <;> first | exact absurd rfl h | decide +kernel
def tgD : D → Option Tg
  | .non => some .non | .bl _ => some .bl | .int _ => some .int | .str _ => some .str | .tup _ => some .tup | .lst _ => some .lst | .ob _ _ => none
def tgC : Option Cell → Option Tg
  | some (.rw _) => some .lst | some (.ro _) => some .lst | some (.pl _) => some .lst | some (.dct _) => some .dct | _ => none
def tgU (μ : Mu) : U → Option Tg
  | .d x => tgD x
  | .p k => tgC μ[k]?
theorem tgU_ty {μ : Mu} {u : U} {t : Tg} (h : tgU μ u = some t) : tyU μ u = some (tgS t) := by
  cases u with
  | d x => cases x <;> cases h <;> rfl
  | p k =>
    have h' : tgC μ[k]? = some t := h
    show tyC μ[k]? = _
    cases hk : μ[k]? with
    | none => rw [hk] at h'; cases h'
    | some c =>
      rw [hk] at h'
      cases c <;> cases h' <;> rfl
theorem wE_isT {G : Gx} {F0 H0 : Hp} {ρ : Ro} {μ : Mu} {R : RE} {ta : TE} {n : String} (tn : Tg) (hn : n = tgS tn) (hne : tn ≠ .non) (h : wE G F0 H0 ta ρ μ fun u μ1 => ∃ t, tgU μ1 u = some t ∧ R (.d (.bl (kt t tn))) μ1) : wE G F0 H0 (tCB (rIsi G.K) (tCons ta (tCons (tC (.ty n)) tNil))) ρ μ R := by
  subst hn
  exact wE_isi (wE_imp h fun u μ' ⟨t, h1, h2⟩ => ⟨_, _, tgU_ty h1, kt_ok t tn hne, h2⟩)
theorem wE_isInt {G : Gx} {F0 H0 : Hp} {ρ : Ro} {μ : Mu} {R : RE} {ta : TE} (h : wE G F0 H0 ta ρ μ fun u μ1 => ∃ t, tgU μ1 u = some t ∧ R (.d (.bl (kt t .int))) μ1) : wE G F0 H0 (tCB (rIsi G.K) (tCons ta (tCons (tC (.ty "int")) tNil))) ρ μ R := wE_isT .int rfl (by simp) h
theorem wE_isBool {G : Gx} {F0 H0 : Hp} {ρ : Ro} {μ : Mu} {R : RE} {ta : TE} (h : wE G F0 H0 ta ρ μ fun u μ1 => ∃ t, tgU μ1 u = some t ∧ R (.d (.bl (kt t .bl))) μ1) : wE G F0 H0 (tCB (rIsi G.K) (tCons ta (tCons (tC (.ty "bool")) tNil))) ρ μ R := wE_isT .bl rfl (by simp) h
theorem wE_isStr {G : Gx} {F0 H0 : Hp} {ρ : Ro} {μ : Mu} {R : RE} {ta : TE} (h : wE G F0 H0 ta ρ μ fun u μ1 => ∃ t, tgU μ1 u = some t ∧ R (.d (.bl (kt t .str))) μ1) : wE G F0 H0 (tCB (rIsi G.K) (tCons ta (tCons (tC (.ty "str")) tNil))) ρ μ R := wE_isT .str rfl (by simp) h
theorem wE_isTup {G : Gx} {F0 H0 : Hp} {ρ : Ro} {μ : Mu} {R : RE} {ta : TE} (h : wE G F0 H0 ta ρ μ fun u μ1 => ∃ t, tgU μ1 u = some t ∧ R (.d (.bl (kt t .tup))) μ1) : wE G F0 H0 (tCB (rIsi G.K) (tCons ta (tCons (tC (.ty "tuple")) tNil))) ρ μ R := wE_isT .tup rfl (by simp) h
theorem wE_isLst {G : Gx} {F0 H0 : Hp} {ρ : Ro} {μ : Mu} {R : RE} {ta : TE} (h : wE G F0 H0 ta ρ μ fun u μ1 => ∃ t, tgU μ1 u = some t ∧ R (.d (.bl (kt t .lst))) μ1) : wE G F0 H0 (tCB (rIsi G.K) (tCons ta (tCons (tC (.ty "list")) tNil))) ρ μ R := wE_isT .lst rfl (by simp) h
theorem bt_isinstance : bootBuiltins "isinstance" = some (.builtin "isinstance") := by decide +kernel
theorem bt_any : bootBuiltins "any" = some (.builtin "any") := by decide +kernel
theorem bt_all : bootBuiltins "all" = some (.builtin "all") := by decide +kernel
theorem bt_sorted : bootBuiltins "sorted" = some (.builtin "sorted") := by decide +kernel
theorem bt_sum : bootBuiltins "sum" = some (.builtin "sum") := by decide +kernel
theorem bt_abs : bootBuiltins "abs" = some (.builtin "abs") := by decide +kernel
theorem bt_max : bootBuiltins "max" = some (.builtin "max") := by decide +kernel
theorem bt_min : bootBuiltins "min" = some (.builtin "min") := by decide +kernel
theorem bt_len : bootBuiltins "len" = some (.builtin "len") := by decide +kernel
theorem bt_int : bootBuiltins "int" = some (.type "int") := by decide +kernel
theorem bt_bool : bootBuiltins "bool" = some (.type "bool") := by decide +kernel
theorem bt_str : bootBuiltins "str" = some (.type "str") := by decide +kernel
theorem bt_list : bootBuiltins "list" = some (.type "list") := by decide +kernel
theorem bt_tuple : bootBuiltins "tuple" = some (.type "tuple") := by decide +kernel
theorem bt_dict : bootBuiltins "dict" = some (.type "dict") := by decide +kernel
/-! the hand layer's rules with the written part named -/
section
variable {X : Cx} {K : PySem.W.Frag}
theorem kIsi (h : X.K = K) : CallR X (.builtin "isinstance") (rIsi K) := by subst h; exact call_isi
theorem kLen (h : X.K = K) : CallR X (.builtin "len") (rLen K) := by subst h; exact call_len_seq
theorem kAny (h : X.K = K) (hc : X.calm = true) : CallR X (.builtin "any") (rAny K) := by subst h; exact cr_any hc
theorem kAll (h : X.K = K) (hc : X.calm = true) : CallR X (.builtin "all") (rAll K) := by subst h; exact cr_all hc
theorem kSum (h : X.K = K) (hc : X.calm = true) : CallR X (.builtin "sum") (rSum K) := by subst h; exact cr_sum hc
theorem kSorted (h : X.K = K) : CallR X (.builtin "sorted") (rSorted K) := by subst h; exact cr_sorted
abbrev rListOf (K : PySem.W.Frag) : List V → Hp → VK → Prop := fun xs H Q => ∃ p ys, xs = [.ref p] ∧ (SqL K H p ys ∨ SqT K H p ys) ∧ ∀ l, H l = none → Q (.ref l) (upd H l (.lst ys))
theorem kListOf (h : X.K = K) : CallR X (.type "list") (rListOf K) := by subst h; exact call_list_of
theorem kIx (h : X.K = K) : IxR X (rIx K) := by subst h; exact ix_seq
theorem kEq (h : X.K = K) (hu : X.A.units + 64 < cLine) : OpR X (compareOp .Eq) (rEqD K) := by subst h; exact op_eqD hu
theorem kNe (h : X.K = K) (hu : X.A.units + 64 < cLine) : OpR X (compareOp .NotEq) (rNeD K) := by subst h; exact op_neD hu
theorem kIn (h : X.K = K) : OpR X (compareOp .In) (rIn K false) := by subst h; exact op_in_seq
theorem kNotIn (h : X.K = K) : OpR X (compareOp .NotIn) (rIn K true) := by subst h; exact op_notIn_seq
theorem kSl (h : X.K = K) : SlR X (rSlL K) := by subst h; exact sl_list
theorem kFld {e : Expr} {f : Str} {pos : Pos} {ta : TE} (h : X.K = K) (he : PE X e ta) (hb : attributeBase e f X.env (eval e X.env) = eval e X.env) : PE X (.Attribute e f pos) (tFld K ta f) := by subst h; exact pe_fld he hb
theorem kpi_list {tg l : Expr} {tl : TE} (h : X.K = K) (hl : PE X l tl) : PI X tg l (iList K tl) := by subst h; exact pi_list hl
theorem kpi_tup {tg l : Expr} {tl : TE} (h : X.K = K) (hl : PE X l tl) : PI X tg l (iTup K tl) := by subst h; exact pi_tup hl
theorem kpg_tup {es : List Expr} {k : Nat} {t : TGs} {n : Nat} {pos : Pos} (hK : X.K = K) (hc : X.calm = true) (h : PGs X es t)
    (hn : (assignEach es X.env).length = n := by rfl) (hst : (assignEach es X.env).findIdx? (·.1) = none := by rfl) : PG X (.Tuple es k pos) (gTup K n t) := by subst hK; exact pg_tup hc h hn hst
theorem kbm0 {T id : String} {name : Str} {o : Expr} {apos cpos : Pos} {to : TE} {r : V → List V → Hp → VK → Prop} (hK : X.K = K) (pa : PlainAttrs T) (slot : Slot T name id) (hty : typeOf (.builtin id) = pure (.type "method_descriptor")) (hm : MtR X id r) (ho : PE X o to)
    (hbase : attributeBase o name X.env (eval o X.env) = eval o X.env := by rfl) (hline : (apos.endLine == cpos.line) = true := by rfl) : PE X (.Call (.Attribute o name apos) [] [] cpos) (tBM0 K T r to) := by
  subst hK; exact pe_bm0 pa slot hty hm ho hbase hline
theorem kbm {T id : String} {name : Str} {o e : Expr} {es : List Expr} {apos cpos : Pos} {to : TE} {t : TA} {r : V → List V → Hp → VK → Prop} (hK : X.K = K) (pa : PlainAttrs T) (slot : Slot T name id) (hty : typeOf (.builtin id) = pure (.type "method_descriptor")) (hm : MtR X id r) (ho : PE X o to) (ha : PA X (e :: es) t)
    (hbase : attributeBase o name X.env (eval o X.env) = eval o X.env := by rfl)
    (hfew : ((backTo cpos (starEach (e :: es) X.env)).all (fun x => !x.1) && (backToKw cpos (keywordEach [] X.env)).all (fun x => x.1.isSome)
      && decide ((e :: es).length + ([] : List Keyword).length + (if ([] : List Keyword).isEmpty then 0 else 1) < 30)) = true := by rfl)
    (hline : (apos.endLine == cpos.line) = true := by rfl) (hs : starEach (e :: es) X.env = (false, eval e X.env) :: starEach es X.env := by rfl) (hplain : (backTo cpos (starEach es X.env)).any (·.1) = false := by rfl) :
    PE X (.Call (.Attribute o name apos) (e :: es) [] cpos) (tBM K T r to t) := by
  subst hK; exact pe_bm pa slot hty hm ho ha hbase hfew hline hs hplain
theorem k_truth {a : Expr} {ta : TE} (h : X.K = K) (ha : PE X a ta) (he : ∀ whole, isTrue a X.env whole = (do let v ← whole; standAt a.pos; holding [v] (truthy v))) : PT X a (fun σ H Q => ta σ H fun x H1 => ∃ k, TruV K x H1 k ∧ Q k H1) := by subst h; exact pt_truth ha he
end
end L3

set_option Elab.async false
set_option linter.all false
set_option maxRecDepth 100000
set_option maxHeartbeats 4000000
set_option exponentiation.threshold 100
/-! Fractions: data, promises, the plain mathematics. -/
namespace L3
open PySem PySem.Spec PyProof.Rows L2

def encF (q : Rat) : D := .tup [.int q.num, .int (q.den : Int)]
theorem encF_inj {q r : Rat} (h : encF q = encF r) : q = r := by
  unfold encF at h
  injection h with h
  injection h with h1 h2
  injection h1 with h1
  injection h2 with h2 _
  injection h2 with h2
  exact Rat.ext h1 (by omega)
theorem eqD_encF (q r : Rat) : eqD (encF q) (encF r) = decide (q = r) := by
  unfold encF
  simp only [eqD, eqDs, Bool.and_true]
  by_cases h : q = r
  · subst h; simp
  · rw [decide_eq_false h]
    rw [Bool.and_eq_false_iff]
    by_cases h1 : q.num = r.num
    · right
      rw [beq_eq_false_iff_ne]
      intro h2
      exact h (Rat.ext h1 (by omega))
    · left
      rw [beq_eq_false_iff_ne]
      exact h1
theorem sh_encF (q : Rat) : sh (encF q) 1 = true := rfl
/-- a size that the program's numbers keep below -/
def Sz (q : Rat) : Prop := q.num.natAbs < 2 ^ 4400 ∧ q.den < 2 ^ 4400
/-- small enough to be divided by -/
def Dz (b : Int) : Prop := 0 < b ∧ b.natAbs < 2 ^ 8990

def c_lowest : Ct (Int × Int) := ⟨fun a => [.d (.int a.1), .d (.int a.2)], fun a => 0 ≤ a.1 ∧ Dz a.2, fun a => .ret (.d (encF (Rat.divInt a.1 a.2)))⟩
def c_plus : Ct (Rat × Rat) := ⟨fun a => [.d (encF a.1), .d (encF a.2)], fun a => 0 ≤ a.1 ∧ 0 ≤ a.2 ∧ Sz a.1 ∧ Sz a.2, fun a => .ret (.d (encF (a.1 + a.2)))⟩
def c_minus : Ct (Rat × Rat) := ⟨fun a => [.d (encF a.1), .d (encF a.2)], fun a => 0 ≤ a.2 ∧ a.2 ≤ a.1 ∧ Sz a.1 ∧ Sz a.2, fun a => .ret (.d (encF (a.1 - a.2)))⟩
def c_times : Ct (Rat × Rat) := ⟨fun a => [.d (encF a.1), .d (encF a.2)], fun a => 0 ≤ a.1 ∧ 0 ≤ a.2 ∧ Sz a.1 ∧ Sz a.2, fun a => .ret (.d (encF (a.1 * a.2)))⟩
def c_over : Ct (Rat × Rat) := ⟨fun a => [.d (encF a.1), .d (encF a.2)], fun a => 0 ≤ a.1 ∧ 0 < a.2 ∧ Sz a.1 ∧ Sz a.2, fun a => .ret (.d (encF (a.1 / a.2)))⟩
def c_below : Ct (Rat × Rat) := ⟨fun a => [.d (encF a.1), .d (encF a.2)], fun a => Sz a.1 ∧ Sz a.2, fun a => .ret (.d (.bl (decide (a.1 < a.2))))⟩
/-- any data: is it a whole number -/
def wholeD : D → Bool
  | .int _ => true
  | _ => false
def noOb : D → Bool
  | .ob _ _ => false
  | _ => true
def argOf : D → Arg
  | .lst ds => .l ds
  | d => .d d
def c_is_whole : Ct D := ⟨fun a => [argOf a], fun a => noOb a = true, fun a => .ret (.d (.bl (wholeD a)))⟩
/-- of two numbers handed in: BadFraction, or the fraction -/
def c_made : Ct (D × D) := ⟨fun a => [argOf a.1, argOf a.2], fun a => noOb a.1 = true ∧ noOb a.2 = true ∧ ∀ x y, a = (.int x, .int y) → 0 ≤ x → 0 < y → Dz y,
  fun a => match a with
    | (.int x, .int y) => if x < 0 ∨ y < 1 then .exc 0 else .ret (.d (encF (Rat.divInt x y)))
    | _ => .exc 0⟩

/-! ### the plain law of lowest -/
theorem num_pos {q : Rat} : 0 < q.num ↔ 0 < q := by
  have h := Rat.lt_iff 0 q
  have e : (0 : Rat).num = 0 := rfl
  have e2 : (0 : Rat).den = 1 := rfl
  rw [e, e2] at h
  rw [h]
  simp
theorem gcd_step {a b : Int} (ha : 0 ≤ a) (hb : 0 < b) : Int.gcd b (a % b) = Int.gcd a b := by
  obtain ⟨n, rfl⟩ := Int.eq_ofNat_of_zero_le ha
  obtain ⟨m, rfl⟩ := Int.eq_ofNat_of_zero_le (Int.le_of_lt hb)
  show Nat.gcd m (n % m) = Nat.gcd n m
  rw [Nat.gcd_comm n m, Nat.gcd_rec m n, Nat.gcd_comm]
theorem low_num {a b : Int} (hb : 0 < b) : a / (Int.gcd a b : Int) = (Rat.divInt a b).num := by
  obtain ⟨n, rfl⟩ := Int.eq_ofNat_of_zero_le (Int.le_of_lt hb)
  have hn : n ≠ 0 := by omega
  rw [Rat.divInt_ofNat, Rat.num_mkRat, if_neg hn]
  congr 1
  rw [Int.gcd_comm]
  rfl
theorem low_den {a b : Int} (hb : 0 < b) : b / (Int.gcd a b : Int) = ((Rat.divInt a b).den : Int) := by
  obtain ⟨n, rfl⟩ := Int.eq_ofNat_of_zero_le (Int.le_of_lt hb)
  have hn : n ≠ 0 := by omega
  rw [Rat.divInt_ofNat, Rat.den_mkRat, if_neg hn]
  rw [Int.gcd_comm]
  rfl
theorem gcd_dz {a b : Int} (h : Dz b) : CDivW a (Int.gcd a b : Int) := by
  have h1 : 0 < Int.gcd a b := Int.gcd_pos_of_ne_zero_right a (by have := h.1; omega)
  have h2 : Int.gcd a b ≤ b.natAbs := Nat.le_of_dvd (by have := h.1; omega) (Int.gcd_dvd_natAbs_right a b)
  have h3 := h.2
  refine wide_div (b := 8990) (by omega) ?_ (by omega) (by omega)
  rw [Int.natAbs_natCast]
  omega
theorem gcd_dz' {a b : Int} (h : Dz b) : CDivW b (Int.gcd a b : Int) := ⟨(gcd_dz (a := a) h).1, (gcd_dz (a := a) h).2⟩
theorem den_pos' (q : Rat) : (0 : Int) < q.den := by have := q.den_pos; omega
theorem dz_mul {q r : Rat} (h1 : Sz q) (h2 : Sz r) : Dz ((q.den : Int) * (r.den : Int)) := by
  refine ⟨Int.mul_pos (den_pos' q) (den_pos' r), ?_⟩
  rw [Int.natAbs_mul, Int.natAbs_natCast, Int.natAbs_natCast]
  have : q.den * r.den < 2 ^ 4400 * 2 ^ 4400 := Nat.mul_lt_mul'' h1.2 h2.2
  rw [← Nat.pow_add] at this
  exact Nat.lt_of_lt_of_le this (Nat.pow_le_pow_right (by decide) (by decide))
theorem dz_over {q r : Rat} (h1 : Sz q) (h2 : Sz r) (h : 0 < r) : Dz ((q.den : Int) * r.num) := by
  have hr : 0 < r.num := num_pos.mpr h
  refine ⟨Int.mul_pos (den_pos' q) hr, ?_⟩
  rw [Int.natAbs_mul, Int.natAbs_natCast]
  have : q.den * r.num.natAbs < 2 ^ 4400 * 2 ^ 4400 := Nat.mul_lt_mul'' h1.2 h2.1
  rw [← Nat.pow_add] at this
  exact Nat.lt_of_lt_of_le this (Nat.pow_le_pow_right (by decide) (by decide))
theorem wm {a b : Int} (h1 : a.natAbs < 2 ^ 4400) (h2 : b.natAbs < 2 ^ 4400) : CMulW a b := wide_mul h1 h2 (by decide) (by decide) (by decide)
theorem nn_num {q : Rat} (h : 0 ≤ q) : 0 ≤ q.num := Rat.num_nonneg.mpr h
theorem wm_nd {q r : Rat} (h1 : Sz q) (h2 : Sz r) : CMulW q.num r.den := wm h1.1 (by rw [Int.natAbs_natCast]; exact h2.2)
theorem wm_dd {q r : Rat} (h1 : Sz q) (h2 : Sz r) : CMulW q.den r.den := wm (by rw [Int.natAbs_natCast]; exact h1.2) (by rw [Int.natAbs_natCast]; exact h2.2)
theorem wm_nn {q r : Rat} (h1 : Sz q) (h2 : Sz r) : CMulW q.num r.num := wm h1.1 h2.1
theorem wm_dn {q r : Rat} (h1 : Sz q) (h2 : Sz r) : CMulW q.den r.num := wm (by rw [Int.natAbs_natCast]; exact h1.2) h2.1
theorem divInt_nat (a : Int) (m n : Nat) : Rat.divInt a ((m : Int) * (n : Int)) = mkRat a (m * n) := by
  rw [← Int.natCast_mul, Rat.divInt_ofNat]
theorem plus_law (q r : Rat) : Rat.divInt (q.num * r.den + r.num * q.den) ((q.den : Int) * r.den) = q + r := by rw [divInt_nat, Rat.add_def']
theorem minus_law (q r : Rat) : Rat.divInt (q.num * r.den - r.num * q.den) ((q.den : Int) * r.den) = q - r := by rw [divInt_nat, Rat.sub_def']
theorem times_law (q r : Rat) : Rat.divInt (q.num * r.num) ((q.den : Int) * r.den) = q * r := by rw [divInt_nat, Rat.mul_def']
theorem below_law (q r : Rat) : decide (q.num * (r.den : Int) < r.num * (q.den : Int)) = decide (q < r) := by
  by_cases h : q < r
  · rw [decide_eq_true h, decide_eq_true ((Rat.lt_iff _ _).mp h)]
  · rw [decide_eq_false h, decide_eq_false fun z => h ((Rat.lt_iff _ _).mpr z)]
theorem rat_div (q : Rat) : q = (q.num : Rat) / ((q.den : Int) : Rat) := by
  have := Rat.divInt_eq_div q.num q.den
  rw [Rat.num_divInt_den] at this
  exact this
theorem over_law (q r : Rat) (h : 0 < r) : Rat.divInt (q.num * r.den) ((q.den : Int) * r.num) = q / r := by
  have hr : r.num ≠ 0 := by have := num_pos.mpr h; omega
  have hr' : (r.num : Rat) ≠ 0 := by exact_mod_cast hr
  have hd : ((r.den : Int) : Rat) ≠ 0 := by have := den_pos' r; exact_mod_cast (by omega : (r.den : Int) ≠ 0)
  have hq : ((q.den : Int) : Rat) ≠ 0 := by have := den_pos' q; exact_mod_cast (by omega : (q.den : Int) ≠ 0)
  rw [Rat.divInt_eq_div]
  have e1 := rat_div q
  have e2 := rat_div r
  generalize hx : (q.num : Rat) = x at *
  generalize hy : ((q.den : Int) : Rat) = y at *
  generalize hz : (r.num : Rat) = z at *
  generalize hw : ((r.den : Int) : Rat) = u at *
  rw [Rat.intCast_mul, Rat.intCast_mul, hx, hy, hz, hw]
  rw [e1, e2]
  grind
theorem minus_nn {q r : Rat} (h0 : 0 ≤ r) (h : r ≤ q) : 0 ≤ q.num * (r.den : Int) - r.num * (q.den : Int) := by
  have := (Rat.le_iff _ _).mp h
  omega
theorem plus_nn {q r : Rat} (h0 : 0 ≤ q) (h : 0 ≤ r) : 0 ≤ q.num * (r.den : Int) + r.num * (q.den : Int) :=
  Int.add_nonneg (Int.mul_nonneg (nn_num h0) (Int.le_of_lt (den_pos' r))) (Int.mul_nonneg (nn_num h) (Int.le_of_lt (den_pos' q)))
section
variable {G : Gx} {F0 H0 : Hp} {ρ : Ro} {μ : Mu} {R : RE}
theorem w2_f0 {q : Rat} (k : R (.d (.int q.num)) μ) : w2 G F0 H0 (rIx G.K) (.d (encF q)) (.d (.int 0)) ρ μ R := w2_ix (.inr rfl) rfl k
theorem w2_f1 {q : Rat} (k : R (.d (.int (q.den : Int))) μ) : w2 G F0 H0 (rIx G.K) (.d (encF q)) (.d (.int 1)) ρ μ R := w2_ix (.inr rfl) rfl k
theorem end_d {X : Ex} {E : XK} {x : D} (k : R (.d x) μ) : Ends' R μ H0 X E (.ret (.d x)) := k
theorem end_own {X : Ex} {E : XK} {x : List D} (k : R (.p μ.length) (μ ++ [.rw x])) : Ends' R μ H0 X E (.ret (.own x)) := k
end
theorem lt_law {a b c d : Int} (hb : 0 < b) (hd : 0 < d) : Rat.divInt a b < Rat.divInt c d ↔ a * d < c * b := by
  rw [Rat.divInt_eq_div, Rat.divInt_eq_div]
  have hb' : (0 : Rat) < (b : Rat) := Rat.intCast_pos.mpr hb
  have hd' : (0 : Rat) < (d : Rat) := Rat.intCast_pos.mpr hd
  rw [← Rat.intCast_lt_intCast, Rat.intCast_mul, Rat.intCast_mul]
  generalize (a : Rat) = x, (b : Rat) = y, (c : Rat) = z, (d : Rat) = u at *
  rw [Rat.div_lt_iff hb']
  have : z / u * y = (z * y) / u := by grind
  rw [this, Rat.lt_div_iff hd']
theorem ov_law {a b c d : Int} (hb : 0 < b) (hd : 0 < d) (hc : 0 < c) : Rat.divInt a b / Rat.divInt c d = Rat.divInt (a * d) (b * c) := by
  rw [Rat.divInt_eq_div, Rat.divInt_eq_div, Rat.divInt_eq_div, Rat.intCast_mul, Rat.intCast_mul]
  have hb' : (b : Rat) ≠ 0 := by exact_mod_cast (by omega : b ≠ 0)
  have hc' : (c : Rat) ≠ 0 := by exact_mod_cast (by omega : c ≠ 0)
  have hd' : (d : Rat) ≠ 0 := by exact_mod_cast (by omega : d ≠ 0)
  generalize (a : Rat) = x, (b : Rat) = y, (c : Rat) = z, (d : Rat) = u at *
  grind
end L3

set_option Elab.async false
set_option linter.all false
set_option maxRecDepth 100000
set_option maxHeartbeats 4000000
set_option exponentiation.threshold 100
/-! Comprehensions in short; more rules. -/
namespace L3
open PySem PySem.Spec PyProof.Rows L2
section
variable {G : Gx} {F0 H0 : Hp} {F F1 H : Hp} {as as1 : List Addr} {σ : L2.St} {ρ : Ro} {μ : Mu} {R : RE}
theorem wE_lcT {tl : TE} {g : TG} {tt : TT} {te : TE} {vs : List Nat} (hw : Within g vs) (h : wE G F0 H0 tl ρ μ fun u μ1 => ∃ ds, u = .d (.tup ds) ∧ ∃ I : Nat → Mu → Prop, I 0 (μ1 ++ [.rw []]) ∧
      (∀ (i : Nat) (d : D) (μ' : Mu), ds[i]? = some d → I i μ' → wG G F0 H0 g (.d d) (wipeR ρ vs) μ' fun ρ2 μ2 => LcTurn G F0 H0 tt te μ1.length ρ2 (I i) (I (i + 1)) μ2) ∧ ∀ μ', I ds.length μ' → R (.p μ1.length) μ') :
    wE G F0 H0 (tLc (iTup G.K tl) g tt te vs) ρ μ R := fun F H as σ Q e q => by
  refine h F H as σ _ e fun u μ1 v F1 H1 as1 h1 e1 s1 g1 r1 => ?_
  obtain ⟨ds, rfl, I, i0, is, ie⟩ := h1
  obtain ⟨a, vs0, rfl, hs0, _⟩ := tup_seq e1 r1
  refine ⟨a, rfl, ⟨vs0, hs0⟩, lc_any (nn := ds.length) (itd := fun i d => ds[i]? = some d) hw e1 (q.on s1 g1) I (fun i F2 H2 as2 μ2 e2 s2 g2 i2 => ?_) i0 (fun i d μ' _ hd hI => is i d μ' hd hI) ie⟩
  obtain ⟨a', ws, ea, hs, ha⟩ := tup_seq e2 (Rp.mono s2 _ r1)
  cases ea
  refine ⟨fun hi => ?_, fun hi => ⟨ws, hs, by rw [ha.length]; omega⟩⟩
  have hv : i < ws.length := by rw [ha.length]; exact hi
  refine ⟨⟨ws, ws[i], hs, by simp [hv]⟩, fun x H' y => ?_⟩
  obtain ⟨rfl, y⟩ := y
  obtain ⟨d, hd, rd⟩ := ha.getV (y ws hs)
  exact ⟨rfl, d, hd, rd⟩
theorem at_app {α : Type} {l : List α} {c : α} : (l ++ [c])[l.length]? = some c := by
  rw [List.getElem?_append_right (Nat.le_refl _)]
  simp
theorem set_app {α : Type} {l : List α} {c d : α} : (l ++ [c]).set l.length d = l ++ [d] := by
  rw [List.set_append_right _ _ (Nat.le_refl _)]
  simp
theorem take_succ_map {α β : Type} {f : α → β} {l : List α} {i : Nat} {x : α} (h : l[i]? = some x) : (l.take (i + 1)).map f = (l.take i).map f ++ [f x] := by
  rw [List.take_add_one, h, List.map_append]
  rfl
/-- what an element's evaluation gives, the cells as they were -/
def Elm (G : Gx) (F0 H0 : Hp) (g : TG) (te : TE) (vs : List Nat) (ρ : Ro) (μ : Mu) (d x : D) : Prop :=
  ∀ acc, wG G F0 H0 g (.d d) (wipeR ρ vs) (μ ++ [.rw acc]) fun ρ2 μ2 => wE G F0 H0 te ρ2 μ2 fun y μ3 => y = .d x ∧ μ3 = μ ++ [.rw acc]
theorem elm_turn {g : TG} {te : TE} {vs : List Nat} {d x : D} {μ1 : Mu} {ds : List D} {f : D → D} {i : Nat} (hl : ds.length ≤ 900000) (hd : ds[i]? = some d) (hx : f d = x) (h : Elm G F0 H0 g te vs ρ μ1 d x) :
    ∀ μ', μ' = μ1 ++ [.rw ((ds.take i).map f)] → wG G F0 H0 g (.d d) (wipeR ρ vs) μ' fun ρ2 μ2 => LcTurn G F0 H0 tYes te μ1.length ρ2 (fun μ' => μ' = μ1 ++ [.rw ((ds.take i).map f)]) (fun μ' => μ' = μ1 ++ [.rw ((ds.take (i + 1)).map f)]) μ2 := by
  rintro μ' rfl
  refine fun F H as σ v Q e r q => h _ F H as σ v Q e r fun ρ' μ'' σ' F' H' as' h1 e1 s1 g1 => q ρ' μ'' σ' F' H' as' ?_ e1 s1 g1
  refine wT_yes (iteT (wE_imp h1 fun u μ3 z => ?_))
  obtain ⟨rfl, rfl⟩ := z
  refine ⟨_, _, rfl, at_app, ?_, ?_⟩
  · rw [List.length_map, List.length_take]; omega
  · rw [set_app, take_succ_map hd, hx]
theorem wE_mapT {tl : TE} {g : TG} {te : TE} {vs : List Nat} (f : D → D) (hw : Within g vs) (h : wE G F0 H0 tl ρ μ fun u μ1 => ∃ ds, u = .d (.tup ds) ∧ ds.length ≤ 900000 ∧ (∀ d ∈ ds, Elm G F0 H0 g te vs ρ μ1 d (f d)) ∧ R (.p μ1.length) (μ1 ++ [.rw (ds.map f)])) :
    wE G F0 H0 (tLc (iTup G.K tl) g tYes te vs) ρ μ R := wE_lcT hw (wE_imp h fun u μ1 ⟨ds, h1, h2, h3, h4⟩ => ⟨ds, h1, fun i μ' => μ' = μ1 ++ [.rw ((ds.take i).map f)], rfl,
      fun i d μ' hd hI => elm_turn h2 hd rfl (h3 d (List.mem_of_getElem? hd)) μ' hI, fun μ' hI => by rw [hI, List.take_length]; exact h4⟩)
theorem wE_mapL {tl : TE} {g : TG} {te : TE} {vs : List Nat} (f : D → D) (hw : Within g vs) (h : wE G F0 H0 tl ρ μ fun u μ1 => ∃ ds, IsL μ1 u ds ∧ ds.length ≤ 900000 ∧ (∀ d ∈ ds, Elm G F0 H0 g te vs ρ μ1 d (f d)) ∧ R (.p μ1.length) (μ1 ++ [.rw (ds.map f)])) :
    wE G F0 H0 (tLc (iList G.K tl) g tYes te vs) ρ μ R := wE_lc hw (wE_imp h fun u μ1 ⟨ds, h1, h2, h3, h4⟩ => ⟨ds, h1, fun i μ' => μ' = μ1 ++ [.rw ((ds.take i).map f)], rfl, fun i μ' hI => by
        rw [hI]
        rcases h1 with h1 | ⟨k, h1, h1'⟩
        · exact .inl h1
        · refine .inr ⟨k, h1, ?_⟩
          have hk : k < μ1.length := by rcases h1' with z | z <;> exact (List.getElem?_eq_some_iff.mp z).1
          rw [List.getElem?_append_left hk]
          exact h1',
      fun i d μ' hd hI => elm_turn h2 hd rfl (h3 d (List.mem_of_getElem? hd)) μ' hI, fun μ' hI => by rw [hI, List.take_length]; exact h4⟩)
theorem w2_neF {q r : Rat} (k : R (.d (.bl (!decide (q = r)))) μ) : w2 G F0 H0 (rNeD G.K) (.d (encF q)) (.d (encF r)) ρ μ R := w2_neD (.d _) (.d _) 1 1 (by decide) (by decide) rfl rfl (by rw [eqD_encF]; exact k)
theorem w2_eqF {q r : Rat} (k : R (.d (.bl (decide (q = r)))) μ) : w2 G F0 H0 (rEqD G.K) (.d (encF q)) (.d (encF r)) ρ μ R := w2_eqD (.d _) (.d _) 1 1 (by decide) (by decide) rfl rfl (by rw [eqD_encF]; exact k)
theorem eqD_int (i j : Int) : eqD (.int i) (.int j) = decide (i = j) := by simp only [eqD]; rfl
theorem w2_neI {q r : Int} (k : R (.d (.bl (!decide (q = r)))) μ) : w2 G F0 H0 (rNeD G.K) (.d (.int q)) (.d (.int r)) ρ μ R := w2_neD (.d _) (.d _) 0 0 (by decide) (by decide) rfl rfl (by rw [eqD_int]; exact k)
theorem w2_eqI {q r : Int} (k : R (.d (.bl (decide (q = r)))) μ) : w2 G F0 H0 (rEqD G.K) (.d (.int q)) (.d (.int r)) ρ μ R := w2_eqD (.d _) (.d _) 0 0 (by decide) (by decide) rfl rfl (by rw [eqD_int]; exact k)
theorem eqD_bl (i j : Bool) : eqD (.bl i) (.bl j) = decide (i = j) := by cases i <;> cases j <;> simp [eqD]
theorem w2_neB {q r : Bool} (k : R (.d (.bl (!decide (q = r)))) μ) : w2 G F0 H0 (rNeD G.K) (.d (.bl q)) (.d (.bl r)) ρ μ R := w2_neD (.d _) (.d _) 0 0 (by decide) (by decide) rfl rfl (by rw [eqD_bl]; exact k)
theorem w2_eqB {q r : Bool} (k : R (.d (.bl (decide (q = r)))) μ) : w2 G F0 H0 (rEqD G.K) (.d (.bl q)) (.d (.bl r)) ρ μ R := w2_eqD (.d _) (.d _) 0 0 (by decide) (by decide) rfl rfl (by rw [eqD_bl]; exact k)
theorem end_x {X : Ex} {E : XK} {n : Nat} (k : ∀ H', Same H0 H' → E (.ref (X n)) none H') : Ends' R μ H0 X E (.exc n) := k
/-- the cell itself, at a concrete place -/
theorem isL_rw {k : Nat} {ds : List D} (h : μ[k]? = some (.rw ds)) : IsL μ (.p k) ds := .inr ⟨k, rfl, .inl h⟩
theorem isL_ro {k : Nat} {ds : List D} (h : μ[k]? = some (.ro ds)) : IsL μ (.p k) ds := .inr ⟨k, rfl, .inr h⟩
theorem isL_app {ds : List D} : IsL (μ ++ [.rw ds]) (.p μ.length) ds := isL_rw at_app
end
/-- the law's own: a cell of the script -/
def cellN (ns : List Int) (k : Int) : Int := ns.getD k.toNat 0
def c__law_cell_at : Ct (List Int × Int) := ⟨fun a => [.l (a.1.map D.int), .d (.int a.2)], fun a => 0 ≤ a.2, fun a => .ret (.d (.int (cellN a.1 a.2)))⟩
def c__law_is : Ct (Rat × Int × Int) := ⟨fun a => [.d (encF a.1), .d (.int a.2.1), .d (.int a.2.2)], fun a => 0 ≤ a.2.1 ∧ Dz a.2.2, fun a => .ret (.d (.bl (decide (a.1 = Rat.divInt a.2.1 a.2.2))))⟩
def c_law : Ct (List Int) := ⟨fun a => [.l (a.map D.int)], fun a => a.length ≤ 63, fun _ => .ret (.d (.bl true))⟩
theorem atI_cell {ns : List Int} {k : Int} (h0 : 0 ≤ k) (h : k < (ns.length : Int)) : atI (ns.map D.int) k = some (.int (cellN ns k)) := by
  obtain ⟨j, rfl⟩ := Int.eq_ofNat_of_zero_le h0
  have hj : j < ns.length := by omega
  have e : (ns.map D.int)[j]? = some (.int (cellN ns (j : Int))) := by
    unfold cellN
    rw [List.getElem?_map, List.getElem?_eq_getElem hj]
    simp [List.getD, hj]
  exact atI_nat e
theorem cell_out {ns : List Int} {k : Int} (h : ¬ k < (ns.length : Int)) : cellN ns k = 0 := by
  unfold cellN
  have : ns.length ≤ k.toNat := by omega
  simp [List.getD, this]
theorem lst_or (z : D) : (∃ ds, z = .lst ds) ∨ argOf z = .d z := by
  cases z <;> first | exact .inr rfl | exact .inl ⟨_, rfl⟩
theorem whole_or (z : D) : (∃ i, z = .int i) ∨ wholeD z = false := by
  cases z <;> first | exact .inr rfl | exact .inl ⟨_, rfl⟩
theorem wS_raise' {G : Gx} {F0 H0 : Hp} {ρ : Ro} {μ : Mu} {D' : DE} {E : XK} {c : Addr} (h : ∀ H', Same H0 H' → E (.ref c) none H') : wS G F0 H0 (fun _ σ H => E (.ref c) none H) ρ μ D' :=
  fun F H as σ X e q => h H e.bs.h0
/-! calls in short -/
section
variable {G : Gx} {F0 H0 : Hp} {ρ : Ro} {μ : Mu} {R : RE} {X : Ex} {E : XK} {D' : DE}
theorem wS_seqJ {t u : TS} (J : Ro → Mu → Prop) (h : wS G F0 H0 t ρ μ { D' with nx := J }) (k : ∀ ρ' μ', J ρ' μ' → wS G F0 H0 u ρ' μ' D') : wS G F0 H0 (tSeq t u) ρ μ D' := wS_seq fun F H as σ X e q =>
  h F H as σ X e ⟨fun ρ' μ' σ' F' H' as' h1 e1 s1 g1 => q.nx ρ' μ' σ' F' H' as' (k ρ' μ' h1) e1 s1 g1, q.rt, q.bk, q.ct⟩
/-- an assignment whose value is told by a property -/
theorem wS_asgJ {te : TE} {i : Nat} {u : TS} (P : U → Mu → Prop) (h : wE G F0 H0 te ρ μ P) (k : ∀ x μ', P x μ' → wS G F0 H0 u (ρ.set i (some x)) μ' D') : wS G F0 H0 (tSeq (tAsg te (gName i)) u) ρ μ D' :=
  wS_seq (wS_asg (wE_imp h fun x μ' hx => wG_name (k x μ' hx)))
abbrev Call {α : Type} (us : List U) (c : Ct α) (R : RE) (μ : Mu) (H0 : Hp) (X : Ex) (E : XK) : Prop := ∃ a, Paired (ArgOf μ) us (c.args a) ∧ c.pre a ∧ Ends' R μ H0 X E (c.out a)
theorem ca_lowest {i j : Int} (h0 : 0 ≤ i) (hd : Dz j) (k : R (.d (encF (Rat.divInt i j))) μ) : Call [.d (.int i), .d (.int j)] c_lowest R μ H0 X E := ⟨(i, j), .cons (.d _) (.cons (.d _) .nil), ⟨h0, hd⟩, k⟩
theorem ca_plus {q r : Rat} (h1 : 0 ≤ q) (h2 : 0 ≤ r) (s1 : Sz q) (s2 : Sz r) (k : R (.d (encF (q + r))) μ) : Call [.d (encF q), .d (encF r)] c_plus R μ H0 X E := ⟨(q, r), .cons (.d _) (.cons (.d _) .nil), ⟨h1, h2, s1, s2⟩, k⟩
theorem ca_minus {q r : Rat} (h1 : 0 ≤ r) (h2 : r ≤ q) (s1 : Sz q) (s2 : Sz r) (k : R (.d (encF (q - r))) μ) : Call [.d (encF q), .d (encF r)] c_minus R μ H0 X E := ⟨(q, r), .cons (.d _) (.cons (.d _) .nil), ⟨h1, h2, s1, s2⟩, k⟩
theorem ca_times {q r : Rat} (h1 : 0 ≤ q) (h2 : 0 ≤ r) (s1 : Sz q) (s2 : Sz r) (k : R (.d (encF (q * r))) μ) : Call [.d (encF q), .d (encF r)] c_times R μ H0 X E := ⟨(q, r), .cons (.d _) (.cons (.d _) .nil), ⟨h1, h2, s1, s2⟩, k⟩
theorem ca_over {q r : Rat} (h1 : 0 ≤ q) (h2 : 0 < r) (s1 : Sz q) (s2 : Sz r) (k : R (.d (encF (q / r))) μ) : Call [.d (encF q), .d (encF r)] c_over R μ H0 X E := ⟨(q, r), .cons (.d _) (.cons (.d _) .nil), ⟨h1, h2, s1, s2⟩, k⟩
theorem ca_below {q r : Rat} (s1 : Sz q) (s2 : Sz r) (k : R (.d (.bl (decide (q < r)))) μ) : Call [.d (encF q), .d (encF r)] c_below R μ H0 X E := ⟨(q, r), .cons (.d _) (.cons (.d _) .nil), ⟨s1, s2⟩, k⟩
theorem ca_made {i j : Int} (h0 : 0 ≤ i) (hd : Dz j) (k : R (.d (encF (Rat.divInt i j))) μ) : Call [.d (.int i), .d (.int j)] c_made R μ H0 X E := ⟨(.int i, .int j), .cons (.d _) (.cons (.d _) .nil), ⟨rfl, rfl, fun x y h _ _ => by cases h; exact hd⟩, by
  have : c_made.out (.int i, .int j) = .ret (.d (encF (Rat.divInt i j))) := if_neg (by have := hd.1; omega)
  rw [this]
  exact k⟩
theorem ca_cell {ns : List Int} {k : Int} {u : U} (hl : IsL μ u (ns.map D.int)) (h0 : 0 ≤ k) (r : R (.d (.int (cellN ns k))) μ) : Call [u, .d (.int k)] c__law_cell_at R μ H0 X E := ⟨(ns, k), .cons (.l hl) (.cons (.d _) .nil), h0, r⟩
theorem ca_is {q : Rat} {i j : Int} (h0 : 0 ≤ i) (hd : Dz j) (k : R (.d (.bl (decide (q = Rat.divInt i j)))) μ) : Call [.d (encF q), .d (.int i), .d (.int j)] c__law_is R μ H0 X E := ⟨(q, i, j), .cons (.d _) (.cons (.d _) (.cons (.d _) .nil)), ⟨h0, hd⟩, k⟩
end
theorem dz_of {j : Int} {n : Nat} (h : 0 < j) (h1 : j < 2 ^ n) (hn : n ≤ 8990) : Dz j := by
  refine ⟨h, ?_⟩
  have : j.natAbs < 2 ^ n := by
    have e : ((2 ^ n : Nat) : Int) = (2 : Int) ^ n := by simp
    omega
  exact Nat.lt_of_lt_of_le this (Nat.pow_le_pow_right (by decide) hn)
theorem num_le {i j : Int} (h0 : 0 ≤ i) (hj : 0 < j) : (Rat.divInt i j).num.natAbs ≤ i.natAbs ∧ (Rat.divInt i j).den ≤ j.natAbs := by
  rw [← low_num hj]
  have hd := low_den (a := i) hj
  have hg : 0 < (Int.gcd i j : Int) := by
    have := Int.gcd_pos_of_ne_zero_right i (by omega : j ≠ 0)
    omega
  constructor
  · have h1 : 0 ≤ i / (Int.gcd i j : Int) := Int.ediv_nonneg h0 (by omega)
    have h2 : i / (Int.gcd i j : Int) ≤ i := Int.ediv_le_self _ h0
    omega
  · have h2 : j / (Int.gcd i j : Int) ≤ j := Int.ediv_le_self _ (by omega)
    omega
theorem sz_of {i j : Int} {n : Nat} (h0 : 0 ≤ i) (hj : 0 < j) (h1 : i < 2 ^ n) (h2 : j < 2 ^ n) (hn : n ≤ 4400) : Sz (Rat.divInt i j) := by
  obtain ⟨a, b⟩ := num_le h0 hj
  have e : ((2 ^ n : Nat) : Int) = (2 : Int) ^ n := by simp
  have p : 2 ^ n ≤ 2 ^ 4400 := Nat.pow_le_pow_right (by decide) hn
  exact ⟨by omega, by omega⟩
theorem divInt_nn {i j : Int} (h0 : 0 ≤ i) (hj : 0 < j) : 0 ≤ Rat.divInt i j := (Rat.divInt_nonneg_iff_of_pos_right hj).mpr h0
theorem pow_cast (a : Nat) : ((2 ^ a : Nat) : Int) = (2 : Int) ^ a := by simp
theorem cm_of {i j : Int} {a b : Nat} (h0 : 0 ≤ i) (h1 : 0 ≤ j) (h2 : i < 2 ^ a) (h3 : j < 2 ^ b) (ha : 0 < a) (hb : 0 < b) (h : a + b ≤ 1000000) : CMulW i j := by
  have e1 := pow_cast a
  have e2 := pow_cast b
  exact wide_mul (a := a) (b := b) (by omega) (by omega) ha hb h
theorem mul_of {i j : Int} {a b : Nat} (h0 : 0 ≤ i) (h1 : 0 ≤ j) (h2 : i < 2 ^ a) (h3 : j < 2 ^ b) : 0 ≤ i * j ∧ i * j < 2 ^ (a + b) := by
  refine ⟨Int.mul_nonneg h0 h1, ?_⟩
  have e1 := pow_cast a
  have e2 := pow_cast b
  have e3 := pow_cast (a + b)
  obtain ⟨n, rfl⟩ := Int.eq_ofNat_of_zero_le h0
  obtain ⟨m, rfl⟩ := Int.eq_ofNat_of_zero_le h1
  have : n * m < 2 ^ a * 2 ^ b := Nat.mul_lt_mul'' (by omega) (by omega)
  rw [← Nat.pow_add] at this
  have e4 : ((n * m : Nat) : Int) = (n : Int) * (m : Int) := by simp
  omega
end L3
namespace L3
open PySem PySem.Spec PyProof.Rows L2
/-! ### the end: what the top has laid; the law's own promise -/
def spLaw (K : PySem.W.Frag) : Sp := fun vs H Q _ => ∃ (a : Addr) (ns : List Int), vs = [.ref a] ∧ SqL K H a (ns.map V.int) ∧ ns.length ≤ 63 ∧ ∀ H', Q (.bl true) H'
theorem law_imp {G : Gx} {X : Ex} {vs : List V} {H : Hp} {Q : VK} {E : XK} (h : spLaw G.K vs H Q E) : spC G X c_law vs H Q E := by
  obtain ⟨a, ns, rfl, hS, hl, q⟩ := h
  refine ⟨ns, hl, H, [.l (ns.map D.int)], .refl _, .cons ⟨a, _, rfl, hS, RpAll.ints ns⟩ .nil, rfl, fun r v F' H' hr _ _ _ _ hres => ?_, fun c H' hx _ => ?_⟩
  · have e : r = .d (.bl true) := by
      have : Out.ret (Res.d (.bl true)) = Out.ret r := hr
      injection this with this
      exact this.symm
    subst e
    cases (show Rp G F' v (.bl true) from hres)
    exact q H'
  · obtain ⟨n, hn, _⟩ := hx
    cases hn
theorem top_mk {K : PySem.W.Frag} {h : Heap} {mg : Str → Option Value} {x : Str} {st : Stmt} {ps : List Str} {f : Addr} {oc : Value} {od an : Option Addr} {osl : Array (Option Value)} {kV doc pm cdv ct : Value} (X : K.In h) (G : h.Ns mainGlobals mg)
    (a : PySem.W.nsIn K mainGlobals x = some (some (.ref f))) (l : K.lookup f = some ⟨oc, od, .func (PySem.W.fnOf x x (defArgs st) (defBody st) (defScope st) .none kV doc pm an cdv ct), osl⟩)
    (c : PySem.W.codeIn K cdv x = true) (k : PySem.W.keepIn K (.ref f) = true)
    (hb : ∀ (kV doc pm : Value) (an : Option Addr) (cdv ct : Value) (us : List Value), us.length = ps.length → bindArgs (PySem.W.fnOf x x (defArgs st) (defBody st) (defScope st) .none kV doc pm an cdv ct) ⟨us, []⟩ = pure (ps.zip us)) : Top K mg x st ps := by
  have F := fun_mk (st := st) l c k
  exact ⟨⟨f, _, F, PySem.W.mg_of X G a, F.binds hb⟩⟩
theorem z_mk {K : PySem.W.Frag} {h : Heap} {mg : Str → Option Value} {x : Str} (X : K.In h) (G : h.Ns mainGlobals mg) (a : PySem.W.nsIn K mainGlobals x = some none) : mg x = none := PySem.W.mg_none_of X G a
theorem cstI_mk {K : PySem.W.Frag} {h : Heap} {mg : Str → Option Value} {x : Str} {i : Int} {t : Tok} (X : K.In h) (G : h.Ns mainGlobals mg) (a : PySem.W.nsIn K mainGlobals x = some (some (.int i t))) : CstI mg x i := ⟨t, PySem.W.mg_of X G a⟩
theorem cstF_mk {G' : Gx} {h : Heap} {mg : Str → Option Value} {x : Str} {p : Addr} {q : Rat} {dd : Option Addr} {n : Nat} {sl : Array (Option Value)} {t1 t2 : Tok} {i j : Int} (X : G'.K.In h) (G : h.Ns mainGlobals mg) (a : PySem.W.nsIn G'.K mainGlobals x = some (some (.ref p)))
    (l : G'.K.lookup p = some ⟨.type "tuple", dd, .seq #[.int i t1, .int j t2] n, sl⟩) (hi : q.num = i) (hj : (q.den : Int) = j) : CstT G' mg x (encF q) := by
  subst hi hj
  refine ⟨p, PySem.W.mg_of X G a, fun F => .tup (xs := [.int q.num, .int (q.den : Int)]) (.inr ⟨_, _, n, l, rfl, rfl, by show 2 ≤ sizeLine; decide, ?_⟩) (.cons (.int _) (.cons (.int _) .nil))⟩
  exact .cons ⟨t1, rfl⟩ (.cons ⟨t2, rfl⟩ .nil)
theorem cx_false {P : Program} {w : World} {outer : List Env} {H : Hp} {s : Shared} {e : Value} {s' : Shared} (h : L2.CX P w outer H s (fun _ _ _ => False) e s') : False := by
  obtain ⟨_, _, _, _, _, _, _, _, _, _, _, _, z⟩ := h
  exact z
theorem law_fn {P : Program} {w : World} {mg : Str → Option Value} {base : Heap} {G : Gx} {X : Ex} {k : Nat} {f : Addr} {fd : FuncData} {x : Str} (F : FnOk P w G.K mg base (L2.CX P w) k f fd [x] (spC G X c_law)) : FnOk P w G.K mg base (L2.CX P w) k f fd [x] (spLaw G.K) :=
  F.imp fun _ _ _ _ h => law_imp h
end L3
namespace L3
open PySem PySem.Spec PyProof.Rows L2
theorem exc_mk {K : PySem.W.Frag} {h : Heap} {mg : Str → Option Value} {x : Str} {C : Addr} (X : K.In h) (G : h.Ns mainGlobals mg) (a : PySem.W.nsIn K mainGlobals x = some (some (.ref C)))
    (x1 : PySem.W.excIn K C [.type "ValueError", .type "Exception", .type "BaseException", .type "object"] "ValueError.__new__" = true) (k : PySem.W.keepIn K (.ref C) = true) (b : PySem.W.subIn K (.ref C) (.type "BaseException") = some true) (t : PySem.W.typeIn K (.ref C) = some (.type "type")) :
    ∃ c, ExcOk K mg x c := ⟨C, x1, PySem.W.mg_of X G a, k, b, t⟩
theorem law_mk {P : Program} {w : World} {K : PySem.W.Frag} {h : Heap} {mg : Str → Option Value} {x p : Str} {st : Stmt} {n : Nat} {sp : Sp} {f fa : Addr} {oc : Value} {od an : Option Addr} {osl : Array (Option Value)} {kV doc pm cdv ct : Value} (X : K.In h) (G : h.Ns mainGlobals mg) (hfa : mg x = some (.ref fa))
    (a : PySem.W.nsIn K mainGlobals x = some (some (.ref f))) (l : K.lookup f = some ⟨oc, od, .func (PySem.W.fnOf x x (defArgs st) (defBody st) (defScope st) .none kV doc pm an cdv ct), osl⟩)
    (c : PySem.W.codeIn K cdv x = true) (k : PySem.W.keepIn K (.ref f) = true)
    (H : ∀ fd, Fun K x x st fa fd → ∀ base, FnOk P w K mg base (L2.CX P w) n fa fd [p] sp)
    (hb : ∀ (s : Shared) (u : Value), BindsTo s (PySem.W.fnOf x x (defArgs st) (defBody st) (defScope st) .none kV doc pm an cdv ct) ⟨[u], []⟩ [(p, u)]) :
    ∃ fd : FuncData, (∀ (s : Shared) (u : Value), BindsTo s fd ⟨[u], []⟩ [(p, u)]) ∧ ∀ base : Heap, K.In base → base.Ns mainGlobals mg → FnOk P w K mg base (L2.CX P w) n fa fd [p] sp := by
  have e := hfa.symm.trans (PySem.W.mg_of X G a)
  cases e
  exact ⟨_, hb, fun base _ _ => H _ (fun_mk (st := st) l c k) base⟩
end L3
namespace L3
open PySem
@[reducible] def kof {K : PySem.W.Frag} {h : Heap} (_ : K.In h) : PySem.W.Frag := K
end L3
namespace L3
theorem bind_ {A B : Prop} (a : A) (f : A → B) : B := f a
end L3

set_option Elab.async false
set_option linter.all false
set_option maxRecDepth 100000
set_option maxHeartbeats 4000000
/-! printed by emit.py -/
namespace L3
open PySem PySem.Spec PyProof.Rows L2
local macro_rules | `(tactic| walk_at "v") => `(tactic| (with_reducible (refine' wE_var ?h9 ?k9)); (case h9 => exact rfl))
local macro_rules | `(tactic| walk_at "m") => `(tactic| first
  | exact wm_nd (by assumption) (by assumption) | exact wm_dd (by assumption) (by assumption) | exact wm_nn (by assumption) (by assumption) | exact wm_dn (by assumption) (by assumption) | assumption | (refine (?_ : (0:Int) < _); first | decide | omega) | exact .inl ⟨by decide, by decide⟩ | exact .inr ⟨by decide, by decide⟩ | exact ⟨by decide, by decide⟩ | exact ⟨by decide, by decide, by decide⟩)
local macro_rules | `(tactic| walk_at "e") => `(tactic| first
  | walk_at "v"
  | (with_reducible first
    | refine wE_op ?_ | refine wE_int ?_ | refine wE_ct ?_ | refine wE_tup ?_ | refine wE_lst ?_
    | refine wE_isInt ?_ | refine wE_isBool ?_ | refine wE_isTup ?_ | refine wE_isLst ?_ | refine wE_isStr ?_ | refine wE_cb ?_
    | refine wE_bl ?_ | refine wE_and ?_ | refine wE_or ?_ | refine wE_not ?_ | refine wE_str ?_ | refine wE_non ?_ | refine wE_cm ?_ | refine wE_fld ?_ | refine wE_un ?_ | refine wE_ifE ?_ | refine wE_append ?_))
local macro_rules | `(tactic| walk_at "s") => `(tactic| with_reducible first
    | refine wS_asg ?_ | refine wS_if ?_ | refine wS_ret ?_ | refine wS_par ?_ | refine wS_next ?_ | refine wS_drop ?_ | refine wS_retN ?_ | refine wS_brk ?_ | refine wS_cont ?_ | refine wS_aug ?_)
local macro_rules | `(tactic| walk_at "q1") => `(tactic| first
  | ((with_reducible (show wE _ _ _ _ _ _ _)); walk_at "e")
  | ((with_reducible (show wS _ _ _ _ _ _ _)); walk_at "s")
  | ((with_reducible (show w2 _ _ _ _ _ _ _ _ _)); with_reducible first
      | refine w2_f0 ?_ | refine w2_f1 ?_ | refine w2_eqI ?_ | refine w2_neI ?_ | refine w2_eqF ?_ | refine w2_neF ?_ | refine w2_eqB ?_ | refine w2_neB ?_ | refine w2_I0 ?_ | refine w2_B0 ?_)
  | ((with_reducible (refine w2_I ?c9 ?_)); (case c9 => walk_at "m"))
  | (with_reducible first
    | refine wA_cons ?_ | refine wA_nil ?_ | refine wG_name ?_ | refine wT_test ?_ | refine wT_b ?_ | refine wT_not ?_ | refine wT_or ?_ | refine wT_and ?_ | refine wT_yes ?_ | refine wG_sub ?_ | refine wG_tup rfl ?_ | refine wGs_cons ?_ | refine wGs_nil ?_)
  | ((with_reducible (show ite _ _ _)); first | refine iteT ?_ | refine iteF ?_)
  | ((with_reducible (show Ends' _ _ _ _ _ _)); refine end_d ?_))
local macro_rules | `(tactic| walk_at "b") => `(tactic| (refine ⟨_, rfl, ?_⟩))
local macro_rules | `(tactic| walk_at "q") => `(tactic| repeat (first | walk_at "q1" | walk_at "b"))
local macro_rules | `(tactic| walk_at "r") => `(tactic| repeat (first | (with_reducible refine wS_seq ?_) | walk_at "q1" | walk_at "b"))
local macro_rules | `(tactic| walk_at "c1") => `(tactic| refine ⟨_, .cons (.d _) .nil, ?_, ?_⟩)
local macro_rules | `(tactic| walk_at "c2") => `(tactic| refine ⟨(_, _), .cons (.d _) (.cons (.d _) .nil), ?_, ?_⟩)
local macro_rules | `(tactic| walk_at "c3") => `(tactic| refine ⟨(_, _, _), .cons (.d _) (.cons (.d _) (.cons (.d _) .nil)), ?_, ?_⟩)
local macro_rules | `(tactic| walk_at "cell") => `(tactic| (refine ca_cell (isL_ro rfl) (by decide) ?_; walk_at "r"))
def topS (i : Nat) : Stmt := PySem.Challenge.pw_fairknife_k01_fractions.main.body.getD i (.Pass ⟨0, 0, 0, 0⟩)
section
variable {P : Program} {w : World} {mg : Str → Option Value} {base : Heap} {G : Gx} {X : Ex}
abbrev s_is_whole : Stmt := topS 4
theorem sc_is_whole : FnScope ["number"] ["number"] (defScope s_is_whole) := ⟨rfl, rfl, rfl, by decide +kernel, rfl, by decide +kernel, by decide +kernel⟩
local macro_rules | `(tactic| walk_at "st") => `(tactic| simp only [c_is_whole, L2.cxOf, slotsFrom, cellsOf, argOf, List.length_cons, List.length_nil, List.replicate, List.cons_append, List.nil_append, Nat.reduceAdd, Nat.reduceSub, Nat.zero_add, Nat.sub_self] at *)
theorem fn_is_whole {f : Addr} {fd : FuncData} (F : Fun G.K "is_whole" "is_whole" s_is_whole f fd) (z_isinstance : mg "isinstance" = none) (z_bool : mg "bool" = none) (z_int : mg "int" = none) : FnOk P w G.K mg base (L2.CX P w) 1 f fd ["number"] (spC G X c_is_whole) := by
  refine F.okX sc_is_whole (fun vs H Q E h => spC_len (fun _ => rfl) h) (fun cdv A outer s H vs Q E hr hsp => ?_)
  refine ⟨_, (pss_one (ps_ret (pe_and (pe_callB (kIsi (K := G.K) rfl) (by rfl) z_isinstance bt_isinstance (pa_cons (pv 0) (pa_cons (pe_bltn (v := .ty "int") (by rfl) z_int bt_int rfl) pa_nil))) (pe_one (pe_not (pe_callB (kIsi (K := G.K) rfl) (by rfl) z_isinstance bt_isinstance (pa_cons (pv 0) (pa_cons (pe_bltn (v := .ty "bool") (by rfl) z_bool bt_bool rfl) pa_nil)))))))), body_ct hsp (fun _ => by simp [c_is_whole]) (fun a F0 hp hE => ?_)⟩
  cases a with
  | ob n ds => cases hp
  | _ =>
    walk_at "st"
    clear hsp hE hp
    walk_at "r"
    exact .d _
theorem ok_is_whole (T : Top G.K mg "is_whole" s_is_whole ["number"]) (z_isinstance : mg "isinstance" = none) (z_bool : mg "bool" = none) (z_int : mg "int" = none) : Def P w G.K mg base "is_whole" 1 ["number"] (spC G X c_is_whole) := def_of T fun f fd F => fn_is_whole F z_isinstance z_bool z_int
abbrev s_lowest : Stmt := topS 5
theorem sc_lowest : FnScope ["a", "b", "one", "other"] ["a", "b"] (defScope s_lowest) := ⟨rfl, rfl, rfl, by decide +kernel, rfl, by decide +kernel, by decide +kernel⟩
local macro_rules | `(tactic| walk_at "st") => `(tactic| simp only [c_lowest, L2.cxOf, slotsFrom, cellsOf, argOf, List.length_cons, List.length_nil, List.replicate, List.cons_append, List.nil_append, Nat.reduceAdd, Nat.reduceSub, Nat.zero_add, Nat.sub_self] at *)
theorem fn_lowest {f : Addr} {fd : FuncData} (F : Fun G.K "lowest" "lowest" s_lowest f fd) : FnOk P w G.K mg base (L2.CX P w) 1 f fd ["a", "b"] (spC G X c_lowest) := by
  refine F.okX sc_lowest (fun vs H Q E h => spC_len (fun _ => rfl) h) (fun cdv A outer s H vs Q E hr hsp => ?_)
  refine ⟨_, (pss_cons (ps_set (i := 2) sc_lowest.nd rfl (Or.inl rfl) (pv 0))
    (pss_cons (ps_set (i := 3) sc_lowest.nd rfl (Or.inl rfl) (pv 1))
    (pss_cons (ps_while (passes_of rfl) (pt_cmpR op_gt (pv 3) pe_int (nomark _)) (pss_one (ps_par (i := 2) (j := 3) rfl sc_lowest.nd rfl rfl (by decide) rfl rfl (pa_cons (pv 3) (pa_cons (pe_op op_mod (pv 2) (pv 3)) pa_nil)) (by rfl))))
    (pss_one (ps_ret (pe_tup (pa_cons (pe_op op_fdivW (pv 0) (pv 2)) (pa_cons (pe_op op_fdivW (pv 1) (pv 2)) pa_nil)))))))), body_ct hsp (fun _ => by simp [c_lowest]) (fun a F0 hp hE => ?_)⟩
  obtain ⟨x, y⟩ := a
  obtain ⟨h0, hd⟩ := hp
  walk_at "st"
  clear hsp hE
  walk_at "r"
  have hy : 0 < y := hd.1
  refine wS_while (fun ρ' μ' => ∃ o t : Int, ρ' = [some (.d (.int x)), some (.d (.int y)), some (.d (.int o)), some (.d (.int t))] ∧ μ' = [] ∧ 0 ≤ o ∧ 0 ≤ t ∧ Int.gcd o t = Int.gcd x y) (fun ρ' _ => (getI ρ' 3).toNat) ⟨x, y, rfl, rfl, h0, by omega, rfl⟩ ?_
  rintro ρ' μ' ⟨o, t, rfl, rfl, ho, ht, hg⟩
  walk_at "r"
  refine ite2 (fun c => ?_) (fun c => ?_)
  · have c' : 0 < t := of_decide_eq_true c
    walk_at "r"
    refine ⟨_, _, rfl, ⟨t, o % t, rfl, rfl, ht, Int.emod_nonneg _ (by omega), (gcd_step ho c').trans hg⟩, ?_⟩
    show (o % t).toNat < t.toNat
    have := Int.emod_lt_of_pos o c'
    omega
  · have c' : t = 0 := by
      have : ¬ 0 < t := fun z => c (decide_eq_true z)
      omega
    subst c'
    have eo : o = (Int.gcd x y : Int) := by rw [← hg, Int.gcd_zero_right]; omega
    walk_at "r"
    refine w2_I (eo ▸ gcd_dz hd) ?_
    walk_at "r"
    refine w2_I (eo ▸ gcd_dz' hd) ?_
    walk_at "r"
    refine ⟨[.int (x / o), .int (y / o)], rfl, by simp, ret_d ?_⟩
    rw [eo, low_num hy, low_den hy]
    rfl
theorem ok_lowest (T : Top G.K mg "lowest" s_lowest ["a", "b"]) : Def P w G.K mg base "lowest" 1 ["a", "b"] (spC G X c_lowest) := def_of T fun f fd F => fn_lowest F 
abbrev s_made : Stmt := topS 6
theorem sc_made : FnScope ["a", "b"] ["a", "b"] (defScope s_made) := ⟨rfl, rfl, rfl, by decide +kernel, rfl, by decide +kernel, by decide +kernel⟩
local macro_rules | `(tactic| walk_at "st") => `(tactic| simp only [c_made, L2.cxOf, slotsFrom, cellsOf, argOf, List.length_cons, List.length_nil, List.replicate, List.cons_append, List.nil_append, Nat.reduceAdd, Nat.reduceSub, Nat.zero_add, Nat.sub_self] at *)
theorem fn_made {f : Addr} {fd : FuncData} (F : Fun G.K "made" "made" s_made f fd) (D_is_whole : Def P w G.K mg base "is_whole" 1 ["number"] (spC G X c_is_whole)) (D_lowest : Def P w G.K mg base "lowest" 1 ["a", "b"] (spC G X c_lowest)) (X_BadFraction : ExcOk G.K mg "BadFraction" (X 0)) : FnOk P w G.K mg base (L2.CX P w) 2 f fd ["a", "b"] (spC G X c_made) := by
  obtain ⟨f_is_whole, d_is_whole, G_is_whole, m_is_whole, k_is_whole, b_is_whole⟩ := D_is_whole.ex
  obtain ⟨f_lowest, d_lowest, G_lowest, m_lowest, k_lowest, b_lowest⟩ := D_lowest.ex
  obtain ⟨xP_BadFraction, gP_BadFraction, kP_BadFraction, bP_BadFraction, tP_BadFraction⟩ := X_BadFraction
  refine F.okX sc_made (fun vs H Q E h => spC_len (fun _ => rfl) h) (fun cdv A outer s H vs Q E hr hsp => ?_)
  refine ⟨_, (pss_cons (ps_if (PW.pt (pw_or (pt_not (pt_val (pe_call G_is_whole (hr.mono (by decide)) (by rfl) m_is_whole k_is_whole b_is_whole .nil passL (pa_cons (pv 0) pa_nil)))) (pw_or (pt_not (pt_val (pe_call G_is_whole (hr.mono (by decide)) (by rfl) m_is_whole k_is_whole b_is_whole .nil passL (pa_cons (pv 1) pa_nil)))) (pw_or (pt_cmpR op_lt (pv 0) pe_int (nomark _)) (pw_or1 (pt_cmpR op_lt (pv 1) pe_int (nomark _))))))) (pss_one (ps_raise rfl (takes_of rfl rfl rfl rfl) (pmk_own PySem.F.excBase_ValueError xP_BadFraction gP_BadFraction kP_BadFraction (raises_own bP_BadFraction tP_BadFraction) (by rfl)))) pss_nil)
    (pss_one (ps_ret (pe_call G_lowest (hr.mono (by decide)) (by rfl) m_lowest k_lowest b_lowest .nil passL (pa_cons (pv 0) (pa_cons (pv 1) pa_nil)))))), body_ct hsp (fun _ => by simp [c_made]) (fun a F0 hp hE => ?_)⟩
  obtain ⟨x, y⟩ := a
  obtain ⟨nx, ny, hd⟩ := hp
  have rz : c_made.out (x, y) = .exc 0 → ∀ H', Same H H' → E (.ref (X 0)) none H' := hE 0
  clear hsp hE
  simp only [L2.cxOf, c_made, List.length_cons, List.length_nil, Nat.reduceAdd, Nat.reduceSub, List.replicate, List.append_nil]
  rcases lst_or x with ⟨ds, rfl⟩ | hx
  · walk_at "r"
    refine ⟨.lst ds, .cons (.l (isL_ro rfl)) .nil, rfl, end_d ?_⟩
    walk_at "r"
    exact wS_raise' (rz rfl)
  · rw [hx]
    walk_at "r"
    refine ⟨x, .cons (by rw [hx]; exact .d x) .nil, nx, end_d ?_⟩
    rcases whole_or x with ⟨i, rfl⟩ | hw
    · walk_at "r"
      rcases lst_or y with ⟨es, rfl⟩ | hy
      · walk_at "r"
        refine ⟨.lst es, .cons (.l (isL_ro rfl)) .nil, rfl, end_d ?_⟩
        walk_at "r"
        exact wS_raise' (rz rfl)
      · rw [hy]
        walk_at "r"
        refine ⟨y, .cons (by rw [hy]; exact .d y) .nil, ny, end_d ?_⟩
        rcases whole_or y with ⟨j, rfl⟩ | hw
        · walk_at "r"
          refine ite2 (fun c => ?_) (fun c => ?_)
          · have c' : i < 0 := of_decide_eq_true c
            walk_at "r"
            exact wS_raise' (rz (if_pos (.inl c')))
          · have c' : ¬ i < 0 := fun z => c (decide_eq_true z)
            walk_at "r"
            refine ite2 (fun d => ?_) (fun d => ?_)
            · have d' : j < 1 := of_decide_eq_true d
              exact wS_raise' (rz (if_pos (.inr d')))
            · have d' : ¬ j < 1 := fun z => d (decide_eq_true z)
              walk_at "r"
              walk_at "c2"
              · exact ⟨by omega, hd i j rfl (by omega) (by omega)⟩
              · refine end_d ⟨_, if_neg (by omega), .d _⟩
        · walk_at "r"
          rw [hw]
          walk_at "r"
          refine wS_raise' (rz ?_)
          cases y <;> first | rfl | cases hw
    · walk_at "r"
      rw [hw]
      walk_at "r"
      refine wS_raise' (rz ?_)
      cases x <;> first | rfl | cases hw
theorem ok_made (T : Top G.K mg "made" s_made ["a", "b"]) (D_is_whole : Def P w G.K mg base "is_whole" 1 ["number"] (spC G X c_is_whole)) (D_lowest : Def P w G.K mg base "lowest" 1 ["a", "b"] (spC G X c_lowest)) (X_BadFraction : ExcOk G.K mg "BadFraction" (X 0)) : Def P w G.K mg base "made" 2 ["a", "b"] (spC G X c_made) := def_of T fun f fd F => fn_made F D_is_whole D_lowest X_BadFraction
abbrev s_plus : Stmt := topS 7
theorem sc_plus : FnScope ["one", "other"] ["one", "other"] (defScope s_plus) := ⟨rfl, rfl, rfl, by decide +kernel, rfl, by decide +kernel, by decide +kernel⟩
local macro_rules | `(tactic| walk_at "st") => `(tactic| simp only [c_plus, L2.cxOf, slotsFrom, cellsOf, argOf, List.length_cons, List.length_nil, List.replicate, List.cons_append, List.nil_append, Nat.reduceAdd, Nat.reduceSub, Nat.zero_add, Nat.sub_self] at *)
theorem fn_plus {f : Addr} {fd : FuncData} (F : Fun G.K "plus" "plus" s_plus f fd) (D_lowest : Def P w G.K mg base "lowest" 1 ["a", "b"] (spC G X c_lowest)) : FnOk P w G.K mg base (L2.CX P w) 2 f fd ["one", "other"] (spC G X c_plus) := by
  obtain ⟨f_lowest, d_lowest, G_lowest, m_lowest, k_lowest, b_lowest⟩ := D_lowest.ex
  refine F.okX sc_plus (fun vs H Q E h => spC_len (fun _ => rfl) h) (fun cdv A outer s H vs Q E hr hsp => ?_)
  refine ⟨_, (pss_one (ps_ret (pe_call G_lowest (hr.mono (by decide)) (by rfl) m_lowest k_lowest b_lowest .nil passL (pa_cons (pe_op op_add (pe_op op_mulW (pe_ix (kIx (K := G.K) rfl) (pv 0) pe_int (fun _ _ => rfl)) (pe_ix (kIx (K := G.K) rfl) (pv 1) pe_int (fun _ _ => rfl))) (pe_op op_mulW (pe_ix (kIx (K := G.K) rfl) (pv 1) pe_int (fun _ _ => rfl)) (pe_ix (kIx (K := G.K) rfl) (pv 0) pe_int (fun _ _ => rfl)))) (pa_cons (pe_op op_mulW (pe_ix (kIx (K := G.K) rfl) (pv 0) pe_int (fun _ _ => rfl)) (pe_ix (kIx (K := G.K) rfl) (pv 1) pe_int (fun _ _ => rfl))) pa_nil))))), body_ct hsp (fun _ => by simp [c_plus]) (fun a F0 hp hE => ?_)⟩
  obtain ⟨q, r⟩ := a
  obtain ⟨h1, h2, s1, s2⟩ := hp
  walk_at "st"
  clear hsp hE
  walk_at "r"
  walk_at "c2"
  · exact ⟨plus_nn h1 h2, dz_mul s1 s2⟩
  · refine end_d ?_
    rw [plus_law q r]
    exact ⟨_, rfl, .d _⟩
theorem ok_plus (T : Top G.K mg "plus" s_plus ["one", "other"]) (D_lowest : Def P w G.K mg base "lowest" 1 ["a", "b"] (spC G X c_lowest)) : Def P w G.K mg base "plus" 2 ["one", "other"] (spC G X c_plus) := def_of T fun f fd F => fn_plus F D_lowest
abbrev s_minus : Stmt := topS 8
theorem sc_minus : FnScope ["one", "other"] ["one", "other"] (defScope s_minus) := ⟨rfl, rfl, rfl, by decide +kernel, rfl, by decide +kernel, by decide +kernel⟩
local macro_rules | `(tactic| walk_at "st") => `(tactic| simp only [c_minus, L2.cxOf, slotsFrom, cellsOf, argOf, List.length_cons, List.length_nil, List.replicate, List.cons_append, List.nil_append, Nat.reduceAdd, Nat.reduceSub, Nat.zero_add, Nat.sub_self] at *)
theorem fn_minus {f : Addr} {fd : FuncData} (F : Fun G.K "minus" "minus" s_minus f fd) (D_lowest : Def P w G.K mg base "lowest" 1 ["a", "b"] (spC G X c_lowest)) : FnOk P w G.K mg base (L2.CX P w) 2 f fd ["one", "other"] (spC G X c_minus) := by
  obtain ⟨f_lowest, d_lowest, G_lowest, m_lowest, k_lowest, b_lowest⟩ := D_lowest.ex
  refine F.okX sc_minus (fun vs H Q E h => spC_len (fun _ => rfl) h) (fun cdv A outer s H vs Q E hr hsp => ?_)
  refine ⟨_, (pss_one (ps_ret (pe_call G_lowest (hr.mono (by decide)) (by rfl) m_lowest k_lowest b_lowest .nil passL (pa_cons (pe_op op_sub (pe_op op_mulW (pe_ix (kIx (K := G.K) rfl) (pv 0) pe_int (fun _ _ => rfl)) (pe_ix (kIx (K := G.K) rfl) (pv 1) pe_int (fun _ _ => rfl))) (pe_op op_mulW (pe_ix (kIx (K := G.K) rfl) (pv 1) pe_int (fun _ _ => rfl)) (pe_ix (kIx (K := G.K) rfl) (pv 0) pe_int (fun _ _ => rfl)))) (pa_cons (pe_op op_mulW (pe_ix (kIx (K := G.K) rfl) (pv 0) pe_int (fun _ _ => rfl)) (pe_ix (kIx (K := G.K) rfl) (pv 1) pe_int (fun _ _ => rfl))) pa_nil))))), body_ct hsp (fun _ => by simp [c_minus]) (fun a F0 hp hE => ?_)⟩
  obtain ⟨q, r⟩ := a
  obtain ⟨h1, h2, s1, s2⟩ := hp
  walk_at "st"
  clear hsp hE
  walk_at "r"
  walk_at "c2"
  · exact ⟨minus_nn h1 h2, dz_mul s1 s2⟩
  · refine end_d ?_
    rw [minus_law q r]
    exact ⟨_, rfl, .d _⟩
theorem ok_minus (T : Top G.K mg "minus" s_minus ["one", "other"]) (D_lowest : Def P w G.K mg base "lowest" 1 ["a", "b"] (spC G X c_lowest)) : Def P w G.K mg base "minus" 2 ["one", "other"] (spC G X c_minus) := def_of T fun f fd F => fn_minus F D_lowest
abbrev s_times : Stmt := topS 9
theorem sc_times : FnScope ["one", "other"] ["one", "other"] (defScope s_times) := ⟨rfl, rfl, rfl, by decide +kernel, rfl, by decide +kernel, by decide +kernel⟩
local macro_rules | `(tactic| walk_at "st") => `(tactic| simp only [c_times, L2.cxOf, slotsFrom, cellsOf, argOf, List.length_cons, List.length_nil, List.replicate, List.cons_append, List.nil_append, Nat.reduceAdd, Nat.reduceSub, Nat.zero_add, Nat.sub_self] at *)
theorem fn_times {f : Addr} {fd : FuncData} (F : Fun G.K "times" "times" s_times f fd) (D_lowest : Def P w G.K mg base "lowest" 1 ["a", "b"] (spC G X c_lowest)) : FnOk P w G.K mg base (L2.CX P w) 2 f fd ["one", "other"] (spC G X c_times) := by
  obtain ⟨f_lowest, d_lowest, G_lowest, m_lowest, k_lowest, b_lowest⟩ := D_lowest.ex
  refine F.okX sc_times (fun vs H Q E h => spC_len (fun _ => rfl) h) (fun cdv A outer s H vs Q E hr hsp => ?_)
  refine ⟨_, (pss_one (ps_ret (pe_call G_lowest (hr.mono (by decide)) (by rfl) m_lowest k_lowest b_lowest .nil passL (pa_cons (pe_op op_mulW (pe_ix (kIx (K := G.K) rfl) (pv 0) pe_int (fun _ _ => rfl)) (pe_ix (kIx (K := G.K) rfl) (pv 1) pe_int (fun _ _ => rfl))) (pa_cons (pe_op op_mulW (pe_ix (kIx (K := G.K) rfl) (pv 0) pe_int (fun _ _ => rfl)) (pe_ix (kIx (K := G.K) rfl) (pv 1) pe_int (fun _ _ => rfl))) pa_nil))))), body_ct hsp (fun _ => by simp [c_times]) (fun a F0 hp hE => ?_)⟩
  obtain ⟨q, r⟩ := a
  obtain ⟨h1, h2, s1, s2⟩ := hp
  walk_at "st"
  clear hsp hE
  walk_at "r"
  walk_at "c2"
  · exact ⟨Int.mul_nonneg (nn_num h1) (nn_num h2), dz_mul s1 s2⟩
  · refine end_d ?_
    rw [times_law q r]
    exact ⟨_, rfl, .d _⟩
theorem ok_times (T : Top G.K mg "times" s_times ["one", "other"]) (D_lowest : Def P w G.K mg base "lowest" 1 ["a", "b"] (spC G X c_lowest)) : Def P w G.K mg base "times" 2 ["one", "other"] (spC G X c_times) := def_of T fun f fd F => fn_times F D_lowest
abbrev s_over : Stmt := topS 10
theorem sc_over : FnScope ["one", "other"] ["one", "other"] (defScope s_over) := ⟨rfl, rfl, rfl, by decide +kernel, rfl, by decide +kernel, by decide +kernel⟩
local macro_rules | `(tactic| walk_at "st") => `(tactic| simp only [c_over, L2.cxOf, slotsFrom, cellsOf, argOf, List.length_cons, List.length_nil, List.replicate, List.cons_append, List.nil_append, Nat.reduceAdd, Nat.reduceSub, Nat.zero_add, Nat.sub_self] at *)
theorem fn_over {f : Addr} {fd : FuncData} (F : Fun G.K "over" "over" s_over f fd) (D_lowest : Def P w G.K mg base "lowest" 1 ["a", "b"] (spC G X c_lowest)) : FnOk P w G.K mg base (L2.CX P w) 2 f fd ["one", "other"] (spC G X c_over) := by
  obtain ⟨f_lowest, d_lowest, G_lowest, m_lowest, k_lowest, b_lowest⟩ := D_lowest.ex
  refine F.okX sc_over (fun vs H Q E h => spC_len (fun _ => rfl) h) (fun cdv A outer s H vs Q E hr hsp => ?_)
  refine ⟨_, (pss_one (ps_ret (pe_call G_lowest (hr.mono (by decide)) (by rfl) m_lowest k_lowest b_lowest .nil passL (pa_cons (pe_op op_mulW (pe_ix (kIx (K := G.K) rfl) (pv 0) pe_int (fun _ _ => rfl)) (pe_ix (kIx (K := G.K) rfl) (pv 1) pe_int (fun _ _ => rfl))) (pa_cons (pe_op op_mulW (pe_ix (kIx (K := G.K) rfl) (pv 0) pe_int (fun _ _ => rfl)) (pe_ix (kIx (K := G.K) rfl) (pv 1) pe_int (fun _ _ => rfl))) pa_nil))))), body_ct hsp (fun _ => by simp [c_over]) (fun a F0 hp hE => ?_)⟩
  obtain ⟨q, r⟩ := a
  obtain ⟨h1, h2, s1, s2⟩ := hp
  walk_at "st"
  clear hsp hE
  walk_at "r"
  walk_at "c2"
  · exact ⟨Int.mul_nonneg (nn_num h1) (Int.le_of_lt (den_pos' r)), dz_over s1 s2 h2⟩
  · refine end_d ?_
    rw [over_law q r h2]
    exact ⟨_, rfl, .d _⟩
theorem ok_over (T : Top G.K mg "over" s_over ["one", "other"]) (D_lowest : Def P w G.K mg base "lowest" 1 ["a", "b"] (spC G X c_lowest)) : Def P w G.K mg base "over" 2 ["one", "other"] (spC G X c_over) := def_of T fun f fd F => fn_over F D_lowest
abbrev s_below : Stmt := topS 11
theorem sc_below : FnScope ["one", "other"] ["one", "other"] (defScope s_below) := ⟨rfl, rfl, rfl, by decide +kernel, rfl, by decide +kernel, by decide +kernel⟩
local macro_rules | `(tactic| walk_at "st") => `(tactic| simp only [c_below, L2.cxOf, slotsFrom, cellsOf, argOf, List.length_cons, List.length_nil, List.replicate, List.cons_append, List.nil_append, Nat.reduceAdd, Nat.reduceSub, Nat.zero_add, Nat.sub_self] at *)
theorem fn_below {f : Addr} {fd : FuncData} (F : Fun G.K "below" "below" s_below f fd) : FnOk P w G.K mg base (L2.CX P w) 1 f fd ["one", "other"] (spC G X c_below) := by
  refine F.okX sc_below (fun vs H Q E h => spC_len (fun _ => rfl) h) (fun cdv A outer s H vs Q E hr hsp => ?_)
  refine ⟨_, (pss_one (ps_ret (pe_cmpR op_lt (pe_op op_mulW (pe_ix (kIx (K := G.K) rfl) (pv 0) pe_int (fun _ _ => rfl)) (pe_ix (kIx (K := G.K) rfl) (pv 1) pe_int (fun _ _ => rfl))) (pe_op op_mulW (pe_ix (kIx (K := G.K) rfl) (pv 1) pe_int (fun _ _ => rfl)) (pe_ix (kIx (K := G.K) rfl) (pv 0) pe_int (fun _ _ => rfl))) (nomark _)))), body_ct hsp (fun _ => by simp [c_below]) (fun a F0 hp hE => ?_)⟩
  obtain ⟨q, r⟩ := a
  obtain ⟨s1, s2⟩ := hp
  walk_at "st"
  clear hsp hE
  walk_at "r"
  rw [below_law]
  exact .d _
theorem ok_below (T : Top G.K mg "below" s_below ["one", "other"]) : Def P w G.K mg base "below" 1 ["one", "other"] (spC G X c_below) := def_of T fun f fd F => fn_below F 
abbrev s__law_cell_at : Stmt := topS 13
theorem sc__law_cell_at : FnScope ["_law_script", "_law_k"] ["_law_script", "_law_k"] (defScope s__law_cell_at) := ⟨rfl, rfl, rfl, by decide +kernel, rfl, by decide +kernel, by decide +kernel⟩
local macro_rules | `(tactic| walk_at "st") => `(tactic| simp only [c__law_cell_at, L2.cxOf, slotsFrom, cellsOf, argOf, List.length_cons, List.length_nil, List.replicate, List.cons_append, List.nil_append, Nat.reduceAdd, Nat.reduceSub, Nat.zero_add, Nat.sub_self] at *)
theorem fn__law_cell_at {f : Addr} {fd : FuncData} (F : Fun G.K "_law_cell_at" "_law_cell_at" s__law_cell_at f fd) (z_len : mg "len" = none) : FnOk P w G.K mg base (L2.CX P w) 1 f fd ["_law_script", "_law_k"] (spC G X c__law_cell_at) := by
  refine F.okX sc__law_cell_at (fun vs H Q E h => spC_len (fun _ => rfl) h) (fun cdv A outer s H vs Q E hr hsp => ?_)
  refine ⟨_, (pss_cons (ps_if (pt_cmpR op_lt (pv 1) (pe_callB (kLen (K := G.K) rfl) (by rfl) z_len bt_len (pa_cons (pv 0) pa_nil)) (nomark _)) (pss_one (ps_ret (pe_ix (kIx (K := G.K) rfl) (pv 0) (pv 1) (fun _ _ => rfl)))) pss_nil)
    (pss_one (ps_ret pe_int))), body_ct hsp (fun _ => by simp [c__law_cell_at]) (fun a F0 hp hE => ?_)⟩
  obtain ⟨ns, k⟩ := a
  walk_at "st"
  clear hsp hE
  walk_at "r"
  refine wC_lenL (isL_ro rfl) ?_
  walk_at "r"
  rw [List.length_map]
  refine ite2 (fun c => ?_) (fun c => ?_)
  · have c' := of_decide_eq_true c
    walk_at "r"
    refine w2_ix (.inl (isL_ro rfl)) (atI_cell hp c') ?_
    exact ⟨_, rfl, .d _⟩
  · have c' : ¬ k < (ns.length : Int) := fun z => c (decide_eq_true z)
    walk_at "r"
    rw [cell_out c']
    exact .d _
theorem ok__law_cell_at (T : Top G.K mg "_law_cell_at" s__law_cell_at ["_law_script", "_law_k"]) (z_len : mg "len" = none) : Def P w G.K mg base "_law_cell_at" 1 ["_law_script", "_law_k"] (spC G X c__law_cell_at) := def_of T fun f fd F => fn__law_cell_at F z_len
abbrev s__law_low : Stmt := topS 14
theorem sc__law_low : FnScope ["_law_a", "_law_b", "_law_one", "_law_other"] ["_law_a", "_law_b"] (defScope s__law_low) := ⟨rfl, rfl, rfl, by decide +kernel, rfl, by decide +kernel, by decide +kernel⟩
local macro_rules | `(tactic| walk_at "st") => `(tactic| simp only [c_lowest, L2.cxOf, slotsFrom, cellsOf, argOf, List.length_cons, List.length_nil, List.replicate, List.cons_append, List.nil_append, Nat.reduceAdd, Nat.reduceSub, Nat.zero_add, Nat.sub_self] at *)
theorem fn__law_low {f : Addr} {fd : FuncData} (F : Fun G.K "_law_low" "_law_low" s__law_low f fd) : FnOk P w G.K mg base (L2.CX P w) 1 f fd ["_law_a", "_law_b"] (spC G X c_lowest) := by
  refine F.okX sc__law_low (fun vs H Q E h => spC_len (fun _ => rfl) h) (fun cdv A outer s H vs Q E hr hsp => ?_)
  refine ⟨_, (pss_cons (ps_set (i := 2) sc__law_low.nd rfl (Or.inl rfl) (pv 0))
    (pss_cons (ps_set (i := 3) sc__law_low.nd rfl (Or.inl rfl) (pv 1))
    (pss_cons (ps_while (passes_of rfl) (pt_cmpR op_gt (pv 3) pe_int (nomark _)) (pss_one (ps_par (i := 2) (j := 3) rfl sc__law_low.nd rfl rfl (by decide) rfl rfl (pa_cons (pv 3) (pa_cons (pe_op op_mod (pv 2) (pv 3)) pa_nil)) (by rfl))))
    (pss_one (ps_ret (pe_tup (pa_cons (pe_op op_fdivW (pv 0) (pv 2)) (pa_cons (pe_op op_fdivW (pv 1) (pv 2)) pa_nil)))))))), body_ct hsp (fun _ => by simp [c_lowest]) (fun a F0 hp hE => ?_)⟩
  obtain ⟨x, y⟩ := a
  obtain ⟨h0, hd⟩ := hp
  walk_at "st"
  clear hsp hE
  walk_at "r"
  have hy : 0 < y := hd.1
  refine wS_while (fun ρ' μ' => ∃ o t : Int, ρ' = [some (.d (.int x)), some (.d (.int y)), some (.d (.int o)), some (.d (.int t))] ∧ μ' = [] ∧ 0 ≤ o ∧ 0 ≤ t ∧ Int.gcd o t = Int.gcd x y) (fun ρ' _ => (getI ρ' 3).toNat) ⟨x, y, rfl, rfl, h0, by omega, rfl⟩ ?_
  rintro ρ' μ' ⟨o, t, rfl, rfl, ho, ht, hg⟩
  walk_at "r"
  refine ite2 (fun c => ?_) (fun c => ?_)
  · have c' : 0 < t := of_decide_eq_true c
    walk_at "r"
    refine ⟨_, _, rfl, ⟨t, o % t, rfl, rfl, ht, Int.emod_nonneg _ (by omega), (gcd_step ho c').trans hg⟩, ?_⟩
    show (o % t).toNat < t.toNat
    have := Int.emod_lt_of_pos o c'
    omega
  · have c' : t = 0 := by
      have : ¬ 0 < t := fun z => c (decide_eq_true z)
      omega
    subst c'
    have eo : o = (Int.gcd x y : Int) := by rw [← hg, Int.gcd_zero_right]; omega
    walk_at "r"
    refine w2_I (eo ▸ gcd_dz hd) ?_
    walk_at "r"
    refine w2_I (eo ▸ gcd_dz' hd) ?_
    walk_at "r"
    refine ⟨[.int (x / o), .int (y / o)], rfl, by simp, ret_d ?_⟩
    rw [eo, low_num hy, low_den hy]
    rfl
theorem ok__law_low (T : Top G.K mg "_law_low" s__law_low ["_law_a", "_law_b"]) : Def P w G.K mg base "_law_low" 1 ["_law_a", "_law_b"] (spC G X c_lowest) := def_of T fun f fd F => fn__law_low F 
abbrev s__law_is : Stmt := topS 15
theorem sc__law_is : FnScope ["_law_found", "_law_a", "_law_b", "_law_one"] ["_law_found", "_law_a", "_law_b"] (defScope s__law_is) := ⟨rfl, rfl, rfl, by decide +kernel, rfl, by decide +kernel, by decide +kernel⟩
local macro_rules | `(tactic| walk_at "st") => `(tactic| simp only [c__law_is, L2.cxOf, slotsFrom, cellsOf, argOf, List.length_cons, List.length_nil, List.replicate, List.cons_append, List.nil_append, Nat.reduceAdd, Nat.reduceSub, Nat.zero_add, Nat.sub_self] at *)
theorem fn__law_is {f : Addr} {fd : FuncData} (F : Fun G.K "_law_is" "_law_is" s__law_is f fd) (D__law_low : Def P w G.K mg base "_law_low" 1 ["_law_a", "_law_b"] (spC G X c_lowest)) (z_len : mg "len" = none) (z_isinstance : mg "isinstance" = none) (z_tuple : mg "tuple" = none) (z_any : mg "any" = none) (z_int : mg "int" = none) (z_bool : mg "bool" = none) : FnOk P w G.K mg base (L2.CX P w) 2 f fd ["_law_found", "_law_a", "_law_b"] (spC G X c__law_is) := by
  obtain ⟨f__law_low, d__law_low, G__law_low, m__law_low, k__law_low, b__law_low⟩ := D__law_low.ex
  refine F.okX sc__law_is (fun vs H Q E h => spC_len (fun _ => rfl) h) (fun cdv A outer s H vs Q E hr hsp => ?_)
  refine ⟨_, (pss_cons (ps_if (PW.pt (pw_or (pt_not (pt_val (pe_callB (kIsi (K := G.K) rfl) (by rfl) z_isinstance bt_isinstance (pa_cons (pv 0) (pa_cons (pe_bltn (v := .ty "tuple") (by rfl) z_tuple bt_tuple rfl) pa_nil))))) (pw_or (pt_cmpR (kNe (K := G.K) rfl hr.units) (pe_callB (kLen (K := G.K) rfl) (by rfl) z_len bt_len (pa_cons (pv 0) pa_nil)) pe_int (nomark _)) (pw_or1 (pt_cmpR (kNe (K := G.K) rfl hr.units) (pv 0) (pe_call G__law_low (hr.mono (by decide)) (by rfl) m__law_low k__law_low b__law_low .nil passL (pa_cons (pv 1) (pa_cons (pv 2) pa_nil))) (nomark _)))))) (pss_one (ps_ret pe_bl)) pss_nil)
    (pss_one (ps_ret (pe_not (pe_callB (kAny (K := G.K) rfl rfl) (by rfl) z_any bt_any (pa_cons (pe_lc (own := ([("_law_one", 3)] : List (Str × Nat))) (g := (gName 3)) (tt := tYes) rfl sc__law_is.nd (kpi_tup (K := G.K) rfl (pv 0)) (blkOk_by (N := (["_law_found", "_law_a", "_law_b", "_law_one"] : List Str)) (sc := defScope s__law_is) (by decide +kernel)) (fun _ _ _ _ _ => (pg_name (i := 3) sc__law_is.nd rfl (Or.inl rfl))) (fun _ _ _ _ _ => pts_nil) (fun _ _ _ _ _ => (pe_or (pe_callB (kIsi (K := G.K) rfl) (by rfl) z_isinstance bt_isinstance (pa_cons (pv 3) (pa_cons (pe_bltn (v := .ty "bool") (by rfl) z_bool bt_bool rfl) pa_nil))) (pe_one (pe_not (pe_callB (kIsi (K := G.K) rfl) (by rfl) z_isinstance bt_isinstance (pa_cons (pv 3) (pa_cons (pe_bltn (v := .ty "int") (by rfl) z_int bt_int rfl) pa_nil)))))))) pa_nil)))))), body_ct hsp (fun _ => by simp [c__law_is]) (fun a F0 hp hE => ?_)⟩
  obtain ⟨q, i, j⟩ := a
  obtain ⟨h0, hd⟩ := hp
  walk_at "st"
  clear hsp hE
  walk_at "r"
  refine wC_lenT ?_
  walk_at "r"
  walk_at "c2"
  · exact ⟨h0, hd⟩
  refine end_d ?_
  walk_at "r"
  refine ite2 (fun c => ?_) (fun c => ?_)
  · have c' : ¬ q = Rat.divInt i j := by simpa using c
    walk_at "r"
    rw [decide_eq_false c']
    exact .d _
  · have c' : q = Rat.divInt i j := by simpa using c
    walk_at "r"
    refine wE_mapT (fun _ => .bl false) (within_name (by decide)) ?_
    walk_at "r"
    refine ⟨by simp, ?_, ?_⟩
    · intro d hd acc
      have hd' : ∃ i, d = .int i := by
        simp only [List.mem_cons, List.not_mem_nil, or_false] at hd
        rcases hd with rfl | rfl <;> exact ⟨_, rfl⟩
      obtain ⟨i, rfl⟩ := hd'
      walk_at "r"
      exact ⟨rfl, rfl⟩
    · walk_at "r"
      refine wC_any (bs := [false, false]) isL_app ?_
      walk_at "r"
      rw [decide_eq_true c']
      exact .d _
theorem ok__law_is (T : Top G.K mg "_law_is" s__law_is ["_law_found", "_law_a", "_law_b"]) (D__law_low : Def P w G.K mg base "_law_low" 1 ["_law_a", "_law_b"] (spC G X c_lowest)) (z_len : mg "len" = none) (z_isinstance : mg "isinstance" = none) (z_tuple : mg "tuple" = none) (z_any : mg "any" = none) (z_int : mg "int" = none) (z_bool : mg "bool" = none) : Def P w G.K mg base "_law_is" 2 ["_law_found", "_law_a", "_law_b"] (spC G X c__law_is) := def_of T fun f fd F => fn__law_is F D__law_low z_len z_isinstance z_tuple z_any z_int z_bool
abbrev s_law : Stmt := topS 16
theorem sc_law : FnScope ["_law_script", "_law_most", "_law_a", "_law_b", "_law_c", "_law_d", "_law_one", "_law_other", "_law_found", "_law_due"] ["_law_script"] (defScope s_law) := ⟨rfl, rfl, rfl, by decide +kernel, rfl, by decide +kernel, by decide +kernel⟩
local macro_rules | `(tactic| walk_at "st") => `(tactic| simp only [c_law, L2.cxOf, slotsFrom, cellsOf, argOf, List.length_cons, List.length_nil, List.replicate, List.cons_append, List.nil_append, Nat.reduceAdd, Nat.reduceSub, Nat.zero_add, Nat.sub_self] at *)
theorem fn_law {f : Addr} {fd : FuncData} (F : Fun G.K "law" "law" s_law f fd) (D__law_cell_at : Def P w G.K mg base "_law_cell_at" 1 ["_law_script", "_law_k"] (spC G X c__law_cell_at)) (D_made : Def P w G.K mg base "made" 2 ["a", "b"] (spC G X c_made)) (D__law_is : Def P w G.K mg base "_law_is" 2 ["_law_found", "_law_a", "_law_b"] (spC G X c__law_is)) (D_times : Def P w G.K mg base "times" 2 ["one", "other"] (spC G X c_times)) (D_plus : Def P w G.K mg base "plus" 2 ["one", "other"] (spC G X c_plus)) (D_over : Def P w G.K mg base "over" 2 ["one", "other"] (spC G X c_over)) (D_below : Def P w G.K mg base "below" 1 ["one", "other"] (spC G X c_below)) (D_minus : Def P w G.K mg base "minus" 2 ["one", "other"] (spC G X c_minus)) (z_isinstance : mg "isinstance" = none) (z_bool : mg "bool" = none) : FnOk P w G.K mg base (L2.CX P w) 3 f fd ["_law_script"] (spC G X c_law) := by
  obtain ⟨f__law_cell_at, d__law_cell_at, G__law_cell_at, m__law_cell_at, k__law_cell_at, b__law_cell_at⟩ := D__law_cell_at.ex
  obtain ⟨f_made, d_made, G_made, m_made, k_made, b_made⟩ := D_made.ex
  obtain ⟨f__law_is, d__law_is, G__law_is, m__law_is, k__law_is, b__law_is⟩ := D__law_is.ex
  obtain ⟨f_times, d_times, G_times, m_times, k_times, b_times⟩ := D_times.ex
  obtain ⟨f_plus, d_plus, G_plus, m_plus, k_plus, b_plus⟩ := D_plus.ex
  obtain ⟨f_over, d_over, G_over, m_over, k_over, b_over⟩ := D_over.ex
  obtain ⟨f_below, d_below, G_below, m_below, k_below, b_below⟩ := D_below.ex
  obtain ⟨f_minus, d_minus, G_minus, m_minus, k_minus, b_minus⟩ := D_minus.ex
  refine F.okX sc_law (fun vs H Q E h => spC_len (fun _ => rfl) h) (fun cdv A outer s H vs Q E hr hsp => ?_)
  refine ⟨_, (pss_cons (ps_set (i := 1) sc_law.nd rfl (Or.inl rfl) pe_int)
    (pss_cons (ps_if (pt_cmpR (kEq (K := G.K) rfl hr.units) (pe_op op_mod (pe_call G__law_cell_at (hr.mono (by decide)) (by rfl) m__law_cell_at k__law_cell_at b__law_cell_at .nil passL (pa_cons (pv 0) (pa_cons pe_int pa_nil))) pe_int) pe_int (nomark _)) (pss_one (ps_set (i := 1) sc_law.nd rfl (Or.inl rfl) (pe_op op_pow pe_int pe_int))) pss_nil)
    (pss_cons (ps_set (i := 2) sc_law.nd rfl (Or.inl rfl) (pe_op op_mod (pe_call G__law_cell_at (hr.mono (by decide)) (by rfl) m__law_cell_at k__law_cell_at b__law_cell_at .nil passL (pa_cons (pv 0) (pa_cons pe_int pa_nil))) (pv 1)))
    (pss_cons (ps_set (i := 3) sc_law.nd rfl (Or.inl rfl) (pe_op op_add pe_int (pe_op op_mod (pe_call G__law_cell_at (hr.mono (by decide)) (by rfl) m__law_cell_at k__law_cell_at b__law_cell_at .nil passL (pa_cons (pv 0) (pa_cons pe_int pa_nil))) (pv 1))))
    (pss_cons (ps_set (i := 4) sc_law.nd rfl (Or.inl rfl) (pe_op op_mod (pe_call G__law_cell_at (hr.mono (by decide)) (by rfl) m__law_cell_at k__law_cell_at b__law_cell_at .nil passL (pa_cons (pv 0) (pa_cons pe_int pa_nil))) (pv 1)))
    (pss_cons (ps_set (i := 5) sc_law.nd rfl (Or.inl rfl) (pe_op op_add pe_int (pe_op op_mod (pe_call G__law_cell_at (hr.mono (by decide)) (by rfl) m__law_cell_at k__law_cell_at b__law_cell_at .nil passL (pa_cons (pv 0) (pa_cons pe_int pa_nil))) (pv 1))))
    (pss_cons (ps_set (i := 6) sc_law.nd rfl (Or.inl rfl) (pe_call G_made (hr.mono (by decide)) (by rfl) m_made k_made b_made .nil passL (pa_cons (pv 2) (pa_cons (pv 3) pa_nil))))
    (pss_cons (ps_set (i := 7) sc_law.nd rfl (Or.inl rfl) (pe_call G_made (hr.mono (by decide)) (by rfl) m_made k_made b_made .nil passL (pa_cons (pv 4) (pa_cons (pv 5) pa_nil))))
    (pss_cons (ps_if (PW.pt (pw_or (pt_not (pt_val (pe_call G__law_is (hr.mono (by decide)) (by rfl) m__law_is k__law_is b__law_is .nil passL (pa_cons (pv 6) (pa_cons (pv 2) (pa_cons (pv 3) pa_nil)))))) (pw_or1 (pt_not (pt_val (pe_call G__law_is (hr.mono (by decide)) (by rfl) m__law_is k__law_is b__law_is .nil passL (pa_cons (pv 7) (pa_cons (pv 4) (pa_cons (pv 5) pa_nil))))))))) (pss_one (ps_ret pe_bl)) pss_nil)
    (pss_cons (ps_if (PW.pt (pw_or (pt_not (pt_val (pe_call G__law_is (hr.mono (by decide)) (by rfl) m__law_is k__law_is b__law_is .nil passL (pa_cons (pe_call G_plus (hr.mono (by decide)) (by rfl) m_plus k_plus b_plus .nil passL (pa_cons (pv 6) (pa_cons (pv 7) pa_nil))) (pa_cons (pe_op op_add (pe_op op_mulW (pv 2) (pv 5)) (pe_op op_mulW (pv 4) (pv 3))) (pa_cons (pe_op op_mulW (pv 3) (pv 5)) pa_nil)))))) (pw_or1 (pt_not (pt_val (pe_call G__law_is (hr.mono (by decide)) (by rfl) m__law_is k__law_is b__law_is .nil passL (pa_cons (pe_call G_times (hr.mono (by decide)) (by rfl) m_times k_times b_times .nil passL (pa_cons (pv 6) (pa_cons (pv 7) pa_nil))) (pa_cons (pe_op op_mulW (pv 2) (pv 4)) (pa_cons (pe_op op_mulW (pv 3) (pv 5)) pa_nil))))))))) (pss_one (ps_ret pe_bl)) pss_nil)
    (pss_cons (ps_if (PW.pt (pw_and (pt_cmpR op_gt (pv 4) pe_int (nomark _)) (pw_and1 (pt_not (pt_val (pe_call G__law_is (hr.mono (by decide)) (by rfl) m__law_is k__law_is b__law_is .nil passL (pa_cons (pe_call G_over (hr.mono (by decide)) (by rfl) m_over k_over b_over .nil passL (pa_cons (pv 6) (pa_cons (pv 7) pa_nil))) (pa_cons (pe_op op_mulW (pv 2) (pv 5)) (pa_cons (pe_op op_mulW (pv 3) (pv 4)) pa_nil))))))))) (pss_one (ps_ret pe_bl)) pss_nil)
    (pss_cons (ps_for (passes_of rfl) rfl (kpi_list (K := G.K) rfl (pe_lst (pa_cons (pe_tup (pa_cons (pe_call G_below (hr.mono (by decide)) (by rfl) m_below k_below b_below .nil passL (pa_cons (pv 6) (pa_cons (pv 7) pa_nil))) (pa_cons (pe_cmpR op_lt (pe_op op_mulW (pv 2) (pv 5)) (pe_op op_mulW (pv 4) (pv 3)) (nomark _)) pa_nil))) (pa_cons (pe_tup (pa_cons (pe_call G_below (hr.mono (by decide)) (by rfl) m_below k_below b_below .nil passL (pa_cons (pv 7) (pa_cons (pv 6) pa_nil))) (pa_cons (pe_cmpR op_lt (pe_op op_mulW (pv 4) (pv 3)) (pe_op op_mulW (pv 2) (pv 5)) (nomark _)) pa_nil))) pa_nil)))) (kpg_tup (K := G.K) (n := 2) rfl rfl (pgs_cons (pg_name (i := 8) sc_law.nd rfl (Or.inl rfl)) (pgs_cons (pg_name (i := 9) sc_law.nd rfl (Or.inl rfl)) pgs_nil))) (pss_one (ps_if (PW.pt (pw_or (pt_not (pt_val (pe_callB (kIsi (K := G.K) rfl) (by rfl) z_isinstance bt_isinstance (pa_cons (pv 8) (pa_cons (pe_bltn (v := .ty "bool") (by rfl) z_bool bt_bool rfl) pa_nil))))) (pw_or1 (pt_cmpR (kNe (K := G.K) rfl hr.units) (pv 8) (pv 9) (nomark _))))) (pss_one (ps_ret pe_bl)) pss_nil)))
    (pss_cons (ps_if (pt_cmpR op_lt (pe_op op_mulW (pv 2) (pv 5)) (pe_op op_mulW (pv 4) (pv 3)) (nomark _)) (pss_one (ps_ret (pe_call G__law_is (hr.mono (by decide)) (by rfl) m__law_is k__law_is b__law_is .nil passL (pa_cons (pe_call G_minus (hr.mono (by decide)) (by rfl) m_minus k_minus b_minus .nil passL (pa_cons (pv 7) (pa_cons (pv 6) pa_nil))) (pa_cons (pe_op op_sub (pe_op op_mulW (pv 4) (pv 3)) (pe_op op_mulW (pv 2) (pv 5))) (pa_cons (pe_op op_mulW (pv 3) (pv 5)) pa_nil)))))) pss_nil)
    (pss_one (ps_ret (pe_call G__law_is (hr.mono (by decide)) (by rfl) m__law_is k__law_is b__law_is .nil passL (pa_cons (pe_call G_minus (hr.mono (by decide)) (by rfl) m_minus k_minus b_minus .nil passL (pa_cons (pv 6) (pa_cons (pv 7) pa_nil))) (pa_cons (pe_op op_sub (pe_op op_mulW (pv 2) (pv 5)) (pe_op op_mulW (pv 4) (pv 3))) (pa_cons (pe_op op_mulW (pv 3) (pv 5)) pa_nil))))))))))))))))))), body_ct hsp (fun _ => by simp [c_law]) (fun a F0 hp hE => ?_)⟩
  walk_at "st"
  clear hsp hE
  refine wS_seq ?_
  walk_at "q"
  refine wS_seqJ (fun ρ' μ' => ∃ m : Int, 0 < m ∧ m ≤ 1000000000000 ∧ ρ' = [some (.p 0), some (.d (.int m)), none, none, none, none, none, none, none, none] ∧ μ' = [.ro (a.map D.int)]) ?_ ?_
  · walk_at "r"
    walk_at "cell"
    refine ite2 (fun c => ?_) (fun c => ?_)
    · walk_at "r"
      exact ⟨_, by decide, by decide, rfl, rfl⟩
    · walk_at "r"
      exact ⟨_, by decide, by decide, rfl, rfl⟩
  rintro ρ' μ' ⟨m, hm0, hm, rfl, rfl⟩
  have em : ∀ x : Int, 0 ≤ x % m ∧ x % m < m := fun x => ⟨Int.emod_nonneg _ (by omega), Int.emod_lt_of_pos _ hm0⟩
  refine wS_asgJ (fun u μ' => u = .d (.int (cellN a 0 % m)) ∧ μ' = [.ro (a.map D.int)]) ?_ ?_
  · walk_at "r"
    walk_at "cell"
    exact ⟨rfl, rfl⟩
  rintro u μ' ⟨rfl, rfl⟩
  refine wS_asgJ (fun u μ' => u = .d (.int (1 + cellN a 1 % m)) ∧ μ' = [.ro (a.map D.int)]) ?_ ?_
  · walk_at "r"
    walk_at "cell"
    exact ⟨rfl, rfl⟩
  rintro u μ' ⟨rfl, rfl⟩
  refine wS_asgJ (fun u μ' => u = .d (.int (cellN a 2 % m)) ∧ μ' = [.ro (a.map D.int)]) ?_ ?_
  · walk_at "r"
    walk_at "cell"
    exact ⟨rfl, rfl⟩
  rintro u μ' ⟨rfl, rfl⟩
  refine wS_asgJ (fun u μ' => u = .d (.int (1 + cellN a 3 % m)) ∧ μ' = [.ro (a.map D.int)]) ?_ ?_
  · walk_at "r"
    walk_at "cell"
    exact ⟨rfl, rfl⟩
  rintro u μ' ⟨rfl, rfl⟩
  have eA := em (cellN a 0)
  have eB := em (cellN a 1)
  have eC := em (cellN a 2)
  have eD := em (cellN a 3)
  simp only [List.set]
  generalize hx : cellN a 0 % m = x at *
  generalize hy : 1 + cellN a 1 % m = y at *
  generalize hz : cellN a 2 % m = z at *
  generalize ht : 1 + cellN a 3 % m = t at *
  have x0 : 0 ≤ x := eA.1
  have y0 : 0 < y := by omega
  have z0 : 0 ≤ z := eC.1
  have t0 : 0 < t := by omega
  have pw : (2:Int) ^ 40 = 1099511627776 := by decide
  have pw2 : (2:Int) ^ 80 = 1208925819614629174706176 := by decide
  have pw3 : (2:Int) ^ 81 = 2417851639229258349412352 := by decide
  have b40 : x < 2 ^ 40 ∧ y < 2 ^ 40 ∧ z < 2 ^ 40 ∧ t < 2 ^ 40 := by rw [pw]; omega
  have mulb : ∀ i j : Int, 0 ≤ i → 0 ≤ j → i < 2 ^ 40 → j < 2 ^ 40 → 0 ≤ i * j ∧ i * j < 2 ^ 80 := fun i j h1 h2 h3 h4 => mul_of h1 h2 h3 h4
  have cm : ∀ i j : Int, 0 ≤ i → 0 ≤ j → i < 2 ^ 40 → j < 2 ^ 40 → CMulW i j := fun i j h1 h2 h3 h4 => cm_of h1 h2 h3 h4 (by decide) (by decide) (by decide)
  have cxt := cm x t x0 (by omega) b40.1 b40.2.2.2
  have czy := cm z y z0 (by omega) b40.2.2.1 b40.2.1
  have cyt := cm y t (by omega) (by omega) b40.2.1 b40.2.2.2
  have cxz := cm x z x0 z0 b40.1 b40.2.2.1
  have cyz := cm y z (by omega) z0 b40.2.1 b40.2.2.1
  have mxt := mulb x t x0 (by omega) b40.1 b40.2.2.2
  have mzy := mulb z y z0 (by omega) b40.2.2.1 b40.2.1
  have myt := mulb y t (by omega) (by omega) b40.2.1 b40.2.2.2
  have mxz := mulb x z x0 z0 b40.1 b40.2.2.1
  have myz := mulb y z (by omega) z0 b40.2.1 b40.2.2.1
  have pyt : 0 < y * t := Int.mul_pos y0 t0
  have Sq : Sz (Rat.divInt x y) := sz_of x0 y0 b40.1 b40.2.1 (by decide)
  have Sr : Sz (Rat.divInt z t) := sz_of z0 t0 b40.2.2.1 b40.2.2.2 (by decide)
  have q0 := divInt_nn x0 y0
  have r0 := divInt_nn z0 t0
  have dyt : Dz (y * t) := dz_of pyt myt.2 (by decide)
  have dy : Dz y := dz_of y0 b40.2.1 (by decide)
  have dt : Dz t := dz_of t0 b40.2.2.2 (by decide)
  walk_at "r"
  refine ca_made x0 dy ?_
  walk_at "r"
  refine ca_made z0 dt ?_
  walk_at "r"
  refine ca_is x0 dy ?_
  walk_at "r"
  rw [decide_eq_true rfl]
  walk_at "r"
  refine ca_is z0 dt ?_
  walk_at "r"
  rw [decide_eq_true rfl]
  walk_at "r"
  refine ca_plus q0 r0 Sq Sr ?_
  walk_at "r"
  refine ca_is (by omega) dyt ?_
  rw [decide_eq_true (Rat.divInt_add_divInt _ _ (by omega) (by omega))]
  walk_at "r"
  refine ca_times q0 r0 Sq Sr ?_
  walk_at "r"
  refine ca_is mxz.1 dyt ?_
  rw [decide_eq_true (Rat.divInt_mul_divInt _ _)]
  walk_at "q"
  refine wS_seqJ (fun ρ' μ' => ρ' = [some (.p 0), some (.d (.int m)), some (.d (.int x)), some (.d (.int y)), some (.d (.int z)), some (.d (.int t)), some (.d (encF (Rat.divInt x y))), some (.d (encF (Rat.divInt z t))), none, none] ∧ μ' = [.ro (a.map D.int)]) ?_ ?_
  · walk_at "r"
    refine ite2 (fun c => ?_) (fun c => ?_)
    · have z1 : 0 < z := of_decide_eq_true c
      have dyz : Dz (y * z) := dz_of (Int.mul_pos y0 z1) myz.2 (by decide)
      have r1 : 0 < Rat.divInt z t := by
        have e0 : Rat.divInt 0 1 = 0 := rfl
        rw [← e0]
        refine (lt_law (by decide) t0).mpr ?_
        simpa using z1
      walk_at "r"
      refine ca_over q0 r1 Sq Sr ?_
      walk_at "r"
      refine ca_is mxt.1 dyz ?_
      rw [decide_eq_true (ov_law y0 t0 z1)]
      walk_at "r"
      exact ⟨rfl, rfl⟩
    · walk_at "r"
      exact ⟨rfl, rfl⟩
  rintro ρ' μ' ⟨rfl, rfl⟩
  have l1 : decide (Rat.divInt x y < Rat.divInt z t) = decide (x * t < z * y) := by
    by_cases h : x * t < z * y
    · rw [decide_eq_true h, decide_eq_true ((lt_law y0 t0).mpr h)]
    · rw [decide_eq_false h, decide_eq_false fun w => h ((lt_law y0 t0).mp w)]
  have l2 : decide (Rat.divInt z t < Rat.divInt x y) = decide (z * y < x * t) := by
    by_cases h : z * y < x * t
    · rw [decide_eq_true h, decide_eq_true ((lt_law t0 y0).mpr h)]
    · rw [decide_eq_false h, decide_eq_false fun w => h ((lt_law t0 y0).mp w)]
  generalize hb1 : decide (x * t < z * y) = b1 at *
  generalize hb2 : decide (z * y < x * t) = b2 at *
  refine wS_seqJ (fun ρ' μ' => ∃ u w, ρ' = [some (.p 0), some (.d (.int m)), some (.d (.int x)), some (.d (.int y)), some (.d (.int z)), some (.d (.int t)), some (.d (encF (Rat.divInt x y))), some (.d (encF (Rat.divInt z t))), u, w]) ?_ ?_
  · refine wS_for ?_
    walk_at "r"
    refine ca_below Sq Sr ?_
    walk_at "r"
    rw [l1, hb1]
    refine ⟨[.bl b1, .bl b1], rfl, by simp, ?_⟩
    walk_at "r"
    refine ca_below Sr Sq ?_
    walk_at "r"
    rw [l2, hb2]
    refine ⟨[.bl b2, .bl b2], rfl, by simp, ?_⟩
    walk_at "r"
    refine ⟨[.tup [.bl b1, .bl b1], .tup [.bl b2, .bl b2]], rfl, by simp, ?_⟩
    refine ⟨_, isL_rw rfl, fun _ ρ' μ' => ∃ u w, ρ' = [some (.p 0), some (.d (.int m)), some (.d (.int x)), some (.d (.int y)), some (.d (.int z)), some (.d (.int t)), some (.d (encF (Rat.divInt x y))), some (.d (encF (Rat.divInt z t))), u, w] ∧ μ' = [.ro (a.map D.int), .rw [.tup [.bl b1, .bl b1], .tup [.bl b2, .bl b2]]], ⟨none, none, rfl, rfl⟩, ?_, ?_, ?_⟩
    · rintro i ρ' μ' ⟨u, w, rfl, rfl⟩
      exact isL_rw rfl
    · rintro i d ρ' μ' hd ⟨u, w, rfl, rfl⟩
      have hd' : ∃ b, d = .tup [.bl b, .bl b] := by
        have := List.mem_of_getElem? hd
        simp only [List.mem_cons, List.not_mem_nil, or_false] at this
        rcases this with rfl | rfl <;> exact ⟨_, rfl⟩
      obtain ⟨b, rfl⟩ := hd'
      walk_at "r"
      rw [decide_eq_true rfl]
      walk_at "r"
      exact ⟨_, _, rfl, rfl⟩
    · rintro ρ' μ' ⟨u, w, rfl, rfl⟩
      exact ⟨u, w, rfl⟩
  rintro ρ' μ' ⟨u, w, rfl⟩
  have le_of : ∀ {i j k l : Int}, 0 < j → 0 < l → ¬ i * l < k * j → Rat.divInt k l ≤ Rat.divInt i j := fun {i j k l} hj hl h => Rat.not_lt.mp fun z => h ((lt_law hj hl).mp z)
  walk_at "r"
  refine ite2 (fun c => ?_) (fun c => ?_)
  · have c' : x * t < z * y := of_decide_eq_true c
    walk_at "r"
    refine ca_minus q0 (Rat.le_of_lt ((lt_law y0 t0).mpr c')) Sr Sq ?_
    walk_at "r"
    refine ca_is (by omega) dyt ?_
    rw [decide_eq_true (by rw [Rat.divInt_sub_divInt _ _ (by omega) (by omega), Int.mul_comm y t])]
    exact ⟨_, rfl, .d _⟩
  · have c' : ¬ x * t < z * y := fun w => c (decide_eq_true w)
    walk_at "r"
    refine ca_minus r0 (le_of y0 t0 c') Sq Sr ?_
    walk_at "r"
    refine ca_is (by omega) dyt ?_
    rw [decide_eq_true (Rat.divInt_sub_divInt _ _ (by omega) (by omega))]
    exact ⟨_, rfl, .d _⟩
theorem ok_law (T : Top G.K mg "law" s_law ["_law_script"]) (D__law_cell_at : Def P w G.K mg base "_law_cell_at" 1 ["_law_script", "_law_k"] (spC G X c__law_cell_at)) (D_made : Def P w G.K mg base "made" 2 ["a", "b"] (spC G X c_made)) (D__law_is : Def P w G.K mg base "_law_is" 2 ["_law_found", "_law_a", "_law_b"] (spC G X c__law_is)) (D_times : Def P w G.K mg base "times" 2 ["one", "other"] (spC G X c_times)) (D_plus : Def P w G.K mg base "plus" 2 ["one", "other"] (spC G X c_plus)) (D_over : Def P w G.K mg base "over" 2 ["one", "other"] (spC G X c_over)) (D_below : Def P w G.K mg base "below" 1 ["one", "other"] (spC G X c_below)) (D_minus : Def P w G.K mg base "minus" 2 ["one", "other"] (spC G X c_minus)) (z_isinstance : mg "isinstance" = none) (z_bool : mg "bool" = none) : Def P w G.K mg base "law" 3 ["_law_script"] (spC G X c_law) := def_of T fun f fd F => fn_law F D__law_cell_at D_made D__law_is D_times D_plus D_over D_below D_minus z_isinstance z_bool
end
section
variable {P : Program} {w : World} {mg : Str → Option Value} {G : Gx} {X : Ex}
theorem all_mk {f : Addr} {fd : FuncData} (F : Fun G.K "law" "law" s_law f fd) (T_is_whole : Top G.K mg "is_whole" s_is_whole ["number"]) (T_lowest : Top G.K mg "lowest" s_lowest ["a", "b"]) (T_made : Top G.K mg "made" s_made ["a", "b"]) (T_plus : Top G.K mg "plus" s_plus ["one", "other"]) (T_minus : Top G.K mg "minus" s_minus ["one", "other"]) (T_times : Top G.K mg "times" s_times ["one", "other"]) (T_over : Top G.K mg "over" s_over ["one", "other"]) (T_below : Top G.K mg "below" s_below ["one", "other"]) (T__law_cell_at : Top G.K mg "_law_cell_at" s__law_cell_at ["_law_script", "_law_k"]) (T__law_low : Top G.K mg "_law_low" s__law_low ["_law_a", "_law_b"]) (T__law_is : Top G.K mg "_law_is" s__law_is ["_law_found", "_law_a", "_law_b"]) (z_isinstance : mg "isinstance" = none) (z_bool : mg "bool" = none) (z_int : mg "int" = none) (X_BadFraction : ExcOk G.K mg "BadFraction" (X 0)) (z_len : mg "len" = none) (z_tuple : mg "tuple" = none) (z_any : mg "any" = none) (base : Heap) : FnOk P w G.K mg base (L2.CX P w) 3 f fd ["_law_script"] (spLaw G.K) := by
  have D_is_whole : Def P w G.K mg base "is_whole" 1 ["number"] (spC G X c_is_whole) := ok_is_whole T_is_whole z_isinstance z_bool z_int
  have D_lowest : Def P w G.K mg base "lowest" 1 ["a", "b"] (spC G X c_lowest) := ok_lowest T_lowest 
  have D_below : Def P w G.K mg base "below" 1 ["one", "other"] (spC G X c_below) := ok_below T_below 
  have D__law_cell_at : Def P w G.K mg base "_law_cell_at" 1 ["_law_script", "_law_k"] (spC G X c__law_cell_at) := ok__law_cell_at T__law_cell_at z_len
  have D__law_low : Def P w G.K mg base "_law_low" 1 ["_law_a", "_law_b"] (spC G X c_lowest) := ok__law_low T__law_low 
  have D_made : Def P w G.K mg base "made" 2 ["a", "b"] (spC G X c_made) := ok_made T_made D_is_whole D_lowest X_BadFraction
  have D_plus : Def P w G.K mg base "plus" 2 ["one", "other"] (spC G X c_plus) := ok_plus T_plus D_lowest
  have D_minus : Def P w G.K mg base "minus" 2 ["one", "other"] (spC G X c_minus) := ok_minus T_minus D_lowest
  have D_times : Def P w G.K mg base "times" 2 ["one", "other"] (spC G X c_times) := ok_times T_times D_lowest
  have D_over : Def P w G.K mg base "over" 2 ["one", "other"] (spC G X c_over) := ok_over T_over D_lowest
  have D__law_is : Def P w G.K mg base "_law_is" 2 ["_law_found", "_law_a", "_law_b"] (spC G X c__law_is) := ok__law_is T__law_is D__law_low z_len z_isinstance z_tuple z_any z_int z_bool
  exact law_fn (fn_law F D__law_cell_at D_made D__law_is D_times D_plus D_over D_below D_minus z_isinstance z_bool)
end
end L3
open PySem PySem.W PyProof.Rows
set_option maxRecDepth 100000 in
set_option maxHeartbeats 0 in
theorem PySem.Challenge.cw_fairknife_k01_fractions_holds : PySem.Challenge.rw_fairknife_k01_fractions.Holds := by
  w_on; o_law; k_head; (case hw => w_witness2)
  k_fill
  refine L2.walk_of (l := PySem.Challenge.rw_fairknife_k01_fractions) (n := 63) (k := 3) (x := "_law_script") (CX := fun w => L2.CX PySem.Challenge.rw_fairknife_k01_fractions.prog w) (sp := fun w => L3.spLaw _) rfl (by decide) rfl ⟨rfl, by decide, by decide⟩ (fun w h Y => PySem.W.kIn_of Y) ?F (fun _ _ a ns hl _ hS => ⟨a, ns, rfl, hS, hl, fun _ => rfl⟩) (fun _ _ _ _ _ h => L3.cx_false h)
  case F =>
    intro w mg fa h KX G hmg
    replace hmg : mg "law" = some (.ref fa) := hmg
    refine' L3.bind_ (L3.top_mk (x := "is_whole") (st := L3.s_is_whole) (ps := ["number"]) KX G ?a ?l ?c ?k ?b) ?go
    (case a => k_is); (case l => k_is); (case c => k_is); (case k => k_is); (case b => exact fun _ _ _ _ _ _ us hl => match us, hl with | [_], _ => rfl)
    case go =>
    intro T_is_whole
    refine' L3.bind_ (L3.top_mk (x := "lowest") (st := L3.s_lowest) (ps := ["a", "b"]) KX G ?a ?l ?c ?k ?b) ?go
    (case a => k_is); (case l => k_is); (case c => k_is); (case k => k_is); (case b => exact fun _ _ _ _ _ _ us hl => match us, hl with | [_, _], _ => rfl)
    case go =>
    intro T_lowest
    refine' L3.bind_ (L3.top_mk (x := "made") (st := L3.s_made) (ps := ["a", "b"]) KX G ?a ?l ?c ?k ?b) ?go
    (case a => k_is); (case l => k_is); (case c => k_is); (case k => k_is); (case b => exact fun _ _ _ _ _ _ us hl => match us, hl with | [_, _], _ => rfl)
    case go =>
    intro T_made
    refine' L3.bind_ (L3.top_mk (x := "plus") (st := L3.s_plus) (ps := ["one", "other"]) KX G ?a ?l ?c ?k ?b) ?go
    (case a => k_is); (case l => k_is); (case c => k_is); (case k => k_is); (case b => exact fun _ _ _ _ _ _ us hl => match us, hl with | [_, _], _ => rfl)
    case go =>
    intro T_plus
    refine' L3.bind_ (L3.top_mk (x := "minus") (st := L3.s_minus) (ps := ["one", "other"]) KX G ?a ?l ?c ?k ?b) ?go
    (case a => k_is); (case l => k_is); (case c => k_is); (case k => k_is); (case b => exact fun _ _ _ _ _ _ us hl => match us, hl with | [_, _], _ => rfl)
    case go =>
    intro T_minus
    refine' L3.bind_ (L3.top_mk (x := "times") (st := L3.s_times) (ps := ["one", "other"]) KX G ?a ?l ?c ?k ?b) ?go
    (case a => k_is); (case l => k_is); (case c => k_is); (case k => k_is); (case b => exact fun _ _ _ _ _ _ us hl => match us, hl with | [_, _], _ => rfl)
    case go =>
    intro T_times
    refine' L3.bind_ (L3.top_mk (x := "over") (st := L3.s_over) (ps := ["one", "other"]) KX G ?a ?l ?c ?k ?b) ?go
    (case a => k_is); (case l => k_is); (case c => k_is); (case k => k_is); (case b => exact fun _ _ _ _ _ _ us hl => match us, hl with | [_, _], _ => rfl)
    case go =>
    intro T_over
    refine' L3.bind_ (L3.top_mk (x := "below") (st := L3.s_below) (ps := ["one", "other"]) KX G ?a ?l ?c ?k ?b) ?go
    (case a => k_is); (case l => k_is); (case c => k_is); (case k => k_is); (case b => exact fun _ _ _ _ _ _ us hl => match us, hl with | [_, _], _ => rfl)
    case go =>
    intro T_below
    refine' L3.bind_ (L3.top_mk (x := "_law_cell_at") (st := L3.s__law_cell_at) (ps := ["_law_script", "_law_k"]) KX G ?a ?l ?c ?k ?b) ?go
    (case a => k_is); (case l => k_is); (case c => k_is); (case k => k_is); (case b => exact fun _ _ _ _ _ _ us hl => match us, hl with | [_, _], _ => rfl)
    case go =>
    intro T__law_cell_at
    refine' L3.bind_ (L3.top_mk (x := "_law_low") (st := L3.s__law_low) (ps := ["_law_a", "_law_b"]) KX G ?a ?l ?c ?k ?b) ?go
    (case a => k_is); (case l => k_is); (case c => k_is); (case k => k_is); (case b => exact fun _ _ _ _ _ _ us hl => match us, hl with | [_, _], _ => rfl)
    case go =>
    intro T__law_low
    refine' L3.bind_ (L3.top_mk (x := "_law_is") (st := L3.s__law_is) (ps := ["_law_found", "_law_a", "_law_b"]) KX G ?a ?l ?c ?k ?b) ?go
    (case a => k_is); (case l => k_is); (case c => k_is); (case k => k_is); (case b => exact fun _ _ _ _ _ _ us hl => match us, hl with | [_, _, _], _ => rfl)
    case go =>
    intro T__law_is
    refine' L3.bind_ (L3.z_mk (x := "isinstance") KX G ?a) ?go
    (case a => k_is)
    case go =>
    intro z_isinstance
    refine' L3.bind_ (L3.z_mk (x := "bool") KX G ?a) ?go
    (case a => k_is)
    case go =>
    intro z_bool
    refine' L3.bind_ (L3.z_mk (x := "int") KX G ?a) ?go
    (case a => k_is)
    case go =>
    intro z_int
    refine' L3.bind_ (L3.exc_mk (x := "BadFraction") KX G ?a ?x ?k ?b ?t) ?go
    (case a => k_is); (case x => k_exc); (case k => k_is); (case b => k_is); (case t => k_is)
    case go =>
    rintro ⟨c_BadFraction, X_BadFraction⟩
    refine' L3.bind_ (L3.z_mk (x := "len") KX G ?a) ?go
    (case a => k_is)
    case go =>
    intro z_len
    refine' L3.bind_ (L3.z_mk (x := "tuple") KX G ?a) ?go
    (case a => k_is)
    case go =>
    intro z_tuple
    refine' L3.bind_ (L3.z_mk (x := "any") KX G ?a) ?go
    (case a => k_is)
    case go =>
    intro z_any
    refine' L3.law_mk (st := L3.s_law) KX G hmg ?a ?l ?c ?k ?H ?b
    (case a => k_is); (case l => k_is); (case c => k_is); (case k => k_is); (case b => exact fun s v => .of_eq rfl)
    exact fun fd F base => L3.all_mk (G := ⟨L3.kof KX, fun _ => 0⟩) (X := fun n => match n with | 0 => c_BadFraction | _ => 0) F T_is_whole T_lowest T_made T_plus T_minus T_times T_over T_below T__law_cell_at T__law_low T__law_is z_isinstance z_bool z_int X_BadFraction z_len z_tuple z_any base
