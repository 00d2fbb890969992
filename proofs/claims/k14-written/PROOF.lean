import PyProof.Rows.All
import Wide.All
import OpenK.AllK
import Wide.FinOn
import HandS.ForMost
import HandS.Exc
import HandS.TryOnly
import HandS.ExcOwn
import HandS.WordsExc
import HandS.IsInst
import HandS.Wide
import HandS.Flow
import HandS.SuiteRaise
import HandS.Codes
import HandS.Style
import HandS.More
import HandS.SetFor
import HandS.Deep
import PyProof.Rows.SeqMore
import KE.DataFind
import HandS.New
import HandS.TupAny
import HandS.ExcIs
import HandS.CallSlots
import PySem.Challenge.RW_fairknife_k14_written
set_option Elab.async false
set_option linter.all false
set_option maxRecDepth 100000
set_option maxHeartbeats 4000000
/-! A layer over the hand layer: values without a heap (D), lists of one's own by number (cells), readings over both. -/
namespace L3
open PySem PySem.Spec PyProof.Rows L2

inductive D where
  | non | bl (b : Bool) | int (i : Int) | str (x : Str) | tup (ds : List D) | lst (ds : List D) | ob (n : Nat) (ds : List D) | raw (a : Addr) | fn (φ : Addr → Heap → Prop)

structure Gx where
  K : PySem.W.Frag
  cl : Nat → Addr
/-- the attributes of an own class's objects: 0 is Taste, the others have none -/
def fl : Nat → List Str
  | 0 => ["rows", "total"]
  | 8 => ["rows"]
  | _ => []

mutual
inductive Rp (G : Gx) (F : Hp) : V → D → Prop
  | non : Rp G F .non .non
  | bl (b : Bool) : Rp G F (.bl b) (.bl b)
  | int (i : Int) : Rp G F (.int i) (.int i)
  | str (x : Str) : Rp G F (.str x) (.str x)
  | tup {a : Addr} {xs : List V} {ds : List D} : SqT G.K F a xs → RpAll G F xs ds → Rp G F (.ref a) (.tup ds)
  | lst {a : Addr} {xs : List V} {ds : List D} : SqL G.K F a xs → RpAll G F xs ds → Rp G F (.ref a) (.lst ds)
  | ob {a dx : Addr} {n : Nat} {fs : List (Str × V)} {ds : List D} : F a = some (.ins (G.cl n) dx fs) → fs.map (·.1) = fl n → RpAll G F (fs.map (·.2)) ds → Rp G F (.ref a) (.ob n ds)
  | raw (a : Addr) : Rp G F (.ref a) (.raw a)
  | fn {a : Addr} {φ : Addr → Heap → Prop} : F a = some (.ext (φ a)) → Rp G F (.ref a) (.fn φ)
inductive RpAll (G : Gx) (F : Hp) : List V → List D → Prop
  | nil : RpAll G F [] []
  | cons {v : V} {vs : List V} {d : D} {ds : List D} : Rp G F v d → RpAll G F vs ds → RpAll G F (v :: vs) (d :: ds)
end

theorem Same.rd {H H' : Hp} {a : Addr} {u : HO} (e : Same H H') (h : Rd H a u) : Rd H' a u := by
  rcases h with h | ⟨o, h⟩
  · exact .inl (e _ _ h)
  · exact .inr ⟨o, e _ _ h⟩
theorem Same.sqT {K : PySem.W.Frag} {H H' : Hp} {a : Addr} {xs : List V} (e : Same H H') (h : SqT K H a xs) : SqT K H' a xs := by
  rcases h with h | h
  · exact .inl (Same.rd e h)
  · exact .inr h
theorem Same.sqL {K : PySem.W.Frag} {H H' : Hp} {a : Addr} {xs : List V} (e : Same H H') (h : SqL K H a xs) : SqL K H' a xs := by
  rcases h with h | h
  · exact .inl (Same.rd e h)
  · exact .inr h

section
variable {G : Gx} {F F' : Hp}
mutual
theorem Rp.mono (h : Same F F') : ∀ (d : D) {v : V}, Rp G F v d → Rp G F' v d
  | .non, _, q => by cases q; exact .non
  | .bl b, _, q => by cases q; exact .bl b
  | .int i, _, q => by cases q; exact .int i
  | .str x, _, q => by cases q; exact .str x
  | .tup ds, _, q => by
    cases q with
    | tup hs ha => exact .tup (Same.sqT h hs) (RpAll.mono h ds ha)
  | .lst ds, _, q => by
    cases q with
    | lst hs ha => exact .lst (Same.sqL h hs) (RpAll.mono h ds ha)
  | .ob n ds, _, q => by
    cases q with
    | ob hs hf ha => exact .ob (h _ _ hs) hf (RpAll.mono h ds ha)
  | .raw v, _, q => by cases q; exact .raw _
  | .fn φ, _, q => by
    cases q with
    | fn hs => exact .fn (h _ _ hs)
theorem RpAll.mono (h : Same F F') : ∀ (ds : List D) {vs : List V}, RpAll G F vs ds → RpAll G F' vs ds
  | [], _, q => by cases q; exact .nil
  | d :: ds, _, q => by
    cases q with
    | cons a b => exact .cons (Rp.mono h d a) (RpAll.mono h ds b)
end
theorem RpAll.length : ∀ {vs : List V} {ds : List D}, RpAll G F vs ds → vs.length = ds.length
  | _, _, .nil => rfl
  | _, _, .cons _ t => by simp [RpAll.length t]
theorem RpAll.get : ∀ {vs : List V} {ds : List D} {i : Nat} {d : D}, RpAll G F vs ds → ds[i]? = some d → ∃ v, vs[i]? = some v ∧ Rp G F v d
  | _, _, _, _, .nil, e => by simp at e
  | _, _, 0, _, .cons r _, e => by simp at e; subst e; exact ⟨_, rfl, r⟩
  | _, _, i + 1, d, .cons _ t, e => by
    obtain ⟨v, h1, h2⟩ := RpAll.get (i := i) (d := d) t (by simpa using e)
    exact ⟨v, by simpa using h1, h2⟩
theorem RpAll.getV : ∀ {vs : List V} {ds : List D} {i : Nat} {v : V}, RpAll G F vs ds → vs[i]? = some v → ∃ d, ds[i]? = some d ∧ Rp G F v d
  | _, _, _, _, .nil, e => by simp at e
  | _, _, 0, _, .cons r _, e => by simp at e; subst e; exact ⟨_, rfl, r⟩
  | _, _, i + 1, d, .cons _ t, e => by
    obtain ⟨v, h1, h2⟩ := RpAll.getV (i := i) t (by simpa using e)
    exact ⟨v, by simpa using h1, h2⟩
theorem RpAll.append : ∀ {xs ys : List V} {ds es : List D}, RpAll G F xs ds → RpAll G F ys es → RpAll G F (xs ++ ys) (ds ++ es)
  | _, _, _, _, .nil, s => s
  | _, _, _, _, .cons r t, s => .cons r (RpAll.append t s)
theorem RpAll.one {v : V} {d : D} (h : Rp G F v d) : RpAll G F [v] [d] := .cons h .nil
theorem RpAll.set {v : V} {d : D} (r : Rp G F v d) : ∀ {xs : List V} {ds : List D} (i : Nat), RpAll G F xs ds → RpAll G F (xs.set i v) (ds.set i d)
  | _, _, _, .nil => .nil
  | _, _, 0, .cons _ t => .cons r t
  | _, _, i + 1, .cons q t => .cons q (RpAll.set r i t)
theorem RpAll.take : ∀ {xs : List V} {ds : List D} (n : Nat), RpAll G F xs ds → RpAll G F (xs.take n) (ds.take n)
  | _, _, 0, _ => .nil
  | _, _, _ + 1, .nil => .nil
  | _, _, n + 1, .cons r t => .cons r (RpAll.take n t)
theorem RpAll.drop : ∀ {xs : List V} {ds : List D} (n : Nat), RpAll G F xs ds → RpAll G F (xs.drop n) (ds.drop n)
  | _, _, 0, r => r
  | _, _, _ + 1, .nil => .nil
  | _, _, n + 1, .cons _ t => RpAll.drop n t
theorem RpAll.insertIdx {v : V} {d : D} (r : Rp G F v d) : ∀ {xs : List V} {ds : List D} (i : Nat), RpAll G F xs ds → RpAll G F (xs.insertIdx i v) (ds.insertIdx i d)
  | _, _, 0, t => .cons r t
  | _, _, _ + 1, .nil => .nil
  | _, _, i + 1, .cons q t => .cons q (RpAll.insertIdx r i t)
theorem RpAll.eraseIdx : ∀ {xs : List V} {ds : List D} (i : Nat), RpAll G F xs ds → RpAll G F (xs.eraseIdx i) (ds.eraseIdx i)
  | _, _, _, .nil => .nil
  | _, _, 0, .cons _ t => t
  | _, _, i + 1, .cons q t => .cons q (RpAll.eraseIdx i t)
theorem RpAll.reverse {xs : List V} {ds : List D} (h : RpAll G F xs ds) : RpAll G F xs.reverse ds.reverse := by
  induction ds generalizing xs with
  | nil => cases h; exact .nil
  | cons d ds ih =>
    cases h with
    | cons a b => rw [List.reverse_cons, List.reverse_cons]; exact RpAll.append (ih b) (.one a)
theorem RpAll.ints : ∀ (ns : List Int), RpAll G F (ns.map V.int) (ns.map D.int)
  | [] => .nil
  | n :: ns => .cons (.int n) (RpAll.ints ns)
theorem RpAll.of_ints : ∀ {ns : List Int} {vs : List V}, RpAll G F vs (ns.map D.int) → vs = ns.map V.int
  | [], _, h => by cases h; rfl
  | n :: ns, _, h => by
    cases h with
    | cons a b => cases a; rw [RpAll.of_ints b]; rfl
theorem RpAll.of_bls : ∀ {ns : List Bool} {vs : List V}, RpAll G F vs (ns.map D.bl) → vs = ns.map V.bl
  | [], _, h => by cases h; rfl
  | n :: ns, _, h => by
    cases h with
    | cons a b => cases a; rw [RpAll.of_bls b]; rfl
theorem RpAll.of_strs : ∀ {ns : List Str} {vs : List V}, RpAll G F vs (ns.map D.str) → vs = ns.map V.str
  | [], _, h => by cases h; rfl
  | n :: ns, _, h => by
    cases h with
    | cons a b => cases a; rw [RpAll.of_strs b]; rfl
end

inductive U where
  | d (x : D) | p (k : Nat)
inductive Cell where
  | rw (ds : List D) | ro (ds : List D) | pl (ks : List Nat) | dct (kvs : List (Int × D)) | ins (n : Nat) (fs : List (Str × U)) | gone | vw (vs : List V) (ds : List D) | tp (ks : List Nat) | tu (us : List U)
def RpU (G : Gx) (as : List Addr) (F : Hp) (v : V) : U → Prop
  | .d x => Rp G F v x
  | .p k => ∃ a, v = .ref a ∧ as[k]? = some a
def Mt : Cell → Bool
  | .rw _ => true
  | .pl _ => true
  | .dct _ => true
  | .ins _ _ => true
  | .vw _ _ => true
  | .tp _ => true
  | .tu _ => true
  | _ => false
def CellOk (G : Gx) (as : List Addr) (H0 F H : Hp) (a : Addr) : Cell → Prop
  | .rw ds => H0 a = none ∧ F a = none ∧ ∃ vs, H a = some (.lst vs) ∧ RpAll G F vs ds
  | .ro ds => ∃ vs, SqL G.K H0 a vs ∧ RpAll G F vs ds
  | .pl ks => H0 a = none ∧ F a = none ∧ ∃ ps : List Addr, H a = some (.lst (ps.map V.ref)) ∧ Paired (fun (p : Addr) (k : Nat) => as[k]? = some p) ps ks
  | .dct kvs => H0 a = none ∧ F a = none ∧ ∃ es : List (Key × V), H a = some (.dK es) ∧ Paired (fun (e : Key × V) (k : Int × D) => e.1 = Sum.inl k.1 ∧ Rp G F e.2 k.2) es kvs
  | .ins n fs => H0 a = none ∧ F a = none ∧ ∃ (dx : Addr) (gs : List (Str × V)), H a = some (.ins (G.cl n) dx gs) ∧ Paired (fun (g : Str × V) (f : Str × U) => g.1 = f.1 ∧ RpU G as F g.2 f.2) gs fs
  | .gone => True
  | .vw vs ds => H0 a = none ∧ F a = none ∧ H a = some (.lst vs) ∧ RpAll G F vs ds
  | .tp ks => H0 a = none ∧ F a = none ∧ ∃ ps : List Addr, H a = some (.tup (ps.map V.ref)) ∧ Paired (fun (p : Addr) (k : Nat) => as[k]? = some p) ps ks
  | .tu us => H0 a = none ∧ F a = none ∧ ∃ vs : List V, H a = some (.tup vs) ∧ Paired (RpU G as F) vs us
structure Bs (F0 H0 F H : Hp) : Prop where
  fh : Same F H
  f0 : Same F0 F
  h0 : Same H0 H
  nw : ∀ a, H0 a ≠ none → F a = F0 a
abbrev Ro := List (Option U)
abbrev Mu := List Cell
structure Ev (G : Gx) (F0 H0 F H : Hp) (as : List Addr) (σ : L2.St) (ρ : Ro) (μ : Mu) : Prop where
  bs : Bs F0 H0 F H
  len : σ.length = ρ.length
  sl : ∀ (i : Nat) (u : U), ρ[i]? = some (some u) → ∃ v, σ[i]? = some (some v) ∧ RpU G as F v u
  al : as.length = μ.length
  nd : ∀ (i j : Nat) (a : Addr) (c c' : Cell), as[i]? = some a → as[j]? = some a → μ[i]? = some c → μ[j]? = some c' → Mt c = true → Mt c' = true → i = j
  ce : ∀ (k : Nat) (c : Cell) (a : Addr), μ[k]? = some c → as[k]? = some a → CellOk G as H0 F H a c

section
variable {G : Gx} {F0 H0 F H F' H' : Hp} {as as' : List Addr} {σ : L2.St} {ρ : Ro} {μ : Mu}
theorem same_upd {H : Hp} {p : Addr} {o : HO} (h : H p = none) : Same H (upd H p o) := fun b x e => by
  rw [upd_ne (ne_of_none e h)]
  exact e
/-- a list's growth keeps places -/
def Grw (as as' : List Addr) : Prop := ∀ (k : Nat) (a : Addr), as[k]? = some a → as'[k]? = some a
theorem Grw.refl : Grw as as := fun _ _ h => h
theorem Grw.trans {a b c : List Addr} (h : Grw a b) (h' : Grw b c) : Grw a c := fun k x e => h' k x (h k x e)
theorem Grw.app {l : List Addr} : Grw as (as ++ l) := fun k a h => by
  obtain ⟨hk, e⟩ := List.getElem?_eq_some_iff.mp h
  rw [List.getElem?_append_left hk]
  exact h
theorem RpU.mono (hF : Same F F') (ha : Grw as as') {v : V} : ∀ {u : U}, RpU G as F v u → RpU G as' F' v u
  | .d x, h => Rp.mono hF x h
  | .p k, ⟨a, e, h⟩ => ⟨a, e, ha _ _ h⟩
theorem paired_imp {α β : Type} {R S : α → β → Prop} (h : ∀ a b, R a b → S a b) : ∀ {xs : List α} {ys : List β}, Paired R xs ys → Paired S xs ys
  | _, _, .nil => .nil
  | _, _, .cons r t => .cons (h _ _ r) (paired_imp h t)
theorem CellOk.mono (hF : Same F F') (ha : Grw as as') {a : Addr} {c : Cell} (hh : Mt c = true → F' a = F a ∧ H' a = H a) (h : CellOk G as H0 F H a c) : CellOk G as' H0 F' H' a c := by
  cases c with
  | rw ds =>
    obtain ⟨h1, h2, vs, h3, h4⟩ := h
    obtain ⟨e1, e2⟩ := hh rfl
    exact ⟨h1, e1.trans h2, vs, e2.trans h3, RpAll.mono hF _ h4⟩
  | ro ds =>
    obtain ⟨vs, h3, h4⟩ := h
    exact ⟨vs, h3, RpAll.mono hF _ h4⟩
  | pl ks =>
    obtain ⟨h1, h2, vs, h3, h4⟩ := h
    obtain ⟨e1, e2⟩ := hh rfl
    exact ⟨h1, e1.trans h2, vs, e2.trans h3, paired_imp (fun _ _ e => ha _ _ e) h4⟩
  | dct kvs =>
    obtain ⟨h1, h2, vs, h3, h4⟩ := h
    obtain ⟨e1, e2⟩ := hh rfl
    exact ⟨h1, e1.trans h2, vs, e2.trans h3, paired_imp (fun _ _ e => ⟨e.1, Rp.mono hF _ e.2⟩) h4⟩
  | ins n fs =>
    obtain ⟨h1, h2, dx, vs, h3, h4⟩ := h
    obtain ⟨e1, e2⟩ := hh rfl
    exact ⟨h1, e1.trans h2, dx, vs, e2.trans h3, paired_imp (fun _ _ e => ⟨e.1, e.2.mono hF ha⟩) h4⟩
  | gone => trivial
  | tp ks =>
    obtain ⟨h1, h2, vs, h3, h4⟩ := h
    obtain ⟨e1, e2⟩ := hh rfl
    exact ⟨h1, e1.trans h2, vs, e2.trans h3, paired_imp (fun _ _ e => ha _ _ e) h4⟩
  | tu us =>
    obtain ⟨h1, h2, vs, h3, h4⟩ := h
    obtain ⟨e1, e2⟩ := hh rfl
    exact ⟨h1, e1.trans h2, vs, e2.trans h3, paired_imp (fun _ _ e => e.mono hF ha) h4⟩
  | vw vs ds =>
    obtain ⟨h1, h2, h3, h4⟩ := h
    obtain ⟨e1, e2⟩ := hh rfl
    exact ⟨h1, e1.trans h2, e2.trans h3, RpAll.mono hF _ h4⟩
theorem CellOk.some {a : Addr} {c : Cell} (hm : Mt c = true) (h : CellOk G as H0 F H a c) : H0 a = none ∧ F a = none ∧ ∃ o, H a = some o := by
  cases c with
  | rw ds =>
    obtain ⟨h1, h2, vs, h3, h4⟩ := h
    exact ⟨h1, h2, _, h3⟩
  | pl ds =>
    obtain ⟨h1, h2, vs, h3, h4⟩ := h
    exact ⟨h1, h2, _, h3⟩
  | dct ds =>
    obtain ⟨h1, h2, vs, h3, h4⟩ := h
    exact ⟨h1, h2, _, h3⟩
  | ins n fs =>
    obtain ⟨h1, h2, dx, vs, h3, h4⟩ := h
    exact ⟨h1, h2, _, h3⟩
  | vw vs ds =>
    obtain ⟨h1, h2, h3, h4⟩ := h
    exact ⟨h1, h2, _, h3⟩
  | tp ds =>
    obtain ⟨h1, h2, vs, h3, h4⟩ := h
    exact ⟨h1, h2, _, h3⟩
  | tu ds =>
    obtain ⟨h1, h2, vs, h3, h4⟩ := h
    exact ⟨h1, h2, _, h3⟩
  | ro _ => cases hm
  | gone => cases hm
/-- the heap grows: new things alone -/
theorem Ev.grow (e : Ev G F0 H0 F H as σ ρ μ) (hF : Same F F') (hH : Same H H') (hs : Same F' H') (hn : ∀ a, H a ≠ none → F' a = F a) : Ev G F0 H0 F' H' as σ ρ μ where
  bs := ⟨hs, e.bs.f0.trans hF, e.bs.h0.trans hH, fun a ha => by
    have : H a ≠ none := fun z => by
      cases q : H0 a with
      | none => exact ha q
      | some o => rw [e.bs.h0 _ _ q] at z; cases z
    rw [hn a this]
    exact e.bs.nw a ha⟩
  len := e.len
  sl := fun i u h => let ⟨v, h1, h2⟩ := e.sl i u h; ⟨v, h1, h2.mono hF .refl⟩
  al := e.al
  nd := e.nd
  ce := fun k c a hk ha => (e.ce k c a hk ha).mono hF .refl fun hm => by
    obtain ⟨_, _, o, ho⟩ := (e.ce k c a hk ha).some hm
    exact ⟨hn a (by rw [ho]; intro z; cases z), (hH _ _ ho).trans ho.symm⟩
/-- a new thing that is never changed -/
theorem Ev.fresh (e : Ev G F0 H0 F H as σ ρ μ) {p : Addr} {o : HO} (hp : H p = none) : Ev G F0 H0 (upd F p o) (upd H p o) as σ ρ μ ∧ Same F (upd F p o) := by
  have fp : F p = none := e.bs.fh.free hp
  refine ⟨e.grow (same_upd fp) (same_upd hp) (fun b x h => ?_) (fun a ha => ?_), same_upd fp⟩
  · by_cases hb : b = p
    · subst hb; rw [upd_same] at h ⊢; exact h
    · rw [upd_ne hb] at h ⊢; exact e.bs.fh _ _ h
  · by_cases hb : a = p
    · subst hb; exact absurd hp ha
    · rw [upd_ne hb]
/-- a new cell -/
theorem Ev.cell (e : Ev G F0 H0 F H as σ ρ μ) {p : Addr} {o : HO} {c : Cell} (hp : H p = none) (hc : CellOk G (as ++ [p]) H0 F (upd H p o) p c) : Ev G F0 H0 F (upd H p o) (as ++ [p]) σ ρ (μ ++ [c]) := by
  have fp : F p = none := e.bs.fh.free hp
  have npa : ∀ (k : Nat) (a : Addr) (c : Cell), μ[k]? = some c → as[k]? = some a → Mt c = true → a ≠ p := fun k a c hk ha hm z => by
    obtain ⟨_, _, o, ho⟩ := (e.ce k c a hk ha).some hm
    rw [z, hp] at ho; cases ho
  refine ⟨⟨fun b x h => ?_, e.bs.f0, e.bs.h0.trans (same_upd hp), e.bs.nw⟩, e.len, fun i u h => ?_, ?_, ?_, ?_⟩
  · have hb : b ≠ p := fun z => by subst z; rw [fp] at h; cases h
    rw [upd_ne hb]
    exact e.bs.fh _ _ h
  · obtain ⟨v, h1, h2⟩ := e.sl i u h
    exact ⟨v, h1, h2.mono (.refl _) .app⟩
  · rw [List.length_append, List.length_append, e.al]; rfl
  · have old : ∀ i a c, (as ++ [p])[i]? = some a → (μ ++ [c])[i]? = some c → i < as.length ∨ i = as.length := fun i a c h _ => by
      have := (List.getElem?_eq_some_iff.mp h).1
      rw [List.length_append] at this
      simp at this
      omega
    intro i j a c1 c2 hi hj h1 h2 m1 m2
    have li := (List.getElem?_eq_some_iff.mp hi).1
    have lj := (List.getElem?_eq_some_iff.mp hj).1
    simp only [List.length_append, List.length_cons, List.length_nil] at li lj
    by_cases ii : i < as.length
    · rw [List.getElem?_append_left ii] at hi
      rw [List.getElem?_append_left (by rw [← e.al]; exact ii)] at h1
      by_cases jj : j < as.length
      · rw [List.getElem?_append_left jj] at hj
        rw [List.getElem?_append_left (by rw [← e.al]; exact jj)] at h2
        exact e.nd i j a c1 c2 hi hj h1 h2 m1 m2
      · have ej : j = as.length := by omega
        subst ej
        simp at hj
        exact absurd hj.symm (npa i a c1 h1 hi m1)
    · have ei : i = as.length := by omega
      subst ei
      by_cases jj : j < as.length
      · rw [List.getElem?_append_left jj] at hj
        rw [List.getElem?_append_left (by rw [← e.al]; exact jj)] at h2
        simp at hi
        exact absurd hi.symm (npa j a c2 h2 hj m2)
      · omega
  · intro k c1 a hk ha
    by_cases kk : k < as.length
    · rw [List.getElem?_append_left kk] at ha
      rw [List.getElem?_append_left (by rw [← e.al]; exact kk)] at hk
      refine (e.ce k c1 a hk ha).mono (.refl _) .app fun hm => ⟨rfl, ?_⟩
      rw [upd_ne (npa k a c1 hk ha hm)]
    · have lk := (List.getElem?_eq_some_iff.mp ha).1
      simp only [List.length_append, List.length_cons, List.length_nil] at lk
      have ek : k = as.length := by omega
      subst ek
      have e1 : a = p := by simpa using ha.symm
      have e2 : c1 = c := by rw [e.al] at hk; simpa using hk.symm
      subst e1 e2
      exact hc
/-- a thing that stands there already becomes a cell -/
theorem Ev.adopt (e : Ev G F0 H0 F H as σ ρ μ) {p : Addr} {c : Cell} (npa : ∀ (k : Nat) (a : Addr) (c : Cell), μ[k]? = some c → as[k]? = some a → Mt c = true → a ≠ p) (hc : CellOk G (as ++ [p]) H0 F H p c) : Ev G F0 H0 F H (as ++ [p]) σ ρ (μ ++ [c]) := by
  refine ⟨e.bs, e.len, fun i u h => ?_, ?_, ?_, ?_⟩
  · obtain ⟨v, h1, h2⟩ := e.sl i u h
    exact ⟨v, h1, h2.mono (.refl _) .app⟩
  · rw [List.length_append, List.length_append, e.al]; rfl
  · intro i j a c1 c2 hi hj h1 h2 m1 m2
    have li := (List.getElem?_eq_some_iff.mp hi).1
    have lj := (List.getElem?_eq_some_iff.mp hj).1
    simp only [List.length_append, List.length_cons, List.length_nil] at li lj
    by_cases ii : i < as.length
    · rw [List.getElem?_append_left ii] at hi
      rw [List.getElem?_append_left (by rw [← e.al]; exact ii)] at h1
      by_cases jj : j < as.length
      · rw [List.getElem?_append_left jj] at hj
        rw [List.getElem?_append_left (by rw [← e.al]; exact jj)] at h2
        exact e.nd i j a c1 c2 hi hj h1 h2 m1 m2
      · have ej : j = as.length := by omega
        subst ej
        simp at hj
        exact absurd hj.symm (npa i a c1 h1 hi m1)
    · have ei : i = as.length := by omega
      subst ei
      by_cases jj : j < as.length
      · rw [List.getElem?_append_left jj] at hj
        rw [List.getElem?_append_left (by rw [← e.al]; exact jj)] at h2
        simp at hi
        exact absurd hi.symm (npa j a c2 h2 hj m2)
      · omega
  · intro k c1 a hk ha
    by_cases kk : k < as.length
    · rw [List.getElem?_append_left kk] at ha
      rw [List.getElem?_append_left (by rw [← e.al]; exact kk)] at hk
      exact (e.ce k c1 a hk ha).mono (.refl _) .app fun hm => ⟨rfl, rfl⟩
    · have lk := (List.getElem?_eq_some_iff.mp ha).1
      simp only [List.length_append, List.length_cons, List.length_nil] at lk
      have ek : k = as.length := by omega
      subst ek
      have e1 : a = p := by simpa using ha.symm
      have e2 : c1 = c := by rw [e.al] at hk; simpa using hk.symm
      subst e1 e2
      exact hc
theorem Ev.mutAddr (e : Ev G F0 H0 F H as σ ρ μ) {p : Addr} (hp : H p = none) : ∀ (k : Nat) (a : Addr) (c : Cell), μ[k]? = some c → as[k]? = some a → Mt c = true → a ≠ p := fun k a c hk ha hm z => by
  obtain ⟨_, _, o, ho⟩ := (e.ce k c a hk ha).some hm
  rw [z, hp] at ho; cases ho
/-- a cell is changed -/
theorem Ev.write (e : Ev G F0 H0 F H as σ ρ μ) {k : Nat} {p : Addr} {o : HO} {c c' : Cell} (hk : μ[k]? = some c) (ha : as[k]? = some p) (hm : Mt c = true) (hm' : Mt c' = true) (hc : CellOk G as H0 F (upd H p o) p c') : Ev G F0 H0 F (upd H p o) as σ ρ (μ.set k c') := by
  obtain ⟨n0, nF, o1, ho⟩ := (e.ce k c p hk ha).some hm
  have kl : k < μ.length := (List.getElem?_eq_some_iff.mp hk).1
  refine ⟨⟨fun b x h => ?_, e.bs.f0, fun b x h => ?_, e.bs.nw⟩, e.len, e.sl, by rw [List.length_set]; exact e.al, ?_, ?_⟩
  · have hb : b ≠ p := fun z => by subst z; rw [nF] at h; cases h
    rw [upd_ne hb]
    exact e.bs.fh _ _ h
  · have hb : b ≠ p := fun z => by subst z; rw [n0] at h; cases h
    rw [upd_ne hb]
    exact e.bs.h0 _ _ h
  · have pick : ∀ i c1, (μ.set k c')[i]? = some c1 → Mt c1 = true → ∃ c2, μ[i]? = some c2 ∧ Mt c2 = true := fun i c1 h m => by
      by_cases ik : i = k
      · subst ik; exact ⟨c, hk, hm⟩
      · rw [List.getElem?_set_ne (Ne.symm ik)] at h; exact ⟨c1, h, m⟩
    intro i j a c1 c2 hi hj h1 h2 m1 m2
    obtain ⟨d1, g1, w1⟩ := pick i c1 h1 m1
    obtain ⟨d2, g2, w2⟩ := pick j c2 h2 m2
    exact e.nd i j a d1 d2 hi hj g1 g2 w1 w2
  · intro i c1 a hi hai
    by_cases ik : i = k
    · subst ik
      rw [List.getElem?_set_self kl] at hi
      cases hi
      rw [ha] at hai; cases hai
      exact hc
    · rw [List.getElem?_set_ne (Ne.symm ik)] at hi
      refine (e.ce i c1 a hi hai).mono (.refl _) .refl fun hmi => ⟨rfl, ?_⟩
      refine upd_ne fun z => ?_
      subst z
      exact ik (e.nd i k a c1 c hai ha hi hk hmi hm)
/-- a slot is stored -/
theorem Ev.store (e : Ev G F0 H0 F H as σ ρ μ) {i : Nat} {v : V} {u : U} (r : RpU G as F v u) : Ev G F0 H0 F H as (σ.set i (some v)) (ρ.set i (some u)) μ := by
  refine ⟨e.bs, by rw [List.length_set, List.length_set]; exact e.len, fun j u' h => ?_, e.al, e.nd, e.ce⟩
  by_cases ij : i = j
  · subst ij
    have hl : i < ρ.length := by
      have := (List.getElem?_eq_some_iff.mp h).1
      simpa using this
    rw [List.getElem?_set_self hl] at h
    cases h
    exact ⟨v, by rw [List.getElem?_set_self (by rw [e.len]; exact hl)], r⟩
  · rw [List.getElem?_set_ne ij] at h
    obtain ⟨v', h1, h2⟩ := e.sl j u' h
    exact ⟨v', by rw [List.getElem?_set_ne ij]; exact h1, h2⟩
/-- slots are forgotten -/
theorem Ev.noSlots (e : Ev G F0 H0 F H as σ ρ μ) : Ev G F0 H0 F H as [] [] μ :=
  ⟨e.bs, rfl, fun i u h => by simp at h, e.al, e.nd, e.ce⟩
/-- a list of one's own becomes data -/
theorem Ev.freeze (e : Ev G F0 H0 F H as σ ρ μ) {k : Nat} {p : Addr} {ds : List D} (hk : μ[k]? = some (.rw ds)) (ha : as[k]? = some p) :
    ∃ F', Same F F' ∧ Rp G F' (.ref p) (.lst ds) ∧ Ev G F0 H0 F' H as σ ρ (μ.set k .gone) := by
  obtain ⟨n0, nF, vs, ho, hr⟩ := e.ce k _ p hk ha
  have kl : k < μ.length := (List.getElem?_eq_some_iff.mp hk).1
  have sF : Same F (upd F p (.lst vs)) := same_upd nF
  refine ⟨upd F p (.lst vs), sF, .lst (.of upd_same) (RpAll.mono sF _ hr), ⟨fun b x h => ?_, e.bs.f0.trans sF, e.bs.h0, fun a h0 => ?_⟩, e.len, fun i u h => ?_, by rw [List.length_set]; exact e.al, ?_, ?_⟩
  · by_cases hb : b = p
    · subst hb; rw [upd_same] at h; cases h; exact ho
    · rw [upd_ne hb] at h; exact e.bs.fh _ _ h
  · have hb : a ≠ p := fun z => by subst z; exact h0 n0
    rw [upd_ne hb]
    exact e.bs.nw a h0
  · obtain ⟨v, h1, h2⟩ := e.sl i u h
    exact ⟨v, h1, h2.mono sF .refl⟩
  · have pick : ∀ i c1, (μ.set k .gone)[i]? = some c1 → Mt c1 = true → μ[i]? = some c1 := fun i c1 h m => by
      by_cases ik : i = k
      · subst ik
        rw [List.getElem?_set_self kl] at h
        cases h
        cases m
      · rw [List.getElem?_set_ne (Ne.symm ik)] at h; exact h
    intro i j a c1 c2 hi hj h1 h2 m1 m2
    exact e.nd i j a c1 c2 hi hj (pick i c1 h1 m1) (pick j c2 h2 m2) m1 m2
  · intro i c1 a hi hai
    by_cases ik : i = k
    · subst ik
      rw [List.getElem?_set_self kl] at hi
      cases hi
      trivial
    · rw [List.getElem?_set_ne (Ne.symm ik)] at hi
      refine (e.ce i c1 a hi hai).mono sF .refl fun hmi => ⟨upd_ne fun z => ?_, rfl⟩
      subst z
      exact ik (e.nd i k a c1 _ hai ha hi hk hmi rfl)
end
end L3

set_option Elab.async false
set_option linter.all false
set_option maxRecDepth 100000
set_option maxHeartbeats 4000000
/-! Readings over D and cells. -/
namespace L3
open PySem PySem.Spec PyProof.Rows L2

abbrev RE := U → Mu → Prop
abbrev RT := Bool → Mu → Prop
abbrev RA := List U → Mu → Prop
structure DE where
  nx : Ro → Mu → Prop
  rt : U → Mu → Prop
  bk : Ro → Mu → Prop := fun _ _ => False
  ct : Ro → Mu → Prop := fun _ _ => False

section
variable (G : Gx) (F0 H0 : Hp)
def KE (F : Hp) (as : List Addr) (σ : L2.St) (ρ : Ro) (R : RE) (Q : VK) : Prop :=
  ∀ (u : U) (μ' : Mu) (v : V) (F' H' : Hp) (as' : List Addr), R u μ' → Ev G F0 H0 F' H' as' σ ρ μ' → Same F F' → Grw as as' → RpU G as' F' v u → Q v H'
def KT (F : Hp) (as : List Addr) (σ : L2.St) (ρ : Ro) (R : RT) (Q : Bool → Hp → Prop) : Prop :=
  ∀ (b : Bool) (μ' : Mu) (F' H' : Hp) (as' : List Addr), R b μ' → Ev G F0 H0 F' H' as' σ ρ μ' → Same F F' → Grw as as' → Q b H'
def KA (F : Hp) (as : List Addr) (σ : L2.St) (ρ : Ro) (R : RA) (Q : List V → Hp → Prop) : Prop :=
  ∀ (us : List U) (μ' : Mu) (vs : List V) (F' H' : Hp) (as' : List Addr), R us μ' → Ev G F0 H0 F' H' as' σ ρ μ' → Same F F' → Grw as as' → Paired (RpU G as' F') vs us → Q vs H'
def KS (F : Hp) (as : List Addr) (R : Ro → Mu → Prop) (Q : L2.St → Hp → Prop) : Prop :=
  ∀ (ρ' : Ro) (μ' : Mu) (σ' : L2.St) (F' H' : Hp) (as' : List Addr), R ρ' μ' → Ev G F0 H0 F' H' as' σ' ρ' μ' → Same F F' → Grw as as' → Q σ' H'
def KR (F : Hp) (as : List Addr) (R : RE) (Q : VK) : Prop :=
  ∀ (u : U) (μ' : Mu) (v : V) (F' H' : Hp) (as' : List Addr), R u μ' → Ev G F0 H0 F' H' as' [] [] μ' → Same F F' → Grw as as' → RpU G as' F' v u → Q v H'
def wE (t : TE) (ρ : Ro) (μ : Mu) (R : RE) : Prop := ∀ (F H : Hp) (as : List Addr) (σ : L2.St) (Q : VK), Ev G F0 H0 F H as σ ρ μ → KE G F0 H0 F as σ ρ R Q → t σ H Q
def wT (t : TT) (ρ : Ro) (μ : Mu) (R : RT) : Prop := ∀ (F H : Hp) (as : List Addr) (σ : L2.St) (Q : Bool → Hp → Prop), Ev G F0 H0 F H as σ ρ μ → KT G F0 H0 F as σ ρ R Q → t σ H Q
def wA (t : TA) (ρ : Ro) (μ : Mu) (R : RA) : Prop := ∀ (F H : Hp) (as : List Addr) (σ : L2.St) (Q : List V → Hp → Prop), Ev G F0 H0 F H as σ ρ μ → KA G F0 H0 F as σ ρ R Q → t σ H Q
structure KD (F : Hp) (as : List Addr) (D : DE) (X : Ends) : Prop where
  nx : KS G F0 H0 F as D.nx X.nx
  rt : KR G F0 H0 F as D.rt X.rt
  bk : KS G F0 H0 F as D.bk X.bk
  ct : KS G F0 H0 F as D.ct X.ct
def wS (t : TS) (ρ : Ro) (μ : Mu) (D : DE) : Prop := ∀ (F H : Hp) (as : List Addr) (σ : L2.St) (X : Ends), Ev G F0 H0 F H as σ ρ μ → KD G F0 H0 F as D X → t X σ H
/-- a target's -/
def wG (t : TG) (u : U) (ρ : Ro) (μ : Mu) (R : Ro → Mu → Prop) : Prop := ∀ (F H : Hp) (as : List Addr) (σ : L2.St) (v : V) (Q : L2.St → Hp → Prop), Ev G F0 H0 F H as σ ρ μ → RpU G as F v u → KS G F0 H0 F as R Q → t v σ H Q
def wGs (t : TGs) (us : List D) (ρ : Ro) (μ : Mu) (R : Ro → Mu → Prop) : Prop := ∀ (F H : Hp) (as : List Addr) (σ : L2.St) (vs : List V) (Q : L2.St → Hp → Prop), Ev G F0 H0 F H as σ ρ μ → RpAll G F vs us → KS G F0 H0 F as R Q → t vs σ H Q
/-- a rule over two values -/
def w2 (r : R2) (x y : U) (ρ : Ro) (μ : Mu) (R : RE) : Prop := ∀ (F H : Hp) (as : List Addr) (σ : L2.St) (v1 v2 : V) (Q : VK), Ev G F0 H0 F H as σ ρ μ → RpU G as F v1 x → RpU G as F v2 y → KE G F0 H0 F as σ ρ R Q → r v1 v2 H Q
/-- a call's rule -/
def wC (r : List V → Hp → VK → Prop) (us : List U) (ρ : Ro) (μ : Mu) (R : RE) : Prop := ∀ (F H : Hp) (as : List Addr) (σ : L2.St) (vs : List V) (Q : VK), Ev G F0 H0 F H as σ ρ μ → Paired (RpU G as F) vs us → KE G F0 H0 F as σ ρ R Q → r vs H Q
end

section
variable {G : Gx} {F0 H0 : Hp} {F F1 H : Hp} {as as1 : List Addr} {σ : L2.St} {ρ : Ro} {μ : Mu}
theorem KE.on {R : RE} {Q : VK} (k : KE G F0 H0 F as σ ρ R Q) (hF : Same F F1) (ha : Grw as as1) : KE G F0 H0 F1 as1 σ ρ R Q := fun u μ' v F' H' as' h e s g r => k u μ' v F' H' as' h e (hF.trans s) (ha.trans g) r
theorem KT.on {R : RT} {Q : Bool → Hp → Prop} (k : KT G F0 H0 F as σ ρ R Q) (hF : Same F F1) (ha : Grw as as1) : KT G F0 H0 F1 as1 σ ρ R Q := fun u μ' F' H' as' h e s g => k u μ' F' H' as' h e (hF.trans s) (ha.trans g)
theorem KA.on {R : RA} {Q : List V → Hp → Prop} (k : KA G F0 H0 F as σ ρ R Q) (hF : Same F F1) (ha : Grw as as1) : KA G F0 H0 F1 as1 σ ρ R Q := fun u μ' v F' H' as' h e s g r => k u μ' v F' H' as' h e (hF.trans s) (ha.trans g) r
theorem KS.on {R : Ro → Mu → Prop} {Q : L2.St → Hp → Prop} (k : KS G F0 H0 F as R Q) (hF : Same F F1) (ha : Grw as as1) : KS G F0 H0 F1 as1 R Q := fun ρ' μ' σ' F' H' as' h e s g => k ρ' μ' σ' F' H' as' h e (hF.trans s) (ha.trans g)
theorem KR.on {R : RE} {Q : VK} (k : KR G F0 H0 F as R Q) (hF : Same F F1) (ha : Grw as as1) : KR G F0 H0 F1 as1 R Q := fun u μ' v F' H' as' h e s g r => k u μ' v F' H' as' h e (hF.trans s) (ha.trans g) r
theorem KD.on {D : DE} {X : Ends} (k : KD G F0 H0 F as D X) (hF : Same F F1) (ha : Grw as as1) : KD G F0 H0 F1 as1 D X := ⟨k.nx.on hF ha, k.rt.on hF ha, k.bk.on hF ha, k.ct.on hF ha⟩
theorem pu_mono (hF : Same F F1) (ha : Grw as as1) : ∀ {vs : List V} {us : List U}, Paired (RpU G as F) vs us → Paired (RpU G as1 F1) vs us := fun h => paired_imp (fun _ _ r => r.mono hF ha) h

/-! ### expressions -/
variable {R : RE}
theorem wE_imp {t : TE} {R' : RE} (h : wE G F0 H0 t ρ μ R') (k : ∀ u μ', R' u μ' → R u μ') : wE G F0 H0 t ρ μ R := fun F H as σ Q e q => h F H as σ Q e fun u μ' v F' H' as' hr => q u μ' v F' H' as' (k u μ' hr)
theorem wE_var {i : Nat} {u : U} (h : ρ[i]? = some (some u)) (k : R u μ) : wE G F0 H0 (tVar i) ρ μ R := fun F H as σ Q e q => by
  obtain ⟨v, h1, h2⟩ := e.sl i u h
  exact ⟨v, h1, q u μ v F H as k e (.refl _) .refl h2⟩
theorem wE_int {i : Int} (k : R (.d (.int i)) μ) : wE G F0 H0 (tC (.int i)) ρ μ R := fun F H as σ Q e q => q _ _ _ _ _ _ k e (.refl _) .refl (Rp.int i)
theorem wE_bl {i : Bool} (k : R (.d (.bl i)) μ) : wE G F0 H0 (tC (.bl i)) ρ μ R := fun F H as σ Q e q => q _ _ _ _ _ _ k e (.refl _) .refl (Rp.bl i)
theorem wE_str {i : Str} (k : R (.d (.str i)) μ) : wE G F0 H0 (tC (.str i)) ρ μ R := fun F H as σ Q e q => q _ _ _ _ _ _ k e (.refl _) .refl (Rp.str i)
theorem wE_non (k : R (.d .non) μ) : wE G F0 H0 (tC .non) ρ μ R := fun F H as σ Q e q => q _ _ _ _ _ _ k e (.refl _) .refl Rp.non
/-- a constant of the module -/
def Cst (G : Gx) (a : Addr) (d : D) : Prop := ∀ F, Rp G F (.ref a) d
theorem wE_cst {a : Addr} {d : D} (h : Cst G a d) (k : R (.d d) μ) : wE G F0 H0 (tC (.ref a)) ρ μ R := fun F H as σ Q e q => q _ _ _ _ _ _ k e (.refl _) .refl (h F)
theorem wE_op {r : R2} {ta tb : TE} (h : wE G F0 H0 ta ρ μ fun x μ1 => wE G F0 H0 tb ρ μ1 fun y μ2 => w2 G F0 H0 r x y ρ μ2 R) : wE G F0 H0 (tOp r ta tb) ρ μ R := fun F H as σ Q e q => by
  refine h F H as σ _ e fun x μ1 v1 F1 H1 as1 h1 e1 s1 g1 r1 => ?_
  refine h1 F1 H1 as1 σ _ e1 fun y μ2 v2 F2 H2 as2 h2 e2 s2 g2 r2 => ?_
  exact h2 F2 H2 as2 σ v1 v2 Q e2 (r1.mono s2 g2) r2 (q.on (s1.trans s2) (g1.trans g2))
theorem w2_I0 {f : Int → Int → Int} {i j : Int} (k : R (.d (.int (f i j))) μ) : w2 G F0 H0 (rI0 fun i j => .int (f i j)) (.d (.int i)) (.d (.int j)) ρ μ R := fun F H as σ v1 v2 Q e r1 r2 q => by
  cases r1; cases r2
  exact ⟨i, j, rfl, rfl, q _ _ _ _ _ _ k e (.refl _) .refl (Rp.int _)⟩
theorem w2_B0 {f : Int → Int → Bool} {i j : Int} (k : R (.d (.bl (f i j))) μ) : w2 G F0 H0 (rI0 fun i j => .bl (f i j)) (.d (.int i)) (.d (.int j)) ρ μ R := fun F H as σ v1 v2 Q e r1 r2 q => by
  cases r1; cases r2
  exact ⟨i, j, rfl, rfl, q _ _ _ _ _ _ k e (.refl _) .refl (Rp.bl _)⟩
theorem w2_I {C : Int → Int → Prop} {f : Int → Int → Int} {i j : Int} (c : C i j) (k : R (.d (.int (f i j))) μ) : w2 G F0 H0 (rI C fun i j => .int (f i j)) (.d (.int i)) (.d (.int j)) ρ μ R := fun F H as σ v1 v2 Q e r1 r2 q => by
  cases r1; cases r2
  exact ⟨i, j, rfl, rfl, c, q _ _ _ _ _ _ k e (.refl _) .refl (Rp.int _)⟩
theorem wE_un {g : Int → Int} {ta : TE} (h : wE G F0 H0 ta ρ μ fun x μ1 => ∃ i, x = .d (.int i) ∧ R (.d (.int (g i))) μ1) : wE G F0 H0 (tUn (rU fun i => .int (g i)) ta) ρ μ R := fun F H as σ Q e q => by
  refine h F H as σ _ e fun x μ1 v1 F1 H1 as1 h1 e1 s1 g1 r1 => ?_
  obtain ⟨i, rfl, k⟩ := h1
  cases r1
  exact ⟨i, rfl, q _ _ _ _ _ _ k e1 s1 g1 (Rp.int _)⟩
/-! ### lists and tuples that are read -/
def IsL (μ : Mu) (u : U) (ds : List D) : Prop := u = .d (.lst ds) ∨ ∃ k, u = .p k ∧ (μ[k]? = some (.rw ds) ∨ μ[k]? = some (.ro ds) ∨ ∃ vs, μ[k]? = some (.vw vs ds))
theorem IsL.seq {u : U} {ds : List D} {v : V} (h : IsL μ u ds) (e : Ev G F0 H0 F H as σ ρ μ) (r : RpU G as F v u) : ∃ a vs, v = .ref a ∧ SqL G.K H a vs ∧ RpAll G F vs ds := by
  rcases h with rfl | ⟨k, rfl, h⟩
  · cases (show Rp G F v (.lst ds) from r) with
    | lst hs ha => exact ⟨_, _, rfl, Same.sqL e.bs.fh hs, ha⟩
  · obtain ⟨a, rfl, ha⟩ := r
    rcases h with h | h | ⟨vs, h⟩
    · obtain ⟨_, _, vs, h3, h4⟩ := e.ce k _ a h ha
      exact ⟨a, vs, rfl, .of h3, h4⟩
    · obtain ⟨vs, h3, h4⟩ := e.ce k _ a h ha
      exact ⟨a, vs, rfl, Same.sqL e.bs.h0 h3, h4⟩
    · obtain ⟨_, _, h3, h4⟩ := e.ce k _ a h ha
      exact ⟨a, vs, rfl, .of h3, h4⟩
theorem tup_seq {ds : List D} {v : V} (e : Ev G F0 H0 F H as σ ρ μ) (r : Rp G F v (.tup ds)) : ∃ a vs, v = .ref a ∧ SqT G.K H a vs ∧ RpAll G F vs ds := by
  cases r with
  | tup hs ha => exact ⟨_, _, rfl, Same.sqT e.bs.fh hs, ha⟩
theorem atI_map {vs : List V} {ds : List D} {i : Int} {d : D} (h : RpAll G F vs ds) (e : atI ds i = some d) : ∃ v, atI vs i = some v ∧ Rp G F v d := by
  unfold atI at e ⊢
  rw [← h.length] at e
  cases q : ixN vs.length i with
  | none => rw [q] at e; cases e
  | some j =>
    rw [q] at e
    obtain ⟨v, h1, h2⟩ := h.get (i := j) (d := d) e
    exact ⟨v, h1, h2⟩
theorem w2_ixT {ds : List D} {i : Int} {d : D} (h : atI ds i = some d) (k : R (.d d) μ) : w2 G F0 H0 (rIxT G.K) (.d (.tup ds)) (.d (.int i)) ρ μ R := fun F H as σ v1 v2 Q e r1 r2 q => by
  cases r2
  obtain ⟨a, vs, rfl, hs, ha⟩ := tup_seq e r1
  obtain ⟨v, h1, h2⟩ := atI_map ha h
  exact ⟨a, vs, i, v, rfl, rfl, hs, h1, q _ _ _ _ _ _ k e (.refl _) .refl h2⟩
theorem w2_ixL {u : U} {ds : List D} {i : Int} {d : D} (hl : IsL μ u ds) (h : atI ds i = some d) (k : R (.d d) μ) : w2 G F0 H0 (rIxL G.K) u (.d (.int i)) ρ μ R := fun F H as σ v1 v2 Q e r1 r2 q => by
  cases r2
  obtain ⟨a, vs, rfl, hs, ha⟩ := hl.seq e r1
  obtain ⟨v, h1, h2⟩ := atI_map ha h
  exact ⟨a, vs, i, v, rfl, rfl, hs, h1, q _ _ _ _ _ _ k e (.refl _) .refl h2⟩
/-! ### argument lists -/
theorem wA_nil {R : RA} (k : R [] μ) : wA G F0 H0 tNil ρ μ R := fun F H as σ Q e q => q _ _ _ _ _ _ k e (.refl _) .refl .nil
theorem wA_cons {R : RA} {te : TE} {t : TA} (h : wE G F0 H0 te ρ μ fun u μ1 => wA G F0 H0 t ρ μ1 fun us μ2 => R (u :: us) μ2) : wA G F0 H0 (tCons te t) ρ μ R := fun F H as σ Q e q => by
  refine h F H as σ _ e fun x μ1 v1 F1 H1 as1 h1 e1 s1 g1 r1 => ?_
  refine h1 F1 H1 as1 σ _ e1 fun us μ2 vs F2 H2 as2 h2 e2 s2 g2 r2 => ?_
  exact q _ _ _ _ _ _ h2 e2 (s1.trans s2) (g1.trans g2) (.cons (r1.mono s2 g2) r2)
theorem rpAll_of_d : ∀ {ds : List D} {vs : List V}, Paired (RpU G as F) vs (ds.map U.d) → RpAll G F vs ds
  | [], _, h => by cases h; exact .nil
  | d :: ds, _, h => by
    cases h with
    | cons a b => exact .cons a (rpAll_of_d b)
theorem line_of {n : Nat} (h : n ≤ 1000000) : n ≤ sizeLine := by rw [sizeLine_eq]; omega
theorem wE_tup {t : TA} (h : wA G F0 H0 t ρ μ fun us μ1 => ∃ ds : List D, us = ds.map U.d ∧ ds.length ≤ 1000000 ∧ R (.d (.tup ds)) μ1) : wE G F0 H0 (tTup t) ρ μ R := fun F H as σ Q e q => by
  refine h F H as σ _ e fun us μ1 vs F1 H1 as1 h1 e1 s1 g1 r1 => ?_
  obtain ⟨ds, rfl, hl, k⟩ := h1
  have ra := rpAll_of_d r1
  refine ⟨by rw [ra.length]; exact line_of hl, fun p hp => ?_⟩
  obtain ⟨e2, s2⟩ := e1.fresh (o := .tup vs) hp
  exact q _ _ _ _ _ _ k e2 (s1.trans s2) g1 (Rp.tup (.of upd_same) (RpAll.mono s2 _ ra))
theorem wE_lst {t : TA} (h : wA G F0 H0 t ρ μ fun us μ1 => ∃ ds : List D, us = ds.map U.d ∧ ds.length ≤ 1000000 ∧ R (.p μ1.length) (μ1 ++ [.rw ds])) : wE G F0 H0 (tLst t) ρ μ R := fun F H as σ Q e q => by
  refine h F H as σ _ e fun us μ1 vs F1 H1 as1 h1 e1 s1 g1 r1 => ?_
  obtain ⟨ds, rfl, hl, k⟩ := h1
  have ra := rpAll_of_d r1
  refine ⟨by rw [ra.length]; exact line_of hl, fun p hp => ?_⟩
  have e2 := e1.cell (o := .lst vs) (c := .rw ds) hp ⟨e1.bs.h0.free hp, e1.bs.fh.free hp, vs, upd_same, ra⟩
  refine q _ _ _ _ _ _ k e2 s1 (g1.trans .app) ⟨p, rfl, ?_⟩
  rw [← e1.al, List.getElem?_append_right (Nat.le_refl _)]
  simp
/-- a list of one's own, made data -/
theorem wE_frz {t : TE} (h : wE G F0 H0 t ρ μ fun u μ1 => ∃ k ds, u = .p k ∧ μ1[k]? = some (.rw ds) ∧ R (.d (.lst ds)) (μ1.set k .gone)) : wE G F0 H0 t ρ μ R := fun F H as σ Q e q => by
  refine h F H as σ _ e fun u μ1 v F1 H1 as1 h1 e1 s1 g1 r1 => ?_
  obtain ⟨k, ds, rfl, hk, kk⟩ := h1
  obtain ⟨a, rfl, ha⟩ := r1
  obtain ⟨F2, s2, r2, e2⟩ := e1.freeze hk ha
  exact q _ _ _ _ _ _ kk e2 (s1.trans s2) g1 r2
/-! ### built-ins called -/
theorem wE_cb {r : List V → Hp → VK → Prop} {t : TA} (h : wA G F0 H0 t ρ μ fun us μ1 => wC G F0 H0 r us ρ μ1 R) : wE G F0 H0 (tCB r t) ρ μ R := fun F H as σ Q e q => by
  refine h F H as σ _ e fun us μ1 vs F1 H1 as1 h1 e1 s1 g1 r1 => ?_
  exact h1 F1 H1 as1 σ vs Q e1 r1 (q.on s1 g1)
theorem p1 {v : List V} {u : U} {RR : V → U → Prop} (h : Paired RR v [u]) : ∃ x, v = [x] ∧ RR x u := by
  cases h with
  | cons a b => cases b; exact ⟨_, rfl, a⟩
theorem p2 {v : List V} {u u' : U} {RR : V → U → Prop} (h : Paired RR v [u, u']) : ∃ x y, v = [x, y] ∧ RR x u ∧ RR y u' := by
  cases h with
  | cons a b => obtain ⟨y, rfl, c⟩ := p1 b; exact ⟨_, _, rfl, a, c⟩
abbrev rLen (K : PySem.W.Frag) : List V → Hp → VK → Prop := fun xs H Q => ∃ p ys, xs = [.ref p] ∧ (SqL K H p ys ∨ SqT K H p ys) ∧ Q (.int ys.length) H
theorem wC_lenL {u : U} {ds : List D} (hl : IsL μ u ds) (k : R (.d (.int ds.length)) μ) : wC G F0 H0 (rLen G.K) [u] ρ μ R := fun F H as σ vs Q e r q => by
  obtain ⟨v, rfl, r9⟩ := p1 r
  obtain ⟨a, vs, rfl, hs, ha⟩ := hl.seq e r9
  refine ⟨a, vs, rfl, .inl hs, ?_⟩
  rw [ha.length]
  exact q _ _ _ _ _ _ k e (.refl _) .refl (Rp.int _)
theorem wC_lenT {ds : List D} (k : R (.d (.int ds.length)) μ) : wC G F0 H0 (rLen G.K) [.d (.tup ds)] ρ μ R := fun F H as σ vs Q e r q => by
  obtain ⟨v, rfl, r9⟩ := p1 r
  obtain ⟨a, vs, rfl, hs, ha⟩ := tup_seq e r9
  refine ⟨a, vs, rfl, .inr hs, ?_⟩
  rw [ha.length]
  exact q _ _ _ _ _ _ k e (.refl _) .refl (Rp.int _)
theorem wC_any {u : U} {bs : List Bool} (hl : IsL μ u (bs.map D.bl)) (k : R (.d (.bl (bs.any id))) μ) : wC G F0 H0 (rAny G.K) [u] ρ μ R := fun F H as σ vs Q e r q => by
  obtain ⟨v, rfl, r9⟩ := p1 r
  obtain ⟨a, vs, rfl, hs, ha⟩ := hl.seq e r9
  rw [ha.of_bls] at hs
  exact ⟨a, bs, rfl, hs, q _ _ _ _ _ _ k e (.refl _) .refl (Rp.bl _)⟩
theorem wC_all {u : U} {bs : List Bool} (hl : IsL μ u (bs.map D.bl)) (k : R (.d (.bl (bs.all id))) μ) : wC G F0 H0 (rAll G.K) [u] ρ μ R := fun F H as σ vs Q e r q => by
  obtain ⟨v, rfl, r9⟩ := p1 r
  obtain ⟨a, vs, rfl, hs, ha⟩ := hl.seq e r9
  rw [ha.of_bls] at hs
  exact ⟨a, bs, rfl, hs, q _ _ _ _ _ _ k e (.refl _) .refl (Rp.bl _)⟩
theorem wC_listof {u : U} {ds : List D} (hl : IsL μ u ds) (k : R (.p μ.length) (μ ++ [.rw ds])) :
    wC G F0 H0 (fun xs H Q => ∃ p ys, xs = [.ref p] ∧ (SqL G.K H p ys ∨ SqT G.K H p ys) ∧ ∀ l, H l = none → Q (.ref l) (upd H l (.lst ys))) [u] ρ μ R := fun F H as σ vs Q e r q => by
  obtain ⟨v, rfl, r9⟩ := p1 r
  obtain ⟨a, vs, rfl, hs, ha⟩ := hl.seq e r9
  refine ⟨a, vs, rfl, .inl hs, fun p hp => ?_⟩
  have e2 := e.cell (o := .lst vs) (c := .rw ds) hp ⟨e.bs.h0.free hp, e.bs.fh.free hp, vs, upd_same, ha⟩
  refine q _ _ _ _ _ _ k e2 (.refl _) .app ⟨p, rfl, ?_⟩
  rw [← e.al, List.getElem?_append_right (Nat.le_refl _)]
  simp
theorem wC_sorted {u : U} {ns : List Int} (hl : IsL μ u (ns.map D.int)) (h64 : ns.length < 64) (k : ∀ ns' : List Int, ns'.Perm ns → ns'.Pairwise (· ≤ ·) → R (.p μ.length) (μ ++ [.rw (ns'.map D.int)])) : wC G F0 H0 (rSorted G.K) [u] ρ μ R := fun F H as σ vs Q e r q => by
  obtain ⟨v, rfl, r9⟩ := p1 r
  obtain ⟨a, vs, rfl, hs, ha⟩ := hl.seq e r9
  rw [ha.of_ints] at hs
  refine ⟨a, ns, rfl, hs, h64, fun ns' p h1 h2 hp => ?_⟩
  have e2 := e.cell (o := .lst (ns'.map V.int)) (c := .rw (ns'.map D.int)) hp ⟨e.bs.h0.free hp, e.bs.fh.free hp, _, upd_same, RpAll.ints _⟩
  refine q _ _ _ _ _ _ (k ns' h1 h2) e2 (.refl _) .app ⟨p, rfl, ?_⟩
  rw [← e.al, List.getElem?_append_right (Nat.le_refl _)]
  simp
/-! ### tests -/
theorem wT_test {t : TE} {R : RT} (h : wE G F0 H0 t ρ μ fun u μ1 => ∃ b, u = .d (.bl b) ∧ R b μ1) : wT G F0 H0 (tTest t) ρ μ R := fun F H as σ Q e q => by
  refine h F H as σ _ e fun x μ1 v1 F1 H1 as1 h1 e1 s1 g1 r1 => ?_
  obtain ⟨b, rfl, k⟩ := h1
  cases r1
  exact ⟨b, rfl, q _ _ _ _ _ k e1 s1 g1⟩
theorem wT_b {t : TE} {R : RT} (h : wE G F0 H0 t ρ μ fun u μ1 => ∃ b, u = .d (.bl b) ∧ R b μ1) : wT G F0 H0 (tB t) ρ μ R := wT_test h
theorem wT_and {t u : TT} {R : RT} (h : wT G F0 H0 t ρ μ fun b μ1 => if b = true then wT G F0 H0 u ρ μ1 R else R false μ1) : wT G F0 H0 (tAnd t u) ρ μ R := fun F H as σ Q e q => by
  refine h F H as σ _ e fun b μ1 F1 H1 as1 h1 e1 s1 g1 => ?_
  cases b with
  | true => exact iteT ((iteT_of h1) F1 H1 as1 σ Q e1 (q.on s1 g1))
  | false => exact iteF (q _ _ _ _ _ (iteF_of h1) e1 s1 g1)
where
  iteT_of {A B : Prop} (h : if true = true then A else B) : A := by rwa [if_pos rfl] at h
  iteF_of {A B : Prop} (h : if false = true then A else B) : B := by rwa [if_neg Bool.false_ne_true] at h
theorem tt_of {A B : Prop} (h : if true = true then A else B) : A := by rwa [if_pos rfl] at h
theorem ff_of {A B : Prop} (h : if false = true then A else B) : B := by rwa [if_neg Bool.false_ne_true] at h
theorem wT_or {t u : TT} {R : RT} (h : wT G F0 H0 t ρ μ fun b μ1 => if b = true then R true μ1 else wT G F0 H0 u ρ μ1 R) : wT G F0 H0 (tOr t u) ρ μ R := fun F H as σ Q e q => by
  refine h F H as σ _ e fun b μ1 F1 H1 as1 h1 e1 s1 g1 => ?_
  cases b with
  | true => exact iteT (q _ _ _ _ _ (tt_of h1) e1 s1 g1)
  | false => exact iteF ((ff_of h1) F1 H1 as1 σ Q e1 (q.on s1 g1))
theorem wT_not {t : TT} {R : RT} (h : wT G F0 H0 t ρ μ fun b μ1 => R (!b) μ1) : wT G F0 H0 (tNot t) ρ μ R := fun F H as σ Q e q =>
  h F H as σ _ e fun b μ1 F1 H1 as1 h1 e1 s1 g1 => q _ _ _ _ _ h1 e1 s1 g1
theorem wT_yes {R : RT} (k : R true μ) : wT G F0 H0 tYes ρ μ R := fun F H as σ Q e q => q _ _ _ _ _ k e (.refl _) .refl
theorem wE_and {ta tb : TE} (h : wE G F0 H0 ta ρ μ fun u μ1 => ∃ b, u = .d (.bl b) ∧ if b = true then wE G F0 H0 tb ρ μ1 R else R (.d (.bl false)) μ1) : wE G F0 H0 (tAndV ta tb) ρ μ R := fun F H as σ Q e q => by
  refine h F H as σ _ e fun x μ1 v1 F1 H1 as1 h1 e1 s1 g1 r1 => ?_
  obtain ⟨b, rfl, k⟩ := h1
  cases r1
  refine ⟨b, rfl, ?_⟩
  cases b with
  | true => exact iteT ((tt_of k) F1 H1 as1 σ Q e1 (q.on s1 g1))
  | false => exact iteF (q _ _ _ _ _ _ (ff_of k) e1 s1 g1 (Rp.bl _))
theorem wE_or {ta tb : TE} (h : wE G F0 H0 ta ρ μ fun u μ1 => ∃ b, u = .d (.bl b) ∧ if b = true then R (.d (.bl true)) μ1 else wE G F0 H0 tb ρ μ1 R) : wE G F0 H0 (tOrV ta tb) ρ μ R := fun F H as σ Q e q => by
  refine h F H as σ _ e fun x μ1 v1 F1 H1 as1 h1 e1 s1 g1 r1 => ?_
  obtain ⟨b, rfl, k⟩ := h1
  cases r1
  refine ⟨b, rfl, ?_⟩
  cases b with
  | true => exact iteT (q _ _ _ _ _ _ (tt_of k) e1 s1 g1 (Rp.bl _))
  | false => exact iteF ((ff_of k) F1 H1 as1 σ Q e1 (q.on s1 g1))
theorem wE_not {ta : TE} (h : wE G F0 H0 ta ρ μ fun u μ1 => ∃ b, u = .d (.bl b) ∧ R (.d (.bl (!b))) μ1) : wE G F0 H0 (tNotV ta) ρ μ R := fun F H as σ Q e q => by
  refine h F H as σ _ e fun x μ1 v1 F1 H1 as1 h1 e1 s1 g1 r1 => ?_
  obtain ⟨b, rfl, k⟩ := h1
  cases r1
  exact ⟨b, rfl, q _ _ _ _ _ _ k e1 s1 g1 (Rp.bl _)⟩
theorem wE_ifE {t : TT} {ta tb : TE} (h : wT G F0 H0 t ρ μ fun b μ1 => if b = true then wE G F0 H0 ta ρ μ1 R else wE G F0 H0 tb ρ μ1 R) : wE G F0 H0 (tIf t ta tb) ρ μ R := fun F H as σ Q e q => by
  refine h F H as σ _ e fun b μ1 F1 H1 as1 h1 e1 s1 g1 => ?_
  cases b with
  | true => exact iteT ((tt_of h1) F1 H1 as1 σ Q e1 (q.on s1 g1))
  | false => exact iteF ((ff_of h1) F1 H1 as1 σ Q e1 (q.on s1 g1))
/-! ### targets -/
theorem wG_name {i : Nat} {u : U} {R : Ro → Mu → Prop} (k : R (ρ.set i (some u)) μ) : wG G F0 H0 (gName i) u ρ μ R := fun F H as σ v Q e r q => q _ _ _ _ _ _ k (e.store r) (.refl _) .refl
theorem wGs_nil {R : Ro → Mu → Prop} (k : R ρ μ) : wGs G F0 H0 gNil [] ρ μ R := fun F H as σ v Q e r q => by
  cases r
  exact ⟨rfl, q _ _ _ _ _ _ k e (.refl _) .refl⟩
theorem wGs_cons {t : TG} {ts : TGs} {d : D} {ds : List D} {R : Ro → Mu → Prop} (h : wG G F0 H0 t (.d d) ρ μ fun ρ' μ' => wGs G F0 H0 ts ds ρ' μ' R) : wGs G F0 H0 (gCons t ts) (d :: ds) ρ μ R := fun F H as σ v Q e r q => by
  cases r with
  | cons a b =>
    refine ⟨_, _, rfl, h F H as σ _ _ e a fun ρ' μ' σ' F' H' as' h1 e1 s1 g1 => ?_⟩
    exact h1 F' H' as' σ' _ Q e1 (RpAll.mono s1 _ b) (q.on s1 g1)
theorem wG_tup {n : Nat} {t : TGs} {ds : List D} {R : Ro → Mu → Prop} (hn : ds.length = n) (h : wGs G F0 H0 t ds ρ μ R) : wG G F0 H0 (gTup G.K n t) (.d (.tup ds)) ρ μ R := fun F H as σ v Q e r q => by
  obtain ⟨a, vs, rfl, hs, ha⟩ := tup_seq e r
  exact ⟨a, vs, rfl, hs, by rw [ha.length]; exact hn, h F H as σ vs Q e ha q⟩
/-! ### statements -/
variable {D' : DE}
theorem wS_seq {t u : TS} (h : wS G F0 H0 t ρ μ { D' with nx := fun ρ' μ' => wS G F0 H0 u ρ' μ' D' }) : wS G F0 H0 (tSeq t u) ρ μ D' := fun F H as σ X e k =>
  h F H as σ _ e ⟨fun ρ' μ' σ' F' H' as' h1 e1 s1 g1 => h1 F' H' as' σ' X e1 (k.on s1 g1), k.rt, k.bk, k.ct⟩
theorem wS_next (k : D'.nx ρ μ) : wS G F0 H0 tNext ρ μ D' := fun F H as σ X e q => q.nx _ _ _ _ _ _ k e (.refl _) .refl
theorem wS_brk (k : D'.bk ρ μ) : wS G F0 H0 tBreak ρ μ D' := fun F H as σ X e q => q.bk _ _ _ _ _ _ k e (.refl _) .refl
theorem wS_cont (k : D'.ct ρ μ) : wS G F0 H0 tCont ρ μ D' := fun F H as σ X e q => q.ct _ _ _ _ _ _ k e (.refl _) .refl
theorem wS_asg {te : TE} {g : TG} (h : wE G F0 H0 te ρ μ fun u μ1 => wG G F0 H0 g u ρ μ1 D'.nx) : wS G F0 H0 (tAsg te g) ρ μ D' := fun F H as σ X e q => by
  refine h F H as σ _ e fun x μ1 v1 F1 H1 as1 h1 e1 s1 g1 r1 => ?_
  exact h1 F1 H1 as1 σ v1 _ e1 r1 (q.nx.on s1 g1)
theorem wS_drop {te : TE} (h : wE G F0 H0 te ρ μ fun _ μ1 => D'.nx ρ μ1) : wS G F0 H0 (tDrop te) ρ μ D' := fun F H as σ X e q => by
  refine h F H as σ _ e fun x μ1 v1 F1 H1 as1 h1 e1 s1 g1 r1 => ?_
  exact q.nx _ _ _ _ _ _ h1 e1 s1 g1
theorem wS_ret {te : TE} (h : wE G F0 H0 te ρ μ D'.rt) : wS G F0 H0 (tRet te) ρ μ D' := fun F H as σ X e q => by
  refine h F H as σ _ e fun x μ1 v1 F1 H1 as1 h1 e1 s1 g1 r1 => ?_
  exact q.rt _ _ _ _ _ _ h1 e1.noSlots s1 g1 r1
theorem wS_retN (h : D'.rt (.d .non) μ) : wS G F0 H0 tRetN ρ μ D' := fun F H as σ X e q => q.rt _ _ _ _ _ _ h e.noSlots (.refl _) .refl Rp.non
theorem wS_if {c : TT} {t u : TS} (h : wT G F0 H0 c ρ μ fun b μ1 => if b = true then wS G F0 H0 t ρ μ1 D' else wS G F0 H0 u ρ μ1 D') : wS G F0 H0 (tIfS c t u) ρ μ D' := fun F H as σ X e q => by
  refine h F H as σ _ e fun b μ1 F1 H1 as1 h1 e1 s1 g1 => ?_
  cases b with
  | true => exact iteT ((tt_of h1) F1 H1 as1 σ X e1 (q.on s1 g1))
  | false => exact iteF ((ff_of h1) F1 H1 as1 σ X e1 (q.on s1 g1))
theorem wS_par {i j : Nat} {ta : TA} (h : wA G F0 H0 ta ρ μ fun us μ1 => ∃ u w, us = [u, w] ∧ D'.nx ((ρ.set i (some u)).set j (some w)) μ1) : wS G F0 H0 (tPar i j ta) ρ μ D' := fun F H as σ X e q => by
  refine h F H as σ _ e fun us μ1 vs F1 H1 as1 h1 e1 s1 g1 r1 => ?_
  obtain ⟨u, w, rfl, k⟩ := h1
  obtain ⟨x, y, rfl, r1, r2⟩ := p2 r1
  exact ⟨x, y, rfl, q.nx _ _ _ _ _ _ k ((e1.store r1).store r2) s1 g1⟩
theorem wS_aug {i : Nat} {te : TE} {f : Int → Int → Int} (h : ∃ a, ρ[i]? = some (some (.d (.int a))) ∧ wE G F0 H0 te ρ μ fun u μ1 => ∃ b, u = .d (.int b) ∧ D'.nx (ρ.set i (some (.d (.int (f a b))))) μ1) :
    wS G F0 H0 (tAug i te (fun x y H Q => ∃ i j, x = .int i ∧ y = .int j ∧ Q (.int (f i j)) H)) ρ μ D' := fun F H as σ X e q => by
  obtain ⟨a, ha, h⟩ := h
  obtain ⟨v, h1, h2⟩ := e.sl i _ ha
  cases h2
  refine ⟨_, h1, h F H as σ _ e fun x μ1 v1 F1 H1 as1 h1 e1 s1 g1 r1 => ?_⟩
  obtain ⟨b, rfl, k⟩ := h1
  cases r1
  exact ⟨a, b, rfl, rfl, q.nx _ _ _ _ _ _ k (e1.store (u := .d (.int (f a b))) (Rp.int (f a b))) s1 g1⟩
theorem wS_while {c : TT} {tb : TS} (I : Ro → Mu → Prop) (f : Ro → Mu → Nat) (h0 : I ρ μ)
    (hs : ∀ ρ' μ', I ρ' μ' → wT G F0 H0 c ρ' μ' fun b μ1 => if b = true then wS G F0 H0 tb ρ' μ1 { nx := fun ρ2 μ2 => I ρ2 μ2 ∧ f ρ2 μ2 < f ρ' μ', ct := fun ρ2 μ2 => I ρ2 μ2 ∧ f ρ2 μ2 < f ρ' μ', bk := D'.nx, rt := D'.rt } else D'.nx ρ' μ1) :
    wS G F0 H0 (tWhile c tb) ρ μ D' := fun F H as σ X e q => by
  refine ⟨fun m σ1 H1 => ∃ F1 as1 ρ1 μ1, Ev G F0 H0 F1 H1 as1 σ1 ρ1 μ1 ∧ Same F F1 ∧ Grw as as1 ∧ I ρ1 μ1 ∧ f ρ1 μ1 = m, ⟨_, F, as, ρ, μ, e, .refl _, .refl, h0, rfl⟩, ?_⟩
  rintro m σ1 H1 ⟨F1, as1, ρ1, μ1, e1, s1, g1, i1, rfl⟩
  refine hs ρ1 μ1 i1 F1 H1 as1 σ1 _ e1 fun b μ2 F2 H2 as2 h2 e2 s2 g2 => ?_
  cases b with
  | true =>
    refine iteT ⟨fun σ' H' => ∃ F3 as3 ρ3 μ3, Ev G F0 H0 F3 H' as3 σ' ρ3 μ3 ∧ Same F F3 ∧ Grw as as3 ∧ I ρ3 μ3 ∧ f ρ3 μ3 < f ρ1 μ1, ?_, ?_⟩
    · rintro σ' H' ⟨F3, as3, ρ3, μ3, e3, s3, g3, i3, l3⟩
      exact ⟨_, l3, F3, as3, ρ3, μ3, e3, s3, g3, i3, rfl⟩
    · refine (tt_of h2) F2 H2 as2 σ1 _ e2 ⟨?_, (q.rt.on s1 g1).on s2 g2, (q.nx.on s1 g1).on s2 g2, ?_⟩
      · intro ρ' μ' σ' F' H' as' h' e' s' g'
        exact ⟨F', as', ρ', μ', e', s1.trans (s2.trans s'), g1.trans (g2.trans g'), h'.1, h'.2⟩
      · intro ρ' μ' σ' F' H' as' h' e' s' g'
        exact ⟨F', as', ρ', μ', e', s1.trans (s2.trans s'), g1.trans (g2.trans g'), h'.1, h'.2⟩
  | false => exact iteF (q.nx _ _ _ _ _ _ (ff_of h2) e2 (s1.trans s2) (g1.trans g2))
theorem wS_for {tl : TE} {g : TG} {tb : TS} (h : wE G F0 H0 tl ρ μ fun u μ1 => ∃ ds, IsL μ1 u ds ∧ ∃ I : Nat → Ro → Mu → Prop, I 0 ρ μ1 ∧ (∀ i ρ' μ', I i ρ' μ' → IsL μ' u ds) ∧
      (∀ i d ρ' μ', ds[i]? = some d → I i ρ' μ' → wG G F0 H0 g (.d d) ρ' μ' fun ρ2 μ2 => wS G F0 H0 tb ρ2 μ2 { nx := I (i + 1), ct := I (i + 1), bk := D'.nx, rt := D'.rt }) ∧ ∀ ρ' μ', I ds.length ρ' μ' → D'.nx ρ' μ') :
    wS G F0 H0 (tFor (iList G.K tl) g tb) ρ μ D' := fun F H as σ X e q => by
  refine h F H as σ _ e fun u μ1 v F1 H1 as1 h1 e1 s1 g1 r1 => ?_
  obtain ⟨ds, hl, I, i0, ip, is, ie⟩ := h1
  obtain ⟨a, vs0, rfl, hs0, _⟩ := hl.seq e1 r1
  have rd : ∀ {F2 H2 as2 σ2 ρ2 μ2} {i : Nat}, Ev G F0 H0 F2 H2 as2 σ2 ρ2 μ2 → Same F1 F2 → Grw as1 as2 → I i ρ2 μ2 → ∃ vs, SqL G.K H2 a vs ∧ RpAll G F2 vs ds := fun {F2 H2 as2 σ2 ρ2 μ2 i} e2 s2 g2 i2 => by
    obtain ⟨a', vs, ea, hs, ha⟩ := (ip i ρ2 μ2 i2).seq e2 (r1.mono s2 g2)
    cases ea
    exact ⟨vs, hs, ha⟩
  refine ⟨a, rfl, ⟨vs0, hs0⟩, fun i m σ2 H2 => ∃ F2 as2 ρ2 μ2, Ev G F0 H0 F2 H2 as2 σ2 ρ2 μ2 ∧ Same F1 F2 ∧ Grw as1 as2 ∧ I i ρ2 μ2 ∧ i + m = ds.length, ⟨ds.length, F1, as1, ρ, μ1, e1, .refl _, .refl, i0, by omega⟩, ?_⟩
  rintro i m σ2 H2 ⟨F2, as2, ρ2, μ2, e2, s2, g2, i2, em⟩
  obtain ⟨vs, hs, ha⟩ := rd e2 s2 g2 i2
  by_cases hi : i < ds.length
  · have hv : i < vs.length := by rw [ha.length]; exact hi
    refine .inr ⟨⟨vs, vs[i], hs, by simp [hv]⟩, fun σ' H' => ∃ F3 as3 ρ3 μ3, Ev G F0 H0 F3 H' as3 σ' ρ3 μ3 ∧ Same F1 F3 ∧ Grw as1 as3 ∧ I (i + 1) ρ3 μ3, ?_, fun x H' y => ?_⟩
    · rintro σ' H' ⟨F3, as3, ρ3, μ3, e3, s3, g3, i3⟩
      exact ⟨m - 1, by omega, F3, as3, ρ3, μ3, e3, s3, g3, i3, by omega⟩
    · obtain ⟨rfl, y⟩ := y
      have hx := y vs hs
      obtain ⟨d, hd, rd⟩ := ha.getV hx
      refine is i d ρ2 μ2 hd i2 F2 H' as2 σ2 x _ e2 rd fun ρ3 μ3 σ3 F3 H3 as3 h3 e3 s3 g3 => ?_
      refine h3 F3 H3 as3 σ3 _ e3 ⟨?_, ((q.rt.on s1 g1).on s2 g2).on s3 g3, ((q.nx.on s1 g1).on s2 g2).on s3 g3, ?_⟩
      · intro ρ' μ' σ' F' H' as' h' e' s' g'
        exact ⟨F', as', ρ', μ', e', s2.trans (s3.trans s'), g2.trans (g3.trans g'), h'⟩
      · intro ρ' μ' σ' F' H' as' h' e' s' g'
        exact ⟨F', as', ρ', μ', e', s2.trans (s3.trans s'), g2.trans (g3.trans g'), h'⟩
  · have ei : i = ds.length := by omega
    subst ei
    exact .inl ⟨⟨vs, hs, by rw [ha.length]; exact Nat.le_refl _⟩, q.nx _ _ _ _ _ _ (ie _ _ i2) e2 (s1.trans s2) (g1.trans g2)⟩
theorem wS_rng {J : TI} {lo : Int} {n : Nat} {g : TG} {tb : TS} (hJ : ∀ (F H : Hp) (as : List Addr) (σ : L2.St) (RR : It → Hp → Prop), Ev G F0 H0 F H as σ ρ μ → (∀ (F' H' : Hp) (as' : List Addr) (μ' : Mu), Ev G F0 H0 F' H' as' σ ρ μ' → μ' = μ → Same F F' → Grw as as' → RR (Itr lo n) H') → J σ H RR)
    (I : Nat → Ro → Mu → Prop) (h0 : I 0 ρ μ)
    (hs : ∀ i ρ' μ', i < n → I i ρ' μ' → wG G F0 H0 g (.d (.int (lo + i))) ρ' μ' fun ρ2 μ2 => wS G F0 H0 tb ρ2 μ2 { nx := I (i + 1), ct := I (i + 1), bk := D'.nx, rt := D'.rt }) (hd : ∀ ρ' μ', I n ρ' μ' → D'.nx ρ' μ') :
    wS G F0 H0 (tFor J g tb) ρ μ D' := fun F H as σ X e q => by
  refine hJ F H as σ _ e fun F1 H1 as1 μ1 e1 em s1 g1 => ?_
  subst em
  refine ⟨fun i m σ2 H2 => ∃ F2 as2 ρ2 μ2, Ev G F0 H0 F2 H2 as2 σ2 ρ2 μ2 ∧ Same F1 F2 ∧ Grw as1 as2 ∧ I i ρ2 μ2 ∧ i + m = n, ⟨n, F1, as1, ρ, μ1, e1, .refl _, .refl, h0, by omega⟩, ?_⟩
  rintro i m σ2 H2 ⟨F2, as2, ρ2, μ2, e2, s2, g2, i2, em⟩
  by_cases hi : i < n
  · refine .inr ⟨hi, fun σ' H' => ∃ F3 as3 ρ3 μ3, Ev G F0 H0 F3 H' as3 σ' ρ3 μ3 ∧ Same F1 F3 ∧ Grw as1 as3 ∧ I (i + 1) ρ3 μ3, ?_, fun x H' y => ?_⟩
    · rintro σ' H' ⟨F3, as3, ρ3, μ3, e3, s3, g3, i3⟩
      exact ⟨m - 1, by omega, F3, as3, ρ3, μ3, e3, s3, g3, i3, by omega⟩
    · obtain ⟨rfl, rfl⟩ := y
      refine hs i ρ2 μ2 hi i2 F2 H' as2 σ2 _ _ e2 (Rp.int _) fun ρ3 μ3 σ3 F3 H3 as3 h3 e3 s3 g3 => ?_
      refine h3 F3 H3 as3 σ3 _ e3 ⟨?_, ((q.rt.on s1 g1).on s2 g2).on s3 g3, ((q.nx.on s1 g1).on s2 g2).on s3 g3, ?_⟩
      · intro ρ' μ' σ' F' H' as' h' e' s' g'
        exact ⟨F', as', ρ', μ', e', s2.trans (s3.trans s'), g2.trans (g3.trans g'), h'⟩
      · intro ρ' μ' σ' F' H' as' h' e' s' g'
        exact ⟨F', as', ρ', μ', e', s2.trans (s3.trans s'), g2.trans (g3.trans g'), h'⟩
  · have ei : i = n := by omega
    subst ei
    exact .inl ⟨Nat.le_refl _, q.nx _ _ _ _ _ _ (hd _ _ i2) e2 (s1.trans s2) (g1.trans g2)⟩
end
end L3

set_option Elab.async false
set_option linter.all false
set_option maxRecDepth 100000
set_option maxHeartbeats 4000000
/-! What a def promises over D; its proof, its call; equality, kinds, comprehensions, attributes, methods. -/
namespace L3
open PySem PySem.Spec PyProof.Rows L2

inductive Arg where
  | d (x : D) | l (ds : List D)
inductive Res where
  | d (x : D) | own (ds : List D) | own2 (dss : List (List D)) | ownT (dss : List (List D))
def ArgOk (G : Gx) (F H : Hp) (v : V) : Arg → Prop
  | .d x => Rp G F v x
  | .l ds => ∃ p vs, v = .ref p ∧ SqL G.K H p vs ∧ RpAll G F vs ds
def OwnOk (G : Gx) (H F' H' : Hp) (p : Addr) (ds : List D) : Prop := H p = none ∧ F' p = none ∧ ∃ vs, H' p = some (.lst vs) ∧ RpAll G F' vs ds
def ResOk (G : Gx) (H F' H' : Hp) (v : V) : Res → Prop
  | .d x => Rp G F' v x
  | .own ds => ∃ p, v = .ref p ∧ OwnOk G H F' H' p ds
  | .own2 dss => ∃ (p : Addr) (ps : List Addr), v = .ref p ∧ H p = none ∧ F' p = none ∧ H' p = some (.lst (ps.map V.ref)) ∧ (p :: ps).Nodup ∧ Paired (OwnOk G H F' H') ps dss
  | .ownT dss => ∃ (p : Addr) (ps : List Addr), v = .ref p ∧ H p = none ∧ F' p = none ∧ H' p = some (.tup (ps.map V.ref)) ∧ (p :: ps).Nodup ∧ Paired (OwnOk G H F' H') ps dss
abbrev Pre := List Arg → Prop
abbrev Post := List Arg → Res → Prop
abbrev Exn := List Arg → Addr → Prop
/-- a def's promise -/
def spD (G : Gx) (pre : Pre) (post : Post) (exn : Exn) : Sp := fun vs H Q E => ∃ (F : Hp) (xs : List Arg), Same F H ∧ Paired (ArgOk G F H) vs xs ∧ pre xs ∧
  (∀ (r : Res) (v : V) (F' H' : Hp), post xs r → Same F F' → Same F' H' → Same H H' → (∀ a, H a ≠ none → F' a = F a) → ResOk G H F' H' v r → Q v H') ∧
  ∀ (c : Addr) (H' : Hp), exn xs c → Same H H' → E (.ref c) none H'
def noX : Exn := fun _ _ => False

def slotsFrom : Nat → List Arg → Ro
  | _, [] => []
  | j, .d x :: r => some (.d x) :: slotsFrom j r
  | j, .l _ :: r => some (.p j) :: slotsFrom (j + 1) r
def cellsOf : List Arg → Mu
  | [] => []
  | .d _ :: r => cellsOf r
  | .l ds :: r => .ro ds :: cellsOf r
/-- what is handed back, as a result -/
inductive Ret (μ : Mu) : U → Res → Prop
  | d (x : D) : Ret μ (.d x) (.d x)
  | own {k : Nat} {ds : List D} : μ[k]? = some (.rw ds) → Ret μ (.p k) (.own ds)
  | frz {k : Nat} {ds : List D} : μ[k]? = some (.rw ds) → Ret μ (.p k) (.d (.lst ds))
  | own2 {k : Nat} {ks : List Nat} {dss : List (List D)} : μ[k]? = some (.pl ks) → ks.Nodup → Paired (fun j ds => μ[j]? = some (.rw ds)) ks dss → Ret μ (.p k) (.own2 dss)
  | ownT {k : Nat} {ks : List Nat} {dss : List (List D)} : μ[k]? = some (.tp ks) → ks.Nodup → Paired (fun j ds => μ[j]? = some (.rw ds)) ks dss → Ret μ (.p k) (.ownT dss)

section
variable {G : Gx} {F0 H0 : Hp} {F F1 H : Hp} {as as1 : List Addr} {σ : L2.St} {ρ : Ro} {μ : Mu} {R : RE}
theorem slotsFrom_len : ∀ (xs : List Arg) (j : Nat), (slotsFrom j xs).length = xs.length
  | [], _ => rfl
  | .d x :: r, j => by simp [slotsFrom, slotsFrom_len r]
  | .l x :: r, j => by simp [slotsFrom, slotsFrom_len r]
theorem start_ev : ∀ (xs : List Arg) (vs : List V) (pre : List Addr), Paired (ArgOk G F H) vs xs →
    ∃ as : List Addr, as.length = (cellsOf xs).length ∧ (∀ (i : Nat) (u : U), (slotsFrom pre.length xs)[i]? = some (some u) → ∃ v, (vs.map some)[i]? = some (some v) ∧ RpU G (pre ++ as) F v u) ∧
      ∀ (k : Nat) (c : Cell) (a : Addr), (cellsOf xs)[k]? = some c → as[k]? = some a → Mt c = false ∧ ∀ as', CellOk G as' H F H a c
  | [], _, pre, h => by
    cases h
    exact ⟨[], rfl, fun i u h => by simp [slotsFrom] at h, fun k c a h => by simp [cellsOf] at h⟩
  | .d x :: r, _, pre, h => by
    cases h with
    | cons h1 h2 =>
      obtain ⟨as, e1, e2, e3⟩ := start_ev r _ pre h2
      refine ⟨as, e1, fun i u hu => ?_, e3⟩
      cases i with
      | zero =>
        simp [slotsFrom] at hu
        subst hu
        exact ⟨_, rfl, h1⟩
      | succ i => exact e2 i u hu
  | .l ds :: r, _, pre, h => by
    cases h with
    | cons h1 h2 =>
      obtain ⟨p, ws, rfl, hs, ha⟩ := h1
      obtain ⟨as, e1, e2, e3⟩ := start_ev r _ (pre ++ [p]) h2
      refine ⟨p :: as, by simp [cellsOf, e1], fun i u hu => ?_, fun k c a hk hka => ?_⟩
      · cases i with
        | zero =>
          simp [slotsFrom] at hu
          subst hu
          exact ⟨_, rfl, p, rfl, by simp⟩
        | succ i =>
          obtain ⟨v, g1, g2⟩ := e2 i u (by rw [List.length_append]; exact hu)
          refine ⟨v, g1, ?_⟩
          rw [List.append_assoc] at g2
          exact g2
      · cases k with
        | zero =>
          simp [cellsOf] at hk hka
          subst hk hka
          exact ⟨rfl, fun _ => ⟨ws, hs, ha⟩⟩
        | succ k => exact e3 k c a hk hka
theorem paired_len {α β : Type} {RR : α → β → Prop} : ∀ {xs : List α} {ys : List β}, Paired RR xs ys → xs.length = ys.length
  | _, _, .nil => rfl
  | _, _, .cons _ t => by simp [paired_len t]
theorem paired_get {α β : Type} {RR : α → β → Prop} : ∀ {xs : List α} {ys : List β} {i : Nat} {y : β}, Paired RR xs ys → ys[i]? = some y → ∃ x, xs[i]? = some x ∧ RR x y
  | _, _, _, _, .nil, e => by simp at e
  | _, _, 0, _, .cons r _, e => by simp at e; subst e; exact ⟨_, rfl, r⟩
  | _, _, i + 1, y, .cons _ t, e => by
    obtain ⟨v, h1, h2⟩ := paired_get (i := i) (y := y) t (by simpa using e)
    exact ⟨v, by simpa using h1, h2⟩
/-- THE RULE for a def -/
theorem start_ok {N : List Str} {vs : List V} {xs : List Arg} (hF : Same F H) (ha : Paired (ArgOk G F H) vs xs) (hN : xs.length ≤ N.length) :
    ∃ as, Ev G F H F H as (L2.start N vs) (slotsFrom 0 xs ++ List.replicate (N.length - xs.length) none) (cellsOf xs) := by
  obtain ⟨as, e1, e2, e3⟩ := start_ev xs vs [] ha
  have el := paired_len ha
  refine ⟨as, ⟨hF, .refl _, .refl _, fun _ _ => rfl⟩, ?_, fun i u h => ?_, e1, fun i j a c c' h1 h2 h3 h4 m1 m2 => ?_, fun k c a hk hka => (e3 k c a hk hka).2 _⟩
  · unfold L2.start
    rw [List.length_append, List.length_append, List.length_map, List.length_replicate, List.length_replicate, slotsFrom_len, el]
  · unfold L2.start
    by_cases hi : i < xs.length
    · rw [List.getElem?_append_left (by rw [slotsFrom_len]; exact hi)] at h
      obtain ⟨v, h1, h2⟩ := e2 i u h
      refine ⟨v, ?_, by simpa using h2⟩
      rw [List.getElem?_append_left (by rw [List.length_map, el]; exact hi)]
      exact h1
    · rw [List.getElem?_append_right (by rw [slotsFrom_len]; omega)] at h
      rw [List.getElem?_replicate] at h
      split at h <;> cases h
  · rw [(e3 i c a h3 h1).1] at m1; cases m1
/-- the end of a def's body -/
theorem ret_ok {u : U} {r : Res} {v : V} {H' F' : Hp} (e : Ev G F H F' H' as [] [] μ) (hr : RpU G as F' v u) (h : Ret μ u r) :
    ∃ F2, Same F F2 ∧ Same F2 H' ∧ Same H H' ∧ (∀ a, H a ≠ none → F2 a = F a) ∧ ResOk G H F2 H' v r := by
  cases h with
  | d x => exact ⟨F', e.bs.f0, e.bs.fh, e.bs.h0, e.bs.nw, hr⟩
  | own hk =>
    obtain ⟨a, rfl, ha⟩ := hr
    obtain ⟨n0, nF, vs, h3, h4⟩ := e.ce _ _ a hk ha
    exact ⟨F', e.bs.f0, e.bs.fh, e.bs.h0, e.bs.nw, a, rfl, n0, nF, vs, h3, h4⟩
  | frz hk =>
    obtain ⟨a, rfl, ha⟩ := hr
    obtain ⟨F2, s2, r2, e2⟩ := e.freeze hk ha
    exact ⟨F2, e2.bs.f0, e2.bs.fh, e2.bs.h0, e2.bs.nw, r2⟩
  | own2 hk nd hp =>
    rename_i k ks dss
    obtain ⟨a, rfl, ha⟩ := hr
    obtain ⟨n0, nF, ps, h3, h4⟩ := e.ce _ _ a hk ha
    refine ⟨F', e.bs.f0, e.bs.fh, e.bs.h0, e.bs.nw, a, ps, rfl, n0, nF, h3, ?_, ?_⟩
    · refine List.nodup_cons.mpr ⟨fun hm => ?_, ?_⟩
      · obtain ⟨i, hi, ei⟩ := List.getElem_of_mem hm
        have hi' : i < ks.length := by rw [← paired_len h4]; exact hi
        obtain ⟨q, q1, q2⟩ := paired_get h4 (List.getElem?_eq_getElem hi')
        have eq : q = a := by
          rw [List.getElem?_eq_getElem hi, ei] at q1
          exact (Option.some.inj q1).symm
        subst eq
        have hl : i < dss.length := by rw [← paired_len hp]; exact hi'
        obtain ⟨j, j1, j2⟩ := paired_get hp (List.getElem?_eq_getElem hl)
        rw [List.getElem?_eq_getElem hi'] at j1
        cases j1
        have z := e.nd _ _ q _ _ q2 ha j2 hk rfl rfl
        rw [z] at j2
        rw [hk] at j2
        cases j2
      · have step : ∀ (ps : List Addr) (ks : List Nat) (dss : List (List D)), Paired (fun (p : Addr) (k : Nat) => as[k]? = some p) ps ks → Paired (fun (j : Nat) (ds : List D) => μ[j]? = some (.rw ds)) ks dss → ks.Nodup → ps.Nodup := by
          intro ps
          induction ps with
          | nil => intro ks dss _ _ _; exact List.nodup_nil
          | cons p ps ih =>
            intro ks dss h1 h2 h3
            cases h1 with
            | cons r1 t1 =>
              cases h2 with
              | cons r2 t2 =>
                obtain ⟨n1, n2⟩ := List.nodup_cons.mp h3
                refine List.nodup_cons.mpr ⟨fun hm => ?_, ih _ _ t1 t2 n2⟩
                obtain ⟨i, hi, ei⟩ := List.getElem_of_mem hm
                have hk' := paired_len t1
                have hd' := paired_len t2
                obtain ⟨q, q1, q2⟩ := paired_get t1 (List.getElem?_eq_getElem (by omega : i < _))
                have eq : q = p := by
                  rw [List.getElem?_eq_getElem hi, ei] at q1
                  exact (Option.some.inj q1).symm
                subst eq
                obtain ⟨j, j1, j2⟩ := paired_get t2 (List.getElem?_eq_getElem (by omega : i < _))
                rw [List.getElem?_eq_getElem (by omega)] at j1
                cases j1
                have z := e.nd _ _ q _ _ q2 r1 j2 r2 rfl rfl
                refine n1 (z ▸ List.getElem_mem _)
        exact step ps ks dss h4 hp nd
    · have step : ∀ (ps : List Addr) (ks : List Nat) (dss : List (List D)), Paired (fun (p : Addr) (k : Nat) => as[k]? = some p) ps ks → Paired (fun (j : Nat) (ds : List D) => μ[j]? = some (.rw ds)) ks dss → Paired (OwnOk G H F' H') ps dss := by
        intro ps
        induction ps with
        | nil => intro ks dss h1 h2; cases h1; cases h2; exact .nil
        | cons p ps ih =>
          intro ks dss h1 h2
          cases h1 with
          | cons r1 t1 =>
            cases h2 with
            | cons r2 t2 =>
              obtain ⟨n0, nF, vs, h3, h4⟩ := e.ce _ _ p r2 r1
              exact .cons ⟨n0, nF, vs, h3, h4⟩ (ih _ _ t1 t2)
      exact step ps ks dss h4 hp
  | ownT hk nd hp =>
    rename_i k ks dss
    obtain ⟨a, rfl, ha⟩ := hr
    obtain ⟨n0, nF, ps, h3, h4⟩ := e.ce _ _ a hk ha
    refine ⟨F', e.bs.f0, e.bs.fh, e.bs.h0, e.bs.nw, a, ps, rfl, n0, nF, h3, ?_, ?_⟩
    · refine List.nodup_cons.mpr ⟨fun hm => ?_, ?_⟩
      · obtain ⟨i, hi, ei⟩ := List.getElem_of_mem hm
        have hi' : i < ks.length := by rw [← paired_len h4]; exact hi
        obtain ⟨q, q1, q2⟩ := paired_get h4 (List.getElem?_eq_getElem hi')
        have eq : q = a := by
          rw [List.getElem?_eq_getElem hi, ei] at q1
          exact (Option.some.inj q1).symm
        subst eq
        have hl : i < dss.length := by rw [← paired_len hp]; exact hi'
        obtain ⟨j, j1, j2⟩ := paired_get hp (List.getElem?_eq_getElem hl)
        rw [List.getElem?_eq_getElem hi'] at j1
        cases j1
        have z := e.nd _ _ q _ _ q2 ha j2 hk rfl rfl
        rw [z] at j2
        rw [hk] at j2
        cases j2
      · have step : ∀ (ps : List Addr) (ks : List Nat) (dss : List (List D)), Paired (fun (p : Addr) (k : Nat) => as[k]? = some p) ps ks → Paired (fun (j : Nat) (ds : List D) => μ[j]? = some (.rw ds)) ks dss → ks.Nodup → ps.Nodup := by
          intro ps
          induction ps with
          | nil => intro ks dss _ _ _; exact List.nodup_nil
          | cons p ps ih =>
            intro ks dss h1 h2 h3
            cases h1 with
            | cons r1 t1 =>
              cases h2 with
              | cons r2 t2 =>
                obtain ⟨n1, n2⟩ := List.nodup_cons.mp h3
                refine List.nodup_cons.mpr ⟨fun hm => ?_, ih _ _ t1 t2 n2⟩
                obtain ⟨i, hi, ei⟩ := List.getElem_of_mem hm
                have hk' := paired_len t1
                have hd' := paired_len t2
                obtain ⟨q, q1, q2⟩ := paired_get t1 (List.getElem?_eq_getElem (by omega : i < _))
                have eq : q = p := by
                  rw [List.getElem?_eq_getElem hi, ei] at q1
                  exact (Option.some.inj q1).symm
                subst eq
                obtain ⟨j, j1, j2⟩ := paired_get t2 (List.getElem?_eq_getElem (by omega : i < _))
                rw [List.getElem?_eq_getElem (by omega)] at j1
                cases j1
                have z := e.nd _ _ q _ _ q2 r1 j2 r2 rfl rfl
                refine n1 (z ▸ List.getElem_mem _)
        exact step ps ks dss h4 hp nd
    · have step : ∀ (ps : List Addr) (ks : List Nat) (dss : List (List D)), Paired (fun (p : Addr) (k : Nat) => as[k]? = some p) ps ks → Paired (fun (j : Nat) (ds : List D) => μ[j]? = some (.rw ds)) ks dss → Paired (OwnOk G H F' H') ps dss := by
        intro ps
        induction ps with
        | nil => intro ks dss h1 h2; cases h1; cases h2; exact .nil
        | cons p ps ih =>
          intro ks dss h1 h2
          cases h1 with
          | cons r1 t1 =>
            cases h2 with
            | cons r2 t2 =>
              obtain ⟨n0, nF, vs, h3, h4⟩ := e.ce _ _ p r2 r1
              exact .cons ⟨n0, nF, vs, h3, h4⟩ (ih _ _ t1 t2)
      exact step ps ks dss h4 hp
/-- what the body's reading is to show -/
def DEof (post : Post) (xs : List Arg) : DE := { nx := fun _ μ => ∃ r, post xs r ∧ Ret μ (.d .non) r, rt := fun u μ => ∃ r, post xs r ∧ Ret μ u r }
theorem body_ok {t : TS} {N : List Str} {vs : List V} {H : Hp} {Q : VK} {E : XK} {pre : Pre} {post : Post} {exn : Exn} (hsp : spD G pre post exn vs H Q E) (hN : ∀ xs, pre xs → xs.length ≤ N.length)
    (h : ∀ (xs : List Arg) (F : Hp), pre xs → (∀ c, exn xs c → ∀ H', Same H H' → E (.ref c) none H') → wS G F H t (slotsFrom 0 xs ++ List.replicate (N.length - xs.length) none) (cellsOf xs) (DEof post xs)) :
    t { nx := fun _ H' => Q .non H', rt := Q } (L2.start N vs) H := by
  obtain ⟨F, xs, hF, ha, hp, hq, hx⟩ := hsp
  obtain ⟨as, e⟩ := start_ok (N := N) hF ha (hN xs hp)
  refine h xs F hp (fun c hc H' hs => hx c H' hc hs) F H as _ _ e ⟨?_, ?_, fun _ _ _ _ _ _ z => z.elim, fun _ _ _ _ _ _ z => z.elim⟩
  · rintro ρ' μ' σ' F' H' as' ⟨r, hr, hu⟩ e' s' g'
    obtain ⟨F2, s2, f2, h2, n2, r2⟩ := ret_ok (u := .d .non) (v := .non) e'.noSlots Rp.non hu
    exact hq r _ F2 H' hr s2 f2 h2 n2 r2
  · rintro u μ' v F' H' as' ⟨r, hr, hu⟩ e' s' g' ru
    obtain ⟨F2, s2, f2, h2, n2, r2⟩ := ret_ok e' ru hu
    exact hq r _ F2 H' hr s2 f2 h2 n2 r2
/-- an argument as the caller has it -/
inductive ArgOf (μ : Mu) : U → Arg → Prop
  | d (x : D) : ArgOf μ (.d x) (.d x)
  | l {u : U} {ds : List D} : IsL μ u ds → ArgOf μ u (.l ds)
/-- the result as the caller gets it -/
def Got (R : RE) (μ : Mu) : Res → Prop
  | .d x => R (.d x) μ
  | .own ds => R (.p μ.length) (μ ++ [.rw ds])
  | .own2 dss => R (.p (μ.length + dss.length)) (μ ++ dss.map Cell.rw ++ [.pl ((List.range dss.length).map (μ.length + ·))])
  | .ownT dss => R (.p (μ.length + dss.length)) (μ ++ dss.map Cell.rw ++ [.tp ((List.range dss.length).map (μ.length + ·))])
theorem args_ok (e : Ev G F0 H0 F H as σ ρ μ) : ∀ {vs : List V} {us : List U} {xs : List Arg}, Paired (RpU G as F) vs us → Paired (ArgOf μ) us xs → Paired (ArgOk G F H) vs xs
  | _, _, _, .nil, h => by cases h; exact .nil
  | _, _, _, .cons r t, h => by
    cases h with
    | cons a b =>
      refine .cons ?_ (args_ok e t b)
      cases a with
      | d x => exact r
      | l hl => exact hl.seq e r
theorem adopt_all {F' H' : Hp} : ∀ (ps : List Addr) (dss : List (List D)) (as : List Addr) (μ : Mu), Ev G F0 H0 F' H' as σ ρ μ → (∀ p ∈ ps, ∀ (k : Nat) (a : Addr) (c : Cell), μ[k]? = some c → as[k]? = some a → Mt c = true → a ≠ p) → ps.Nodup →
      Paired (fun p ds => H0 p = none ∧ F' p = none ∧ ∃ vs, H' p = some (.lst vs) ∧ RpAll G F' vs ds) ps dss → Ev G F0 H0 F' H' (as ++ ps) σ ρ (μ ++ dss.map Cell.rw)
  | [], _, as, μ, e, _, _, h => by
    cases h
    simpa using e
  | p :: ps, _, as, μ, e, hn, nd, h => by
    cases h with
    | cons r t =>
      rename_i ds dss
      obtain ⟨r1, r2, vs, r3, r4⟩ := r
      obtain ⟨nd1, nd2⟩ := List.nodup_cons.mp nd
      have e1 := e.adopt (p := p) (c := .rw ds) (hn p List.mem_cons_self) ⟨r1, r2, vs, r3, r4⟩
      have e2 := adopt_all ps dss (as ++ [p]) (μ ++ [.rw ds]) e1 (fun q hq k a c hk ha hm => ?_) nd2 t
      · simpa using e2
      · by_cases kk : k < as.length
        · rw [List.getElem?_append_left kk] at ha
          rw [List.getElem?_append_left (by rw [← e.al]; exact kk)] at hk
          exact hn q (List.mem_cons_of_mem _ hq) k a c hk ha hm
        · have lk := (List.getElem?_eq_some_iff.mp ha).1
          simp only [List.length_append, List.length_cons, List.length_nil] at lk
          have ek : k = as.length := by omega
          subst ek
          have e1 : a = p := by simpa using ha.symm
          rw [e1]
          exact fun z => nd1 (z ▸ hq)
theorem got_ok {r : Res} {v : V} {F' H' : Hp} {Q : VK} (e : Ev G F0 H0 F H as σ ρ μ) (hF : Same F F') (hf : Same F' H') (hH : Same H H') (hn : ∀ a, H a ≠ none → F' a = F a) (hr : ResOk G H F' H' v r) (g : Got R μ r) (q : KE G F0 H0 F as σ ρ R Q) : Q v H' := by
  have e1 := e.grow hF hH hf hn
  cases r with
  | d x => exact q _ _ _ _ _ _ g e1 hF .refl hr
  | own ds =>
    obtain ⟨p, rfl, h1, h2, vs, h3, h4⟩ := hr
    have e2 := e1.adopt (p := p) (c := .rw ds) (e.mutAddr h1) ⟨e.bs.h0.free h1, h2, vs, h3, h4⟩
    refine q _ _ _ _ _ _ g e2 hF .app ⟨p, rfl, ?_⟩
    rw [← e.al, List.getElem?_append_right (Nat.le_refl _)]
    simp
  | own2 dss =>
    obtain ⟨p, ps, rfl, h1, h2, h3, nd, hp⟩ := hr
    obtain ⟨nd1, nd2⟩ := List.nodup_cons.mp nd
    have pn : ∀ q ∈ ps, H q = none := fun q hq => by
      obtain ⟨i, hi, ei⟩ := List.getElem_of_mem hq
      have hl := paired_len hp
      obtain ⟨x, x1, x2, _⟩ := paired_get hp (List.getElem?_eq_getElem (by omega : i < dss.length))
      rw [List.getElem?_eq_getElem hi, ei] at x1
      cases x1
      exact x2
    have e2 := adopt_all ps dss as μ e1 (fun q hq => e.mutAddr (pn q hq)) nd2 (paired_imp (fun _ _ z => ⟨e.bs.h0.free z.1, z.2⟩) hp)
    have el := paired_len hp
    have key : ∀ (ps : List Addr) (n : Nat) (as : List Addr), ps.length = n → Paired (fun (p : Addr) (k : Nat) => (as ++ ps)[k]? = some p) ps ((List.range n).map (as.length + ·)) := by
      intro ps
      induction ps with
      | nil => intro n as h; cases h; exact .nil
      | cons x ps ih =>
        intro n as h
        cases h
        rw [List.length_cons, List.range_succ_eq_map, List.map_cons]
        refine .cons (by simp) ?_
        have z := ih ps.length (as ++ [x]) rfl
        rw [List.map_map]
        have e3 : (List.range ps.length).map ((as ++ [x]).length + ·) = (List.range ps.length).map ((as.length + ·) ∘ Nat.succ) := by
          apply List.map_congr_left
          intro a _
          simp only [List.length_append, List.length_cons, List.length_nil, Function.comp]
          omega
        rw [e3] at z
        simpa using z
    have kk := key ps dss.length as el
    have e3 := e2.adopt (p := p) (c := .pl ((List.range dss.length).map (μ.length + ·))) (fun k a c hk ha hm z => ?_) ⟨e.bs.h0.free h1, h2, ps, h3, ?_⟩
    · refine q _ _ _ _ _ _ g e3 hF (Grw.app.trans .app) ⟨p, rfl, ?_⟩
      rw [← e.al, ← el, ← List.length_append, List.getElem?_append_right (Nat.le_refl _)]
      simp
    · subst z
      by_cases ka : k < as.length
      · rw [List.getElem?_append_left ka] at ha
        rw [List.getElem?_append_left (by rw [← e.al]; exact ka)] at hk
        exact e.mutAddr h1 k a c hk ha hm rfl
      · rw [List.getElem?_append_right (by omega)] at ha
        exact nd1 (List.mem_of_getElem? ha)
    · rw [← e.al]
      exact paired_imp (fun a b z => by
        have := (List.getElem?_eq_some_iff.mp z).1
        rw [List.getElem?_append_left this]
        exact z) kk
  | ownT dss =>
    obtain ⟨p, ps, rfl, h1, h2, h3, nd, hp⟩ := hr
    obtain ⟨nd1, nd2⟩ := List.nodup_cons.mp nd
    have pn : ∀ q ∈ ps, H q = none := fun q hq => by
      obtain ⟨i, hi, ei⟩ := List.getElem_of_mem hq
      have hl := paired_len hp
      obtain ⟨x, x1, x2, _⟩ := paired_get hp (List.getElem?_eq_getElem (by omega : i < dss.length))
      rw [List.getElem?_eq_getElem hi, ei] at x1
      cases x1
      exact x2
    have e2 := adopt_all ps dss as μ e1 (fun q hq => e.mutAddr (pn q hq)) nd2 (paired_imp (fun _ _ z => ⟨e.bs.h0.free z.1, z.2⟩) hp)
    have el := paired_len hp
    have key : ∀ (ps : List Addr) (n : Nat) (as : List Addr), ps.length = n → Paired (fun (p : Addr) (k : Nat) => (as ++ ps)[k]? = some p) ps ((List.range n).map (as.length + ·)) := by
      intro ps
      induction ps with
      | nil => intro n as h; cases h; exact .nil
      | cons x ps ih =>
        intro n as h
        cases h
        rw [List.length_cons, List.range_succ_eq_map, List.map_cons]
        refine .cons (by simp) ?_
        have z := ih ps.length (as ++ [x]) rfl
        rw [List.map_map]
        have e3 : (List.range ps.length).map ((as ++ [x]).length + ·) = (List.range ps.length).map ((as.length + ·) ∘ Nat.succ) := by
          apply List.map_congr_left
          intro a _
          simp only [List.length_append, List.length_cons, List.length_nil, Function.comp]
          omega
        rw [e3] at z
        simpa using z
    have kk := key ps dss.length as el
    have e3 := e2.adopt (p := p) (c := .tp ((List.range dss.length).map (μ.length + ·))) (fun k a c hk ha hm z => ?_) ⟨e.bs.h0.free h1, h2, ps, h3, ?_⟩
    · refine q _ _ _ _ _ _ g e3 hF (Grw.app.trans .app) ⟨p, rfl, ?_⟩
      rw [← e.al, ← el, ← List.length_append, List.getElem?_append_right (Nat.le_refl _)]
      simp
    · subst z
      by_cases ka : k < as.length
      · rw [List.getElem?_append_left ka] at ha
        rw [List.getElem?_append_left (by rw [← e.al]; exact ka)] at hk
        exact e.mutAddr h1 k a c hk ha hm rfl
      · rw [List.getElem?_append_right (by omega)] at ha
        exact nd1 (List.mem_of_getElem? ha)
    · rw [← e.al]
      exact paired_imp (fun a b z => by
        have := (List.getElem?_eq_some_iff.mp z).1
        rw [List.getElem?_append_left this]
        exact z) kk
theorem wE_call {pre : Pre} {post : Post} {exn : Exn} {E : XK} {t : TA} (h : wA G F0 H0 t ρ μ fun us μ1 => ∃ xs, Paired (ArgOf μ1) us xs ∧ pre xs ∧ (∀ r, post xs r → Got R μ1 r) ∧ ∀ c, exn xs c → ∀ H', Same H0 H' → E (.ref c) none H') :
    wE G F0 H0 (tCall (spD G pre post exn) [] E t) ρ μ R := fun F H as σ Q e q => by
  refine h F H as σ _ e fun us μ1 vs F1 H1 as1 h1 e1 s1 g1 r1 => ?_
  obtain ⟨xs, ha, hp, hg, hx⟩ := h1
  rw [List.append_nil]
  refine ⟨F1, xs, e1.bs.fh, args_ok e1 r1 ha, hp, fun r v F' H' hr sF sf sH sn ro => ?_, fun c H' hc hs => hx c hc H' (e1.bs.h0.trans hs)⟩
  exact got_ok e1 sF sf sH sn ro (hg r hr) (q.on s1 g1)
theorem look_none {fs : List (Str × V)} {ns : List Str} {m : Str} (h : fs.map (·.1) = ns) (hm : ns.contains m = false) : fs.lookup m = none := by
  subst h
  induction fs with
  | nil => rfl
  | cons p fs ih =>
    simp only [List.map_cons, List.contains_cons, Bool.or_eq_false_iff] at hm
    simp only [List.lookup, hm.1]
    exact ih hm.2
theorem wE_meth {pre : Pre} {post : Post} {exn : Exn} {E : XK} {C : Addr} {m : Str} {ta : TE} {t : TA} (h : wE G F0 H0 ta ρ μ fun u μ1 => ∃ n ds, u = .d (.ob n ds) ∧ G.cl n = C ∧ (fl n).contains m = false ∧
      wA G F0 H0 t ρ μ1 fun us μ2 => ∃ xs, Paired (ArgOf μ2) us xs ∧ pre (.d (.ob n ds) :: xs) ∧ (∀ r, post (.d (.ob n ds) :: xs) r → Got R μ2 r) ∧ ∀ c, exn (.d (.ob n ds) :: xs) c → ∀ H', Same H0 H' → E (.ref c) none H') :
    wE G F0 H0 (tMeth C m (spD G pre post exn) [] E ta t) ρ μ R := fun F H as σ Q e q => by
  refine h F H as σ _ e fun u μ1 v F1 H1 as1 h1 e1 s1 g1 r1 => ?_
  obtain ⟨n, ds, rfl, hc, hm, h1⟩ := h1
  cases (show Rp G F1 v (.ob n ds) from r1) with
  | ob ho hf ha0 =>
    rename_i a dx fs
    refine ⟨a, dx, fs, rfl, by rw [← hc]; exact e1.bs.fh _ _ ho, look_none hf hm, ?_⟩
    refine h1 F1 H1 as1 σ _ e1 fun us μ2 vs F2 H2 as2 h2 e2 s2 g2 r2 => ?_
    obtain ⟨xs, ha, hp, hg, hx⟩ := h2
    rw [List.append_nil]
    refine ⟨F2, .d (.ob n ds) :: xs, e2.bs.fh, .cons (Rp.mono s2 _ (Rp.ob ho hf ha0)) (args_ok e2 r2 ha), hp, fun r v F' H' hr sF sf sH sn ro => ?_, fun c H' hc hs => hx c hc H' (e2.bs.h0.trans hs)⟩
    exact got_ok e2 sF sf sH sn ro (hg r hr) ((q.on s1 g1).on s2 g2)
theorem look_at {fs : List (Str × V)} {ns : List Str} {f : Str} {i : Nat} (h : fs.map (·.1) = ns) (hi : ns.findIdx? (· == f) = some i) : ∃ v, fs.lookup f = some v ∧ (fs.map (·.2))[i]? = some v := by
  subst h
  induction fs generalizing i with
  | nil => cases hi
  | cons p fs ih =>
    simp only [List.map_cons, List.findIdx?_cons] at hi
    cases hb : p.1 == f with
    | true =>
      rw [hb] at hi
      simp at hi
      subst hi
      refine ⟨p.2, ?_, rfl⟩
      have : (f == p.1) = true := by
        rw [beq_iff_eq] at hb ⊢
        exact hb.symm
      simp only [List.lookup, this]
    | false =>
      rw [hb] at hi
      simp only [Bool.false_eq_true, if_false, Option.map_eq_some_iff] at hi
      obtain ⟨j, hj, rfl⟩ := hi
      obtain ⟨v, h1, h2⟩ := ih hj
      refine ⟨v, ?_, h2⟩
      have : (f == p.1) = false := by
        rw [beq_eq_false_iff_ne] at hb ⊢
        exact fun z => hb z.symm
      simp only [List.lookup, this]
      exact h1
/-- an attribute -/
theorem wE_fld {ta : TE} {f : Str} (h : wE G F0 H0 ta ρ μ fun u μ1 => ∃ n ds i d, u = .d (.ob n ds) ∧ (fl n).findIdx? (· == f) = some i ∧ ds[i]? = some d ∧ Cls G.K (G.cl n) ∧ NoAttr G.K (G.cl n) f ∧ R (.d d) μ1) :
    wE G F0 H0 (tFld G.K ta f) ρ μ R := fun F H as σ Q e q => by
  refine h F H as σ _ e fun u μ1 v F1 H1 as1 h1 e1 s1 g1 r1 => ?_
  obtain ⟨n, ds, i, d, rfl, hi, hd, hc, hna, k⟩ := h1
  cases (show Rp G F1 v (.ob n ds) from r1) with
  | ob ho hf ha0 =>
    obtain ⟨w, h1, h2⟩ := look_at hf hi
    obtain ⟨w', h3, h4⟩ := ha0.get hd
    rw [h2] at h3
    cases h3
    exact ⟨_, _, _, _, w, rfl, e1.bs.fh _ _ ho, hc, hna, h1, q _ _ _ _ _ _ k e1 s1 g1 h4⟩
end

/-! ### equality of data -/
mutual
def D.py : D → PyData
  | .non => .none
  | .bl b => .bool b
  | .int i => .int i
  | .str x => .str x
  | .tup ds => .tuple (D.pys ds)
  | .lst ds => .list (D.pys ds)
  | .ob _ _ => .none
  | .raw _ => .none
  | .fn _ => .none
def D.pys : List D → List PyData
  | [] => []
  | d :: ds => D.py d :: D.pys ds
end
mutual
/-- data that == compares: no objects within, n deep at most -/
def sh : D → Nat → Bool
  | .non, _ => true
  | .bl _, _ => true
  | .int _, _ => true
  | .str x, _ => PyData.canLay0 (.str x)
  | .tup ds, n => match n with
    | 0 => false
    | n + 1 => shs ds n
  | .lst ds, n => match n with
    | 0 => false
    | n + 1 => shs ds n
  | .ob _ _, _ => false
  | .raw _, _ => false
  | .fn _, _ => false
def shs : List D → Nat → Bool
  | [], _ => true
  | d :: ds, n => sh d n && shs ds n
end
mutual
def eqD : D → D → Bool
  | .non, .non => true
  | .bl a, .bl b => a == b
  | .int i, .int j => i == j
  | .str x, .str y => x == y
  | .tup xs, .tup ys => eqDs xs ys
  | .lst xs, .lst ys => eqDs xs ys
  | .bl a, .int j => (if a then 1 else 0) == j
  | .int i, .bl b => i == (if b then 1 else 0)
  | _, _ => false
def eqDs : List D → List D → Bool
  | [], [] => true
  | x :: xs, y :: ys => eqD x y && eqDs xs ys
  | _, _ => false
end
section
variable {G : Gx} {F0 H0 : Hp} {F F1 H : Hp} {as as1 : List Addr} {σ : L2.St} {ρ : Ro} {μ : Mu} {R : RE}
mutual
theorem sh_dp (hF : Same F H) : ∀ (d : D) (n : Nat) (v : V), sh d n = true → Rp G F v d → Dp G.K H v d.py
  | .non, _, _, _, h => by cases h; exact .non
  | .bl b, _, _, _, h => by cases h; exact .bl b
  | .int i, _, _, _, h => by cases h; exact .int i
  | .str x, _, _, _, h => by cases h; exact .str x
  | .tup ds, 0, _, s, h => by simp [sh] at s
  | .tup ds, n + 1, _, s, h => by
    cases h with
    | tup hs ha => exact .tup (Same.sqT hF hs) (shs_dp hF ds n _ (by simpa [sh] using s) ha)
  | .lst ds, 0, _, s, h => by simp [sh] at s
  | .lst ds, n + 1, _, s, h => by
    cases h with
    | lst hs ha => exact .lst (Same.sqL hF hs) (shs_dp hF ds n _ (by simpa [sh] using s) ha)
  | .ob _ _, _, _, s, _ => by simp [sh] at s
  | .raw _, _, _, s, _ => by simp [sh] at s
  | .fn _, _, _, s, _ => by simp [sh] at s
theorem shs_dp (hF : Same F H) : ∀ (ds : List D) (n : Nat) (vs : List V), shs ds n = true → RpAll G F vs ds → DpAll G.K H vs (D.pys ds)
  | [], _, _, _, h => by cases h; exact .nil
  | d :: ds, n, _, s, h => by
    cases h with
    | cons a b =>
      simp only [shs, Bool.and_eq_true] at s
      exact .cons (sh_dp hF d n _ s.1 a) (shs_dp hF ds n _ s.2 b)
end
mutual
theorem sh_lay : ∀ (d : D) (n : Nat), sh d n = true → d.py.canLay0 = true ∧ d.py.depth ≤ n
  | .non, _, _ => by simp [D.py, PyData.canLay0, PyData.depth]
  | .bl b, _, _ => by simp [D.py, PyData.canLay0, PyData.depth]
  | .int i, _, _ => by simp [D.py, PyData.canLay0, PyData.depth]
  | .str x, _, h => by simpa [D.py, PyData.canLay0, PyData.depth, sh] using h
  | .tup ds, 0, s => by simp [sh] at s
  | .tup ds, n + 1, s => by
    obtain ⟨h1, h2⟩ := shs_lay ds n (by simpa [sh] using s)
    simp only [D.py, PyData.canLay0, PyData.depth]
    exact ⟨h1, by omega⟩
  | .lst ds, 0, s => by simp [sh] at s
  | .lst ds, n + 1, s => by
    obtain ⟨h1, h2⟩ := shs_lay ds n (by simpa [sh] using s)
    simp only [D.py, PyData.canLay0, PyData.depth]
    exact ⟨h1, by omega⟩
  | .ob _ _, _, s => by simp [sh] at s
  | .raw _, _, s => by simp [sh] at s
  | .fn _, _, s => by simp [sh] at s
theorem shs_lay : ∀ (ds : List D) (n : Nat), shs ds n = true → PyData.canLayAll0 (D.pys ds) = true ∧ PyData.depthAll (D.pys ds) ≤ n
  | [], _, _ => by simp [D.pys, PyData.canLayAll0, PyData.depthAll]
  | d :: ds, n, s => by
    simp only [shs, Bool.and_eq_true] at s
    obtain ⟨h1, h2⟩ := sh_lay d n s.1
    obtain ⟨h3, h4⟩ := shs_lay ds n s.2
    simp only [D.pys, PyData.canLayAll0, PyData.depthAll, Bool.and_eq_true]
    exact ⟨⟨h1, h3⟩, by omega⟩
end
theorem sh_shaped {d : D} {n : Nat} (h : sh d n = true) (hn : n ≤ 64) : SeqAt.shaped d.py = true := by
  obtain ⟨h1, h2⟩ := sh_lay d n h
  have h3 : decide (d.py.depth ≤ 64) = true := decide_eq_true (by omega)
  show (d.py.canLay0 && decide (d.py.depth ≤ 64)) = true
  rw [h1, h3]
  rfl
mutual
theorem eqD_py : ∀ (d e : D) (n m : Nat), sh d n = true → sh e m = true → PyData.eqv d.py e.py = eqD d e
  | .non, e, _, _, _, h => by cases e <;> first | (simp [D.py, PyData.eqv, eqD]; done) | (simp [sh] at h; done)
  | .bl a, e, _, _, _, h => by cases e <;> first | (simp [D.py, PyData.eqv, eqD]; done) | (simp [sh] at h; done)
  | .int a, e, _, _, _, h => by cases e <;> first | (simp [D.py, PyData.eqv, eqD]; done) | (simp [sh] at h; done)
  | .str a, e, _, _, _, h => by cases e <;> first | (simp [D.py, PyData.eqv, eqD]; done) | (simp [sh] at h; done)
  | .tup ds, e, 0, _, s, h => by simp [sh] at s
  | .tup ds, .tup es, n + 1, 0, s, h => by simp [sh] at h
  | .tup ds, .tup es, n + 1, m + 1, s, h => by
    simp only [D.py, PyData.eqv, eqD]
    exact eqDs_py ds es n m (by simpa [sh] using s) (by simpa [sh] using h)
  | .tup ds, .non, n + 1, m, s, h => by simp [D.py, PyData.eqv, eqD]
  | .tup ds, .bl _, n + 1, m, s, h => by simp [D.py, PyData.eqv, eqD]
  | .tup ds, .int _, n + 1, m, s, h => by simp [D.py, PyData.eqv, eqD]
  | .tup ds, .str _, n + 1, m, s, h => by simp [D.py, PyData.eqv, eqD]
  | .tup ds, .lst _, n + 1, m, s, h => by simp [D.py, PyData.eqv, eqD]
  | .tup ds, .ob _ _, n + 1, m, s, h => by simp [sh] at h
  | .tup ds, .raw _, n + 1, m, s, h => by simp [sh] at h
  | .tup ds, .fn _, n + 1, m, s, h => by simp [sh] at h
  | .lst ds, e, 0, _, s, h => by simp [sh] at s
  | .lst ds, .lst es, n + 1, 0, s, h => by simp [sh] at h
  | .lst ds, .lst es, n + 1, m + 1, s, h => by
    simp only [D.py, PyData.eqv, eqD]
    exact eqDs_py ds es n m (by simpa [sh] using s) (by simpa [sh] using h)
  | .lst ds, .non, n + 1, m, s, h => by simp [D.py, PyData.eqv, eqD]
  | .lst ds, .bl _, n + 1, m, s, h => by simp [D.py, PyData.eqv, eqD]
  | .lst ds, .int _, n + 1, m, s, h => by simp [D.py, PyData.eqv, eqD]
  | .lst ds, .str _, n + 1, m, s, h => by simp [D.py, PyData.eqv, eqD]
  | .lst ds, .tup _, n + 1, m, s, h => by simp [D.py, PyData.eqv, eqD]
  | .lst ds, .ob _ _, n + 1, m, s, h => by simp [sh] at h
  | .lst ds, .raw _, n + 1, m, s, h => by simp [sh] at h
  | .lst ds, .fn _, n + 1, m, s, h => by simp [sh] at h
  | .ob _ _, _, _, _, s, _ => by simp [sh] at s
  | .raw _, _, _, _, s, _ => by simp [sh] at s
  | .fn _, _, _, _, s, _ => by simp [sh] at s
theorem eqDs_py : ∀ (ds es : List D) (n m : Nat), shs ds n = true → shs es m = true → PyData.eqvAll (D.pys ds) (D.pys es) = eqDs ds es
  | [], [], _, _, _, _ => by simp [D.pys, PyData.eqvAll, eqDs]
  | [], _ :: _, _, _, _, _ => by simp [D.pys, PyData.eqvAll, eqDs]
  | _ :: _, [], _, _, _, _ => by simp [D.pys, PyData.eqvAll, eqDs]
  | d :: ds, e :: es, n, m, s, h => by
    simp only [shs, Bool.and_eq_true] at s h
    simp only [D.pys, PyData.eqvAll, eqDs]
    rw [eqD_py d e n m s.1 h.1, eqDs_py ds es n m s.2 h.2]
end
/-- a value as data that is compared -/
inductive DatU (μ : Mu) : U → D → Prop
  | d (x : D) : DatU μ (.d x) x
  | l {u : U} {ds : List D} : IsL μ u ds → DatU μ u (.lst ds)
theorem DatU.dp {u : U} {d : D} {v : V} (h : DatU μ u d) (e : Ev G F0 H0 F H as σ ρ μ) (r : RpU G as F v u) {n : Nat} (hs : sh d n = true) : Dp G.K H v d.py := by
  cases h with
  | d x => exact sh_dp e.bs.fh d n v hs r
  | l hl =>
    rename_i ds
    obtain ⟨a, vs, rfl, hq, ha⟩ := hl.seq e r
    cases n with
    | zero => simp [sh] at hs
    | succ n => exact .lst hq (shs_dp e.bs.fh ds n vs (by simpa [sh] using hs) ha)
theorem w2_eqD {x y : U} {d e' : D} (hx : DatU μ x d) (hy : DatU μ y e') (n m : Nat) (hn : n ≤ 64) (hm : m ≤ 64) (h1 : sh d n = true) (h2 : sh e' m = true) (k : R (.d (.bl (eqD d e'))) μ) : w2 G F0 H0 (rEqD G.K) x y ρ μ R := fun F H as σ v1 v2 Q e r1 r2 q => by
  refine ⟨d.py, e'.py, hx.dp e r1 h1, hy.dp e r2 h2, sh_shaped h1 hn, sh_shaped h2 hm, ?_⟩
  rw [eqD_py d e' n m h1 h2]
  exact q _ _ _ _ _ _ k e (.refl _) .refl (Rp.bl _)
theorem w2_neD {x y : U} {d e' : D} (hx : DatU μ x d) (hy : DatU μ y e') (n m : Nat) (hn : n ≤ 64) (hm : m ≤ 64) (h1 : sh d n = true) (h2 : sh e' m = true) (k : R (.d (.bl (!eqD d e'))) μ) : w2 G F0 H0 (rNeD G.K) x y ρ μ R := fun F H as σ v1 v2 Q e r1 r2 q => by
  refine ⟨d.py, e'.py, hx.dp e r1 h1, hy.dp e r2 h2, sh_shaped h1 hn, sh_shaped h2 hm, ?_⟩
  rw [eqD_py d e' n m h1 h2]
  exact q _ _ _ _ _ _ k e (.refl _) .refl (Rp.bl _)
/-! ### isinstance with a built-in class -/
def tyC : Option Cell → Option String
  | some (.rw _) => some "list"
  | some (.ro _) => some "list"
  | some (.pl _) => some "list"
  | some (.vw _ _) => some "list"
  | some (.tp _) => some "tuple"
  | some (.dct _) => some "dict"
  | _ => none
def tyD : D → Option String
  | .non => some "NoneType"
  | .bl _ => some "bool"
  | .int _ => some "int"
  | .str _ => some "str"
  | .tup _ => some "tuple"
  | .lst _ => some "list"
  | .ob _ _ => none
  | .raw _ => none
  | .fn _ => none
def tyU (μ : Mu) : U → Option String
  | .d x => tyD x
  | .p k => tyC μ[k]?
theorem sqL_ty {K : PySem.W.Frag} {H : Hp} {a : Addr} {xs : List V} (h : SqL K H a xs) : TyX K H (.ref a) (.type "list") := by
  rcases h with (h | ⟨o, h⟩) | ⟨o, its, n, h1, h2, _⟩
  · exact .base (.lst h)
  · exact .base (.frz h)
  · exact .kList h1 h2
theorem sqT_ty {K : PySem.W.Frag} {H : Hp} {a : Addr} {xs : List V} (h : SqT K H a xs) : TyX K H (.ref a) (.type "tuple") := by
  rcases h with (h | ⟨o, h⟩) | ⟨o, its, n, h1, h2, _⟩
  · exact .base (.tup h)
  · exact .fTuple h
  · exact .kTuple h1 h2
theorem tyU_ok {u : U} {v : V} {s : String} (h : tyU μ u = some s) (e : Ev G F0 H0 F H as σ ρ μ) (r : RpU G as F v u) : TyX G.K H v (.type s) := by
  cases u with
  | d x =>
    cases x with
    | non => cases h; cases (show Rp G F v .non from r); exact .base .non
    | bl b => cases h; cases (show Rp G F v (.bl b) from r); exact .base (.bl b)
    | int b => cases h; cases (show Rp G F v (.int b) from r); exact .base (.int b)
    | str b => cases h; cases (show Rp G F v (.str b) from r); exact .base (.str b)
    | tup ds =>
      cases h
      obtain ⟨a, vs, rfl, hs, _⟩ := tup_seq e r
      exact sqT_ty hs
    | lst ds =>
      cases h
      obtain ⟨a, vs, rfl, hs, _⟩ := IsL.seq (.inl rfl) e r
      exact sqL_ty hs
    | ob n ds => cases h
    | raw v => cases h
    | fn φ => cases h
  | p k =>
    obtain ⟨a, rfl, ha⟩ := r
    have h' : tyC μ[k]? = some s := h
    cases hk : μ[k]? with
    | none => rw [hk] at h'; cases h'
    | some c =>
      rw [hk] at h'
      have z := e.ce k c a hk ha
      cases c with
      | rw ds => cases h'; obtain ⟨_, _, vs, h3, _⟩ := z; exact .base (.lst h3)
      | ro ds => cases h'; obtain ⟨vs, h3, _⟩ := z; exact sqL_ty (Same.sqL e.bs.h0 h3)
      | pl ds => cases h'; obtain ⟨_, _, vs, h3, _⟩ := z; exact .base (.lst h3)
      | dct ds => cases h'; obtain ⟨_, _, vs, h3, _⟩ := z; exact .base (.dK h3)
      | ins _ _ => cases h'
      | gone => cases h'
      | tu _ => cases h'
      | tp _ => cases h'; obtain ⟨_, _, vs, h3, _⟩ := z; exact .base (.tup h3)
      | vw _ _ => cases h'; obtain ⟨_, _, h3, _⟩ := z; exact .base (.lst h3)
theorem wE_isi {ta : TE} {n : String} (h : wE G F0 H0 ta ρ μ fun u μ1 => ∃ s b, tyU μ1 u = some s ∧ kitB s n = some b ∧ R (.d (.bl b)) μ1) : wE G F0 H0 (tCB (rIsi G.K) (tCons ta (tCons (tC (.ty n)) tNil))) ρ μ R := fun F H as σ Q e q => by
  refine h F H as σ _ e fun u μ1 v F1 H1 as1 h1 e1 s1 g1 r1 => ?_
  obtain ⟨s, b, hs, hb, k⟩ := h1
  exact ⟨v, .ty n, _, _, b, rfl, .ty n, tyU_ok hs e1 r1, kit_ty hb, q _ _ _ _ _ _ k e1 s1 g1 (Rp.bl _)⟩
/-! ### ranges -/
variable {D' : DE}
theorem wS_rng1 {ta : TA} {g : TG} {tb : TS} (h : wA G F0 H0 ta ρ μ fun us μ1 => ∃ j : Int, us = [.d (.int j)] ∧ -(2 ^ 62) ≤ j ∧ j < 2 ^ 62 ∧ ∃ I : Nat → Ro → Mu → Prop, I 0 ρ μ1 ∧
      (∀ i ρ' μ', i < j.toNat → I i ρ' μ' → wG G F0 H0 g (.d (.int i)) ρ' μ' fun ρ2 μ2 => wS G F0 H0 tb ρ2 μ2 { nx := I (i + 1), ct := I (i + 1), bk := D'.nx, rt := D'.rt }) ∧ ∀ ρ' μ', I j.toNat ρ' μ' → D'.nx ρ' μ') :
    wS G F0 H0 (tFor (iRng1 ta) g tb) ρ μ D' := fun F H as σ X e q => by
  refine h F H as σ _ e fun us μ1 vs F1 H1 as1 h1 e1 s1 g1 r1 => ?_
  obtain ⟨j, rfl, b1, b2, I, i0, is, ie⟩ := h1
  obtain ⟨v, rfl, r9⟩ := p1 r1
  cases (show Rp G F1 v (.int j) from r9)
  refine ⟨j, rfl, b1, b2, ?_⟩
  exact wS_rng (J := fun _ H R => R (Itr 0 j.toNat) H) (lo := 0) (n := j.toNat) (g := g) (tb := tb) (D' := D') (fun F H as σ RR e k => k F H as μ1 e rfl (.refl _) .refl) I i0 (fun i ρ' μ' hi hI => by rw [Int.zero_add]; exact is i ρ' μ' hi hI) ie F1 H1 as1 σ X e1 (q.on s1 g1)
theorem wS_rng2 {ta : TA} {g : TG} {tb : TS} (h : wA G F0 H0 ta ρ μ fun us μ1 => ∃ i j : Int, us = [.d (.int i), .d (.int j)] ∧ (-(2 ^ 62) ≤ i ∧ i < 2 ^ 62 ∧ -(2 ^ 62) ≤ j ∧ j < 2 ^ 62) ∧ ∃ I : Nat → Ro → Mu → Prop, I 0 ρ μ1 ∧
      (∀ n ρ' μ', n < (j - i).toNat → I n ρ' μ' → wG G F0 H0 g (.d (.int (i + n))) ρ' μ' fun ρ2 μ2 => wS G F0 H0 tb ρ2 μ2 { nx := I (n + 1), ct := I (n + 1), bk := D'.nx, rt := D'.rt }) ∧ ∀ ρ' μ', I (j - i).toNat ρ' μ' → D'.nx ρ' μ') :
    wS G F0 H0 (tFor (iRng2 ta) g tb) ρ μ D' := fun F H as σ X e q => by
  refine h F H as σ _ e fun us μ1 vs F1 H1 as1 h1 e1 s1 g1 r1 => ?_
  obtain ⟨i, j, rfl, b1, I, i0, is, ie⟩ := h1
  obtain ⟨v, w, rfl, r8, r9⟩ := p2 r1
  cases (show Rp G F1 v (.int i) from r8)
  cases (show Rp G F1 w (.int j) from r9)
  refine ⟨i, j, rfl, b1, ?_⟩
  exact wS_rng (J := fun _ H R => R (Itr i (j - i).toNat) H) (lo := i) (n := (j - i).toNat) (g := g) (tb := tb) (D' := D') (fun F H as σ RR e k => k F H as μ1 e rfl (.refl _) .refl) I i0 is ie F1 H1 as1 σ X e1 (q.on s1 g1)
/-! ### methods of lists -/
theorem wE_append {to : TE} {t : TA} (h : wE G F0 H0 to ρ μ fun x μ1 => ∃ k ds0, x = .p k ∧ μ1[k]? = some (.rw ds0) ∧ wA G F0 H0 t ρ μ1 fun us μ2 => ∃ ds d, us = [.d d] ∧ μ2[k]? = some (.rw ds) ∧ ds.length < 1000000 ∧ R (.d .non) (μ2.set k (.rw (ds ++ [d])))) :
    wE G F0 H0 (tBM G.K "list" rAppend to t) ρ μ R := fun F H as σ Q e q => by
  refine h F H as σ _ e fun u μ1 v F1 H1 as1 h1 e1 s1 g1 r1 => ?_
  obtain ⟨k, ds0, rfl, hk0, h1⟩ := h1
  obtain ⟨a, rfl, ha⟩ := r1
  obtain ⟨_, _, vs0, hv0, _⟩ := e1.ce k _ a hk0 ha
  refine ⟨.inl ⟨rfl, vs0, .of hv0⟩, h1 F1 H1 as1 σ _ e1 fun us μ2 vs F2 H2 as2 h2 e2 s2 g2 r2 => ?_⟩
  obtain ⟨ds, d, rfl, hk, hl, kk⟩ := h2
  obtain ⟨y, rfl, ry⟩ := p1 r2
  obtain ⟨n0, nF, ws, hw, rw'⟩ := e2.ce k _ a hk (g2 _ _ ha)
  refine ⟨a, ws, y, rfl, rfl, hw, by rw [rw'.length, sizeLine_eq]; omega, ?_⟩
  have e3 := e2.write (o := .lst (ws ++ [y])) (c' := .rw (ds ++ [d])) hk (g2 _ _ ha) rfl rfl ⟨n0, nF, _, upd_same, RpAll.append rw' (.one ry)⟩
  exact q _ _ _ _ _ _ kk e3 (s1.trans s2) (g1.trans g2) Rp.non
/-- xs[i] = v -/
theorem wG_sub {to ti : TE} {u : U} {R : Ro → Mu → Prop} (h : ∃ d, u = .d d ∧ wE G F0 H0 to ρ μ fun x μ1 => ∃ k, x = .p k ∧ wE G F0 H0 ti ρ μ1 fun y μ2 => ∃ ds i j, y = .d (.int i) ∧ μ2[k]? = some (.rw ds) ∧ ixN ds.length i = some j ∧ R ρ (μ2.set k (.rw (ds.set j d)))) :
    wG G F0 H0 (gSub to ti rSetL) u ρ μ R := fun F H as σ v Q e r q => by
  obtain ⟨d, rfl, h⟩ := h
  refine h F H as σ _ e fun x μ1 v1 F1 H1 as1 h1 e1 s1 g1 r1 => ?_
  obtain ⟨k, rfl, h1⟩ := h1
  obtain ⟨a, rfl, ha⟩ := r1
  refine h1 F1 H1 as1 σ _ e1 fun y μ2 v2 F2 H2 as2 h2 e2 s2 g2 r2 => ?_
  obtain ⟨ds, i, j, rfl, hk, hj, kk⟩ := h2
  cases (show Rp G F2 v2 (.int i) from r2)
  obtain ⟨n0, nF, ws, hw, rw'⟩ := e2.ce k _ a hk (g2 _ _ ha)
  refine ⟨a, ws, i, j, rfl, rfl, hw, by rw [rw'.length]; exact hj, ?_⟩
  have e3 := e2.write (o := .lst (ws.set j v)) (c' := .rw (ds.set j d)) hk (g2 _ _ ha) rfl rfl ⟨n0, nF, _, upd_same, RpAll.set (Rp.mono (s1.trans s2) _ r) j rw'⟩
  exact q _ _ _ _ _ _ kk e3 (s1.trans s2) (g1.trans g2)
/-! ### a comprehension over a list, over a range -/
def wipeR (ρ : Ro) : List Nat → Ro
  | [] => ρ
  | v :: vs => (wipeR ρ vs).set v none
/-- a target that stores in the places vs alone -/
def Within (g : TG) (vs : List Nat) : Prop := ∀ (v : V) (σ : L2.St) (H : Hp) (Q Q' : L2.St → Hp → Prop), (∀ σ' H', Q σ' H' → (∀ j, j ∉ vs → σ'[j]? = σ[j]?) → σ'.length = σ.length → Q' σ' H') → g v σ H Q → g v σ H Q'
def Withins (g : TGs) (vs : List Nat) : Prop := ∀ (v : List V) (σ : L2.St) (H : Hp) (Q Q' : L2.St → Hp → Prop), (∀ σ' H', Q σ' H' → (∀ j, j ∉ vs → σ'[j]? = σ[j]?) → σ'.length = σ.length → Q' σ' H') → g v σ H Q → g v σ H Q'
theorem within_name {i : Nat} {vs : List Nat} (h : i ∈ vs) : Within (gName i) vs := fun v σ H Q Q' k q => k _ _ q (fun j hj => by
  rw [List.getElem?_set_ne (by intro z; rw [z] at h; exact hj h)]) (by rw [List.length_set])
theorem withins_nil {vs : List Nat} : Withins gNil vs := fun v σ H Q Q' k q => ⟨q.1, k _ _ q.2 (fun _ _ => rfl) rfl⟩
theorem withins_cons {t : TG} {u : TGs} {vs : List Nat} (h1 : Within t vs) (h2 : Withins u vs) : Withins (gCons t u) vs := fun v σ H Q Q' k q => by
  obtain ⟨x, r, rfl, q⟩ := q
  refine ⟨x, r, rfl, h1 _ _ _ _ _ (fun σ1 H1 z z2 z3 => ?_) q⟩
  refine h2 _ _ _ _ _ (fun σ2 H2 w w2 w3 => ?_) z
  exact k _ _ w (fun j hj => (w2 j hj).trans (z2 j hj)) (w3.trans z3)
theorem within_tup {K : PySem.W.Frag} {n : Nat} {t : TGs} {vs : List Nat} (h : Withins t vs) : Within (gTup K n t) vs := fun v σ H Q Q' k q => by
  obtain ⟨a, xs, e, hs, hl, q⟩ := q
  exact ⟨a, xs, e, hs, hl, h _ _ _ _ _ k q⟩
theorem wipe_eq {vs : List Nat} : ∀ {σ σ' : L2.St}, (∀ j, j ∉ vs → σ'[j]? = σ[j]?) → σ'.length = σ.length → wipe σ' vs = wipe σ vs := by
  intro σ σ' h hl
  apply List.ext_getElem?
  intro i
  by_cases hi : i ∈ vs
  · have inn : ∀ (vs : List Nat) (σ : L2.St), i ∈ vs → (wipe σ vs)[i]? = if i < σ.length then some none else none := by
      intro vs
      induction vs with
      | nil => intro σ hm; cases hm
      | cons v vs ih =>
        intro σ hm
        show ((wipe σ vs).set v none)[i]? = _
        by_cases e : v = i
        · subst e
          rw [List.getElem?_set, wipe_length]
          simp
        · rw [List.getElem?_set_ne e]
          exact ih σ (by simpa [Ne.symm e] using hm)
    rw [inn vs σ' hi, inn vs σ hi, hl]
  · rw [wipe_out hi, wipe_out hi]
    exact h i hi
theorem wipe_twice (vs : List Nat) (σ : L2.St) : wipe (wipe σ vs) vs = wipe σ vs := wipe_eq (fun j hj => wipe_out hj) (wipe_length _ _)
theorem wipeR_len (ρ : Ro) : ∀ vs : List Nat, (wipeR ρ vs).length = ρ.length
  | [] => rfl
  | v :: vs => by simp [wipeR, wipeR_len ρ vs]
theorem wipeR_some {i : Nat} {u : U} : ∀ {vs : List Nat}, (wipeR ρ vs)[i]? = some (some u) → ρ[i]? = some (some u) ∧ i ∉ vs
  | [], h => ⟨h, by simp⟩
  | v :: vs, h => by
    have h' : ((wipeR ρ vs).set v none)[i]? = some (some u) := h
    by_cases e : v = i
    · subst e
      rw [List.getElem?_set] at h'
      simp at h'
    · rw [List.getElem?_set_ne e] at h'
      obtain ⟨h1, h2⟩ := wipeR_some (vs := vs) h'
      exact ⟨h1, by simp [Ne.symm e, h2]⟩
theorem Ev.wipe (e : Ev G F0 H0 F H as σ ρ μ) (vs : List Nat) : Ev G F0 H0 F H as (wipe σ vs) (wipeR ρ vs) μ :=
  ⟨e.bs, by rw [wipe_length, wipeR_len]; exact e.len, fun i u h => by
    obtain ⟨h1, h2⟩ := wipeR_some h
    obtain ⟨v, h3, h4⟩ := e.sl i u h1
    exact ⟨v, by rw [wipe_out h2]; exact h3, h4⟩, e.al, e.nd, e.ce⟩
/-- slots as they were -/
theorem Ev.slots {σ' : L2.St} {ρ' : Ro} {F' H' : Hp} {as' : List Addr} {μ' : Mu} (e : Ev G F0 H0 F H as σ ρ μ) (e' : Ev G F0 H0 F' H' as' σ' ρ' μ') (hF : Same F F') (ha : Grw as as') : Ev G F0 H0 F' H' as' σ ρ μ' :=
  ⟨e'.bs, e.len, fun i u h => by
    obtain ⟨v, h1, h2⟩ := e.sl i u h
    exact ⟨v, h1, h2.mono hF ha⟩, e'.al, e'.nd, e'.ce⟩
/-- one turn of a comprehension; n: the new list's number -/
def LcTurn (G : Gx) (F0 H0 : Hp) (tt : TT) (te : TE) (n : Nat) (ρ2 : Ro) (I : Mu → Prop) (J : Mu → Prop) (μ2 : Mu) : Prop :=
  wT G F0 H0 tt ρ2 μ2 fun b μ3 => if b = true then wE G F0 H0 te ρ2 μ3 fun y μ4 => ∃ x acc, y = .d x ∧ μ4[n]? = some (.rw acc) ∧ acc.length < 1000000 ∧ J (μ4.set n (.rw (acc ++ [x]))) else J μ3
theorem lc_any {g : TG} {tt : TT} {te : TE} {vs : List Nat} {F1 H1 : Hp} {as1 : List Addr} {μ1 : Mu} {Q : VK} {JJ : It} {nn : Nat} {itd : Nat → D → Prop} (hw : Within g vs)
    (e1 : Ev G F0 H0 F1 H1 as1 σ ρ μ1) (q : KE G F0 H0 F1 as1 σ ρ R Q) (I : Nat → Mu → Prop)
    (go : ∀ (i : Nat) (F2 H2 : Hp) (as2 : List Addr) (μ2 : Mu), Ev G F0 H0 F2 H2 as2 σ ρ μ2 → Same F1 F2 → Grw as1 as2 → I i μ2 → (i < nn → JJ.go i H2 ∧ ∀ x H', JJ.yld i H2 x H' → H' = H2 ∧ ∃ d, itd i d ∧ Rp G F2 x d) ∧ (i = nn → JJ.stop i H2))
    (i0 : I 0 (μ1 ++ [.rw []]))
    (is : ∀ i d μ', i < nn → itd i d → I i μ' → wG G F0 H0 g (.d d) (wipeR ρ vs) μ' fun ρ2 μ2 => LcTurn G F0 H0 tt te μ1.length ρ2 (I i) (I (i + 1)) μ2)
    (ie : ∀ μ', I nn μ' → R (.p μ1.length) μ') :
    ∀ D, H1 D = none → ∃ W : Nat → Nat → Hp → Prop, (∃ m, W 0 m (upd H1 D (.lst []))) ∧ ∀ i m H, W i m H →
  (JJ.stop i H ∧ Q (.ref D) H) ∨ (JJ.go i H ∧ ∃ Nx : Hp → Prop, (∀ H', Nx H' → ∃ m', m' < m ∧ W (i + 1) m' H') ∧ ∀ x H', JJ.yld i H x H' → g x (L2.wipe σ vs) H' fun σ2 H2 => L2.wipe σ2 vs = L2.wipe σ vs ∧ tt σ2 H2 fun b H3 =>
    if b = true then te σ2 H3 fun y H4 => ∃ acc, H4 D = some (.lst acc) ∧ acc.length < sizeLine ∧ Nx (upd H4 D (.lst (acc ++ [y]))) else Nx H3) := by
  intro p hp
  have ec := e1.cell (o := .lst []) (c := .rw []) hp ⟨e1.bs.h0.free hp, e1.bs.fh.free hp, [], upd_same, .nil⟩
  have hpn : (as1 ++ [p])[μ1.length]? = some p := by
    rw [← e1.al, List.getElem?_append_right (Nat.le_refl _)]
    simp
  refine ⟨fun i m H2 => ∃ F2 as2 μ2, Ev G F0 H0 F2 H2 as2 σ ρ μ2 ∧ Same F1 F2 ∧ Grw (as1 ++ [p]) as2 ∧ I i μ2 ∧ i + m = nn, ⟨nn, F1, as1 ++ [p], _, ec, .refl _, .refl, i0, by omega⟩, ?_⟩
  rintro i m H2 ⟨F2, as2, μ2, e2, s2, g2, i2, em⟩
  obtain ⟨go1, go2⟩ := go i F2 H2 as2 μ2 e2 s2 (Grw.app.trans g2) i2
  by_cases hi : i < nn
  · obtain ⟨ha, hb⟩ := go1 hi
    refine .inr ⟨ha, fun H' => ∃ F3 as3 μ3, Ev G F0 H0 F3 H' as3 σ ρ μ3 ∧ Same F1 F3 ∧ Grw (as1 ++ [p]) as3 ∧ I (i + 1) μ3, ?_, fun x H' y => ?_⟩
    · rintro H' ⟨F3, as3, μ3, e3, s3, g3, i3⟩
      exact ⟨m - 1, by omega, F3, as3, μ3, e3, s3, g3, i3, by omega⟩
    · obtain ⟨rfl, d, hd, rd⟩ := hb x H' y
      have ew := e2.wipe vs
      have base := is i d μ2 hi hd i2 F2 H' as2 (L2.wipe σ vs) x (fun σ2 H2 => tt σ2 H2 fun b H3 =>
        if b = true then te σ2 H3 fun y H4 => ∃ acc, H4 p = some (.lst acc) ∧ acc.length < sizeLine ∧ ∃ F3 as3 μ3, Ev G F0 H0 F3 (upd H4 p (.lst (acc ++ [y]))) as3 σ ρ μ3 ∧ Same F1 F3 ∧ Grw (as1 ++ [p]) as3 ∧ I (i + 1) μ3
        else ∃ F3 as3 μ3, Ev G F0 H0 F3 H3 as3 σ ρ μ3 ∧ Same F1 F3 ∧ Grw (as1 ++ [p]) as3 ∧ I (i + 1) μ3) ew rd (fun ρ3 μ3 σ3 F3 H3 as3 h3 e3 s3 g3 => ?_)
      · refine hw _ _ _ _ _ (fun σ' H' z z2 z3 => ⟨?_, z⟩) base
        exact (wipe_eq z2 z3).trans (wipe_twice vs σ)
      · refine h3 F3 H3 as3 σ3 _ e3 fun b μ4 F4 H4 as4 h4 e4 s4 g4 => ?_
        cases b with
        | false =>
          refine iteF ⟨F4, as4, μ4, ec.slots e4 (s2.trans (s3.trans s4)) (g2.trans (g3.trans g4)), s2.trans (s3.trans s4), g2.trans (g3.trans g4), ff_of h4⟩
        | true =>
          refine iteT ((tt_of h4) F4 H4 as4 σ3 _ e4 fun u μ5 v F5 H5 as5 h5 e5 s5 g5 r5 => ?_)
          obtain ⟨x', acc, rfl, hn, hl, hJ⟩ := h5
          have hp5 : as5[μ1.length]? = some p := g5 _ _ (g4 _ _ (g3 _ _ (g2 _ _ hpn)))
          obtain ⟨n0, nF, ws, hw', ra⟩ := e5.ce _ _ p hn hp5
          refine ⟨ws, hw', by rw [ra.length, sizeLine_eq]; omega, F5, as5, _, ec.slots (e5.write (o := .lst (ws ++ [v])) (c' := .rw (acc ++ [x'])) hn hp5 rfl rfl ⟨n0, nF, _, upd_same, RpAll.append ra (.one r5)⟩) (s2.trans (s3.trans (s4.trans s5))) (g2.trans (g3.trans (g4.trans g5))), s2.trans (s3.trans (s4.trans s5)), g2.trans (g3.trans (g4.trans g5)), hJ⟩
  · have ei : i = nn := by omega
    subst ei
    exact .inl ⟨go2 rfl, q _ _ _ _ _ _ (ie _ i2) e2 s2 (Grw.app.trans g2) ⟨p, rfl, g2 _ _ hpn⟩⟩
theorem wE_lc {tl : TE} {g : TG} {tt : TT} {te : TE} {vs : List Nat} (hw : Within g vs) (h : wE G F0 H0 tl ρ μ fun u μ1 => ∃ ds, IsL μ1 u ds ∧ ∃ I : Nat → Mu → Prop, I 0 (μ1 ++ [.rw []]) ∧ (∀ i μ', I i μ' → IsL μ' u ds) ∧
      (∀ (i : Nat) (d : D) (μ' : Mu), ds[i]? = some d → I i μ' → wG G F0 H0 g (.d d) (wipeR ρ vs) μ' fun ρ2 μ2 => LcTurn G F0 H0 tt te μ1.length ρ2 (I i) (I (i + 1)) μ2) ∧ ∀ μ', I ds.length μ' → R (.p μ1.length) μ') :
    wE G F0 H0 (tLc (iList G.K tl) g tt te vs) ρ μ R := fun F H as σ Q e q => by
  refine h F H as σ _ e fun u μ1 v F1 H1 as1 h1 e1 s1 g1 r1 => ?_
  obtain ⟨ds, hl, I, i0, ip, is, ie⟩ := h1
  obtain ⟨a, vs0, rfl, hs0, _⟩ := hl.seq e1 r1
  refine ⟨a, rfl, ⟨vs0, hs0⟩, lc_any (nn := ds.length) (itd := fun i d => ds[i]? = some d) hw e1 (q.on s1 g1) I (fun i F2 H2 as2 μ2 e2 s2 g2 i2 => ?_) i0 (fun i d μ' _ hd hI => is i d μ' hd hI) ie⟩
  obtain ⟨a', ws, ea, hs, ha⟩ := (ip i μ2 i2).seq e2 (r1.mono s2 g2)
  cases ea
  refine ⟨fun hi => ?_, fun hi => ⟨ws, hs, by rw [ha.length]; omega⟩⟩
  have hv : i < ws.length := by rw [ha.length]; exact hi
  refine ⟨⟨ws, ws[i], hs, by simp [hv]⟩, fun x H' y => ?_⟩
  obtain ⟨rfl, y⟩ := y
  obtain ⟨d, hd, rd⟩ := ha.getV (y ws hs)
  exact ⟨rfl, d, hd, rd⟩
theorem wE_lcR {ta : TA} {g : TG} {tt : TT} {te : TE} {vs : List Nat} (hw : Within g vs) (h : wA G F0 H0 ta ρ μ fun us μ1 => ∃ j : Int, us = [.d (.int j)] ∧ -(2 ^ 62) ≤ j ∧ j < 2 ^ 62 ∧ ∃ I : Nat → Mu → Prop, I 0 (μ1 ++ [.rw []]) ∧
      (∀ i μ', i < j.toNat → I i μ' → wG G F0 H0 g (.d (.int i)) (wipeR ρ vs) μ' fun ρ2 μ2 => LcTurn G F0 H0 tt te μ1.length ρ2 (I i) (I (i + 1)) μ2) ∧ ∀ μ', I j.toNat μ' → R (.p μ1.length) μ') :
    wE G F0 H0 (tLc (iRng1 ta) g tt te vs) ρ μ R := fun F H as σ Q e q => by
  refine h F H as σ _ e fun us μ1 v F1 H1 as1 h1 e1 s1 g1 r1 => ?_
  obtain ⟨j, rfl, b1, b2, I, i0, is, ie⟩ := h1
  obtain ⟨v, rfl, r9⟩ := p1 r1
  cases (show Rp G F1 v (.int j) from r9)
  refine ⟨j, rfl, b1, b2, lc_any (nn := j.toNat) (itd := fun i d => d = .int i) hw e1 (q.on s1 g1) I (fun i F2 H2 as2 μ2 e2 s2 g2 i2 => ⟨fun hi => ⟨hi, fun x H' y => ?_⟩, fun hi => Nat.le_of_eq hi.symm⟩) i0 (fun i d μ' hi hd hI => by subst hd; exact is i μ' hi hI) ie⟩
  obtain ⟨rfl, rfl⟩ := y
  refine ⟨rfl, _, rfl, ?_⟩
  rw [Int.zero_add]
  exact Rp.int _
end
end L3

set_option Elab.async false
set_option linter.all false
set_option maxRecDepth 100000
set_option maxHeartbeats 4000000
/-! Contracts; short words for readings. -/
namespace L3
open PySem PySem.Spec PyProof.Rows L2

/-- how a def ends -/
inductive Out where
  | ret (r : Res) | exc (n : Nat)
structure Ct (α : Type) where
  args : α → List Arg
  pre : α → Prop
  out : α → Out
/-- the program's classes of errors, by number: 0 BadFraction, 1 BadTaste, 2 BadPiece, 3 BadTakers, 4 TooLittle, 5 BadText -/
abbrev Ex := Nat → Addr
def spC {α : Type} (G : Gx) (X : Ex) (c : Ct α) : Sp := fun vs H Q E => ∃ a, c.pre a ∧ spD G (fun xs => xs = c.args a) (fun _ r => c.out a = .ret r) (fun _ e => ∃ n, c.out a = .exc n ∧ e = X n) vs H Q E
/-- what a call's end is to give -/
def Ends' (R : RE) (μ : Mu) (H0 : Hp) (X : Ex) (E : XK) : Out → Prop
  | .ret r => Got R μ r
  | .exc n => ∀ H', Same H0 H' → E (.ref (X n)) none H'
section
variable {G : Gx} {F0 H0 : Hp} {F F1 H : Hp} {as as1 : List Addr} {σ : L2.St} {ρ : Ro} {μ : Mu} {R : RE} {α : Type}
theorem wE_ct {X : Ex} {c : Ct α} {E : XK} {t : TA} (h : wA G F0 H0 t ρ μ fun us μ1 => ∃ a, Paired (ArgOf μ1) us (c.args a) ∧ c.pre a ∧ Ends' R μ1 H0 X E (c.out a)) :
    wE G F0 H0 (tCall (spC G X c) [] E t) ρ μ R := fun F H as σ Q e q => by
  refine h F H as σ _ e fun us μ1 vs F1 H1 as1 h1 e1 s1 g1 r1 => ?_
  obtain ⟨a, ha, hp, hg⟩ := h1
  refine ⟨a, hp, F1, c.args a, e1.bs.fh, by rw [List.append_nil]; exact args_ok e1 r1 ha, rfl, fun r v F' H' hr sF sf sH sn ro => ?_, fun e H' hx hs => ?_⟩
  · rw [hr] at hg
    exact got_ok e1 sF sf sH sn ro hg (q.on s1 g1)
  · obtain ⟨n, hn, rfl⟩ := hx
    rw [hn] at hg
    exact hg H' (e1.bs.h0.trans hs)
theorem wE_cm {X : Ex} {c : Ct α} {E : XK} {C : Addr} {m : Str} {ta : TE} {t : TA} (h : wE G F0 H0 ta ρ μ fun u μ1 => ∃ n ds, u = .d (.ob n ds) ∧ G.cl n = C ∧ (fl n).contains m = false ∧
      wA G F0 H0 t ρ μ1 fun us μ2 => ∃ a, Paired (ArgOf μ2) (.d (.ob n ds) :: us) (c.args a) ∧ c.pre a ∧ Ends' R μ2 H0 X E (c.out a)) :
    wE G F0 H0 (tMeth C m (spC G X c) [] E ta t) ρ μ R := fun F H as σ Q e q => by
  refine h F H as σ _ e fun u μ1 v F1 H1 as1 h1 e1 s1 g1 r1 => ?_
  obtain ⟨n, ds, rfl, hc, hm, h1⟩ := h1
  cases (show Rp G F1 v (.ob n ds) from r1) with
  | ob ho hf ha0 =>
    rename_i a dx fs
    refine ⟨a, dx, fs, rfl, by rw [← hc]; exact e1.bs.fh _ _ ho, look_none hf hm, ?_⟩
    refine h1 F1 H1 as1 σ _ e1 fun us μ2 vs F2 H2 as2 h2 e2 s2 g2 r2 => ?_
    obtain ⟨b, ha, hp, hg⟩ := h2
    have rs : Paired (RpU G as2 F2) (.ref a :: vs) (.d (.ob n ds) :: us) := .cons (Rp.mono s2 _ (Rp.ob ho hf ha0)) r2
    refine ⟨b, hp, F2, c.args b, e2.bs.fh, by rw [List.append_nil]; exact args_ok e2 rs ha, rfl, fun r v F' H' hr sF sf sH sn ro => ?_, fun e H' hx hs => ?_⟩
    · rw [hr] at hg
      exact got_ok e2 sF sf sH sn ro hg ((q.on s1 g1).on s2 g2)
    · obtain ⟨n, hn, rfl⟩ := hx
      rw [hn] at hg
      exact hg H' (e2.bs.h0.trans hs)
/-- what a def's body is to end in -/
def DEc (out : Out) : DE := { nx := fun _ μ => ∃ r, out = .ret r ∧ Ret μ (.d .non) r, rt := fun u μ => ∃ r, out = .ret r ∧ Ret μ u r }
theorem body_ct {X : Ex} {c : Ct α} {t : TS} {N : List Str} {vs : List V} {H : Hp} {Q : VK} {E : XK} (hsp : spC G X c vs H Q E) (hN : ∀ a, (c.args a).length ≤ N.length)
    (h : ∀ (a : α) (F : Hp), c.pre a → (∀ n, c.out a = .exc n → ∀ H', Same H H' → E (.ref (X n)) none H') → wS G F H t (slotsFrom 0 (c.args a) ++ List.replicate (N.length - (c.args a).length) none) (cellsOf (c.args a)) (DEc (c.out a))) :
    t { nx := fun _ H' => Q .non H', rt := Q } (L2.start N vs) H := by
  obtain ⟨a, hp, hsp⟩ := hsp
  refine body_ok hsp (fun xs hx => by rw [hx]; exact hN a) fun xs F hx hE => ?_
  subst hx
  refine h a F hp fun n hn H' hs => hE _ ⟨n, hn, rfl⟩ H' hs
theorem spC_len {X : Ex} {c : Ct α} {n : Nat} (hn : ∀ a, (c.args a).length = n) {vs : List V} {H : Hp} {Q : VK} {E : XK} (h : spC G X c vs H Q E) : vs.length = n := by
  obtain ⟨a, hp, F, xs, hF, ha, hx, _⟩ := h
  subst hx
  rw [paired_len ha]
  exact hn a
theorem wS_raise {W : WX} {t : L2.St → Hp → XK → Prop} {c : Addr} {D' : DE} (ht : ∀ σ H (Q : XK), Q (.ref c) none H → t σ H Q) (h : ∀ σ H', Same H0 H' → W (.ref c) none σ H') : wS G F0 H0 (fun _ σ H => t σ H fun cls d H' => W cls d σ H') ρ μ D' :=
  fun F H as σ X e q => ht _ _ _ (h σ H e.bs.h0)
end
/-- a def of the program, as callers want it -/
structure Def (P : Program) (w : World) (K : PySem.W.Frag) (mg : Str → Option Value) (base : Heap) (x : Str) (k : Nat) (ps : List Str) (sp : Sp) : Prop where
  ex : ∃ (f : Addr) (fd : FuncData), FnOk P w K mg base (L2N.CX P w) k f fd ps sp ∧ mg x = some (.ref f) ∧ PySem.W.keepIn K (.ref f) = true ∧ Binds K fd ps []
/-- what the top has laid of a def -/
structure Top (K : PySem.W.Frag) (mg : Str → Option Value) (x : Str) (st : Stmt) (ps : List Str) : Prop where
  ex : ∃ (f : Addr) (fd : FuncData), Fun K x x st f fd ∧ mg x = some (.ref f) ∧ Binds K fd ps []
theorem def_of {P : Program} {w : World} {K : PySem.W.Frag} {mg : Str → Option Value} {base : Heap} {x : Str} {k : Nat} {ps : List Str} {sp : Sp} {st : Stmt} (T : Top K mg x st ps)
    (h : ∀ (f : Addr) (fd : FuncData), Fun K x x st f fd → FnOk P w K mg base (L2N.CX P w) k f fd ps sp) : Def P w K mg base x k ps sp := by
  obtain ⟨f, fd, F, m, b⟩ := T.ex
  exact ⟨f, fd, h f fd F, m, F.kp, b⟩
/-- an error of a callee goes on -/
theorem passC {X : Cx} {E : XK} {E₁ : Value → Shared → Prop} (hs : X.stack = X.env :: X.outer) (hf : X.env.frame = some X.env.locals) (hex : X.ex = []) (hx : X.xe = fun e s' => wpAny (model X.prog X.w) X.A (leaving X.env e) (fun _ s'' => L2N.CX X.prog X.w X.outer X.H_0 X.s_0 E e s'') E₁ s') : Passes (L2N.CX X.prog X.w) X E :=
  L2N.passes_call (L2N.takes_of hs hf hex hx) fun _ _ _ _ h => h
theorem w2_ix {G : Gx} {F0 H0 : Hp} {ρ : Ro} {μ : Mu} {R : RE} {u : U} {ds : List D} {i : Int} {d : D} (hl : IsL μ u ds ∨ u = .d (.tup ds)) (h : atI ds i = some d) (k : R (.d d) μ) : w2 G F0 H0 (rIx G.K) u (.d (.int i)) ρ μ R := fun F H as σ v1 v2 Q e r1 r2 q => by
  rcases hl with hl | rfl
  · exact .inl (w2_ixL hl h k F H as σ v1 v2 Q e r1 r2 q)
  · exact .inr (.inl (w2_ixT h k F H as σ v1 v2 Q e r1 r2 q))
end L3
namespace L3
open PySem PySem.Spec PyProof.Rows L2
/-- a method of an own class, as callers want it -/
structure Met (P : Program) (w : World) (G : Gx) (mg : Str → Option Value) (base : Heap) (n : Nat) (m : Str) (k : Nat) (ps : List Str) (sp : Sp) : Prop where
  ex : ∃ (f : Addr) (fd : FuncData), FnOk P w G.K mg base (L2N.CX P w) k f fd ps sp ∧ Meth G.K (G.cl n) m f ∧ Binds G.K fd ps []
def CstT (G : Gx) (mg : Str → Option Value) (x : Str) (d : D) : Prop := ∃ a, mg x = some (.ref a) ∧ Cst G a d
def CstI (mg : Str → Option Value) (x : Str) (i : Int) : Prop := ∃ t, mg x = some (.int i t)
def CstS (mg : Str → Option Value) (x : Str) (i : Str) : Prop := ∃ t, mg x = some (.str i t)
structure ClsG (mg : Str → Option Value) (x : Str) (C : Addr) : Prop where
  at_ : mg x = some (.ref C)
structure ExcOk (K : PySem.W.Frag) (mg : Str → Option Value) (x : Str) (C : Addr) : Prop where
  xP : PySem.W.excIn K C [.type "ValueError", .type "Exception", .type "BaseException", .type "object"] "ValueError.__new__" = true
  gP : mg x = some (.ref C)
  kP : PySem.W.keepIn K (.ref C) = true
  bP : PySem.W.subIn K (.ref C) (.type "BaseException") = some true
  tP : PySem.W.typeIn K (.ref C) = some (.type "type")
/-- an int in a slot -/
def getI (ρ : Ro) (i : Nat) : Int := match ρ[i]? with
  | some (some (.d (.int t))) => t
  | _ => 0
/-- a local list's length -/
def getN (μ : Mu) (k : Nat) : Nat := match μ[k]? with
  | some (.rw ds) => ds.length
  | _ => 0
theorem ret_d {μ : Mu} {x y : D} (h : x = y) : ∃ r, Out.ret (Res.d x) = Out.ret r ∧ Ret μ (.d y) r := by
  subst h
  exact ⟨_, rfl, .d x⟩
theorem passLN {X : Cx} : Passes (L2N.CX X.prog X.w) X E0 := fun _ _ _ _ _ _ _ h => by
  obtain ⟨_, _, _, _, _, _, _, _, _, _, _, _, z⟩ := h
  exact z.elim
theorem passLNs {X : Cx} : ∀ σ, PassesAt (L2N.CX X.prog X.w) X σ ((fun _ => E0 : L2.St → XK) σ) := fun _ _ _ _ _ _ _ h => by
  obtain ⟨_, _, _, _, _, _, _, _, _, _, _, _, z⟩ := h
  exact z.elim
theorem okXN {P : Program} {w : World} {K : PySem.W.Frag} {mg : Str → Option Value} {base : Heap} {x qual : Str} {st : Stmt} {f : Addr} {fd : FuncData} {N ps : List Str} {k : Nat} {sp : Sp} (F : Fun K x qual st f fd) (S : FnScope N ps (defScope st)) (len : ∀ vs H Q E, sp vs H Q E → vs.length = ps.length)
    (hbody : ∀ (cdv : Value) (A : Around) (outer : List Env) (s : Shared) (H : Hp) (vs : List V) (Q : VK) (E : XK), Room k (A.deeper (envOfC qual (defScope st) s.heap.objs.size f cdv)) → sp vs H Q E →
      ∃ t, PSs (cxOf (L2N.CX P w) P w K mg base N qual (defScope st) f cdv A outer s H E) (defBody st) t ∧ t { nx := fun _ H' => Q .non H', rt := Q } (L2.start N vs) H) : FnOk P w K mg base (L2N.CX P w) (k + 1) f fd ps sp := by
  obtain ⟨oc, od, kV, doc, pm, an, cdv, ct, osl, rfl, lk, hcd⟩ := F.ex
  exact fn_of lk hcd S len fun A outer s H vs Q E hr hsp => hbody cdv A outer s H vs Q E hr hsp
/-- a def as a handler's suite calls it -/
structure DefH (P : Program) (w : World) (K : PySem.W.Frag) (mg : Str → Option Value) (base : Heap) (x : Str) (k : Nat) (ps : List Str) (sp : Sp) : Prop where
  ex : ∃ (f : Addr) (fd : FuncData), L2H.FnH P w K mg base (L2N.CX P w) k f fd ps sp ∧ mg x = some (.ref f) ∧ PySem.W.keepIn K (.ref f) = true ∧ Binds K fd ps []
theorem okH {P : Program} {w : World} {K : PySem.W.Frag} {mg : Str → Option Value} {base : Heap} {x : Str} {st : Stmt} {N ps : List Str} {k : Nat} {sp : Sp} (T : Top K mg x st ps) (S : FnScope N ps (defScope st)) (len : ∀ vs H Q E, sp vs H Q E → vs.length = ps.length)
    (hbody : ∀ (f : Addr) (cdv : Value) (A : Around) (outer : List Env) (s : Shared) (H : Hp) (vs : List V) (Q : VK) (E : XK) (p : Addr × Obj), sp vs H Q E →
      ∃ t, PSs (L2H.cxH (L2N.CX P w) P w K mg base N x (defScope st) f cdv A outer s H E p) (defBody st) t ∧ t { nx := fun _ H' => Q .non H', rt := Q } (L2.start N vs) H) : DefH P w K mg base x (k + 1) ps sp := by
  obtain ⟨f, fd, F, m, b⟩ := T.ex
  have kp := F.kp
  obtain ⟨oc, od, kV, doc, pm, an, cdv, ct, osl, rfl, lk, hcd⟩ := F.ex
  exact ⟨f, _, L2H.fn_ofH lk hcd S len fun A outer s H vs Q E p _ _ hsp => hbody f cdv A outer s H vs Q E p hsp, m, kp, b⟩
theorem roomM {k : Nat} {A : Around} (r : Room k A) (h : Option Value) : L2H.RoomH k (A.mark h) := ⟨r.dp, r.un⟩
/-! isinstance by tags -/
inductive Tg where
  | non | bl | int | str | tup | lst | dct
def tgS : Tg → String
  | .non => "NoneType" | .bl => "bool" | .int => "int" | .str => "str" | .tup => "tuple" | .lst => "list" | .dct => "dict"
def kt : Tg → Tg → Bool
  | .non, .non => true | .bl, .bl => true | .bl, .int => true | .int, .int => true | .str, .str => true | .tup, .tup => true | .lst, .lst => true | .dct, .dct => true
  | _, _ => false
theorem kt_ok : ∀ a b : Tg, b ≠ .non → kitB (tgS a) (tgS b) = some (kt a b) := by
  intro a b h
  cases a <;> cases b <;> first | exact absurd rfl h | decide +kernel
def tgD : D → Option Tg
  | .non => some .non | .bl _ => some .bl | .int _ => some .int | .str _ => some .str | .tup _ => some .tup | .lst _ => some .lst | .ob _ _ => none | .raw _ => none | .fn _ => none
def tgC : Option Cell → Option Tg
  | some (.rw _) => some .lst | some (.ro _) => some .lst | some (.pl _) => some .lst | some (.vw _ _) => some .lst | some (.tp _) => some .tup | some (.dct _) => some .dct | _ => none
def tgU (μ : Mu) : U → Option Tg
  | .d x => tgD x
  | .p k => tgC μ[k]?
theorem tgU_ty {μ : Mu} {u : U} {t : Tg} (h : tgU μ u = some t) : tyU μ u = some (tgS t) := by
  cases u with
  | d x => cases x <;> cases h <;> rfl
  | p k =>
    have h' : tgC μ[k]? = some t := h
    show tyC μ[k]? = _
    cases hk : μ[k]? with
    | none => rw [hk] at h'; cases h'
    | some c =>
      rw [hk] at h'
      cases c <;> cases h' <;> rfl
theorem wE_isT {G : Gx} {F0 H0 : Hp} {ρ : Ro} {μ : Mu} {R : RE} {ta : TE} {n : String} (tn : Tg) (hn : n = tgS tn) (hne : tn ≠ .non) (h : wE G F0 H0 ta ρ μ fun u μ1 => ∃ t, tgU μ1 u = some t ∧ R (.d (.bl (kt t tn))) μ1) : wE G F0 H0 (tCB (rIsi G.K) (tCons ta (tCons (tC (.ty n)) tNil))) ρ μ R := by
  subst hn
  exact wE_isi (wE_imp h fun u μ' ⟨t, h1, h2⟩ => ⟨_, _, tgU_ty h1, kt_ok t tn hne, h2⟩)
theorem wE_isInt {G : Gx} {F0 H0 : Hp} {ρ : Ro} {μ : Mu} {R : RE} {ta : TE} (h : wE G F0 H0 ta ρ μ fun u μ1 => ∃ t, tgU μ1 u = some t ∧ R (.d (.bl (kt t .int))) μ1) : wE G F0 H0 (tCB (rIsi G.K) (tCons ta (tCons (tC (.ty "int")) tNil))) ρ μ R := wE_isT .int rfl (by simp) h
theorem wE_isBool {G : Gx} {F0 H0 : Hp} {ρ : Ro} {μ : Mu} {R : RE} {ta : TE} (h : wE G F0 H0 ta ρ μ fun u μ1 => ∃ t, tgU μ1 u = some t ∧ R (.d (.bl (kt t .bl))) μ1) : wE G F0 H0 (tCB (rIsi G.K) (tCons ta (tCons (tC (.ty "bool")) tNil))) ρ μ R := wE_isT .bl rfl (by simp) h
theorem wE_isStr {G : Gx} {F0 H0 : Hp} {ρ : Ro} {μ : Mu} {R : RE} {ta : TE} (h : wE G F0 H0 ta ρ μ fun u μ1 => ∃ t, tgU μ1 u = some t ∧ R (.d (.bl (kt t .str))) μ1) : wE G F0 H0 (tCB (rIsi G.K) (tCons ta (tCons (tC (.ty "str")) tNil))) ρ μ R := wE_isT .str rfl (by simp) h
theorem wE_isTup {G : Gx} {F0 H0 : Hp} {ρ : Ro} {μ : Mu} {R : RE} {ta : TE} (h : wE G F0 H0 ta ρ μ fun u μ1 => ∃ t, tgU μ1 u = some t ∧ R (.d (.bl (kt t .tup))) μ1) : wE G F0 H0 (tCB (rIsi G.K) (tCons ta (tCons (tC (.ty "tuple")) tNil))) ρ μ R := wE_isT .tup rfl (by simp) h
theorem wE_isLst {G : Gx} {F0 H0 : Hp} {ρ : Ro} {μ : Mu} {R : RE} {ta : TE} (h : wE G F0 H0 ta ρ μ fun u μ1 => ∃ t, tgU μ1 u = some t ∧ R (.d (.bl (kt t .lst))) μ1) : wE G F0 H0 (tCB (rIsi G.K) (tCons ta (tCons (tC (.ty "list")) tNil))) ρ μ R := wE_isT .lst rfl (by simp) h
theorem bt_isinstance : bootBuiltins "isinstance" = some (.builtin "isinstance") := by decide +kernel
theorem bt_any : bootBuiltins "any" = some (.builtin "any") := by decide +kernel
theorem bt_all : bootBuiltins "all" = some (.builtin "all") := by decide +kernel
theorem bt_sorted : bootBuiltins "sorted" = some (.builtin "sorted") := by decide +kernel
theorem bt_sum : bootBuiltins "sum" = some (.builtin "sum") := by decide +kernel
theorem bt_abs : bootBuiltins "abs" = some (.builtin "abs") := by decide +kernel
theorem bt_max : bootBuiltins "max" = some (.builtin "max") := by decide +kernel
theorem bt_min : bootBuiltins "min" = some (.builtin "min") := by decide +kernel
theorem bt_len : bootBuiltins "len" = some (.builtin "len") := by decide +kernel
theorem bt_int : bootBuiltins "int" = some (.type "int") := by decide +kernel
theorem bt_bool : bootBuiltins "bool" = some (.type "bool") := by decide +kernel
theorem bt_str : bootBuiltins "str" = some (.type "str") := by decide +kernel
theorem bt_list : bootBuiltins "list" = some (.type "list") := by decide +kernel
theorem bt_tuple : bootBuiltins "tuple" = some (.type "tuple") := by decide +kernel
theorem bt_dict : bootBuiltins "dict" = some (.type "dict") := by decide +kernel
/-! the hand layer's rules with the written part named -/
section
variable {X : Cx} {K : PySem.W.Frag}
theorem kIsi (h : X.K = K) : CallR X (.builtin "isinstance") (rIsi K) := by subst h; exact call_isi
theorem kLen (h : X.K = K) : CallR X (.builtin "len") (rLen K) := by subst h; exact call_len_seq
theorem kAny (h : X.K = K) (hc : X.calm = true) : CallR X (.builtin "any") (rAny K) := by subst h; exact cr_any hc
theorem kAll (h : X.K = K) (hc : X.calm = true) : CallR X (.builtin "all") (rAll K) := by subst h; exact cr_all hc
theorem kSum (h : X.K = K) (hc : X.calm = true) : CallR X (.builtin "sum") (rSum K) := by subst h; exact cr_sum hc
theorem kSorted (h : X.K = K) : CallR X (.builtin "sorted") (rSorted K) := by subst h; exact cr_sorted
abbrev rListOf (K : PySem.W.Frag) : List V → Hp → VK → Prop := fun xs H Q => ∃ p ys, xs = [.ref p] ∧ (SqL K H p ys ∨ SqT K H p ys) ∧ ∀ l, H l = none → Q (.ref l) (upd H l (.lst ys))
theorem kListOf (h : X.K = K) : CallR X (.type "list") (rListOf K) := by subst h; exact call_list_of
theorem kIx (h : X.K = K) : IxR X (rIx K) := by subst h; exact ix_seq
theorem kEq (h : X.K = K) (hu : X.A.units + 64 < cLine) : OpR X (compareOp .Eq) (rEqD K) := by subst h; exact op_eqD hu
theorem kNe (h : X.K = K) (hu : X.A.units + 64 < cLine) : OpR X (compareOp .NotEq) (rNeD K) := by subst h; exact op_neD hu
theorem kIn (h : X.K = K) : OpR X (compareOp .In) (rIn K false) := by subst h; exact op_in_seq
theorem kNotIn (h : X.K = K) : OpR X (compareOp .NotIn) (rIn K true) := by subst h; exact op_notIn_seq
theorem kSl (h : X.K = K) : SlR X (rSlL K) := by subst h; exact sl_list
theorem kFld {e : Expr} {f : Str} {pos : Pos} {ta : TE} (h : X.K = K) (he : PE X e ta) (hb : attributeBase e f X.env (eval e X.env) = eval e X.env) : PE X (.Attribute e f pos) (tFld K ta f) := by subst h; exact pe_fld he hb
theorem kpi_list {tg l : Expr} {tl : TE} (h : X.K = K) (hl : PE X l tl) : PI X tg l (iList K tl) := by subst h; exact pi_list hl
theorem kpi_tup {tg l : Expr} {tl : TE} (h : X.K = K) (hl : PE X l tl) : PI X tg l (iTup K tl) := by subst h; exact pi_tup hl
theorem kpg_tup {es : List Expr} {k : Nat} {t : TGs} {n : Nat} {pos : Pos} (hK : X.K = K) (hc : X.calm = true) (h : PGs X es t)
    (hn : (assignEach es X.env).length = n := by rfl) (hst : (assignEach es X.env).findIdx? (·.1) = none := by rfl) : PG X (.Tuple es k pos) (gTup K n t) := by subst hK; exact pg_tup hc h hn hst
theorem kbm0 {T id : String} {name : Str} {o : Expr} {apos cpos : Pos} {to : TE} {r : V → List V → Hp → VK → Prop} (hK : X.K = K) (pa : PlainAttrs T) (slot : Slot T name id) (hty : typeOf (.builtin id) = pure (.type "method_descriptor")) (hm : MtR X id r) (ho : PE X o to)
    (hbase : attributeBase o name X.env (eval o X.env) = eval o X.env := by rfl) (hline : (apos.endLine == cpos.line) = true := by rfl) : PE X (.Call (.Attribute o name apos) [] [] cpos) (tBM0 K T r to) := by
  subst hK; exact pe_bm0 pa slot hty hm ho hbase hline
theorem kbm {T id : String} {name : Str} {o e : Expr} {es : List Expr} {apos cpos : Pos} {to : TE} {t : TA} {r : V → List V → Hp → VK → Prop} (hK : X.K = K) (pa : PlainAttrs T) (slot : Slot T name id) (hty : typeOf (.builtin id) = pure (.type "method_descriptor")) (hm : MtR X id r) (ho : PE X o to) (ha : PA X (e :: es) t)
    (hbase : attributeBase o name X.env (eval o X.env) = eval o X.env := by rfl)
    (hfew : ((backTo cpos (starEach (e :: es) X.env)).all (fun x => !x.1) && (backToKw cpos (keywordEach [] X.env)).all (fun x => x.1.isSome)
      && decide ((e :: es).length + ([] : List Keyword).length + (if ([] : List Keyword).isEmpty then 0 else 1) < 30)) = true := by rfl)
    (hline : (apos.endLine == cpos.line) = true := by rfl) (hs : starEach (e :: es) X.env = (false, eval e X.env) :: starEach es X.env := by rfl) (hplain : (backTo cpos (starEach es X.env)).any (·.1) = false := by rfl) :
    PE X (.Call (.Attribute o name apos) (e :: es) [] cpos) (tBM K T r to t) := by
  subst hK; exact pe_bm pa slot hty hm ho ha hbase hfew hline hs hplain
theorem k_truth {a : Expr} {ta : TE} (h : X.K = K) (ha : PE X a ta) (he : ∀ whole, isTrue a X.env whole = (do let v ← whole; standAt a.pos; holding [v] (truthy v))) : PT X a (fun σ H Q => ta σ H fun x H1 => ∃ k, TruV K x H1 k ∧ Q k H1) := by subst h; exact pt_truth ha he
end
structure TopM (G : Gx) (n : Nat) (m qual : Str) (st : Stmt) (ps : List Str) : Prop where
  ex : ∃ (f : Addr) (fd : FuncData), Fun G.K m qual st f fd ∧ Meth G.K (G.cl n) m f ∧ Binds G.K fd ps []
theorem met_of {P : Program} {w : World} {G : Gx} {mg : Str → Option Value} {base : Heap} {n : Nat} {m qual : Str} {k : Nat} {ps : List Str} {sp : Sp} {st : Stmt} (T : TopM G n m qual st ps)
    (h : ∀ (f : Addr) (fd : FuncData), Fun G.K m qual st f fd → FnOk P w G.K mg base (L2N.CX P w) k f fd ps sp) : Met P w G mg base n m k ps sp := by
  obtain ⟨f, fd, F, m, b⟩ := T.ex
  exact ⟨f, fd, h f fd F, m, b⟩
/-- an __init__ -/
structure Ini (P : Program) (w : World) (G : Gx) (mg : Str → Option Value) (base : Heap) (n : Nat) (k : Nat) (ps : List Str) (sp : Sp) : Prop where
  ex : ∃ (f : Addr) (fd : FuncData), FnOk P w G.K mg base (L2N.CX P w) k f fd ps sp ∧ Mk G.K (G.cl n) f ∧ Binds G.K fd ps []
structure TopI (G : Gx) (n : Nat) (qual : Str) (st : Stmt) (ps : List Str) : Prop where
  ex : ∃ (f : Addr) (fd : FuncData), Fun G.K "__init__" qual st f fd ∧ Mk G.K (G.cl n) f ∧ Binds G.K fd ps []
theorem ini_of {P : Program} {w : World} {G : Gx} {mg : Str → Option Value} {base : Heap} {n : Nat} {qual : Str} {k : Nat} {ps : List Str} {sp : Sp} {st : Stmt} (T : TopI G n qual st ps)
    (h : ∀ (f : Addr) (fd : FuncData), Fun G.K "__init__" qual st f fd → FnOk P w G.K mg base (L2N.CX P w) k f fd ps sp) : Ini P w G mg base n k ps sp := by
  obtain ⟨f, fd, F, m, b⟩ := T.ex
  exact ⟨f, fd, h f fd F, m, b⟩
end L3

set_option Elab.async false
set_option linter.all false
set_option maxRecDepth 100000
set_option maxHeartbeats 4000000
set_option exponentiation.threshold 100
/-! Fractions: data, promises, the plain mathematics. -/
namespace L3
open PySem PySem.Spec PyProof.Rows L2

def encF (q : Rat) : D := .tup [.int q.num, .int (q.den : Int)]
theorem encF_inj {q r : Rat} (h : encF q = encF r) : q = r := by
  unfold encF at h
  injection h with h
  injection h with h1 h2
  injection h1 with h1
  injection h2 with h2 _
  injection h2 with h2
  exact Rat.ext h1 (by omega)
theorem eqD_encF (q r : Rat) : eqD (encF q) (encF r) = decide (q = r) := by
  unfold encF
  simp only [eqD, eqDs, Bool.and_true]
  by_cases h : q = r
  · subst h; simp
  · rw [decide_eq_false h]
    rw [Bool.and_eq_false_iff]
    by_cases h1 : q.num = r.num
    · right
      rw [beq_eq_false_iff_ne]
      intro h2
      exact h (Rat.ext h1 (by omega))
    · left
      rw [beq_eq_false_iff_ne]
      exact h1
theorem sh_encF (q : Rat) : sh (encF q) 1 = true := rfl
/-- a size that the program's numbers keep below -/
def Sz (q : Rat) : Prop := q.num.natAbs < 2 ^ 4400 ∧ q.den < 2 ^ 4400
/-- small enough to be divided by -/
def Dz (b : Int) : Prop := 0 < b ∧ b.natAbs < 2 ^ 8990

def c_lowest : Ct (Int × Int) := ⟨fun a => [.d (.int a.1), .d (.int a.2)], fun a => 0 ≤ a.1 ∧ Dz a.2, fun a => .ret (.d (encF (Rat.divInt a.1 a.2)))⟩
def c_plus : Ct (Rat × Rat) := ⟨fun a => [.d (encF a.1), .d (encF a.2)], fun a => 0 ≤ a.1 ∧ 0 ≤ a.2 ∧ Sz a.1 ∧ Sz a.2, fun a => .ret (.d (encF (a.1 + a.2)))⟩
def c_minus : Ct (Rat × Rat) := ⟨fun a => [.d (encF a.1), .d (encF a.2)], fun a => 0 ≤ a.2 ∧ a.2 ≤ a.1 ∧ Sz a.1 ∧ Sz a.2, fun a => .ret (.d (encF (a.1 - a.2)))⟩
/-- the first one may be any pair of whole numbers -/
def c_times : Ct ((Int × Int) × Rat) := ⟨fun a => [.d (.tup [.int a.1.1, .int a.1.2]), .d (encF a.2)], fun a => 0 ≤ a.1.1 ∧ 0 < a.1.2 ∧ a.1.1.natAbs < 2 ^ 4400 ∧ a.1.2.natAbs < 2 ^ 4400 ∧ 0 ≤ a.2 ∧ Sz a.2, fun a => .ret (.d (encF (Rat.divInt a.1.1 a.1.2 * a.2)))⟩
def c_over : Ct (Rat × Rat) := ⟨fun a => [.d (encF a.1), .d (encF a.2)], fun a => 0 ≤ a.1 ∧ 0 < a.2 ∧ Sz a.1 ∧ Sz a.2, fun a => .ret (.d (encF (a.1 / a.2)))⟩
def c_below : Ct (Rat × Rat) := ⟨fun a => [.d (encF a.1), .d (encF a.2)], fun a => Sz a.1 ∧ Sz a.2, fun a => .ret (.d (.bl (decide (a.1 < a.2))))⟩
/-- any data: is it a whole number -/
def wholeD : D → Bool
  | .int _ => true
  | _ => false
def noOb : D → Bool
  | .ob _ _ => false
  | .raw _ => false
  | .fn _ => false
  | _ => true
def argOf : D → Arg
  | .lst ds => .l ds
  | d => .d d
def c_is_whole : Ct D := ⟨fun a => [argOf a], fun a => noOb a = true, fun a => .ret (.d (.bl (wholeD a)))⟩
/-- of two numbers handed in: BadFraction, or the fraction -/
def c_made : Ct (D × D) := ⟨fun a => [argOf a.1, argOf a.2], fun a => noOb a.1 = true ∧ noOb a.2 = true ∧ ∀ x y, a = (.int x, .int y) → 0 ≤ x → 0 < y → Dz y,
  fun a => match a with
    | (.int x, .int y) => if x < 0 ∨ y < 1 then .exc 0 else .ret (.d (encF (Rat.divInt x y)))
    | _ => .exc 0⟩

/-! ### the plain law of lowest -/
theorem num_pos {q : Rat} : 0 < q.num ↔ 0 < q := by
  have h := Rat.lt_iff 0 q
  have e : (0 : Rat).num = 0 := rfl
  have e2 : (0 : Rat).den = 1 := rfl
  rw [e, e2] at h
  rw [h]
  simp
theorem gcd_step {a b : Int} (ha : 0 ≤ a) (hb : 0 < b) : Int.gcd b (a % b) = Int.gcd a b := by
  obtain ⟨n, rfl⟩ := Int.eq_ofNat_of_zero_le ha
  obtain ⟨m, rfl⟩ := Int.eq_ofNat_of_zero_le (Int.le_of_lt hb)
  show Nat.gcd m (n % m) = Nat.gcd n m
  rw [Nat.gcd_comm n m, Nat.gcd_rec m n, Nat.gcd_comm]
theorem low_num {a b : Int} (hb : 0 < b) : a / (Int.gcd a b : Int) = (Rat.divInt a b).num := by
  obtain ⟨n, rfl⟩ := Int.eq_ofNat_of_zero_le (Int.le_of_lt hb)
  have hn : n ≠ 0 := by omega
  rw [Rat.divInt_ofNat, Rat.num_mkRat, if_neg hn]
  congr 1
  rw [Int.gcd_comm]
  rfl
theorem low_den {a b : Int} (hb : 0 < b) : b / (Int.gcd a b : Int) = ((Rat.divInt a b).den : Int) := by
  obtain ⟨n, rfl⟩ := Int.eq_ofNat_of_zero_le (Int.le_of_lt hb)
  have hn : n ≠ 0 := by omega
  rw [Rat.divInt_ofNat, Rat.den_mkRat, if_neg hn]
  rw [Int.gcd_comm]
  rfl
theorem gcd_dz {a b : Int} (h : Dz b) : CDivW a (Int.gcd a b : Int) := by
  have h1 : 0 < Int.gcd a b := Int.gcd_pos_of_ne_zero_right a (by have := h.1; omega)
  have h2 : Int.gcd a b ≤ b.natAbs := Nat.le_of_dvd (by have := h.1; omega) (Int.gcd_dvd_natAbs_right a b)
  have h3 := h.2
  refine wide_div (b := 8990) (by omega) ?_ (by omega) (by omega)
  rw [Int.natAbs_natCast]
  omega
theorem gcd_dz' {a b : Int} (h : Dz b) : CDivW b (Int.gcd a b : Int) := ⟨(gcd_dz (a := a) h).1, (gcd_dz (a := a) h).2⟩
theorem den_pos' (q : Rat) : (0 : Int) < q.den := by have := q.den_pos; omega
theorem dz_mul {q r : Rat} (h1 : Sz q) (h2 : Sz r) : Dz ((q.den : Int) * (r.den : Int)) := by
  refine ⟨Int.mul_pos (den_pos' q) (den_pos' r), ?_⟩
  rw [Int.natAbs_mul, Int.natAbs_natCast, Int.natAbs_natCast]
  have : q.den * r.den < 2 ^ 4400 * 2 ^ 4400 := Nat.mul_lt_mul'' h1.2 h2.2
  rw [← Nat.pow_add] at this
  exact Nat.lt_of_lt_of_le this (Nat.pow_le_pow_right (by decide) (by decide))
theorem dz_over {q r : Rat} (h1 : Sz q) (h2 : Sz r) (h : 0 < r) : Dz ((q.den : Int) * r.num) := by
  have hr : 0 < r.num := num_pos.mpr h
  refine ⟨Int.mul_pos (den_pos' q) hr, ?_⟩
  rw [Int.natAbs_mul, Int.natAbs_natCast]
  have : q.den * r.num.natAbs < 2 ^ 4400 * 2 ^ 4400 := Nat.mul_lt_mul'' h1.2 h2.1
  rw [← Nat.pow_add] at this
  exact Nat.lt_of_lt_of_le this (Nat.pow_le_pow_right (by decide) (by decide))
theorem wm {a b : Int} (h1 : a.natAbs < 2 ^ 4400) (h2 : b.natAbs < 2 ^ 4400) : CMulW a b := wide_mul h1 h2 (by decide) (by decide) (by decide)
theorem nn_num {q : Rat} (h : 0 ≤ q) : 0 ≤ q.num := Rat.num_nonneg.mpr h
theorem wm_nd {q r : Rat} (h1 : Sz q) (h2 : Sz r) : CMulW q.num r.den := wm h1.1 (by rw [Int.natAbs_natCast]; exact h2.2)
theorem wm_dd {q r : Rat} (h1 : Sz q) (h2 : Sz r) : CMulW q.den r.den := wm (by rw [Int.natAbs_natCast]; exact h1.2) (by rw [Int.natAbs_natCast]; exact h2.2)
theorem wm_nn {q r : Rat} (h1 : Sz q) (h2 : Sz r) : CMulW q.num r.num := wm h1.1 h2.1
theorem wm_dn {q r : Rat} (h1 : Sz q) (h2 : Sz r) : CMulW q.den r.num := wm (by rw [Int.natAbs_natCast]; exact h1.2) h2.1
theorem divInt_nat (a : Int) (m n : Nat) : Rat.divInt a ((m : Int) * (n : Int)) = mkRat a (m * n) := by
  rw [← Int.natCast_mul, Rat.divInt_ofNat]
theorem plus_law (q r : Rat) : Rat.divInt (q.num * r.den + r.num * q.den) ((q.den : Int) * r.den) = q + r := by rw [divInt_nat, Rat.add_def']
theorem minus_law (q r : Rat) : Rat.divInt (q.num * r.den - r.num * q.den) ((q.den : Int) * r.den) = q - r := by rw [divInt_nat, Rat.sub_def']
theorem times_law (q r : Rat) : Rat.divInt (q.num * r.num) ((q.den : Int) * r.den) = q * r := by rw [divInt_nat, Rat.mul_def']
theorem below_law (q r : Rat) : decide (q.num * (r.den : Int) < r.num * (q.den : Int)) = decide (q < r) := by
  by_cases h : q < r
  · rw [decide_eq_true h, decide_eq_true ((Rat.lt_iff _ _).mp h)]
  · rw [decide_eq_false h, decide_eq_false fun z => h ((Rat.lt_iff _ _).mpr z)]
theorem rat_div (q : Rat) : q = (q.num : Rat) / ((q.den : Int) : Rat) := by
  have := Rat.divInt_eq_div q.num q.den
  rw [Rat.num_divInt_den] at this
  exact this
theorem times_law' (a b : Int) (r : Rat) (hb : b ≠ 0) : Rat.divInt (a * r.num) (b * (r.den : Int)) = Rat.divInt a b * r := by
  have hd : ((r.den : Int) : Rat) ≠ 0 := by have := den_pos' r; exact_mod_cast (by omega : (r.den : Int) ≠ 0)
  have hb' : ((b : Int) : Rat) ≠ 0 := by exact_mod_cast hb
  have e := rat_div r
  rw [Rat.divInt_eq_div, Rat.divInt_eq_div, Rat.intCast_mul, Rat.intCast_mul]
  generalize (r.num : Rat) = x at *
  generalize ((r.den : Int) : Rat) = y at *
  rw [e]
  grind
theorem over_law (q r : Rat) (h : 0 < r) : Rat.divInt (q.num * r.den) ((q.den : Int) * r.num) = q / r := by
  have hr : r.num ≠ 0 := by have := num_pos.mpr h; omega
  have hr' : (r.num : Rat) ≠ 0 := by exact_mod_cast hr
  have hd : ((r.den : Int) : Rat) ≠ 0 := by have := den_pos' r; exact_mod_cast (by omega : (r.den : Int) ≠ 0)
  have hq : ((q.den : Int) : Rat) ≠ 0 := by have := den_pos' q; exact_mod_cast (by omega : (q.den : Int) ≠ 0)
  rw [Rat.divInt_eq_div]
  have e1 := rat_div q
  have e2 := rat_div r
  generalize hx : (q.num : Rat) = x at *
  generalize hy : ((q.den : Int) : Rat) = y at *
  generalize hz : (r.num : Rat) = z at *
  generalize hw : ((r.den : Int) : Rat) = u at *
  rw [Rat.intCast_mul, Rat.intCast_mul, hx, hy, hz, hw]
  rw [e1, e2]
  grind
theorem minus_nn {q r : Rat} (h0 : 0 ≤ r) (h : r ≤ q) : 0 ≤ q.num * (r.den : Int) - r.num * (q.den : Int) := by
  have := (Rat.le_iff _ _).mp h
  omega
theorem plus_nn {q r : Rat} (h0 : 0 ≤ q) (h : 0 ≤ r) : 0 ≤ q.num * (r.den : Int) + r.num * (q.den : Int) :=
  Int.add_nonneg (Int.mul_nonneg (nn_num h0) (Int.le_of_lt (den_pos' r))) (Int.mul_nonneg (nn_num h) (Int.le_of_lt (den_pos' q)))
section
variable {G : Gx} {F0 H0 : Hp} {ρ : Ro} {μ : Mu} {R : RE}
theorem w2_f0 {q : Rat} (k : R (.d (.int q.num)) μ) : w2 G F0 H0 (rIx G.K) (.d (encF q)) (.d (.int 0)) ρ μ R := w2_ix (.inr rfl) rfl k
theorem w2_f1 {q : Rat} (k : R (.d (.int (q.den : Int))) μ) : w2 G F0 H0 (rIx G.K) (.d (encF q)) (.d (.int 1)) ρ μ R := w2_ix (.inr rfl) rfl k
theorem end_d {X : Ex} {E : XK} {x : D} (k : R (.d x) μ) : Ends' R μ H0 X E (.ret (.d x)) := k
theorem end_own {X : Ex} {E : XK} {x : List D} (k : R (.p μ.length) (μ ++ [.rw x])) : Ends' R μ H0 X E (.ret (.own x)) := k
end
theorem lt_law {a b c d : Int} (hb : 0 < b) (hd : 0 < d) : Rat.divInt a b < Rat.divInt c d ↔ a * d < c * b := by
  rw [Rat.divInt_eq_div, Rat.divInt_eq_div]
  have hb' : (0 : Rat) < (b : Rat) := Rat.intCast_pos.mpr hb
  have hd' : (0 : Rat) < (d : Rat) := Rat.intCast_pos.mpr hd
  rw [← Rat.intCast_lt_intCast, Rat.intCast_mul, Rat.intCast_mul]
  generalize (a : Rat) = x, (b : Rat) = y, (c : Rat) = z, (d : Rat) = u at *
  rw [Rat.div_lt_iff hb']
  have : z / u * y = (z * y) / u := by grind
  rw [this, Rat.lt_div_iff hd']
theorem ov_law {a b c d : Int} (hb : 0 < b) (hd : 0 < d) (hc : 0 < c) : Rat.divInt a b / Rat.divInt c d = Rat.divInt (a * d) (b * c) := by
  rw [Rat.divInt_eq_div, Rat.divInt_eq_div, Rat.divInt_eq_div, Rat.intCast_mul, Rat.intCast_mul]
  have hb' : (b : Rat) ≠ 0 := by exact_mod_cast (by omega : b ≠ 0)
  have hc' : (c : Rat) ≠ 0 := by exact_mod_cast (by omega : c ≠ 0)
  have hd' : (d : Rat) ≠ 0 := by exact_mod_cast (by omega : d ≠ 0)
  generalize (a : Rat) = x, (b : Rat) = y, (c : Rat) = z, (d : Rat) = u at *
  grind
end L3

set_option Elab.async false
set_option linter.all false
set_option maxRecDepth 100000
set_option maxHeartbeats 4000000
set_option exponentiation.threshold 100
/-! Comprehensions in short; more rules. -/
namespace L3
open PySem PySem.Spec PyProof.Rows L2
section
variable {G : Gx} {F0 H0 : Hp} {F F1 H : Hp} {as as1 : List Addr} {σ : L2.St} {ρ : Ro} {μ : Mu} {R : RE}
theorem wE_lcT {tl : TE} {g : TG} {tt : TT} {te : TE} {vs : List Nat} (hw : Within g vs) (h : wE G F0 H0 tl ρ μ fun u μ1 => ∃ ds, u = .d (.tup ds) ∧ ∃ I : Nat → Mu → Prop, I 0 (μ1 ++ [.rw []]) ∧
      (∀ (i : Nat) (d : D) (μ' : Mu), ds[i]? = some d → I i μ' → wG G F0 H0 g (.d d) (wipeR ρ vs) μ' fun ρ2 μ2 => LcTurn G F0 H0 tt te μ1.length ρ2 (I i) (I (i + 1)) μ2) ∧ ∀ μ', I ds.length μ' → R (.p μ1.length) μ') :
    wE G F0 H0 (tLc (iTup G.K tl) g tt te vs) ρ μ R := fun F H as σ Q e q => by
  refine h F H as σ _ e fun u μ1 v F1 H1 as1 h1 e1 s1 g1 r1 => ?_
  obtain ⟨ds, rfl, I, i0, is, ie⟩ := h1
  obtain ⟨a, vs0, rfl, hs0, _⟩ := tup_seq e1 r1
  refine ⟨a, rfl, ⟨vs0, hs0⟩, lc_any (nn := ds.length) (itd := fun i d => ds[i]? = some d) hw e1 (q.on s1 g1) I (fun i F2 H2 as2 μ2 e2 s2 g2 i2 => ?_) i0 (fun i d μ' _ hd hI => is i d μ' hd hI) ie⟩
  obtain ⟨a', ws, ea, hs, ha⟩ := tup_seq e2 (Rp.mono s2 _ r1)
  cases ea
  refine ⟨fun hi => ?_, fun hi => ⟨ws, hs, by rw [ha.length]; omega⟩⟩
  have hv : i < ws.length := by rw [ha.length]; exact hi
  refine ⟨⟨ws, ws[i], hs, by simp [hv]⟩, fun x H' y => ?_⟩
  obtain ⟨rfl, y⟩ := y
  obtain ⟨d, hd, rd⟩ := ha.getV (y ws hs)
  exact ⟨rfl, d, hd, rd⟩
theorem at_app {α : Type} {l : List α} {c : α} : (l ++ [c])[l.length]? = some c := by
  rw [List.getElem?_append_right (Nat.le_refl _)]
  simp
theorem set_app {α : Type} {l : List α} {c d : α} : (l ++ [c]).set l.length d = l ++ [d] := by
  rw [List.set_append_right _ _ (Nat.le_refl _)]
  simp
theorem take_succ_map {α β : Type} {f : α → β} {l : List α} {i : Nat} {x : α} (h : l[i]? = some x) : (l.take (i + 1)).map f = (l.take i).map f ++ [f x] := by
  rw [List.take_add_one, h, List.map_append]
  rfl
/-- what an element's evaluation gives, the cells as they were -/
def Elm (G : Gx) (F0 H0 : Hp) (g : TG) (te : TE) (vs : List Nat) (ρ : Ro) (μ : Mu) (d x : D) : Prop :=
  ∀ acc, wG G F0 H0 g (.d d) (wipeR ρ vs) (μ ++ [.rw acc]) fun ρ2 μ2 => wE G F0 H0 te ρ2 μ2 fun y μ3 => y = .d x ∧ μ3 = μ ++ [.rw acc]
theorem elm_turn {g : TG} {te : TE} {vs : List Nat} {d x : D} {μ1 : Mu} {ds : List D} {f : D → D} {i : Nat} (hl : ds.length ≤ 900000) (hd : ds[i]? = some d) (hx : f d = x) (h : Elm G F0 H0 g te vs ρ μ1 d x) :
    ∀ μ', μ' = μ1 ++ [.rw ((ds.take i).map f)] → wG G F0 H0 g (.d d) (wipeR ρ vs) μ' fun ρ2 μ2 => LcTurn G F0 H0 tYes te μ1.length ρ2 (fun μ' => μ' = μ1 ++ [.rw ((ds.take i).map f)]) (fun μ' => μ' = μ1 ++ [.rw ((ds.take (i + 1)).map f)]) μ2 := by
  rintro μ' rfl
  refine fun F H as σ v Q e r q => h _ F H as σ v Q e r fun ρ' μ'' σ' F' H' as' h1 e1 s1 g1 => q ρ' μ'' σ' F' H' as' ?_ e1 s1 g1
  refine wT_yes (iteT (wE_imp h1 fun u μ3 z => ?_))
  obtain ⟨rfl, rfl⟩ := z
  refine ⟨_, _, rfl, at_app, ?_, ?_⟩
  · rw [List.length_map, List.length_take]; omega
  · rw [set_app, take_succ_map hd, hx]
theorem wE_mapT {tl : TE} {g : TG} {te : TE} {vs : List Nat} (f : D → D) (hw : Within g vs) (h : wE G F0 H0 tl ρ μ fun u μ1 => ∃ ds, u = .d (.tup ds) ∧ ds.length ≤ 900000 ∧ (∀ d ∈ ds, Elm G F0 H0 g te vs ρ μ1 d (f d)) ∧ R (.p μ1.length) (μ1 ++ [.rw (ds.map f)])) :
    wE G F0 H0 (tLc (iTup G.K tl) g tYes te vs) ρ μ R := wE_lcT hw (wE_imp h fun u μ1 ⟨ds, h1, h2, h3, h4⟩ => ⟨ds, h1, fun i μ' => μ' = μ1 ++ [.rw ((ds.take i).map f)], rfl,
      fun i d μ' hd hI => elm_turn h2 hd rfl (h3 d (List.mem_of_getElem? hd)) μ' hI, fun μ' hI => by rw [hI, List.take_length]; exact h4⟩)
theorem wE_mapL {tl : TE} {g : TG} {te : TE} {vs : List Nat} (f : D → D) (hw : Within g vs) (h : wE G F0 H0 tl ρ μ fun u μ1 => ∃ ds, IsL μ1 u ds ∧ ds.length ≤ 900000 ∧ (∀ d ∈ ds, Elm G F0 H0 g te vs ρ μ1 d (f d)) ∧ R (.p μ1.length) (μ1 ++ [.rw (ds.map f)])) :
    wE G F0 H0 (tLc (iList G.K tl) g tYes te vs) ρ μ R := wE_lc hw (wE_imp h fun u μ1 ⟨ds, h1, h2, h3, h4⟩ => ⟨ds, h1, fun i μ' => μ' = μ1 ++ [.rw ((ds.take i).map f)], rfl, fun i μ' hI => by
        rw [hI]
        rcases h1 with h1 | ⟨k, h1, h1'⟩
        · exact .inl h1
        · refine .inr ⟨k, h1, ?_⟩
          have hk : k < μ1.length := by rcases h1' with z | z | ⟨_, z⟩ <;> exact (List.getElem?_eq_some_iff.mp z).1
          rw [List.getElem?_append_left hk]
          exact h1',
      fun i d μ' hd hI => elm_turn h2 hd rfl (h3 d (List.mem_of_getElem? hd)) μ' hI, fun μ' hI => by rw [hI, List.take_length]; exact h4⟩)
theorem w2_neF {q r : Rat} (k : R (.d (.bl (!decide (q = r)))) μ) : w2 G F0 H0 (rNeD G.K) (.d (encF q)) (.d (encF r)) ρ μ R := w2_neD (.d _) (.d _) 1 1 (by decide) (by decide) rfl rfl (by rw [eqD_encF]; exact k)
theorem w2_eqF {q r : Rat} (k : R (.d (.bl (decide (q = r)))) μ) : w2 G F0 H0 (rEqD G.K) (.d (encF q)) (.d (encF r)) ρ μ R := w2_eqD (.d _) (.d _) 1 1 (by decide) (by decide) rfl rfl (by rw [eqD_encF]; exact k)
theorem eqD_int (i j : Int) : eqD (.int i) (.int j) = decide (i = j) := by simp only [eqD]; rfl
theorem w2_neI {q r : Int} (k : R (.d (.bl (!decide (q = r)))) μ) : w2 G F0 H0 (rNeD G.K) (.d (.int q)) (.d (.int r)) ρ μ R := w2_neD (.d _) (.d _) 0 0 (by decide) (by decide) rfl rfl (by rw [eqD_int]; exact k)
theorem w2_eqI {q r : Int} (k : R (.d (.bl (decide (q = r)))) μ) : w2 G F0 H0 (rEqD G.K) (.d (.int q)) (.d (.int r)) ρ μ R := w2_eqD (.d _) (.d _) 0 0 (by decide) (by decide) rfl rfl (by rw [eqD_int]; exact k)
theorem eqD_bl (i j : Bool) : eqD (.bl i) (.bl j) = decide (i = j) := by cases i <;> cases j <;> simp [eqD]
theorem w2_neB {q r : Bool} (k : R (.d (.bl (!decide (q = r)))) μ) : w2 G F0 H0 (rNeD G.K) (.d (.bl q)) (.d (.bl r)) ρ μ R := w2_neD (.d _) (.d _) 0 0 (by decide) (by decide) rfl rfl (by rw [eqD_bl]; exact k)
theorem w2_eqB {q r : Bool} (k : R (.d (.bl (decide (q = r)))) μ) : w2 G F0 H0 (rEqD G.K) (.d (.bl q)) (.d (.bl r)) ρ μ R := w2_eqD (.d _) (.d _) 0 0 (by decide) (by decide) rfl rfl (by rw [eqD_bl]; exact k)
theorem end_x {X : Ex} {E : XK} {n : Nat} (k : ∀ H', Same H0 H' → E (.ref (X n)) none H') : Ends' R μ H0 X E (.exc n) := k
/-- the cell itself, at a concrete place -/
theorem isL_rw {k : Nat} {ds : List D} (h : μ[k]? = some (.rw ds)) : IsL μ (.p k) ds := .inr ⟨k, rfl, .inl h⟩
theorem isL_ro {k : Nat} {ds : List D} (h : μ[k]? = some (.ro ds)) : IsL μ (.p k) ds := .inr ⟨k, rfl, .inr (.inl h)⟩
theorem isL_app {ds : List D} : IsL (μ ++ [.rw ds]) (.p μ.length) ds := isL_rw at_app
end
/-- the law's own: a cell of the script -/
def cellN (ns : List Int) (k : Int) : Int := ns.getD k.toNat 0
def c__law_cell_at : Ct (List Int × Int) := ⟨fun a => [.l (a.1.map D.int), .d (.int a.2)], fun a => 0 ≤ a.2, fun a => .ret (.d (.int (cellN a.1 a.2)))⟩
def c__law_is : Ct (Rat × Int × Int) := ⟨fun a => [.d (encF a.1), .d (.int a.2.1), .d (.int a.2.2)], fun a => 0 ≤ a.2.1 ∧ Dz a.2.2, fun a => .ret (.d (.bl (decide (a.1 = Rat.divInt a.2.1 a.2.2))))⟩
def c_law : Ct (List Int) := ⟨fun a => [.l (a.map D.int)], fun a => a.length ≤ 63, fun _ => .ret (.d (.bl true))⟩
theorem atI_cell {ns : List Int} {k : Int} (h0 : 0 ≤ k) (h : k < (ns.length : Int)) : atI (ns.map D.int) k = some (.int (cellN ns k)) := by
  obtain ⟨j, rfl⟩ := Int.eq_ofNat_of_zero_le h0
  have hj : j < ns.length := by omega
  have e : (ns.map D.int)[j]? = some (.int (cellN ns (j : Int))) := by
    unfold cellN
    rw [List.getElem?_map, List.getElem?_eq_getElem hj]
    simp [List.getD, hj]
  exact atI_nat e
theorem cell_out {ns : List Int} {k : Int} (h : ¬ k < (ns.length : Int)) : cellN ns k = 0 := by
  unfold cellN
  have : ns.length ≤ k.toNat := by omega
  simp [List.getD, this]
theorem lst_or (z : D) : (∃ ds, z = .lst ds) ∨ argOf z = .d z := by
  cases z <;> first | exact .inr rfl | exact .inl ⟨_, rfl⟩
theorem whole_or (z : D) : (∃ i, z = .int i) ∨ wholeD z = false := by
  cases z <;> first | exact .inr rfl | exact .inl ⟨_, rfl⟩
theorem wS_raise' {G : Gx} {F0 H0 : Hp} {ρ : Ro} {μ : Mu} {D' : DE} {E : XK} {c : Addr} (h : ∀ H', Same H0 H' → E (.ref c) none H') : wS G F0 H0 (fun _ σ H => E (.ref c) none H) ρ μ D' :=
  fun F H as σ X e q => h H e.bs.h0
/-! calls in short -/
section
variable {G : Gx} {F0 H0 : Hp} {ρ : Ro} {μ : Mu} {R : RE} {X : Ex} {E : XK} {D' : DE}
theorem wS_seqJ {t u : TS} (J : Ro → Mu → Prop) (h : wS G F0 H0 t ρ μ { D' with nx := J }) (k : ∀ ρ' μ', J ρ' μ' → wS G F0 H0 u ρ' μ' D') : wS G F0 H0 (tSeq t u) ρ μ D' := wS_seq fun F H as σ X e q =>
  h F H as σ X e ⟨fun ρ' μ' σ' F' H' as' h1 e1 s1 g1 => q.nx ρ' μ' σ' F' H' as' (k ρ' μ' h1) e1 s1 g1, q.rt, q.bk, q.ct⟩
/-- an assignment whose value is told by a property -/
theorem wS_asgJ {te : TE} {i : Nat} {u : TS} (P : U → Mu → Prop) (h : wE G F0 H0 te ρ μ P) (k : ∀ x μ', P x μ' → wS G F0 H0 u (ρ.set i (some x)) μ' D') : wS G F0 H0 (tSeq (tAsg te (gName i)) u) ρ μ D' :=
  wS_seq (wS_asg (wE_imp h fun x μ' hx => wG_name (k x μ' hx)))
abbrev Call {α : Type} (us : List U) (c : Ct α) (R : RE) (μ : Mu) (H0 : Hp) (X : Ex) (E : XK) : Prop := ∃ a, Paired (ArgOf μ) us (c.args a) ∧ c.pre a ∧ Ends' R μ H0 X E (c.out a)
theorem ca_lowest {i j : Int} (h0 : 0 ≤ i) (hd : Dz j) (k : R (.d (encF (Rat.divInt i j))) μ) : Call [.d (.int i), .d (.int j)] c_lowest R μ H0 X E := ⟨(i, j), .cons (.d _) (.cons (.d _) .nil), ⟨h0, hd⟩, k⟩
theorem ca_plus {q r : Rat} (h1 : 0 ≤ q) (h2 : 0 ≤ r) (s1 : Sz q) (s2 : Sz r) (k : R (.d (encF (q + r))) μ) : Call [.d (encF q), .d (encF r)] c_plus R μ H0 X E := ⟨(q, r), .cons (.d _) (.cons (.d _) .nil), ⟨h1, h2, s1, s2⟩, k⟩
theorem ca_minus {q r : Rat} (h1 : 0 ≤ r) (h2 : r ≤ q) (s1 : Sz q) (s2 : Sz r) (k : R (.d (encF (q - r))) μ) : Call [.d (encF q), .d (encF r)] c_minus R μ H0 X E := ⟨(q, r), .cons (.d _) (.cons (.d _) .nil), ⟨h1, h2, s1, s2⟩, k⟩
theorem ca_timesT {x y : Int} {r : Rat} (x0 : 0 ≤ x) (y0 : 0 < y) (x1 : x.natAbs < 2 ^ 4400) (y1 : y.natAbs < 2 ^ 4400) (h : 0 ≤ r) (s : Sz r) (k : R (.d (encF (Rat.divInt x y * r))) μ) : Call [.d (.tup [.int x, .int y]), .d (encF r)] c_times R μ H0 X E := ⟨((x, y), r), .cons (.d _) (.cons (.d _) .nil), ⟨x0, y0, x1, y1, h, s⟩, k⟩
theorem ca_times {q r : Rat} (h1 : 0 ≤ q) (h2 : 0 ≤ r) (s1 : Sz q) (s2 : Sz r) (k : R (.d (encF (q * r))) μ) : Call [.d (encF q), .d (encF r)] c_times R μ H0 X E := ca_timesT (x := q.num) (y := (q.den : Int)) (nn_num h1) (den_pos' q) s1.1 (by rw [Int.natAbs_natCast]; exact s1.2) h2 s2 (by rw [Rat.num_divInt_den]; exact k)
theorem ca_over {q r : Rat} (h1 : 0 ≤ q) (h2 : 0 < r) (s1 : Sz q) (s2 : Sz r) (k : R (.d (encF (q / r))) μ) : Call [.d (encF q), .d (encF r)] c_over R μ H0 X E := ⟨(q, r), .cons (.d _) (.cons (.d _) .nil), ⟨h1, h2, s1, s2⟩, k⟩
theorem ca_below {q r : Rat} (s1 : Sz q) (s2 : Sz r) (k : R (.d (.bl (decide (q < r)))) μ) : Call [.d (encF q), .d (encF r)] c_below R μ H0 X E := ⟨(q, r), .cons (.d _) (.cons (.d _) .nil), ⟨s1, s2⟩, k⟩
theorem ca_made {i j : Int} (h0 : 0 ≤ i) (hd : Dz j) (k : R (.d (encF (Rat.divInt i j))) μ) : Call [.d (.int i), .d (.int j)] c_made R μ H0 X E := ⟨(.int i, .int j), .cons (.d _) (.cons (.d _) .nil), ⟨rfl, rfl, fun x y h _ _ => by cases h; exact hd⟩, by
  have : c_made.out (.int i, .int j) = .ret (.d (encF (Rat.divInt i j))) := if_neg (by have := hd.1; omega)
  rw [this]
  exact k⟩
theorem ca_cell {ns : List Int} {k : Int} {u : U} (hl : IsL μ u (ns.map D.int)) (h0 : 0 ≤ k) (r : R (.d (.int (cellN ns k))) μ) : Call [u, .d (.int k)] c__law_cell_at R μ H0 X E := ⟨(ns, k), .cons (.l hl) (.cons (.d _) .nil), h0, r⟩
theorem ca_is {q : Rat} {i j : Int} (h0 : 0 ≤ i) (hd : Dz j) (k : R (.d (.bl (decide (q = Rat.divInt i j)))) μ) : Call [.d (encF q), .d (.int i), .d (.int j)] c__law_is R μ H0 X E := ⟨(q, i, j), .cons (.d _) (.cons (.d _) (.cons (.d _) .nil)), ⟨h0, hd⟩, k⟩
end
theorem dz_of {j : Int} {n : Nat} (h : 0 < j) (h1 : j < 2 ^ n) (hn : n ≤ 8990) : Dz j := by
  refine ⟨h, ?_⟩
  have : j.natAbs < 2 ^ n := by
    have e : ((2 ^ n : Nat) : Int) = (2 : Int) ^ n := by simp
    omega
  exact Nat.lt_of_lt_of_le this (Nat.pow_le_pow_right (by decide) hn)
theorem num_le {i j : Int} (h0 : 0 ≤ i) (hj : 0 < j) : (Rat.divInt i j).num.natAbs ≤ i.natAbs ∧ (Rat.divInt i j).den ≤ j.natAbs := by
  rw [← low_num hj]
  have hd := low_den (a := i) hj
  have hg : 0 < (Int.gcd i j : Int) := by
    have := Int.gcd_pos_of_ne_zero_right i (by omega : j ≠ 0)
    omega
  constructor
  · have h1 : 0 ≤ i / (Int.gcd i j : Int) := Int.ediv_nonneg h0 (by omega)
    have h2 : i / (Int.gcd i j : Int) ≤ i := Int.ediv_le_self _ h0
    omega
  · have h2 : j / (Int.gcd i j : Int) ≤ j := Int.ediv_le_self _ (by omega)
    omega
theorem sz_of {i j : Int} {n : Nat} (h0 : 0 ≤ i) (hj : 0 < j) (h1 : i < 2 ^ n) (h2 : j < 2 ^ n) (hn : n ≤ 4400) : Sz (Rat.divInt i j) := by
  obtain ⟨a, b⟩ := num_le h0 hj
  have e : ((2 ^ n : Nat) : Int) = (2 : Int) ^ n := by simp
  have p : 2 ^ n ≤ 2 ^ 4400 := Nat.pow_le_pow_right (by decide) hn
  exact ⟨by omega, by omega⟩
theorem divInt_nn {i j : Int} (h0 : 0 ≤ i) (hj : 0 < j) : 0 ≤ Rat.divInt i j := (Rat.divInt_nonneg_iff_of_pos_right hj).mpr h0
theorem pow_cast (a : Nat) : ((2 ^ a : Nat) : Int) = (2 : Int) ^ a := by simp
theorem cm_of {i j : Int} {a b : Nat} (h0 : 0 ≤ i) (h1 : 0 ≤ j) (h2 : i < 2 ^ a) (h3 : j < 2 ^ b) (ha : 0 < a) (hb : 0 < b) (h : a + b ≤ 1000000) : CMulW i j := by
  have e1 := pow_cast a
  have e2 := pow_cast b
  exact wide_mul (a := a) (b := b) (by omega) (by omega) ha hb h
theorem mul_of {i j : Int} {a b : Nat} (h0 : 0 ≤ i) (h1 : 0 ≤ j) (h2 : i < 2 ^ a) (h3 : j < 2 ^ b) : 0 ≤ i * j ∧ i * j < 2 ^ (a + b) := by
  refine ⟨Int.mul_nonneg h0 h1, ?_⟩
  have e1 := pow_cast a
  have e2 := pow_cast b
  have e3 := pow_cast (a + b)
  obtain ⟨n, rfl⟩ := Int.eq_ofNat_of_zero_le h0
  obtain ⟨m, rfl⟩ := Int.eq_ofNat_of_zero_le h1
  have : n * m < 2 ^ a * 2 ^ b := Nat.mul_lt_mul'' (by omega) (by omega)
  rw [← Nat.pow_add] at this
  have e4 : ((n * m : Nat) : Int) = (n : Int) * (m : Int) := by simp
  omega
end L3
namespace L3
open PySem PySem.Spec PyProof.Rows L2
/-! ### the end: what the top has laid; the law's own promise -/
def spLaw (K : PySem.W.Frag) : Sp := fun vs H Q _ => ∃ (a : Addr) (ns : List Int), vs = [.ref a] ∧ SqL K H a (ns.map V.int) ∧ ns.length ≤ 63 ∧ ∀ H', Q (.bl true) H'
theorem law_imp {G : Gx} {X : Ex} {vs : List V} {H : Hp} {Q : VK} {E : XK} (h : spLaw G.K vs H Q E) : spC G X c_law vs H Q E := by
  obtain ⟨a, ns, rfl, hS, hl, q⟩ := h
  refine ⟨ns, hl, H, [.l (ns.map D.int)], .refl _, .cons ⟨a, _, rfl, hS, RpAll.ints ns⟩ .nil, rfl, fun r v F' H' hr _ _ _ _ hres => ?_, fun c H' hx _ => ?_⟩
  · have e : r = .d (.bl true) := by
      have : Out.ret (Res.d (.bl true)) = Out.ret r := hr
      injection this with this
      exact this.symm
    subst e
    cases (show Rp G F' v (.bl true) from hres)
    exact q H'
  · obtain ⟨n, hn, _⟩ := hx
    cases hn
theorem top_mk {K : PySem.W.Frag} {h : Heap} {mg : Str → Option Value} {x : Str} {st : Stmt} {ps : List Str} {f : Addr} {oc : Value} {od an : Option Addr} {osl : Array (Option Value)} {kV doc pm cdv ct : Value} (X : K.In h) (G : h.Ns mainGlobals mg)
    (a : PySem.W.nsIn K mainGlobals x = some (some (.ref f))) (l : K.lookup f = some ⟨oc, od, .func (PySem.W.fnOf x x (defArgs st) (defBody st) (defScope st) .none kV doc pm an cdv ct), osl⟩)
    (c : PySem.W.codeIn K cdv x = true) (k : PySem.W.keepIn K (.ref f) = true)
    (hb : ∀ (kV doc pm : Value) (an : Option Addr) (cdv ct : Value) (us : List Value), us.length = ps.length → bindArgs (PySem.W.fnOf x x (defArgs st) (defBody st) (defScope st) .none kV doc pm an cdv ct) ⟨us, []⟩ = pure (ps.zip us)) : Top K mg x st ps := by
  have F := fun_mk (st := st) l c k
  exact ⟨⟨f, _, F, PySem.W.mg_of X G a, F.binds hb⟩⟩
theorem z_mk {K : PySem.W.Frag} {h : Heap} {mg : Str → Option Value} {x : Str} (X : K.In h) (G : h.Ns mainGlobals mg) (a : PySem.W.nsIn K mainGlobals x = some none) : mg x = none := PySem.W.mg_none_of X G a
theorem cstI_mk {K : PySem.W.Frag} {h : Heap} {mg : Str → Option Value} {x : Str} {i : Int} {t : Tok} (X : K.In h) (G : h.Ns mainGlobals mg) (a : PySem.W.nsIn K mainGlobals x = some (some (.int i t))) : CstI mg x i := ⟨t, PySem.W.mg_of X G a⟩
theorem cstF_mk {G' : Gx} {h : Heap} {mg : Str → Option Value} {x : Str} {p : Addr} {q : Rat} {dd : Option Addr} {n : Nat} {sl : Array (Option Value)} {t1 t2 : Tok} {i j : Int} (X : G'.K.In h) (G : h.Ns mainGlobals mg) (a : PySem.W.nsIn G'.K mainGlobals x = some (some (.ref p)))
    (l : G'.K.lookup p = some ⟨.type "tuple", dd, .seq #[.int i t1, .int j t2] n, sl⟩) (hi : q.num = i) (hj : (q.den : Int) = j) : CstT G' mg x (encF q) := by
  subst hi hj
  refine ⟨p, PySem.W.mg_of X G a, fun F => .tup (xs := [.int q.num, .int (q.den : Int)]) (.inr ⟨_, _, n, l, rfl, rfl, by show 2 ≤ sizeLine; decide, ?_⟩) (.cons (.int _) (.cons (.int _) .nil))⟩
  exact .cons ⟨t1, rfl⟩ (.cons ⟨t2, rfl⟩ .nil)
theorem cx_false {P : Program} {w : World} {outer : List Env} {H : Hp} {s : Shared} {e : Value} {s' : Shared} (h : L2N.CX P w outer H s (fun _ _ _ => False) e s') : False := by
  obtain ⟨_, _, _, _, _, _, _, _, _, _, _, _, z⟩ := h
  exact z
theorem law_fn {P : Program} {w : World} {mg : Str → Option Value} {base : Heap} {G : Gx} {X : Ex} {k : Nat} {f : Addr} {fd : FuncData} {x : Str} (F : FnOk P w G.K mg base (L2N.CX P w) k f fd [x] (spC G X c_law)) : FnOk P w G.K mg base (L2N.CX P w) k f fd [x] (spLaw G.K) :=
  F.imp fun _ _ _ _ h => law_imp h
end L3
namespace L3
open PySem PySem.Spec PyProof.Rows L2
theorem exc_mk {K : PySem.W.Frag} {h : Heap} {mg : Str → Option Value} {x : Str} {C : Addr} (X : K.In h) (G : h.Ns mainGlobals mg) (a : PySem.W.nsIn K mainGlobals x = some (some (.ref C)))
    (x1 : PySem.W.excIn K C [.type "ValueError", .type "Exception", .type "BaseException", .type "object"] "ValueError.__new__" = true) (k : PySem.W.keepIn K (.ref C) = true) (b : PySem.W.subIn K (.ref C) (.type "BaseException") = some true) (t : PySem.W.typeIn K (.ref C) = some (.type "type")) :
    ∃ c, ExcOk K mg x c := ⟨C, x1, PySem.W.mg_of X G a, k, b, t⟩
theorem law_mk {P : Program} {w : World} {K : PySem.W.Frag} {h : Heap} {mg : Str → Option Value} {x p : Str} {st : Stmt} {n : Nat} {sp : Sp} {f fa : Addr} {oc : Value} {od an : Option Addr} {osl : Array (Option Value)} {kV doc pm cdv ct : Value} (X : K.In h) (G : h.Ns mainGlobals mg) (hfa : mg x = some (.ref fa))
    (a : PySem.W.nsIn K mainGlobals x = some (some (.ref f))) (l : K.lookup f = some ⟨oc, od, .func (PySem.W.fnOf x x (defArgs st) (defBody st) (defScope st) .none kV doc pm an cdv ct), osl⟩)
    (c : PySem.W.codeIn K cdv x = true) (k : PySem.W.keepIn K (.ref f) = true)
    (H : ∀ fd, Fun K x x st fa fd → ∀ base, FnOk P w K mg base (L2N.CX P w) n fa fd [p] sp)
    (hb : ∀ (s : Shared) (u : Value), BindsTo s (PySem.W.fnOf x x (defArgs st) (defBody st) (defScope st) .none kV doc pm an cdv ct) ⟨[u], []⟩ [(p, u)]) :
    ∃ fd : FuncData, (∀ (s : Shared) (u : Value), BindsTo s fd ⟨[u], []⟩ [(p, u)]) ∧ ∀ base : Heap, K.In base → base.Ns mainGlobals mg → FnOk P w K mg base (L2N.CX P w) n fa fd [p] sp := by
  have e := hfa.symm.trans (PySem.W.mg_of X G a)
  cases e
  exact ⟨_, hb, fun base _ _ => H _ (fun_mk (st := st) l c k) base⟩
end L3
namespace L3
open PySem
@[reducible] def kof {K : PySem.W.Frag} {h : Heap} (_ : K.In h) : PySem.W.Frag := K
end L3
namespace L3
theorem bind_ {A B : Prop} (a : A) (f : A → B) : B := f a
end L3

set_option Elab.async false
set_option linter.all false
set_option maxRecDepth 100000
set_option maxHeartbeats 4000000
set_option exponentiation.threshold 100
/-! Pieces: what is one; promises. -/
namespace L3
open PySem PySem.Spec PyProof.Rows L2
def encS (s : Rat × Rat) : D := .tup [encF s.1, encF s.2]
abbrev Piece := List (Rat × Rat)
def encP (p : Piece) : List D := p.map encS
/-- any data read as a fraction -/
def fracOf : D → Option Rat
  | .tup [.int a, .int b] => if 0 ≤ a ∧ 0 < b ∧ Int.gcd a b = 1 then some (Rat.divInt a b) else none
  | _ => none
def spanOf : D → Option (Rat × Rat)
  | .tup [x, y] => match fracOf x, fracOf y with
    | some s, some e => if s < e ∧ e ≤ 1 then some (s, e) else none
    | _, _ => none
  | _ => none
/-- the spans one by one -/
def spansOf : List D → Option Piece
  | [] => some []
  | d :: ds => match spanOf d, spansOf ds with
    | some s, some p => some (s :: p)
    | _, _ => none
def Apart : Piece → Prop
  | [] => True
  | [_] => True
  | s :: t :: r => s.2 < t.1 ∧ Apart (t :: r)
instance : ∀ p : Piece, Decidable (Apart p)
  | [] => isTrue trivial
  | [_] => isTrue trivial
  | s :: t :: r => by
    unfold Apart
    have := instDecidableApart (t :: r)
    exact inferInstance
def pieceOf : D → Option Piece
  | .lst ds => match spansOf ds with
    | some p => if Apart p then some p else none
    | none => none
  | _ => none
/-- fit to be looked at: no objects, no numbers beyond the sizes -/
def ok1 (d : D) : Prop := noOb d = true ∧ ∀ x y, d = .tup [x, y] → noOb x = true ∧ noOb y = true ∧ ∀ a b, x = .int a → y = .int b → a.natAbs < 2 ^ 4400 ∧ b.natAbs < 2 ^ 4400
def ok2 (d : D) : Prop := noOb d = true ∧ ∀ x y, d = .tup [x, y] → ok1 x ∧ ok1 y
def ok3 (d : D) : Prop := noOb d = true ∧ ∀ ds, d = .lst ds → ds.length ≤ 900000 ∧ ∀ x ∈ ds, ok2 x
theorem ok1_enc {q : Rat} (h : Sz q) : ok1 (encF q) := ⟨rfl, fun x y e => by
  unfold encF at e
  injection e with e
  injection e with e1 e2
  injection e2 with e2 _
  subst e1 e2
  refine ⟨rfl, rfl, fun a b h1 h2 => ?_⟩
  cases h1; cases h2
  exact ⟨h.1, by rw [Int.natAbs_natCast]; exact h.2⟩⟩
theorem fracOf_enc {q : Rat} (h : 0 ≤ q) : fracOf (encF q) = some q := by
  have h1 := nn_num h
  have h2 := den_pos' q
  have h3 : Int.gcd q.num q.den = 1 := q.reduced
  show (if 0 ≤ q.num ∧ 0 < (q.den : Int) ∧ Int.gcd q.num q.den = 1 then some (Rat.divInt q.num q.den) else none) = some q
  rw [if_pos ⟨h1, h2, h3⟩, Rat.num_divInt_den]
theorem spanOf_enc {s : Rat × Rat} (h0 : 0 ≤ s.1) (h : s.1 < s.2) (h1 : s.2 ≤ 1) : spanOf (encS s) = some s := by
  have h2 : 0 ≤ s.2 := by grind
  show (match fracOf (encF s.1), fracOf (encF s.2) with | some s, some e => if s < e ∧ e ≤ 1 then some (s, e) else none | _, _ => none) = some s
  rw [fracOf_enc h0, fracOf_enc h2]
  show (if s.1 < s.2 ∧ s.2 ≤ 1 then some (s.1, s.2) else none) = some s
  rw [if_pos ⟨h, h1⟩]
/-- a piece as it is promised -/
def IsPiece (p : Piece) : Prop := (∀ s ∈ p, 0 ≤ s.1 ∧ s.1 < s.2 ∧ s.2 ≤ 1) ∧ Apart p
theorem spansOf_enc : ∀ {p : Piece}, (∀ s ∈ p, 0 ≤ s.1 ∧ s.1 < s.2 ∧ s.2 ≤ 1) → spansOf (encP p) = some p
  | [], _ => rfl
  | s :: p, h => by
    have h1 := h s List.mem_cons_self
    have ih := spansOf_enc (p := p) fun t ht => h t (List.mem_cons_of_mem _ ht)
    show (match spanOf (encS s), spansOf (encP p) with | some s, some p => some (s :: p) | _, _ => none) = some (s :: p)
    rw [spanOf_enc h1.1 h1.2.1 h1.2.2, ih]
theorem pieceOf_enc {p : Piece} (h : IsPiece p) : pieceOf (.lst (encP p)) = some p := by
  show (match spansOf (encP p) with | some p => if Apart p then some p else none | none => none) = some p
  rw [spansOf_enc h.1]
  exact if_pos h.2
def c_is_fraction : Ct D := ⟨fun a => [argOf a], ok1, fun a => .ret (.d (.bl (fracOf a).isSome))⟩
def c_is_span : Ct D := ⟨fun a => [argOf a], ok2, fun a => .ret (.d (.bl (spanOf a).isSome))⟩
def c_check_piece : Ct D := ⟨fun a => [argOf a], ok3, fun a => if (pieceOf a).isSome then .ret (.d .non) else .exc 2⟩
def Szs (p : Piece) : Prop := ∀ s ∈ p, Sz s.1 ∧ Sz s.2
theorem ok2_enc {s : Rat × Rat} (h1 : Sz s.1) (h2 : Sz s.2) : ok2 (encS s) := ⟨rfl, fun x y e => by
  unfold encS at e
  injection e with e
  injection e with e1 e2
  injection e2 with e2 _
  subst e1 e2
  exact ⟨ok1_enc h1, ok1_enc h2⟩⟩
theorem ok3_enc {p : Piece} (h : Szs p) (hl : p.length ≤ 900000) : ok3 (.lst (encP p)) := ⟨rfl, fun ds e => by
  injection e with e
  subst e
  refine ⟨by simpa [encP] using hl, fun x hx => ?_⟩
  obtain ⟨s, hs, rfl⟩ := List.mem_map.mp hx
  exact ok2_enc (h s hs).1 (h s hs).2⟩
section
variable {G : Gx} {F0 H0 : Hp} {ρ : Ro} {μ : Mu} {R : RE} {X : Ex} {E : XK}
theorem ca_is_fraction {d : D} {u : U} (ha : ArgOf μ u (argOf d)) (h : ok1 d) (k : R (.d (.bl (fracOf d).isSome)) μ) : Call [u] c_is_fraction R μ H0 X E := ⟨d, .cons ha .nil, h, k⟩
theorem ca_is_whole {d : D} {u : U} (ha : ArgOf μ u (argOf d)) (h : noOb d = true) (k : R (.d (.bl (wholeD d))) μ) : Call [u] c_is_whole R μ H0 X E := ⟨d, .cons ha .nil, h, k⟩
theorem ca_is_span {d : D} {u : U} (ha : ArgOf μ u (argOf d)) (h : ok2 d) (k : R (.d (.bl (spanOf d).isSome)) μ) : Call [u] c_is_span R μ H0 X E := ⟨d, .cons ha .nil, h, k⟩
theorem ca_check {p : Piece} {u : U} (hl : IsL μ u (encP p)) (hp : IsPiece p) (hs : Szs p) (hn : p.length ≤ 900000) (k : R (.d .non) μ) : Call [u] c_check_piece R μ H0 X E := ⟨.lst (encP p), .cons (.l hl) .nil, ok3_enc hs hn, by
  have : c_check_piece.out (.lst (encP p)) = .ret (.d .non) := by
    show (if (pieceOf (.lst (encP p))).isSome then Out.ret (.d .non) else .exc 2) = _
    rw [pieceOf_enc hp]
    rfl
  rw [this]
  exact k⟩
/-- data within data, handed on -/
theorem arg_in (d : D) : ArgOf μ (.d d) (argOf d) := by
  rcases lst_or d with ⟨ds, rfl⟩ | h
  · exact .l (.inl rfl)
  · rw [h]; exact .d d
end
theorem frac_cases {d : D} (n : noOb d = true) : (∃ a b : Int, d = .tup [.int a, .int b]) ∨ fracOf d = none := by
  unfold fracOf
  split
  · exact .inl ⟨_, _, rfl⟩
  · exact .inr rfl
end L3
namespace L3
theorem tup_len {ds : List D} (h : ds.length = 2) : ∃ x y, ds = [x, y] := by
  match ds, h with
  | [x, y], _ => exact ⟨x, y, rfl⟩
theorem fracOf_len {ds : List D} (h : ds.length ≠ 2) : fracOf (.tup ds) = none := by
  unfold fracOf
  split
  · rename_i e; injection e with e; subst e; exact absurd rfl h
  · rfl
theorem spanOf_len {ds : List D} (h : ds.length ≠ 2) : spanOf (.tup ds) = none := by
  unfold spanOf
  split
  · rename_i e; injection e with e; subst e; exact absurd rfl h
  · rfl
theorem fracOf_w1 {x y : D} (h : wholeD x = false) : fracOf (.tup [x, y]) = none := by
  unfold fracOf
  split
  · rename_i e; injection e with e; injection e with e1 e2; subst e1; cases h
  · rfl
theorem fracOf_w2 {x y : D} (h : wholeD y = false) : fracOf (.tup [x, y]) = none := by
  unfold fracOf
  split
  · rename_i e; injection e with e; injection e with e1 e2; injection e2 with e2; subst e2; cases h
  · rfl
theorem fracOf_ii (a b : Int) : fracOf (.tup [.int a, .int b]) = if 0 ≤ a ∧ 0 < b ∧ Int.gcd a b = 1 then some (Rat.divInt a b) else none := rfl
/-- in lowest terms just when lowest leaves it -/
theorem eqD_low {a b : Int} (hb : 0 < b) : eqD (encF (Rat.divInt a b)) (.tup [.int a, .int b]) = decide (Int.gcd a b = 1) := by
  unfold encF
  simp only [eqD, eqDs, Bool.and_true]
  rw [← low_num hb, ← low_den hb]
  by_cases h : Int.gcd a b = 1
  · rw [h, decide_eq_true rfl]
    simp
  · rw [decide_eq_false h, Bool.and_eq_false_iff]
    right
    rw [beq_eq_false_iff_ne]
    intro e
    have hg : 0 < Int.gcd a b := Int.gcd_pos_of_ne_zero_right a (by omega)
    have h2 : (1 : Int) < (Int.gcd a b : Int) := by omega
    have := Int.ediv_lt_self_of_pos_of_ne_one hb (by omega : (Int.gcd a b : Int) ≠ 1) 
    omega
end L3
namespace L3
theorem frac_back {d : D} {q : Rat} (h : fracOf d = some q) : d = encF q := by
  unfold fracOf at h
  split at h
  · rename_i a b
    split at h
    · rename_i c
      obtain ⟨c1, c2, c3⟩ := c
      have e : Rat.divInt a b = q := Option.some.inj h
      subst e
      have hn := low_num (a := a) c2
      have hd := low_den (a := a) c2
      rw [c3] at hn hd
      unfold encF
      rw [← hn, ← hd]
      simp
    · cases h
  · cases h
theorem frac_nn {d : D} {q : Rat} (h : fracOf d = some q) : 0 ≤ q := by
  unfold fracOf at h
  split at h
  · split at h
    · rename_i c
      have e := Option.some.inj h
      subst e
      exact divInt_nn c.1 c.2.1
    · cases h
  · cases h
theorem frac_sz {d : D} {q : Rat} (o : ok1 d) (h : fracOf d = some q) : Sz q := by
  have e := frac_back h
  subst e
  obtain ⟨_, o2⟩ := o
  obtain ⟨_, _, o3⟩ := o2 _ _ rfl
  obtain ⟨h1, h2⟩ := o3 _ _ rfl rfl
  exact ⟨h1, by rw [Int.natAbs_natCast] at h2; exact h2⟩
end L3
namespace L3
open L2
theorem span_back {d : D} {s : Rat × Rat} (h : spanOf d = some s) : d = encS s ∧ 0 ≤ s.1 ∧ s.1 < s.2 ∧ s.2 ≤ 1 := by
  unfold spanOf at h
  split at h
  · rename_i x y
    split at h
    · rename_i q r hx hy
      split at h
      · rename_i c
        have e := Option.some.inj h
        subst e
        have ex := frac_back hx
        have ey := frac_back hy
        have nx := frac_nn hx
        subst ex ey
        exact ⟨rfl, nx, c.1, c.2⟩
      · cases h
    · cases h
  · cases h
theorem span_sz {s : Rat × Rat} (o : ok2 (encS s)) (h0 : 0 ≤ s.1) (h1 : 0 ≤ s.2) : Sz s.1 ∧ Sz s.2 := by
  obtain ⟨_, o2⟩ := o
  obtain ⟨o3, o4⟩ := o2 _ _ rfl
  exact ⟨frac_sz o3 (fracOf_enc h0), frac_sz o4 (fracOf_enc h1)⟩
theorem spans_some : ∀ {ds : List D}, (∀ d ∈ ds, (spanOf d).isSome = true) → ∃ p, spansOf ds = some p ∧ ds = encP p ∧ ∀ s ∈ p, 0 ≤ s.1 ∧ s.1 < s.2 ∧ s.2 ≤ 1
  | [], _ => ⟨[], rfl, rfl, fun _ h => by cases h⟩
  | d :: ds, h => by
    obtain ⟨p, h1, h2, h3⟩ := spans_some (ds := ds) fun x hx => h x (List.mem_cons_of_mem _ hx)
    obtain ⟨s, hs⟩ := Option.isSome_iff_exists.mp (h d List.mem_cons_self)
    obtain ⟨b1, b2⟩ := span_back hs
    refine ⟨s :: p, ?_, ?_, ?_⟩
    · show (match spanOf d, spansOf ds with | some s, some p => some (s :: p) | _, _ => none) = _
      rw [hs, h1]
    · show d :: ds = encS s :: encP p
      rw [b1, ← h2]
    · intro t ht
      rcases List.mem_cons.mp ht with rfl | ht
      · exact b2
      · exact h3 t ht
theorem spans_none : ∀ {ds : List D}, (∃ d ∈ ds, spanOf d = none) → spansOf ds = none
  | [], ⟨_, h, _⟩ => by cases h
  | d :: ds, ⟨x, hx, hn⟩ => by
    show (match spanOf d, spansOf ds with | some s, some p => some (s :: p) | _, _ => none) = none
    rcases List.mem_cons.mp hx with rfl | hx
    · rw [hn]
    · rw [spans_none ⟨x, hx, hn⟩]
      cases spanOf d <;> rfl
theorem apart_iff : ∀ {p : Piece}, Apart p ↔ ∀ k, (h : k + 1 < p.length) → p[k].2 < p[k + 1].1
  | [] => ⟨fun _ k h => by simp at h, fun _ => trivial⟩
  | [_] => ⟨fun _ k h => by simp at h, fun _ => trivial⟩
  | s :: t :: r => by
    have ih := apart_iff (p := t :: r)
    constructor
    · rintro ⟨h1, h2⟩ k hk
      cases k with
      | zero => exact h1
      | succ k => exact ih.mp h2 k (by simpa using hk)
    · intro h
      refine ⟨h 0 (by simp), ih.mpr fun k hk => h (k + 1) (by simpa using hk)⟩
theorem atI_encP {p : Piece} {n : Nat} (h : n < p.length) : atI (encP p) (n : Int) = some (encS p[n]) := by
  refine atI_nat ?_
  unfold encP
  rw [List.getElem?_map, List.getElem?_eq_getElem h]
  rfl
theorem encP_len (p : Piece) : (encP p).length = p.length := by simp [encP]
section
variable {G : Gx} {F0 H0 : Hp} {ρ : Ro} {μ : Mu} {R : RE}
theorem w2_s0 {s : Rat × Rat} (k : R (.d (encF s.1)) μ) : w2 G F0 H0 (rIx G.K) (.d (encS s)) (.d (.int 0)) ρ μ R := w2_ix (.inr rfl) rfl k
theorem w2_s1 {s : Rat × Rat} (k : R (.d (encF s.2)) μ) : w2 G F0 H0 (rIx G.K) (.d (encS s)) (.d (.int 1)) ρ μ R := w2_ix (.inr rfl) rfl k
theorem all_map {ds : List D} {f : D → Bool} : (ds.map f).all id = true ↔ ∀ d ∈ ds, f d = true := by
  rw [List.all_map, List.all_eq_true]
  rfl
end
end L3

set_option Elab.async false
set_option linter.all false
set_option maxRecDepth 100000
set_option maxHeartbeats 4000000
set_option exponentiation.threshold 100
/-! Objects that are being made; making them. -/
namespace L3
open PySem PySem.Spec PyProof.Rows L2
def putU (f : Str) (u : U) : List (Str × U) → List (Str × U)
  | [] => [(f, u)]
  | (g, x) :: r => if g = f then (g, u) :: r else (g, x) :: putU f u r
section
variable {G : Gx} {F0 H0 : Hp} {F F1 H : Hp} {as as1 : List Addr} {σ : L2.St} {ρ : Ro} {μ : Mu} {R : RE} {D' : DE} {X : Ex} {α : Type}
theorem paired_put {f : Str} {v : V} {u : U} (h : RpU G as F v u) : ∀ {gs : List (Str × V)} {fs : List (Str × U)}, Paired (fun (g : Str × V) (f : Str × U) => g.1 = f.1 ∧ RpU G as F g.2 f.2) gs fs → Paired (fun (g : Str × V) (f : Str × U) => g.1 = f.1 ∧ RpU G as F g.2 f.2) (putF f v gs) (putU f u fs)
  | _, _, .nil => .cons ⟨rfl, h⟩ .nil
  | (g, x) :: gs, (g', y) :: fs, .cons r t => by
    obtain ⟨e, r2⟩ := r
    have e' : g = g' := e
    subst e'
    show Paired _ (if g = f then (g, v) :: gs else (g, x) :: putF f v gs) (if g = f then (g, u) :: fs else (g, y) :: putU f u fs)
    by_cases c : g = f
    · rw [if_pos c, if_pos c]; exact .cons ⟨rfl, h⟩ t
    · rw [if_neg c, if_neg c]; exact .cons ⟨rfl, r2⟩ (paired_put h t)
theorem paired_look {f : Str} {u : U} : ∀ {gs : List (Str × V)} {fs : List (Str × U)}, Paired (fun (g : Str × V) (f : Str × U) => g.1 = f.1 ∧ RpU G as F g.2 f.2) gs fs → fs.lookup f = some u → ∃ v, gs.lookup f = some v ∧ RpU G as F v u
  | _, _, .nil, h => by cases h
  | (g, x) :: gs, (g', y) :: fs, .cons r t, h => by
    obtain ⟨e, r2⟩ := r
    have e' : g = g' := e
    subst e'
    cases c : (f == g) with
    | true =>
      simp only [List.lookup, c] at h ⊢
      cases h
      exact ⟨x, rfl, r2⟩
    | false =>
      simp only [List.lookup, c] at h ⊢
      exact paired_look t h
theorem paired_lookN {f : Str} : ∀ {gs : List (Str × V)} {fs : List (Str × U)}, Paired (fun (g : Str × V) (f : Str × U) => g.1 = f.1 ∧ RpU G as F g.2 f.2) gs fs → fs.lookup f = none → gs.lookup f = none
  | _, _, .nil, h => rfl
  | (g, x) :: gs, (g', y) :: fs, .cons r t, h => by
    obtain ⟨e, r2⟩ := r
    have e' : g = g' := e
    subst e'
    cases c : (f == g) with
    | true => simp only [List.lookup, c] at h; cases h
    | false =>
      simp only [List.lookup, c] at h ⊢
      exact paired_lookN t h
/-- an attribute of an object that is being made -/
theorem wE_fldP {ta : TE} {f : Str} (h : wE G F0 H0 ta ρ μ fun u μ1 => ∃ k n fs u', u = .p k ∧ μ1[k]? = some (.ins n fs) ∧ fs.lookup f = some u' ∧ Cls G.K (G.cl n) ∧ NoAttr G.K (G.cl n) f ∧ R u' μ1) : wE G F0 H0 (tFld G.K ta f) ρ μ R := fun F H as σ Q e q => by
  refine h F H as σ _ e fun u μ1 v F1 H1 as1 h1 e1 s1 g1 r1 => ?_
  obtain ⟨k, n, fs, u', rfl, hk, hl, hc, hna, kk⟩ := h1
  obtain ⟨a, rfl, ha⟩ := r1
  obtain ⟨_, _, dx, gs, h3, h4⟩ := e1.ce k _ a hk ha
  obtain ⟨w, h5, h6⟩ := paired_look h4 hl
  exact ⟨a, _, dx, gs, w, rfl, h3, hc, hna, h5, q _ _ _ _ _ _ kk e1 s1 g1 h6⟩
theorem wS_setFld {ta tv : TE} {f : Str} (h : wE G F0 H0 tv ρ μ fun u μ1 => wE G F0 H0 ta ρ μ1 fun o μ2 => ∃ k n fs, o = .p k ∧ μ2[k]? = some (.ins n fs) ∧ fs.length < 1000 ∧ Cls G.K (G.cl n) ∧ NoAttr G.K (G.cl n) f ∧ D'.nx ρ (μ2.set k (.ins n (putU f u fs)))) :
    wS G F0 H0 (sFld G.K ta tv f) ρ μ D' := fun F H as σ X e q => by
  refine h F H as σ _ e fun u μ1 v F1 H1 as1 h1 e1 s1 g1 r1 => ?_
  refine h1 F1 H1 as1 σ _ e1 fun o μ2 w F2 H2 as2 h2 e2 s2 g2 r2 => ?_
  obtain ⟨k, n, fs, rfl, hk, hl, hc, hna, kk⟩ := h2
  obtain ⟨a, rfl, ha⟩ := r2
  obtain ⟨n0, nF, dx, gs, h3, h4⟩ := e2.ce k _ a hk ha
  have hl2 : gs.length < 1000 := by rw [paired_len h4]; exact hl
  refine ⟨a, _, dx, gs, rfl, h3, hc, hna, hl2, ?_⟩
  have e3 := e2.write (o := .ins (G.cl n) dx (putF f v gs)) (c' := .ins n (putU f u fs)) hk ha rfl rfl ⟨n0, nF, dx, _, upd_same, paired_put (r1.mono s2 g2) h4⟩
  exact q.nx _ _ _ _ _ _ kk e3 (s1.trans s2) (g1.trans g2)
/-- the one attribute's list becomes data -/
theorem wS_frzFld {t : TS} {k j n : Nat} {f : Str} {ds : List D} (hk : μ[k]? = some (.ins n [(f, .p j)])) (hj : μ[j]? = some (.rw ds)) (h : wS G F0 H0 t ρ ((μ.set j .gone).set k (.ins n [(f, .d (.lst ds))])) D') : wS G F0 H0 t ρ μ D' := fun F H as σ X e q => by
  have hkl : k < μ.length := (List.getElem?_eq_some_iff.mp hk).1
  have hjl : j < μ.length := (List.getElem?_eq_some_iff.mp hj).1
  have hjk : j ≠ k := fun z => by subst z; rw [hk] at hj; cases hj
  have hja : ∃ b, as[j]? = some b := ⟨as[j]'(by rw [e.al]; exact hjl), by rw [List.getElem?_eq_getElem]⟩
  have hka : ∃ b, as[k]? = some b := ⟨as[k]'(by rw [e.al]; exact hkl), by rw [List.getElem?_eq_getElem]⟩
  obtain ⟨b, hb⟩ := hja
  obtain ⟨a, ha⟩ := hka
  obtain ⟨F2, s2, r2, e2⟩ := e.freeze hj hb
  have hk2 : (μ.set j .gone)[k]? = some (.ins n [(f, .p j)]) := by rw [List.getElem?_set_ne hjk]; exact hk
  obtain ⟨n0, nF, dx, gs, h3, h4⟩ := e2.ce k _ a hk2 ha
  have e3 : Ev G F0 H0 F2 (upd H a (.ins (G.cl n) dx gs)) as σ ρ ((μ.set j .gone).set k (.ins n [(f, .d (.lst ds))])) := by
    refine e2.write (o := .ins (G.cl n) dx gs) (c' := .ins n [(f, .d (.lst ds))]) hk2 ha rfl rfl ⟨n0, nF, dx, gs, upd_same, ?_⟩
    cases h4 with
    | cons x y =>
      cases y
      obtain ⟨x1, b', x2, x3⟩ := x
      rw [hb] at x3
      cases x3
      exact .cons ⟨x1, by rw [x2]; exact r2⟩ .nil
  have eH : upd H a (.ins (G.cl n) dx gs) = H := by
    funext c
    by_cases hc : c = a
    · subst hc; rw [upd_same, h3]
    · rw [upd_ne hc]
  rw [eH] at e3
  exact h F2 H as σ X e3 (q.on s2 .refl)
/-! tuples of numbers and texts alone -/
mutual
def tupO : D → Bool
  | .tup ds => tupOs ds
  | .lst _ => false
  | .ob _ _ => false
  | .raw _ => false
  | .fn _ => false
  | _ => true
def tupOs : List D → Bool
  | [] => true
  | d :: ds => tupO d && tupOs ds
end
mutual
theorem rp_tup {F' : Hp} (hT : ∀ t xs, SqT G.K F t xs → SqT G.K F' t xs) : ∀ (d : D) {v : V}, tupO d = true → Rp G F v d → Rp G F' v d
  | .non, _, _, h => by cases h; exact .non
  | .bl b, _, _, h => by cases h; exact .bl b
  | .int i, _, _, h => by cases h; exact .int i
  | .str x, _, _, h => by cases h; exact .str x
  | .tup ds, _, s, h => by
    cases h with
    | tup hs ha => exact .tup (hT _ _ hs) (rp_tups hT ds (by simpa [tupO] using s) ha)
  | .lst _, _, s, _ => by simp [tupO] at s
  | .ob _ _, _, s, _ => by simp [tupO] at s
  | .raw _, _, s, _ => by simp [tupO] at s
  | .fn _, _, s, _ => by simp [tupO] at s
theorem rp_tups {F' : Hp} (hT : ∀ t xs, SqT G.K F t xs → SqT G.K F' t xs) : ∀ (ds : List D) {vs : List V}, tupOs ds = true → RpAll G F vs ds → RpAll G F' vs ds
  | [], _, _, h => by cases h; exact .nil
  | d :: ds, _, s, h => by
    simp only [tupOs, Bool.and_eq_true] at s
    cases h with
    | cons a b => exact .cons (rp_tup hT d s.1 a) (rp_tups hT ds s.2 b)
end
theorem paired_frz : ∀ {gs : List (Str × V)} {fs : List (Str × D)}, Paired (fun (g : Str × V) (f : Str × U) => g.1 = f.1 ∧ RpU G as F g.2 f.2) gs (fs.map fun f => (f.1, U.d f.2)) → gs.map (·.1) = fs.map (·.1) ∧ RpAll G F (gs.map (·.2)) (fs.map (·.2))
  | _, [], h => by cases h; exact ⟨rfl, .nil⟩
  | _, (g', y) :: fs, h => by
    cases h with
    | cons r t =>
      obtain ⟨h1, h2⟩ := paired_frz (fs := fs) t
      obtain ⟨r1, r2⟩ := r
      refine ⟨?_, .cons r2 h2⟩
      rw [List.map_cons, List.map_cons, h1, r1]
/-- o.m(..), o being made, all its attributes data; what is told is of numbers -/
theorem wE_cmP {c : Ct α} {E : XK} {C : Addr} {m : Str} {ta : TE} {t : TA} (h : wE G F0 H0 ta ρ μ fun u μ1 => ∃ (k n n' : Nat) (fs : List (Str × D)), u = .p k ∧ μ1[k]? = some (.ins n (fs.map fun f => (f.1, U.d f.2))) ∧ fs.map (·.1) = fl n' ∧ G.cl n' = G.cl n ∧ G.cl n = C ∧ (fl n').contains m = false ∧
      wA G F0 H0 t ρ μ1 fun us μ2 => μ2 = μ1 ∧ ∃ a x, Paired (ArgOf μ2) (.d (.ob n' (fs.map (·.2))) :: us) (c.args a) ∧ c.pre a ∧ c.out a = .ret (.d x) ∧ tupO x = true ∧ R (.d x) μ2) :
    wE G F0 H0 (tMeth C m (spC G X c) [] E ta t) ρ μ R := fun F H as σ Q e q => by
  refine h F H as σ _ e fun u μ1 v F1 H1 as1 h1 e1 s1 g1 r1 => ?_
  obtain ⟨k, n, n', fs, rfl, hk, hf, hcl, hC, hm, h1⟩ := h1
  obtain ⟨a, rfl, ha⟩ := r1
  obtain ⟨_, _, dx, gs, h3, h4⟩ := e1.ce k _ a hk ha
  obtain ⟨p1', p2'⟩ := paired_frz h4
  refine ⟨a, dx, gs, rfl, by rw [← hC]; exact h3, look_none (p1'.trans hf) hm, ?_⟩
  refine h1 F1 H1 as1 σ _ e1 fun us μ2 vs F2 H2 as2 h2 e2 s2 g2 r2 => ?_
  obtain ⟨rfl, b, x, hb, hp, ho, hx, kk⟩ := h2
  obtain ⟨n0, nF, dx2, gs2, h5, h6⟩ := e2.ce k _ a hk (g2 _ _ ha)
  obtain ⟨p3, p4⟩ := paired_frz h6
  -- the object, borrowed
  have sF : Same F2 (upd F2 a (.ins (G.cl n) dx2 gs2)) := same_upd nF
  have sH : Same (upd F2 a (.ins (G.cl n) dx2 gs2)) H2 := fun y o z => by
    by_cases hy : y = a
    · subst hy; rw [upd_same] at z; cases z; exact h5
    · rw [upd_ne hy] at z; exact e2.bs.fh _ _ z
  have ro : Rp G (upd F2 a (.ins (G.cl n) dx2 gs2)) (.ref a) (.ob n' (fs.map (·.2))) := by
    refine .ob (dx := dx2) (fs := gs2) (by rw [hcl]; exact upd_same) (p3.trans hf) (RpAll.mono sF _ p4)
  -- the arguments over the greater ground
  have conv : ∀ {vs : List V} {us : List U} {xs : List Arg}, Paired (RpU G as2 F2) vs us → Paired (ArgOf μ2) us xs → Paired (ArgOk G (upd F2 a (.ins (G.cl n) dx2 gs2)) H2) vs xs := by
    intro vs us xs h h'
    exact paired_imp (fun v x z => by
      cases x with
      | d x => exact Rp.mono sF _ z
      | l ds => obtain ⟨p, ws, z1, z2, z3⟩ := z; exact ⟨p, ws, z1, z2, RpAll.mono sF _ z3⟩) (args_ok e2 h h')
  rw [List.append_nil]
  refine ⟨b, hp, upd F2 a (.ins (G.cl n) dx2 gs2), c.args b, sH, ?_, rfl, fun r w F' H' hr sF' sf sH' sn ro' => ?_, fun e' H' hx' hs => ?_⟩
  · revert hb
    generalize c.args b = xs
    intro hb
    cases hb with
    | cons x1 x2 =>
      refine .cons ?_ (conv r2 x2)
      cases x1 with
      | d _ => exact ro
      | l hl =>
        rcases hl with hl | ⟨k', hl, _⟩
        · cases hl
        · cases hl
  · rw [ho] at hr
    have er : r = .d x := by injection hr with hr; exact hr.symm
    subst er
    -- back to the smaller ground
    have F3 : ∃ F3 : Hp, F3 = fun y => if y = a then none else F' y := ⟨_, rfl⟩
    obtain ⟨F3, eF3⟩ := F3
    have g1' : Same F2 F3 := fun y o z => by
      have hy : y ≠ a := fun w => by subst w; rw [nF] at z; cases z
      rw [eF3]
      show (if y = a then none else F' y) = some o
      rw [if_neg hy]
      exact sF' _ _ (sF _ _ z)
    have g2' : Same F3 H' := fun y o z => by
      rw [eF3] at z
      have z' : (if y = a then none else F' y) = some o := z
      by_cases hy : y = a
      · rw [if_pos hy] at z'; cases z'
      · rw [if_neg hy] at z'; exact sf _ _ z'
    have g3' : ∀ y, H2 y ≠ none → F3 y = F2 y := fun y hy => by
      rw [eF3]
      show (if y = a then none else F' y) = F2 y
      by_cases hya : y = a
      · rw [if_pos hya, hya, nF]
      · rw [if_neg hya, sn y hy, upd_ne hya]
    have e3 := e2.grow g1' sH' g2' g3'
    have rx : Rp G F3 w x := by
      refine rp_tup (fun t xs z => ?_) x hx ro'
      have fa : F' a = some (.ins (G.cl n) dx2 gs2) := sF' _ _ upd_same
      rcases z with (z | ⟨o, z⟩) | z
      · refine .inl (.inl ?_)
        have hta : t ≠ a := fun y => by subst y; rw [fa] at z; cases z
        rw [eF3]
        show (if t = a then none else F' t) = _
        rw [if_neg hta]; exact z
      · refine .inl (.inr ⟨o, ?_⟩)
        have hta : t ≠ a := fun y => by subst y; rw [fa] at z; cases z
        rw [eF3]
        show (if t = a then none else F' t) = _
        rw [if_neg hta]; exact z
      · exact .inr z
    exact q _ _ _ _ _ _ kk e3 ((s1.trans s2).trans g1') (g1.trans g2) rx
  · obtain ⟨n'', hn, _⟩ := hx'
    rw [ho] at hn
    cases hn
/-! ### making -/
/-- the promise of __init__: the object becomes the data that the contract tells -/
def spI (G : Gx) (X : Ex) (C : Addr) (c : Ct α) : Sp := fun vs H Q E => ∃ (a : α) (F : Hp) (x dx : Addr) (ws : List V), vs = .ref x :: ws ∧ c.pre a ∧ Same F H ∧ H x = some (.ins C dx []) ∧ F x = none ∧ Paired (ArgOk G F H) ws (c.args a) ∧
  (∀ (d : D) (F' H' : Hp), c.out a = .ret (.d d) → Same F F' → Same F' H' → (∀ b o, b ≠ x → H b = some o → H' b = some o) → (∀ b, b ≠ x → H b ≠ none → F' b = F b) → Rp G F' (.ref x) d → Q .non H') ∧
  ∀ (n : Nat) (H' : Hp), c.out a = .exc n → (∀ b o, b ≠ x → H b = some o → H' b = some o) → E (.ref (X n)) none H'
theorem wE_mk {c : Ct α} {E : XK} {C : Addr} {t : TA} (hr : ∀ a, (∃ n, c.out a = .exc n) ∨ ∃ d, c.out a = .ret (.d d)) (h : wA G F0 H0 t ρ μ fun us μ1 => ∃ a, Paired (ArgOf μ1) us (c.args a) ∧ c.pre a ∧ Ends' R μ1 H0 X E (c.out a)) :
    wE G F0 H0 (tMake C (spI G X C c) [] E t) ρ μ R := fun F H as σ Q e q => by
  refine h F H as σ _ e fun us μ1 vs F1 H1 as1 h1 e1 s1 g1 r1 => ?_
  obtain ⟨a, ha, hp, hg⟩ := h1
  intro x dx nx nd ndx
  have fx : F1 x = none := e1.bs.fh.free nx
  have fd : F1 dx = none := e1.bs.fh.free nd
  have sH : Same H1 (upd (upd H1 dx (.own x)) x (.ins C dx [])) := fun b o z => by
    rw [upd_ne (ne_of_none z nx), upd_ne (ne_of_none z nd)]; exact z
  refine ⟨a, F1, x, dx, vs, by rw [List.append_nil], hp, e1.bs.fh.trans sH, upd_same, fx, ?_, fun d F' H' hd sF sf sh sn rd => ?_, fun n H' hn sh => ?_⟩
  · exact paired_imp (fun v y z => by
      cases y with
      | d y => exact z
      | l ds => obtain ⟨p, ws, z1, z2, z3⟩ := z; exact ⟨p, ws, z1, Same.sqL sH z2, z3⟩) (args_ok e1 r1 ha)
  · refine ⟨rfl, ?_⟩
    rw [hd] at hg
    have e2 := e1.grow sF (fun b o z => sh b o (ne_of_none z nx) (sH _ _ z)) sf fun b hb => by
      have hbx : b ≠ x := fun z => hb (by rw [z]; exact nx)
      refine sn b hbx ?_
      cases z : H1 b with
      | none => exact absurd z hb
      | some o => rw [sH _ _ z]; intro w; cases w
    exact q _ _ _ _ _ _ hg e2 (s1.trans sF) g1 rd
  · rw [hn] at hg
    exact hg H' fun b o z => by
      have z1 := e1.bs.h0 _ _ z
      exact sh b o (ne_of_none z1 nx) (sH _ _ z1)
/-- hiding one address -/
def hide (H : Hp) (x : Addr) : Hp := fun b => if b = x then none else H b
theorem hide_some {H : Hp} {x b : Addr} {o : HO} (h : hide H x b = some o) : b ≠ x ∧ H b = some o := by
  unfold hide at h
  by_cases e : b = x
  · rw [if_pos e] at h; cases h
  · rw [if_neg e] at h; exact ⟨e, h⟩
/-- the body of an __init__: self is cell 0, the lists handed in behind it -/
theorem body_init {C : Addr} {n : Nat} {c : Ct α} {t : TS} {N : List Str} {vs : List V} {H : Hp} {Q : VK} {E : XK} (hsp : spI G X C c vs H Q E) (hC : G.cl n = C) (hN : ∀ a, (c.args a).length + 1 ≤ N.length)
    (h : ∀ (a : α) (F H0 : Hp), c.pre a → (∀ m, c.out a = .exc m → ∀ H', Same H0 H' → E (.ref (X m)) none H') → wS G F H0 t (some (.p 0) :: slotsFrom 1 (c.args a) ++ List.replicate (N.length - ((c.args a).length + 1)) none) (.ins n [] :: cellsOf (c.args a))
      { nx := fun _ μ => ∃ (n' : Nat) (fs : List (Str × D)), μ[0]? = some (.ins n (fs.map fun f => (f.1, U.d f.2))) ∧ fs.map (·.1) = fl n' ∧ G.cl n' = C ∧ c.out a = .ret (.d (.ob n' (fs.map (·.2)))), rt := fun _ _ => False }) :
    t { nx := fun _ H' => Q .non H', rt := Q } (L2.start N vs) H := by
  obtain ⟨a, F, x, dx, ws, rfl, hp, hF, hx, fx, ha, hq, hX⟩ := hsp
  have hF' : Same F (hide H x) := fun b o z => by
    have hb : b ≠ x := fun y => by subst y; rw [fx] at z; cases z
    show (if b = x then none else H b) = some o
    rw [if_neg hb]; exact hF _ _ z
  have ha' : Paired (ArgOk G F (hide H x)) ws (c.args a) := paired_imp (fun v y z => by
    cases y with
    | d y => exact z
    | l ds =>
      obtain ⟨p, us, z1, z2, z3⟩ := z
      refine ⟨p, us, z1, ?_, z3⟩
      rcases z2 with (z2 | ⟨o, z2⟩) | z2
      · refine .inl (.inl ?_)
        show (if p = x then none else H p) = _
        rw [if_neg (ne_of z2 hx (by intro w; cases w))]; exact z2
      · refine .inl (.inr ⟨o, ?_⟩)
        show (if p = x then none else H p) = _
        rw [if_neg (ne_of z2 hx (by intro w; cases w))]; exact z2
      · exact .inr z2) ha
  obtain ⟨as, e1, e2, e3⟩ := start_ev (c.args a) ws [x] ha'
  have el := paired_len ha
  have sHH : Same (hide H x) H := fun b o z => (hide_some z).2
  have ev : Ev G F (hide H x) F H (x :: as) (L2.start N (.ref x :: ws)) (some (.p 0) :: slotsFrom 1 (c.args a) ++ List.replicate (N.length - ((c.args a).length + 1)) none) (.ins n [] :: cellsOf (c.args a)) := by
    refine ⟨⟨hF, .refl _, sHH, fun _ _ => rfl⟩, ?_, fun i u hi => ?_, by simp [e1], fun i j b c1 c2 h1 h2 h3 h4 m1 m2 => ?_, fun k c1 b hk hb => ?_⟩
    · unfold L2.start
      simp [slotsFrom_len, el]
    · unfold L2.start
      cases i with
      | zero =>
        simp at hi
        subst hi
        exact ⟨.ref x, rfl, x, rfl, rfl⟩
      | succ i =>
        have hi' : (slotsFrom 1 (c.args a) ++ List.replicate (N.length - ((c.args a).length + 1)) none)[i]? = some (some u) := by simpa using hi
        by_cases hl : i < (c.args a).length
        · rw [List.getElem?_append_left (by rw [slotsFrom_len]; exact hl)] at hi'
          obtain ⟨v, h1, h2⟩ := e2 i u hi'
          refine ⟨v, ?_, by simpa using h2⟩
          show ((V.ref x :: ws).map some ++ _)[i + 1]? = _
          rw [List.getElem?_append_left (by simp [el]; exact hl)]
          simpa using h1
        · rw [List.getElem?_append_right (by rw [slotsFrom_len]; omega)] at hi'
          rw [List.getElem?_replicate] at hi'
          split at hi' <;> cases hi'
    · have z : ∀ i c1, (Cell.ins n [] :: cellsOf (c.args a))[i]? = some c1 → Mt c1 = true → (x :: as)[i]? = some b → i = 0 := fun i c1 h m hb => by
        cases i with
        | zero => rfl
        | succ i =>
          have := (e3 i c1 b (by simpa using h) (by simpa using hb)).1
          rw [this] at m; cases m
      rw [z i c1 h3 m1 h1, z j c2 h4 m2 h2]
    · cases k with
      | zero =>
        simp at hk hb
        subst hk hb
        exact ⟨by show (if x = x then none else H x) = none; rw [if_pos rfl], fx, dx, [], by rw [hC]; exact hx, .nil⟩
      | succ k =>
        have hk' : (cellsOf (c.args a))[k]? = some c1 := by simpa using hk
        have hb' : as[k]? = some b := by simpa using hb
        obtain ⟨m, z⟩ := e3 k c1 b hk' hb'
        refine (z (x :: as)).mono (F' := F) (H' := H) (.refl _) .refl fun hm => ?_
        rw [m] at hm; cases hm
  refine h a F (hide H x) hp (fun m hm H' hs => hX m H' hm fun b o hb z => hs b o (by show (if b = x then none else H b) = some o; rw [if_neg hb]; exact z)) F H (x :: as) _ _ ev ⟨?_, fun _ _ _ _ _ _ z => z.elim, fun _ _ _ _ _ _ z => z.elim, fun _ _ _ _ _ _ z => z.elim⟩
  rintro ρ' μ' σ' F' H' as' ⟨n', fs, h0, hfs, hc', ho⟩ e' s' g'
  have hx' : as'[0]? = some x := g' _ _ rfl
  obtain ⟨n0, nF, dx2, gs, h3, h4⟩ := e'.ce 0 _ x h0 hx'
  obtain ⟨p3, p4⟩ := paired_frz h4
  have sF : Same F' (upd F' x (.ins (G.cl n) dx2 gs)) := same_upd nF
  refine hq _ (upd F' x (.ins (G.cl n) dx2 gs)) H' ho (s'.trans sF) (fun y o z => ?_) (fun b o hb z => e'.bs.h0 b o (by show (if b = x then none else H b) = some o; rw [if_neg hb]; exact z)) (fun b hb hH => ?_) (.ob (dx := dx2) (fs := gs) (by rw [hc', ← hC]; exact upd_same) (p3.trans hfs) (RpAll.mono sF _ p4))
  · by_cases hy : y = x
    · subst hy; rw [upd_same] at z; cases z; exact h3
    · rw [upd_ne hy] at z; exact e'.bs.fh _ _ z
  · rw [upd_ne hb]
    refine e'.bs.nw b ?_
    show (if b = x then none else H b) ≠ none
    rw [if_neg hb]; exact hH
theorem spI_len {C : Addr} {c : Ct α} {n : Nat} (hn : ∀ a, (c.args a).length + 1 = n) {vs : List V} {H : Hp} {Q : VK} {E : XK} (h : spI G X C c vs H Q E) : vs.length = n := by
  obtain ⟨a, F, x, dx, ws, rfl, _, _, _, _, ha, _⟩ := h
  rw [List.length_cons, paired_len ha]
  exact hn a
/-! ### chains of two comparisons -/
theorem wE_chain {r r' : R2} {ta tb tc : TE} (h : wE G F0 H0 ta ρ μ fun x μ1 => wE G F0 H0 tb ρ μ1 fun y μ2 => w2 G F0 H0 r x y ρ μ2 fun z μ3 => ∃ k, z = .d (.bl k) ∧ (if k = true then wE G F0 H0 tc ρ μ3 (fun w' μ4 => w2 G F0 H0 r' y w' ρ μ4 R) else R (.d (.bl false)) μ3)) :
    wE G F0 H0 (tChain r r' ta tb tc) ρ μ R := fun F H as σ Q e q => by
  refine h F H as σ _ e fun x μ1 v1 F1 H1 as1 h1 e1 s1 g1 r1 => ?_
  refine h1 F1 H1 as1 σ _ e1 fun y μ2 v2 F2 H2 as2 h2 e2 s2 g2 r2 => ?_
  refine h2 F2 H2 as2 σ v1 v2 _ e2 (r1.mono s2 g2) r2 fun z μ3 v3 F3 H3 as3 h3 e3 s3 g3 r3 => ?_
  obtain ⟨k, rfl, h3⟩ := h3
  cases r3
  refine ⟨k, rfl, ?_⟩
  cases k with
  | true =>
    refine iteT ((tt_of h3) F3 H3 as3 σ _ e3 fun w μ4 v4 F4 H4 as4 h4 e4 s4 g4 r4 => ?_)
    exact h4 F4 H4 as4 σ v2 v4 Q e4 ((r2.mono s3 g3).mono s4 g4) r4 (((((q.on s1 g1).on s2 g2).on s3 g3).on s4 g4))
  | false => exact iteF (q _ _ _ _ _ _ (ff_of h3) e3 ((s1.trans s2).trans s3) ((g1.trans g2).trans g3) (Rp.bl _))
end
end L3

set_option Elab.async false
set_option linter.all false
set_option maxRecDepth 100000
set_option maxHeartbeats 4000000
set_option exponentiation.threshold 100
/-! Tastes: data, sizes by a common grid, promises. -/
namespace L3
open PySem PySem.Spec PyProof.Rows L2
/-! ### grids -/
theorem int_nat (n : Nat) : ((n : Int) : Rat) = (n : Rat) := rfl
/-- a multiple of 1 / D -/
def Gr (D : Nat) (q : Rat) : Prop := ∃ k : Int, q * (D : Rat) = (k : Rat)
theorem Gr.add {D : Nat} {q r : Rat} : Gr D q → Gr D r → Gr D (q + r)
  | ⟨a, ha⟩, ⟨b, hb⟩ => ⟨a + b, by rw [Rat.intCast_add]; grind⟩
theorem Gr.sub {D : Nat} {q r : Rat} : Gr D q → Gr D r → Gr D (q - r)
  | ⟨a, ha⟩, ⟨b, hb⟩ => ⟨a - b, by rw [Rat.intCast_sub]; grind⟩
theorem Gr.mulI {D : Nat} {q : Rat} (w : Int) : Gr D q → Gr D ((w : Rat) * q)
  | ⟨a, ha⟩ => ⟨w * a, by rw [Rat.intCast_mul]; grind⟩
theorem Gr.up {D : Nat} {q : Rat} (E : Nat) : Gr D q → Gr (D * E) q
  | ⟨a, ha⟩ => ⟨a * (E : Int), by rw [Rat.intCast_mul, Rat.natCast_mul, int_nat]; grind⟩
theorem Gr.upL {D : Nat} {q : Rat} (E : Nat) (h : Gr D q) : Gr (E * D) q := by rw [Nat.mul_comm]; exact h.up E
theorem Gr.zero {D : Nat} : Gr D 0 := ⟨0, by simp⟩
theorem Gr.mul {D E : Nat} {q r : Rat} : Gr D q → Gr E r → Gr (D * E) (q * r)
  | ⟨a, ha⟩, ⟨b, hb⟩ => ⟨a * b, by rw [Rat.intCast_mul, Rat.natCast_mul]; grind⟩
theorem rat_nd (q : Rat) : q * (q.den : Rat) = (q.num : Rat) := by
  have h := rat_div q
  have hd : ((q.den : Int) : Rat) ≠ 0 := by have := den_pos' q; exact_mod_cast (by omega : (q.den : Int) ≠ 0)
  have e : ((q.den : Int) : Rat) = (q.den : Rat) := int_nat _
  rw [e] at h hd
  generalize (q.num : Rat) = x at *
  generalize (q.den : Rat) = y at *
  grind
theorem Gr.self (q : Rat) : Gr q.den q := ⟨q.num, rat_nd q⟩
theorem Gr.int (D : Nat) (w : Int) : Gr D (w : Rat) := ⟨w * (D : Int), by rw [Rat.intCast_mul, int_nat]⟩
theorem Gr.one (D : Nat) : Gr D 1 := ⟨(D : Int), by rw [int_nat]; grind⟩
theorem Gr.den_le {D : Nat} {q : Rat} (h : Gr D q) (hD : 0 < D) : q.den ≤ D := by
  obtain ⟨k, hk⟩ := h
  have hD' : (D : Rat) ≠ 0 := by
    intro z
    have : (D : Rat) = ((0 : Nat) : Rat) := by simpa using z
    have := Rat.natCast_inj.mp this
    omega
  have e : q = Rat.divInt k (D : Int) := by
    rw [Rat.divInt_eq_div]
    have e2 : ((D : Int) : Rat) = (D : Rat) := int_nat _
    rw [e2, ← hk]
    generalize (D : Rat) = y at *
    grind
  rw [e, Rat.divInt_ofNat, Rat.den_mkRat, if_neg (by omega)]
  exact Nat.div_le_self _ _
theorem num_le_of {q : Rat} {M D : Nat} (h0 : 0 ≤ q) (h : q ≤ (M : Rat)) (hd : q.den ≤ D) : q.num.natAbs ≤ M * D := by
  have h1 := rat_nd q
  have h2 := nn_num h0
  have h3 : (q.num : Rat) ≤ ((M * q.den : Nat) : Rat) := by
    rw [← h1, Rat.natCast_mul]
    exact Rat.mul_le_mul_of_nonneg_right h (by exact_mod_cast Nat.zero_le _)
  have h4 : (q.num : Rat) ≤ (((M * q.den : Nat) : Int) : Rat) := by rw [int_nat]; exact h3
  have h5 := Rat.intCast_le_intCast.mp h4
  have h6 : M * q.den ≤ M * D := Nat.mul_le_mul_left _ hd
  omega
theorem Gr.sz {D : Nat} {q : Rat} (h : Gr D q) (hD : 0 < D) {M : Nat} (h0 : 0 ≤ q) (hM : q ≤ (M : Rat)) (hb : M * D < 2 ^ 4400) (hb2 : D < 2 ^ 4400) : Sz q :=
  ⟨Nat.lt_of_le_of_lt (num_le_of h0 hM (h.den_le hD)) hb, Nat.lt_of_le_of_lt (h.den_le hD) hb2⟩
/-! ### the lesser, the greater -/
def minR (q r : Rat) : Rat := if r < q then r else q
def maxR (q r : Rat) : Rat := if q < r then r else q
theorem Gr.min {D : Nat} {q r : Rat} (h : Gr D q) (h' : Gr D r) : Gr D (minR q r) := by unfold minR; split <;> assumption
theorem Gr.max {D : Nat} {q r : Rat} (h : Gr D q) (h' : Gr D r) : Gr D (maxR q r) := by unfold maxR; split <;> assumption
def c_lesser : Ct (Rat × Rat) := ⟨fun a => [.d (encF a.1), .d (encF a.2)], fun a => Sz a.1 ∧ Sz a.2, fun a => .ret (.d (encF (minR a.1 a.2)))⟩
def c_greater : Ct (Rat × Rat) := ⟨fun a => [.d (encF a.1), .d (encF a.2)], fun a => Sz a.1 ∧ Sz a.2, fun a => .ret (.d (encF (maxR a.1 a.2)))⟩
/-! ### steps, rows -/
abbrev Steps := List (Rat × Int)
abbrev Row := Rat × Rat × Int
def encStep (s : Rat × Int) : D := .tup [encF s.1, .int s.2]
def encSt (st : Steps) : List D := st.map encStep
def rowsOf : Rat → Steps → List Row
  | _, [] => []
  | b, (e, w) :: r => (b, e, w) :: rowsOf e r
def encRow (r : Row) : D := .tup [encF r.1, encF r.2.1, encF (r.2.2 : Rat)]
def areaStep (s e : Rat) (f : Rat) (r : Row) : Rat := if maxR r.1 s < minR r.2.1 e then f + (r.2.2 : Rat) * (minR r.2.1 e - maxR r.1 s) else f
def areaR (rows : List Row) (s e : Rat) : Rat := rows.foldl (areaStep s e) 0
def total (st : Steps) : Rat := areaR (rowsOf 0 st) 0 1
def encTaste (st : Steps) : D := .ob 0 [.lst ((rowsOf 0 st).map encRow), encF (total st)]
/-- rising from a point to the cake's end -/
def Rise : Rat → Steps → Prop
  | b, [] => b = 1
  | b, (e, _) :: r => b < e ∧ Rise e r
instance : ∀ (b : Rat) (st : Steps), Decidable (Rise b st)
  | b, [] => by unfold Rise; exact inferInstance
  | b, (e, w) :: r => by
    unfold Rise
    have := instDecidableRise e r
    exact inferInstance
def StepOk (s : Rat × Int) : Prop := s.1.den ≤ 1000 ∧ 1 ≤ s.2 ∧ s.2 ≤ 1000
structure Good (st : Steps) : Prop where
  few : st.length ≤ 8
  ok : ∀ s ∈ st, StepOk s
  up : Rise 0 st
def dt : Steps → Nat
  | [] => 1
  | (e, _) :: r => e.den * dt r
theorem dt_pos : ∀ st : Steps, 0 < dt st
  | [] => Nat.one_pos
  | (e, _) :: r => Nat.mul_pos e.den_pos (dt_pos r)
theorem dt_le : ∀ {st : Steps}, (∀ s ∈ st, StepOk s) → dt st ≤ 1000 ^ st.length
  | [], _ => Nat.le_refl _
  | (e, w) :: r, h => by
    have h1 := (h _ List.mem_cons_self).1
    have h2 := dt_le (st := r) fun s hs => h s (List.mem_cons_of_mem _ hs)
    show e.den * dt r ≤ 1000 ^ (r.length + 1)
    rw [Nat.pow_succ, Nat.mul_comm]
    exact Nat.mul_le_mul h2 h1
theorem dt_gr : ∀ {st : Steps} {s : Rat × Int}, s ∈ st → Gr (dt st) s.1
  | (e, w) :: r, s, h => by
    rcases List.mem_cons.mp h with rfl | h
    · exact (Gr.self _).up _
    · exact (dt_gr h).upL _
theorem Good.dt_lt {st : Steps} (g : Good st) : dt st < 2 ^ 80 := by
  have h1 := dt_le g.ok
  have h2 : 1000 ^ st.length ≤ 1000 ^ 8 := Nat.pow_le_pow_right (by decide) g.few
  have h3 : 1000 ^ 8 < 2 ^ 80 := by decide
  omega
/-- of the rows: their places, weights, order -/
theorem rows_mem : ∀ {st : Steps} {b : Rat} {r : Row}, Rise b st → r ∈ rowsOf b st → b ≤ r.1 ∧ r.1 < r.2.1 ∧ r.2.1 ≤ 1 ∧ (r.2.1, r.2.2) ∈ st ∧ (r.1 = b ∨ ∃ w, (r.1, w) ∈ st)
  | [], _, _, _, h => by cases h
  | (e, w) :: st, b, r, hr, h => by
    obtain ⟨h1, h2⟩ := hr
    have le1 : ∀ (st : Steps) (b : Rat), Rise b st → b ≤ 1 := by
      intro st
      induction st with
      | nil => intro b h; have : b = 1 := h; grind
      | cons s st ih => intro b h; have := ih s.1 h.2; have := h.1; grind
    rcases List.mem_cons.mp h with rfl | h
    · exact ⟨by grind, h1, le1 _ _ h2, List.mem_cons_self, .inl rfl⟩
    · obtain ⟨a1, a2, a3, a4, a5⟩ := rows_mem (st := st) (b := e) h2 h
      refine ⟨by grind, a2, a3, List.mem_cons_of_mem _ a4, .inr ?_⟩
      rcases a5 with a5 | ⟨w', a5⟩
      · exact ⟨w, by rw [a5]; exact List.mem_cons_self⟩
      · exact ⟨w', List.mem_cons_of_mem _ a5⟩
/-- a row as the walk meets it -/
structure RowOk (D : Nat) (r : Row) : Prop where
  b0 : 0 ≤ r.1
  bl : r.1 < r.2.1
  l1 : r.2.1 ≤ 1
  gb : Gr D r.1
  gl : Gr D r.2.1
  w1 : 1 ≤ r.2.2
  w2 : r.2.2 ≤ 1000
theorem Good.row {st : Steps} (g : Good st) {r : Row} (h : r ∈ rowsOf 0 st) : RowOk (dt st) r := by
  obtain ⟨a1, a2, a3, a4, a5⟩ := rows_mem g.up h
  have ok := g.ok _ a4
  refine ⟨a1, a2, a3, ?_, dt_gr a4, ok.2.1, ok.2.2⟩
  rcases a5 with a5 | ⟨w, a5⟩
  · rw [a5]; exact Gr.zero
  · exact dt_gr a5
theorem foldl_take {α β : Type} (f : β → α → β) (b : β) {l : List α} {i : Nat} {x : α} (h : l[i]? = some x) : (l.take (i + 1)).foldl f b = f ((l.take i).foldl f b) x := by
  rw [List.take_add_one, h, List.foldl_append]
  rfl
/-- the sum so far: within bounds, on the grid -/
theorem area_part {D : Nat} {s e : Rat} (gs : Gr D s) (ge : Gr D e) (s0 : 0 ≤ s) (e1 : e ≤ 1) : ∀ (rows : List Row) (b f : Rat), (∀ r ∈ rows, RowOk D r) → (∀ r ∈ rows, b ≤ r.1) → rows.Pairwise (fun r r' => r.2.1 ≤ r'.1) → 0 ≤ b → 0 ≤ f → f ≤ 1000 * b → Gr D f →
    0 ≤ rows.foldl (areaStep s e) f ∧ rows.foldl (areaStep s e) f ≤ 1000 * (rows.foldl (fun _ r => r.2.1) b) ∧ Gr D (rows.foldl (areaStep s e) f)
  | [], b, f, _, _, _, b0, f0, fb, gf => ⟨f0, fb, gf⟩
  | r :: rows, b, f, ok, hb, pw, b0, f0, fb, gf => by
    have okr := ok r List.mem_cons_self
    have hbr := hb r List.mem_cons_self
    rw [List.pairwise_cons] at pw
    have w1 : (1 : Rat) ≤ (r.2.2 : Rat) := by exact_mod_cast okr.w1
    have w2 : (r.2.2 : Rat) ≤ 1000 := by exact_mod_cast okr.w2
    refine area_part gs ge s0 e1 rows r.2.1 (areaStep s e f r) (fun x hx => ok x (List.mem_cons_of_mem _ hx)) pw.1 pw.2 (by have := okr.b0; have := okr.bl; grind) ?_ ?_ ?_
    · unfold areaStep
      split
      · rename_i c
        have : 0 ≤ (r.2.2 : Rat) * (minR r.2.1 e - maxR r.1 s) := Rat.mul_nonneg (by grind) (by grind)
        grind
      · exact f0
    · unfold areaStep
      have hbl := okr.bl
      split
      · rename_i c
        have h1 : minR r.2.1 e ≤ r.2.1 := by unfold minR; split <;> grind
        have h2 : r.1 ≤ maxR r.1 s := by unfold maxR; split <;> grind
        have h3 : (r.2.2 : Rat) * (minR r.2.1 e - maxR r.1 s) ≤ 1000 * (minR r.2.1 e - maxR r.1 s) := Rat.mul_le_mul_of_nonneg_right w2 (by grind)
        grind
      · grind
    · unfold areaStep
      split
      · exact gf.add ((((okr.gl).min ge).sub ((okr.gb).max gs)).mulI _)
      · exact gf
theorem rows_pw : ∀ {st : Steps} {b : Rat}, Rise b st → (rowsOf b st).Pairwise (fun r r' => r.2.1 ≤ r'.1) ∧ ∀ r ∈ rowsOf b st, b ≤ r.1
  | [], _, _ => ⟨List.Pairwise.nil, fun _ h => by cases h⟩
  | (e, w) :: st, b, h => by
    obtain ⟨h1, h2⟩ := rows_pw h.2
    refine ⟨List.Pairwise.cons h2 h1, fun r hr => ?_⟩
    rcases List.mem_cons.mp hr with rfl | hr
    · show b ≤ b; grind
    · have := h2 r hr; have := h.1; grind
theorem last_le {rows : List Row} : ∀ {b : Rat}, b ≤ 1 → (∀ r ∈ rows, r.2.1 ≤ 1) → rows.foldl (fun _ r => r.2.1) b ≤ 1 := by
  induction rows with
  | nil => intro b h _; exact h
  | cons r rows ih => intro b h h'; exact ih (h' r List.mem_cons_self) fun x hx => h' x (List.mem_cons_of_mem _ hx)
/-- any part of the sum -/
theorem Good.area {st : Steps} (g : Good st) {D : Nat} (hD : ∀ q, Gr (dt st) q → Gr D q) {s e : Rat} (gs : Gr D s) (ge : Gr D e) (s0 : 0 ≤ s) (e1 : e ≤ 1) (i : Nat) :
    0 ≤ ((rowsOf 0 st).take i).foldl (areaStep s e) 0 ∧ ((rowsOf 0 st).take i).foldl (areaStep s e) 0 ≤ 1000 ∧ Gr D (((rowsOf 0 st).take i).foldl (areaStep s e) 0) := by
  have sub : ∀ r ∈ (rowsOf 0 st).take i, r ∈ rowsOf 0 st := fun r hr => List.mem_of_mem_take hr
  have ok : ∀ r ∈ (rowsOf 0 st).take i, RowOk D r := fun r hr => by
    have z := g.row (sub r hr)
    exact ⟨z.b0, z.bl, z.l1, hD _ z.gb, hD _ z.gl, z.w1, z.w2⟩
  obtain ⟨h1, h2, h3⟩ := area_part gs ge s0 e1 ((rowsOf 0 st).take i) 0 0 ok (fun r hr => (ok r hr).b0) ((rows_pw g.up).1.sublist (List.take_sublist _ _)) (by grind) (by grind) (by grind) Gr.zero
  refine ⟨h1, ?_, h3⟩
  have := last_le (rows := (rowsOf 0 st).take i) (b := 0) (by grind) fun r hr => (ok r hr).l1
  grind
theorem area_eq (st : Steps) (s e : Rat) : areaR (rowsOf 0 st) s e = ((rowsOf 0 st).take (rowsOf 0 st).length).foldl (areaStep s e) 0 := by
  rw [List.take_length]; rfl
theorem rows_len : ∀ (st : Steps) (b : Rat), (rowsOf b st).length = st.length
  | [], _ => rfl
  | (e, w) :: r, b => by simp [rowsOf, rows_len r]
end L3

set_option Elab.async false
set_option linter.all false
set_option maxRecDepth 100000
set_option maxHeartbeats 4000000
set_option exponentiation.threshold 100
/-! Tastes: promises. -/
namespace L3
open PySem PySem.Spec PyProof.Rows L2
def stepOf : D → Option (Rat × Int)
  | .tup [x, .int w] => match fracOf x with
    | some e => if e.den ≤ 1000 ∧ 1 ≤ w ∧ w ≤ 1000 then some (e, w) else none
    | none => none
  | _ => none
def stepsOf : List D → Option Steps
  | [] => some []
  | d :: ds => match stepOf d, stepsOf ds with
    | some s, some p => some (s :: p)
    | _, _ => none
def tasteOf : D → Option Steps
  | .lst ds => if 1 ≤ ds.length ∧ ds.length ≤ 8 then (match stepsOf ds with
    | some st => if Rise 0 st then some st else none
    | none => none) else none
  | _ => none
def okS (d : D) : Prop := noOb d = true ∧ ∀ x y, d = .tup [x, y] → ok1 x ∧ noOb y = true
def okT (d : D) : Prop := noOb d = true ∧ ∀ ds, d = .lst ds → ds.length ≤ 900000 ∧ ∀ x ∈ ds, okS x
def c_is_step : Ct D := ⟨fun a => [argOf a], okS, fun a => .ret (.d (.bl (stepOf a).isSome))⟩
def c_check_steps : Ct D := ⟨fun a => [argOf a], okT, fun a => if (tasteOf a).isSome then .ret (.d .non) else .exc 1⟩
theorem step_back {d : D} {s : Rat × Int} (h : stepOf d = some s) : d = encStep s ∧ StepOk s ∧ 0 ≤ s.1 := by
  unfold stepOf at h
  split at h
  · rename_i x w
    split at h
    · rename_i e hx
      split at h
      · rename_i c
        have z := Option.some.inj h
        subst z
        have ex := frac_back hx
        have nx := frac_nn hx
        subst ex
        exact ⟨rfl, c, nx⟩
      · cases h
    · cases h
  · cases h
theorem stepOf_enc {s : Rat × Int} (h : StepOk s) (h0 : 0 ≤ s.1) : stepOf (encStep s) = some s := by
  show (match fracOf (encF s.1) with | some e => if e.den ≤ 1000 ∧ 1 ≤ s.2 ∧ s.2 ≤ 1000 then some (e, s.2) else none | none => none) = some s
  rw [fracOf_enc h0]
  exact if_pos h
theorem steps_some : ∀ {ds : List D}, (∀ d ∈ ds, (stepOf d).isSome = true) → ∃ p, stepsOf ds = some p ∧ ds = encSt p ∧ ∀ s ∈ p, StepOk s ∧ 0 ≤ s.1
  | [], _ => ⟨[], rfl, rfl, fun _ h => by cases h⟩
  | d :: ds, h => by
    obtain ⟨p, h1, h2, h3⟩ := steps_some (ds := ds) fun x hx => h x (List.mem_cons_of_mem _ hx)
    obtain ⟨s, hs⟩ := Option.isSome_iff_exists.mp (h d List.mem_cons_self)
    obtain ⟨b1, b2⟩ := step_back hs
    refine ⟨s :: p, ?_, ?_, ?_⟩
    · show (match stepOf d, stepsOf ds with | some s, some p => some (s :: p) | _, _ => none) = _
      rw [hs, h1]
    · show d :: ds = encStep s :: encSt p
      rw [b1, ← h2]
    · intro t ht
      rcases List.mem_cons.mp ht with rfl | ht
      · exact b2
      · exact h3 t ht
theorem steps_none : ∀ {ds : List D}, (∃ d ∈ ds, stepOf d = none) → stepsOf ds = none
  | [], ⟨_, h, _⟩ => by cases h
  | d :: ds, ⟨x, hx, hn⟩ => by
    show (match stepOf d, stepsOf ds with | some s, some p => some (s :: p) | _, _ => none) = none
    rcases List.mem_cons.mp hx with rfl | hx
    · rw [hn]
    · rw [steps_none ⟨x, hx, hn⟩]
      cases stepOf d <;> rfl
theorem stepOf_w {x y : D} (h : wholeD y = false) : stepOf (.tup [x, y]) = none := by
  unfold stepOf
  split
  · rename_i e; injection e with e; injection e with e1 e2; injection e2 with e2; subst e2; cases h
  · rfl
theorem stepOf_f {x y : D} (h : fracOf x = none) : stepOf (.tup [x, y]) = none := by
  unfold stepOf
  split
  · rename_i e; injection e with e; injection e with e1 e2; subst e1; rw [h]
  · rfl
theorem stepOf_len {ds : List D} (h : ds.length ≠ 2) : stepOf (.tup ds) = none := by
  unfold stepOf
  split
  · rename_i e; injection e with e; subst e; exact absurd rfl h
  · rfl
theorem stepOf_fi {x : D} {w : Int} {e : Rat} (h : fracOf x = some e) : stepOf (.tup [x, .int w]) = if e.den ≤ 1000 ∧ 1 ≤ w ∧ w ≤ 1000 then some (e, w) else none := by
  show (match fracOf x with | some e => if e.den ≤ 1000 ∧ 1 ≤ w ∧ w ≤ 1000 then some (e, w) else none | none => none) = _
  rw [h]
theorem tasteOf_good {d : D} {st : Steps} (h : tasteOf d = some st) : Good st ∧ d = .lst (encSt st) := by
  unfold tasteOf at h
  split at h
  · rename_i ds
    split at h
    · rename_i hl
      split at h
      · rename_i st' hs
        split at h
        · rename_i hr
          have z := Option.some.inj h
          subst z
          have hall : ∀ d ∈ ds, (stepOf d).isSome = true := by
            intro d hd
            cases e : stepOf d with
            | none => rw [steps_none ⟨d, hd, e⟩] at hs; cases hs
            | some s => rfl
          obtain ⟨p, h1, h2, h3⟩ := steps_some hall
          rw [hs] at h1
          cases h1
          refine ⟨⟨?_, fun s hs => (h3 s hs).1, hr⟩, by rw [h2]⟩
          have := hl.2
          rw [h2] at this
          simpa [encSt] using this
        · cases h
      · cases h
    · cases h
  · cases h
theorem rise_pos : ∀ {st : Steps} {b : Rat}, Rise b st → ∀ s ∈ st, b < s.1
  | [], _, _, _, h => by cases h
  | (e, w) :: st, b, hr, s, h => by
    rcases List.mem_cons.mp h with rfl | h
    · exact hr.1
    · have h1 := rise_pos hr.2 s h
      have h2 := hr.1
      grind
theorem Good.ne {st : Steps} (g : Good st) : 1 ≤ st.length := by
  cases st with
  | nil =>
    have h : (0 : Rat) = 1 := g.up
    exact absurd h (by decide)
  | cons s st => simp
theorem tasteOf_enc {st : Steps} (g : Good st) : tasteOf (.lst (encSt st)) = some st := by
  have hall : ∀ d ∈ encSt st, (stepOf d).isSome = true := by
    intro d hd
    obtain ⟨s, hs, rfl⟩ := List.mem_map.mp hd
    rw [stepOf_enc (g.ok s hs) (by have := rise_pos g.up s hs; grind)]
    rfl
  obtain ⟨p, h1, h2, h3⟩ := steps_some hall
  have e : p = st := by
    have inj : ∀ (a b : Steps), encSt a = encSt b → a = b := by
      intro a
      induction a with
      | nil => intro b h; cases b with
        | nil => rfl
        | cons _ _ => cases h
      | cons x a ih => intro b h; cases b with
        | nil => cases h
        | cons y b =>
          injection h with h3 h4
          have h5 : encF x.1 = encF y.1 ∧ x.2 = y.2 := by
            unfold encStep at h3
            injection h3 with h3
            injection h3 with h3 h6
            injection h6 with h6 _
            injection h6 with h6
            exact ⟨h3, h6⟩
          rw [ih b h4, Prod.ext (encF_inj h5.1) h5.2]
    exact (inj _ _ h2).symm
  subst e
  have hl : 1 ≤ (encSt p).length ∧ (encSt p).length ≤ 8 := by
    have := g.few
    have := g.ne
    simp [encSt]
    omega
  show (if 1 ≤ (encSt p).length ∧ (encSt p).length ≤ 8 then (match stepsOf (encSt p) with | some st => if Rise 0 st then some st else none | none => none) else none) = some p
  rw [if_pos hl, h1]
  exact if_pos g.up
theorem okS_enc {s : Rat × Int} (h : Sz s.1) : okS (encStep s) := ⟨rfl, fun x y e => by
  unfold encStep at e
  injection e with e
  injection e with e1 e2
  injection e2 with e2 _
  subst e1 e2
  exact ⟨ok1_enc h, rfl⟩⟩
theorem Good.szs {st : Steps} (g : Good st) {s : Rat × Int} (h : s ∈ st) : Sz s.1 := by
  have h1 := rise_pos g.up s h
  have h2 : s.1 ≤ 1 := by
    have le1 : ∀ (st : Steps) (b : Rat), Rise b st → ∀ s ∈ st, s.1 ≤ 1 := by
      intro st
      induction st with
      | nil => intro b _ s h; cases h
      | cons x st ih =>
        intro b hr s h
        have leb : ∀ (st : Steps) (b : Rat), Rise b st → b ≤ 1 := by
          intro st
          induction st with
          | nil => intro b h; have : b = 1 := h; grind
          | cons s st ih => intro b h; have := ih s.1 h.2; have := h.1; grind
        rcases List.mem_cons.mp h with rfl | h
        · exact leb _ _ hr.2
        · exact ih _ hr.2 s h
    exact le1 st 0 g.up s h
  have h3 := (g.ok s h).1
  have p1 : (1 : Nat) * 1000 < 2 ^ 4400 := Nat.lt_of_lt_of_le (by decide : 1 * 1000 < 2 ^ 10) (Nat.pow_le_pow_right (by decide) (by decide))
  exact ⟨Nat.lt_of_le_of_lt (num_le_of (M := 1) (by grind) (by simpa using h2) h3) p1, by omega⟩
theorem okT_enc {st : Steps} (g : Good st) : okT (.lst (encSt st)) := ⟨rfl, fun ds e => by
  injection e with e
  subst e
  have := g.few
  refine ⟨by simp [encSt]; omega, fun x hx => ?_⟩
  obtain ⟨s, hs, rfl⟩ := List.mem_map.mp hx
  exact okS_enc (g.szs hs)⟩
/-! ### area, within, worth -/
def tasteD (st : Steps) : Option Rat → D
  | some t => .ob 0 [.lst ((rowsOf 0 st).map encRow), encF t]
  | none => .ob 8 [.lst ((rowsOf 0 st).map encRow)]
def Pt (q : Rat) : Prop := 0 ≤ q ∧ q ≤ 1 ∧ q.den < 2 ^ 2000
def c_Taste_area : Ct (Steps × Option Rat × Rat × Rat) := ⟨fun a => [.d (tasteD a.1 a.2.1), .d (encF a.2.2.1), .d (encF a.2.2.2)], fun a => Good a.1 ∧ Pt a.2.2.1 ∧ Pt a.2.2.2, fun a => .ret (.d (encF (areaR (rowsOf 0 a.1) a.2.2.1 a.2.2.2)))⟩
def withinR (st : Steps) (s e : Rat) : Rat := areaR (rowsOf 0 st) s e / total st
def c_Taste_within : Ct (Steps × Rat × Rat) := ⟨fun a => [.d (encTaste a.1), .d (encF a.2.1), .d (encF a.2.2)], fun a => Good a.1 ∧ Pt a.2.1 ∧ Pt a.2.2, fun a => .ret (.d (encF (withinR a.1 a.2.1 a.2.2)))⟩
def worthR (st : Steps) (p : Piece) : Rat := p.foldl (fun f s => f + withinR st s.1 s.2) 0
/-- the ends of a piece on one grid -/
def OnGrid (p : Piece) : Prop := ∃ Dp : Nat, 0 < Dp ∧ Dp < 2 ^ 2000 ∧ ∀ s ∈ p, Gr Dp s.1 ∧ Gr Dp s.2
def c_Taste_worth : Ct (Steps × D) := ⟨fun a => [.d (encTaste a.1), argOf a.2], fun a => Good a.1 ∧ ok3 a.2 ∧ ∀ p, pieceOf a.2 = some p → OnGrid p, fun a => match pieceOf a.2 with
  | some p => .ret (.d (encF (worthR a.1 p)))
  | none => .exc 2⟩
def c_Taste_steps : Ct Steps := ⟨fun a => [.d (encTaste a)], Good, fun a => .ret (.own (encSt a))⟩
def c_Taste___init__ : Ct D := ⟨fun a => [argOf a], okT, fun a => match tasteOf a with
  | some st => .ret (.d (encTaste st))
  | none => .exc 1⟩
theorem pt_lt {a b : Nat} (h : a ≤ b) : 2 ^ a ≤ 2 ^ b := Nat.pow_le_pow_right (by decide) h
theorem Pt.sz {q : Rat} (h : Pt q) : Sz q := by
  have p1 : 1 * q.den < 2 ^ 4400 := by have := pt_lt (show 2000 ≤ 4400 by decide); have := h.2.2; omega
  exact ⟨Nat.lt_of_le_of_lt (num_le_of (M := 1) h.1 (by simpa using h.2.1) (Nat.le_refl _)) p1, by omega⟩
/-- the grid of a taste and two points -/
theorem pt_grid {st : Steps} (g : Good st) {s e : Rat} (hs : Pt s) (he : Pt e) : ∃ D : Nat, 0 < D ∧ D < 2 ^ 4080 ∧ (∀ q, Gr (dt st) q → Gr D q) ∧ Gr D s ∧ Gr D e := by
  refine ⟨dt st * (s.den * e.den), Nat.mul_pos (dt_pos st) (Nat.mul_pos s.den_pos e.den_pos), ?_, fun q h => h.up _, ?_, ?_⟩
  · have h1 : s.den * e.den < 2 ^ 2000 * 2 ^ 2000 := Nat.mul_lt_mul'' hs.2.2 he.2.2
    have h2 : dt st * (s.den * e.den) < 2 ^ 80 * (2 ^ 2000 * 2 ^ 2000) := Nat.mul_lt_mul'' g.dt_lt h1
    rw [← Nat.pow_add, ← Nat.pow_add] at h2
    exact h2
  · exact ((Gr.self s).up _).upL _
  · exact ((Gr.self e).upL _).upL _
theorem m1000 {D : Nat} (h : D < 2 ^ 4080) : 1000 * D < 2 ^ 4400 := by
  have h1 : 1000 * D < 2 ^ 10 * 2 ^ 4080 := Nat.mul_lt_mul'' (by decide) h
  rw [← Nat.pow_add] at h1
  exact Nat.lt_of_lt_of_le h1 (pt_lt (by decide))
theorem sz1000 {D : Nat} {q : Rat} (hD : 0 < D) (hb : D < 2 ^ 4080) (h : Gr D q) (h0 : 0 ≤ q) (h1 : q ≤ 1000) : Sz q :=
  h.sz hD (M := 1000) h0 h1 (m1000 hb) (Nat.lt_of_lt_of_le hb (pt_lt (by decide)))
theorem Good.areaSz {st : Steps} (g : Good st) {s e : Rat} (hs : Pt s) (he : Pt e) (i : Nat) : 0 ≤ ((rowsOf 0 st).take i).foldl (areaStep s e) 0 ∧ Sz (((rowsOf 0 st).take i).foldl (areaStep s e) 0) := by
  obtain ⟨D, d0, db, gq, gs, ge⟩ := pt_grid g hs he
  obtain ⟨a0, a1, a2⟩ := g.area gq gs ge hs.1 he.2.1 i
  exact ⟨a0, sz1000 d0 db a2 a0 a1⟩
theorem fold_lb : ∀ {st : Steps} {b f : Rat}, Rise b st → (∀ s ∈ st, StepOk s) → 0 ≤ b → f + (1 - b) ≤ (rowsOf b st).foldl (areaStep 0 1) f
  | [], b, f, h, _, _ => by
    have : b = 1 := h
    show f + (1 - b) ≤ f
    grind
  | (e, w) :: st, b, f, h, ok, b0 => by
    have h1 := h.1
    have le1 : ∀ (st : Steps) (b : Rat), Rise b st → b ≤ 1 := by
      intro st
      induction st with
      | nil => intro b h; have : b = 1 := h; grind
      | cons s st ih => intro b h; have := ih s.1 h.2; have := h.1; grind
    have he := le1 _ _ h.2
    have ih := fold_lb (st := st) (b := e) (f := areaStep 0 1 f (b, e, w)) h.2 (fun s hs => ok s (List.mem_cons_of_mem _ hs)) (by grind)
    show f + (1 - b) ≤ (rowsOf e st).foldl (areaStep 0 1) (areaStep 0 1 f (b, e, w))
    have w1 : (1 : Rat) ≤ (w : Rat) := by exact_mod_cast (ok _ List.mem_cons_self).2.1
    have hm : maxR b 0 = b := by unfold maxR; split <;> grind
    have hl : minR e 1 = e := by unfold minR; split <;> grind
    have hs : areaStep 0 1 f (b, e, w) = f + (w : Rat) * (e - b) := by
      unfold areaStep
      show (if maxR b 0 < minR e 1 then f + (w : Rat) * (minR e 1 - maxR b 0) else f) = _
      rw [hm, hl, if_pos h1]
    have h5 : 1 * (e - b) ≤ (w : Rat) * (e - b) := Rat.mul_le_mul_of_nonneg_right w1 (by grind)
    rw [hs] at ih ⊢
    grind
theorem Good.total1 {st : Steps} (g : Good st) : 1 ≤ total st := by
  have h := fold_lb (f := 0) g.up g.ok (by grind)
  have e : total st = (rowsOf 0 st).foldl (areaStep 0 1) 0 := rfl
  rw [e]
  grind
theorem pt0 : Pt 0 := ⟨by grind, by grind, Nat.lt_of_lt_of_le (by decide : (1:Nat) < 2 ^ 1) (pt_lt (by decide))⟩
theorem pt1 : Pt 1 := ⟨by grind, by grind, Nat.lt_of_lt_of_le (by decide : (1:Nat) < 2 ^ 1) (pt_lt (by decide))⟩
theorem Good.totalG {st : Steps} (g : Good st) : Gr (dt st) (total st) ∧ total st ≤ 1000 := by
  obtain ⟨h1, h2, h3⟩ := g.area (D := dt st) (fun q h => h) (s := 0) (e := 1) Gr.zero (Gr.one _) (by grind) (by grind) (rowsOf 0 st).length
  rw [← area_eq] at h1 h2 h3
  exact ⟨h3, h2⟩
theorem Good.totalSz {st : Steps} (g : Good st) : Sz (total st) := by
  have h1 := g.total1
  obtain ⟨h2, h3⟩ := g.totalG
  refine sz1000 (dt_pos st) ?_ h2 (by grind) h3
  exact Nat.lt_of_lt_of_le g.dt_lt (pt_lt (by decide))
/-- over the taste's whole worth: the grid -/
theorem Good.over {st : Steps} (g : Good st) : ∃ n : Nat, 0 < n ∧ n < 2 ^ 90 ∧ ∀ {D : Nat} {q : Rat}, Gr D q → Gr (D * n) (q / total st) := by
  have h1 := g.total1
  obtain ⟨⟨k, hk⟩, h3⟩ := g.totalG
  have d0 : (0 : Rat) < (dt st : Rat) := by exact_mod_cast dt_pos st
  have kp : (0 : Rat) < (k : Rat) := by
    rw [← hk]
    exact Rat.mul_pos (by grind) d0
  have k0 : 0 < k := Rat.intCast_pos.mp kp
  obtain ⟨n, rfl⟩ := Int.eq_ofNat_of_zero_le (Int.le_of_lt k0)
  refine ⟨n, by omega, ?_, ?_⟩
  · have : ((n : Int) : Rat) ≤ (((1000 * dt st : Nat) : Int) : Rat) := by
      rw [← hk, int_nat, Rat.natCast_mul]
      exact Rat.mul_le_mul_of_nonneg_right h3 (Rat.le_of_lt d0)
    have h4 := Rat.intCast_le_intCast.mp this
    have h5 := g.dt_lt
    have h6 : 1000 * dt st < 2 ^ 10 * 2 ^ 80 := Nat.mul_lt_mul'' (by decide) h5
    rw [← Nat.pow_add] at h6
    omega
  · rintro D q ⟨a, ha⟩
    refine ⟨a * (dt st : Int), ?_⟩
    rw [Rat.natCast_mul, Rat.intCast_mul, ← ha, int_nat]
    have e : ((n : Int) : Rat) = (n : Rat) := int_nat _
    rw [e] at hk
    have t0 : total st ≠ 0 := by grind
    generalize total st = t at *
    generalize (dt st : Rat) = y at *
    generalize (n : Rat) = z at *
    generalize (D : Rat) = x at *
    rw [← hk]
    grind
end L3
namespace L3
open PySem PySem.Spec PyProof.Rows L2
section
variable {G : Gx} {F0 H0 : Hp} {ρ : Ro} {μ : Mu} {R : RE} {X : Ex} {E : XK}
theorem wE_rows {ta : TE} (h8 : G.cl 8 = G.cl 0) (hc : Cls G.K (G.cl 0)) (hn : NoAttr G.K (G.cl 0) "rows") (h : wE G F0 H0 ta ρ μ fun u μ1 => ∃ st tot, u = .d (tasteD st tot) ∧ R (.d (.lst ((rowsOf 0 st).map encRow))) μ1) : wE G F0 H0 (tFld G.K ta "rows") ρ μ R :=
  wE_fld (wE_imp h fun u μ1 ⟨st, tot, e, k⟩ => by
    cases tot with
    | none => exact ⟨8, _, 0, _, e, by decide +kernel, rfl, by rw [h8]; exact hc, by rw [h8]; exact hn, k⟩
    | some t => exact ⟨0, _, 0, _, e, by decide +kernel, rfl, hc, hn, k⟩)
theorem wE_total {ta : TE} (hc : Cls G.K (G.cl 0)) (hn : NoAttr G.K (G.cl 0) "total") (h : wE G F0 H0 ta ρ μ fun u μ1 => ∃ st, u = .d (encTaste st) ∧ R (.d (encF (total st))) μ1) : wE G F0 H0 (tFld G.K ta "total") ρ μ R :=
  wE_fld (wE_imp h fun u μ1 ⟨st, e, k⟩ => ⟨0, _, 1, _, e, by decide +kernel, rfl, hc, hn, k⟩)
theorem ca_lesser {q r : Rat} (s1 : Sz q) (s2 : Sz r) (k : R (.d (encF (minR q r))) μ) : Call [.d (encF q), .d (encF r)] c_lesser R μ H0 X E := ⟨(q, r), .cons (.d _) (.cons (.d _) .nil), ⟨s1, s2⟩, k⟩
theorem ca_greater {q r : Rat} (s1 : Sz q) (s2 : Sz r) (k : R (.d (encF (maxR q r))) μ) : Call [.d (encF q), .d (encF r)] c_greater R μ H0 X E := ⟨(q, r), .cons (.d _) (.cons (.d _) .nil), ⟨s1, s2⟩, k⟩
theorem ca_is_step {d : D} {u : U} (ha : ArgOf μ u (argOf d)) (h : okS d) (k : R (.d (.bl (stepOf d).isSome)) μ) : Call [u] c_is_step R μ H0 X E := ⟨d, .cons ha .nil, h, k⟩
theorem ca_area {st : Steps} {tot : Option Rat} {s e : Rat} (g : Good st) (hs : Pt s) (he : Pt e) (k : R (.d (encF (areaR (rowsOf 0 st) s e))) μ) : Call [.d (tasteD st tot), .d (encF s), .d (encF e)] c_Taste_area R μ H0 X E := ⟨(st, tot, s, e), .cons (.d _) (.cons (.d _) (.cons (.d _) .nil)), ⟨g, hs, he⟩, k⟩
theorem ca_within {st : Steps} {s e : Rat} (g : Good st) (hs : Pt s) (he : Pt e) (k : R (.d (encF (withinR st s e))) μ) : Call [.d (encTaste st), .d (encF s), .d (encF e)] c_Taste_within R μ H0 X E := ⟨(st, s, e), .cons (.d _) (.cons (.d _) (.cons (.d _) .nil)), ⟨g, hs, he⟩, k⟩
/-- a method of a taste -/
theorem wE_tm {α : Type} {c : Ct α} {E : XK} {m : Str} {ta : TE} {t : TA} (hm : (fl 0).contains m = false) (h : wE G F0 H0 ta ρ μ fun u μ1 => ∃ st, u = .d (encTaste st) ∧ wA G F0 H0 t ρ μ1 fun us μ2 => Call (.d (encTaste st) :: us) c R μ2 H0 X E) :
    wE G F0 H0 (tMeth (G.cl 0) m (spC G X c) [] E ta t) ρ μ R := wE_cm (wE_imp h fun u μ1 ⟨st, e, k⟩ => ⟨0, _, e, rfl, hm, k⟩)
end
end L3
namespace L3
open PySem PySem.Spec PyProof.Rows L2
section
variable {G : Gx} {F0 H0 : Hp} {ρ : Ro} {μ : Mu} {R : Ro → Mu → Prop}
theorem wG_row {t : TGs} {r : Row} (h : wGs G F0 H0 t [encF r.1, encF r.2.1, encF (r.2.2 : Rat)] ρ μ R) : wG G F0 H0 (gTup G.K 3 t) (.d (encRow r)) ρ μ R := wG_tup rfl h
theorem wG_span {t : TGs} {s : Rat × Rat} (h : wGs G F0 H0 t [encF s.1, encF s.2] ρ μ R) : wG G F0 H0 (gTup G.K 2 t) (.d (encS s)) ρ μ R := wG_tup rfl h
theorem wG_step {t : TGs} {s : Rat × Int} (h : wGs G F0 H0 t [encF s.1, .int s.2] ρ μ R) : wG G F0 H0 (gTup G.K 2 t) (.d (encStep s)) ρ μ R := wG_tup rfl h
end
theorem map_at {α : Type} {f : α → D} {l : List α} {i : Nat} {d : D} (h : (l.map f)[i]? = some d) : ∃ x, l[i]? = some x ∧ d = f x := by
  rw [List.getElem?_map] at h
  cases e : l[i]? with
  | none => rw [e] at h; cases h
  | some x => rw [e] at h; exact ⟨x, rfl, (Option.some.inj h).symm⟩
theorem sz_int {w : Int} (h0 : 0 ≤ w) (h1 : w ≤ 1000) : Sz (w : Rat) := by
  have e : (w : Rat) = Rat.divInt w 1 := by rw [Rat.divInt_eq_div]; have : ((1 : Int) : Rat) = 1 := rfl; rw [this]; grind
  rw [e]
  exact sz_of (n := 10) h0 (by decide) (by have : (2:Int)^10 = 1024 := by decide
                                           omega) (by decide) (by decide)
end L3
namespace L3
open L2
theorem piece_back {d : D} {p : Piece} (h : pieceOf d = some p) : IsPiece p ∧ d = .lst (encP p) := by
  unfold pieceOf at h
  split at h
  · rename_i ds
    split at h
    · rename_i p' hs
      split at h
      · rename_i ap
        have z := Option.some.inj h
        subst z
        have hall : ∀ d ∈ ds, (spanOf d).isSome = true := by
          intro d hd
          cases e : spanOf d with
          | none => rw [spans_none ⟨d, hd, e⟩] at hs; cases hs
          | some s => rfl
        obtain ⟨p, h1, h2, h3⟩ := spans_some hall
        rw [hs] at h1
        cases h1
        exact ⟨⟨h3, ap⟩, by rw [h2]⟩
      · cases h
    · cases h
  · cases h
theorem div_nn {a t : Rat} (h : 0 ≤ a) (ht : 0 < t) : 0 ≤ a / t := Rat.not_lt.mp fun z => by
  rw [Rat.div_lt_iff ht] at z
  grind
theorem div_le {a t c : Rat} (ht : 0 < t) (h : a ≤ c * t) : a / t ≤ c := Rat.not_lt.mp fun z => by
  rw [Rat.lt_div_iff ht] at z
  grind
theorem big {D n m : Nat} (h1 : D < 2 ^ 2100) (h2 : n < 2 ^ 90) (h3 : m < 2 ^ 40) : m * (D * n) < 2 ^ 4400 ∧ D * n < 2 ^ 4400 := by
  have a : D * n < 2 ^ 2100 * 2 ^ 90 := Nat.mul_lt_mul'' h1 h2
  have b : m * (D * n) < 2 ^ 40 * (2 ^ 2100 * 2 ^ 90) := Nat.mul_lt_mul'' h3 a
  rw [← Nat.pow_add] at a b
  rw [← Nat.pow_add] at b
  exact ⟨Nat.lt_of_lt_of_le b (pt_lt (by decide)), Nat.lt_of_lt_of_le a (pt_lt (by decide))⟩
/-- a stretch's worth: on the grid, between nought and a thousand -/
theorem within_gr {st : Steps} (g : Good st) {Dp : Nat} {n : Nat} (hn : ∀ {D : Nat} {q : Rat}, Gr D q → Gr (D * n) (q / total st)) {s e : Rat} (s0 : 0 ≤ s) (e1 : e ≤ 1) (gs : Gr Dp s) (ge : Gr Dp e) :
    0 ≤ withinR st s e ∧ withinR st s e ≤ 1000 ∧ Gr (dt st * Dp * n) (withinR st s e) := by
  obtain ⟨h1, h2, h3⟩ := g.area (D := dt st * Dp) (fun q h => h.up _) (gs.upL _) (ge.upL _) s0 e1 (rowsOf 0 st).length
  rw [← area_eq] at h1 h2 h3
  have t1 := g.total1
  refine ⟨?_, ?_, hn h3⟩
  · exact div_nn h1 (by grind)
  · unfold withinR
    refine div_le (by grind) ?_
    have : 1000 * 1 ≤ 1000 * total st := Rat.mul_le_mul_of_nonneg_left t1 (by grind)
    grind
theorem worth_part {st : Steps} (g : Good st) {p : Piece} (hp : IsPiece p) (og : OnGrid p) (hl : p.length ≤ 900000) (i : Nat) : ∀ s : Rat × Rat, p[i]? = some s → 0 ≤ worthR st (p.take i) ∧ Sz (worthR st (p.take i)) ∧ 0 ≤ withinR st s.1 s.2 ∧ Sz (withinR st s.1 s.2) := by
  intro s hs
  obtain ⟨Dp, dp0, dpb, gp⟩ := og
  obtain ⟨n, n0, nb, hn⟩ := g.over
  have dd : dt st * Dp < 2 ^ 2100 := by
    have := Nat.mul_lt_mul'' g.dt_lt dpb
    rw [← Nat.pow_add] at this
    exact Nat.lt_of_lt_of_le this (pt_lt (by decide))
  have dpos : 0 < dt st * Dp * n := Nat.mul_pos (Nat.mul_pos (dt_pos st) dp0) n0
  have W : ∀ t ∈ p, 0 ≤ withinR st t.1 t.2 ∧ withinR st t.1 t.2 ≤ 1000 ∧ Gr (dt st * Dp * n) (withinR st t.1 t.2) := fun t ht => by
    have z := hp.1 t ht
    exact within_gr g hn z.1 z.2.2 (gp t ht).1 (gp t ht).2
  have S : ∀ (q : Piece) (f : Rat) (m : Nat), (∀ t ∈ q, t ∈ p) → 0 ≤ f → f ≤ ((1000 * m : Nat) : Rat) → Gr (dt st * Dp * n) f → 0 ≤ q.foldl (fun f s => f + withinR st s.1 s.2) f ∧ q.foldl (fun f s => f + withinR st s.1 s.2) f ≤ ((1000 * (m + q.length) : Nat) : Rat) ∧ Gr (dt st * Dp * n) (q.foldl (fun f s => f + withinR st s.1 s.2) f) := by
    intro q
    induction q with
    | nil => intro f m _ h1 h2 h3; exact ⟨h1, by simpa using h2, h3⟩
    | cons t q ih =>
      intro f m hm h1 h2 h3
      obtain ⟨w1, w2, w3⟩ := W t (hm t List.mem_cons_self)
      have z := ih (f + withinR st t.1 t.2) (m + 1) (fun x hx => hm x (List.mem_cons_of_mem _ hx)) (by grind) (by
        have e : ((1000 * (m + 1) : Nat) : Rat) = ((1000 * m : Nat) : Rat) + 1000 := by
          rw [Nat.mul_add, Rat.natCast_add]; rfl
        rw [e]; grind) (h3.add w3)
      have e : m + 1 + q.length = m + (t :: q).length := by simp; omega
      rw [e] at z
      exact z
  obtain ⟨s1, s2, s3⟩ := S (p.take i) 0 0 (fun t ht => List.mem_of_mem_take ht) (by grind) (by simp) Gr.zero
  have hlen : (p.take i).length ≤ 900000 := by rw [List.length_take]; omega
  have mb : 1000 * (0 + (p.take i).length) < 2 ^ 40 := by omega
  obtain ⟨b1, b2⟩ := big dd nb mb
  obtain ⟨w1, w2, w3⟩ := W s (List.mem_of_getElem? hs)
  obtain ⟨b3, b4⟩ := big dd nb (show 1000 < 2 ^ 40 by decide)
  exact ⟨s1, s3.sz dpos s1 s2 b1 b2, w1, w3.sz dpos (M := 1000) w1 w2 b3 b4⟩
end L3
namespace L3
open L2
def riseTo : Rat → Steps → Option Rat
  | b, [] => some b
  | b, (e, _) :: r => if b < e then riseTo e r else none
theorem rise_iff : ∀ {st : Steps} {b : Rat}, Rise b st ↔ riseTo b st = some 1
  | [], b => by
    show b = 1 ↔ some b = some 1
    simp
  | (e, w) :: st, b => by
    have ih := rise_iff (st := st) (b := e)
    show (b < e ∧ Rise e st) ↔ (if b < e then riseTo e st else none) = some 1
    by_cases c : b < e
    · rw [if_pos c, ← ih]; exact ⟨fun h => h.2, fun h => ⟨c, h⟩⟩
    · rw [if_neg c]; exact ⟨fun h => absurd h.1 c, fun h => by cases h⟩
theorem rise_app : ∀ {l1 l2 : Steps} {b : Rat}, riseTo b (l1 ++ l2) = (riseTo b l1).bind fun q => riseTo q l2
  | [], _, _ => rfl
  | (e, w) :: l1, l2, b => by
    show (if b < e then riseTo e (l1 ++ l2) else none) = (if b < e then riseTo e l1 else none).bind _
    by_cases c : b < e
    · rw [if_pos c, if_pos c, rise_app]
    · rw [if_neg c, if_neg c]; rfl
theorem rise_next {st : Steps} {i : Nat} {s : Rat × Int} {b q : Rat} (h : st[i]? = some s) (hq : riseTo b (st.take i) = some q) : riseTo b (st.take (i + 1)) = if q < s.1 then some s.1 else none := by
  rw [List.take_add_one, h, rise_app, hq]
  obtain ⟨e, w⟩ := s
  rfl
theorem rise_stop {st : Steps} {i : Nat} {b : Rat} (h : riseTo b (st.take i) = none) : riseTo b st = none := by
  have : st = st.take i ++ st.drop i := (List.take_append_drop i st).symm
  rw [this, rise_app, h]
  rfl
end L3
namespace L3
open PySem PySem.Spec PyProof.Rows L2
def lastAt (b : Rat) (st : Steps) : Rat := st.foldl (fun _ s => s.1) b
theorem rows_at : ∀ {st : Steps} {b : Rat} {i : Nat} {s : Rat × Int}, st[i]? = some s → (rowsOf b st)[i]? = some (lastAt b (st.take i), s.1, s.2)
  | [], _, _, _, h => by simp at h
  | (e, w) :: st, b, 0, s, h => by
    simp at h
    subst h
    rfl
  | (e, w) :: st, b, i + 1, s, h => by
    have h' : st[i]? = some s := by simpa using h
    show (rowsOf e st)[i]? = _
    rw [rows_at h']
    rfl
theorem last_next {st : Steps} {b : Rat} {i : Nat} {s : Rat × Int} (h : st[i]? = some s) : lastAt b (st.take (i + 1)) = s.1 := by
  unfold lastAt
  rw [foldl_take _ b h]
theorem put_total {u v : U} : putU "total" v [(("rows" : Str), u)] = [(("rows" : Str), u), (("total" : Str), v)] := by
  show (if ("rows" : Str) = "total" then [(("rows" : Str), v)] else (("rows" : Str), u) :: putU "total" v []) = [(("rows" : Str), u), (("total" : Str), v)]
  rw [if_neg (by decide +kernel)]
  rfl
theorem look_rows {u : U} {r : List (Str × U)} : List.lookup ("rows" : Str) ((("rows" : Str), u) :: r) = some u := by
  simp [List.lookup]
end L3

set_option Elab.async false
set_option linter.all false
set_option maxRecDepth 100000
set_option maxHeartbeats 4000000
set_option exponentiation.threshold 100
/-! Promises by a relation; more list rules; the laws' own helpers. -/
namespace L3
open PySem PySem.Spec PyProof.Rows L2
structure Cr (α : Type) where
  args : α → List Arg
  pre : α → Prop
  post : α → Out → Prop
def spR {α : Type} (G : Gx) (X : Ex) (c : Cr α) : Sp := fun vs H Q E => ∃ a, c.pre a ∧ spD G (fun xs => xs = c.args a) (fun _ r => c.post a (.ret r)) (fun _ e => ∃ n, c.post a (.exc n) ∧ e = X n) vs H Q E
section
variable {G : Gx} {F0 H0 : Hp} {F F1 H : Hp} {as as1 : List Addr} {σ : L2.St} {ρ : Ro} {μ : Mu} {R : RE} {α : Type} {X : Ex}
theorem wE_cr {c : Cr α} {E : XK} {t : TA} (h : wA G F0 H0 t ρ μ fun us μ1 => ∃ a, Paired (ArgOf μ1) us (c.args a) ∧ c.pre a ∧ ∀ o, c.post a o → Ends' R μ1 H0 X E o) :
    wE G F0 H0 (tCall (spR G X c) [] E t) ρ μ R := fun F H as σ Q e q => by
  refine h F H as σ _ e fun us μ1 vs F1 H1 as1 h1 e1 s1 g1 r1 => ?_
  obtain ⟨a, ha, hp, hg⟩ := h1
  refine ⟨a, hp, F1, c.args a, e1.bs.fh, by rw [List.append_nil]; exact args_ok e1 r1 ha, rfl, fun r v F' H' hr sF sf sH sn ro => ?_, fun e H' hx hs => ?_⟩
  · exact got_ok e1 sF sf sH sn ro (hg _ hr) (q.on s1 g1)
  · obtain ⟨n, hn, rfl⟩ := hx
    exact hg _ hn H' (e1.bs.h0.trans hs)
def DEr (post : Out → Prop) : DE := { nx := fun _ μ => ∃ r, post (.ret r) ∧ Ret μ (.d .non) r, rt := fun u μ => ∃ r, post (.ret r) ∧ Ret μ u r }
theorem body_cr {c : Cr α} {t : TS} {N : List Str} {vs : List V} {H : Hp} {Q : VK} {E : XK} (hsp : spR G X c vs H Q E) (hN : ∀ a, (c.args a).length ≤ N.length)
    (h : ∀ (a : α) (F : Hp), c.pre a → (∀ n, c.post a (.exc n) → ∀ H', Same H H' → E (.ref (X n)) none H') → wS G F H t (slotsFrom 0 (c.args a) ++ List.replicate (N.length - (c.args a).length) none) (cellsOf (c.args a)) (DEr (c.post a))) :
    t { nx := fun _ H' => Q .non H', rt := Q } (L2.start N vs) H := by
  obtain ⟨a, hp, hsp⟩ := hsp
  refine body_ok hsp (fun xs hx => by rw [hx]; exact hN a) fun xs F hx hE => ?_
  subst hx
  refine h a F hp fun n hn H' hs => hE _ ⟨n, hn, rfl⟩ H' hs
theorem spR_len {c : Cr α} {n : Nat} (hn : ∀ a, (c.args a).length = n) {vs : List V} {H : Hp} {Q : VK} {E : XK} (h : spR G X c vs H Q E) : vs.length = n := by
  obtain ⟨a, hp, F, xs, hF, ha, hx, _⟩ := h
  subst hx
  rw [paired_len ha]
  exact hn a
/-! ### slices, +, in, clear, truth -/
def cutD (ds : List D) (lo hi : Option Int) : List D := (ds.drop (HT.sIx ds.length 0 lo)).take (HT.sIx ds.length ds.length hi - HT.sIx ds.length 0 lo)
theorem rp_cut {xs : List V} {ds : List D} (h : RpAll G F xs ds) (lo hi : Option Int) : RpAll G F (cutV xs lo hi) (cutD ds lo hi) := by
  unfold cutV cutD
  rw [h.length]
  exact (h.drop _).take _
theorem got_new {ds : List D} {vs : List V} {p : Addr} {Q : VK} (e : Ev G F0 H0 F H as σ ρ μ) (hp : H p = none) (ra : RpAll G F vs ds) (k : R (.p μ.length) (μ ++ [.rw ds])) (q : KE G F0 H0 F as σ ρ R Q) : Q (.ref p) (upd H p (.lst vs)) := by
  have e2 := e.cell (o := .lst vs) (c := .rw ds) hp ⟨e.bs.h0.free hp, e.bs.fh.free hp, vs, upd_same, ra⟩
  refine q _ _ _ _ _ _ k e2 (.refl _) .app ⟨p, rfl, ?_⟩
  rw [← e.al, List.getElem?_append_right (Nat.le_refl _)]
  simp
theorem wE_sliceTo {te t : TE} (h : wE G F0 H0 te ρ μ fun u μ1 => wE G F0 H0 t ρ μ1 fun w μ2 => ∃ ds i, IsL μ2 u ds ∧ w = .d (.int i) ∧ R (.p μ2.length) (μ2 ++ [.rw (cutD ds none (some i))])) : wE G F0 H0 (tSl (rSlL G.K) te tNoPart (tPart t)) ρ μ R := fun F H as σ Q e q => by
  refine h F H as σ _ e fun u μ1 v1 F1 H1 as1 h1 e1 s1 g1 r1 => ?_
  refine h1 F1 H1 as1 σ _ e1 fun w μ2 v2 F2 H2 as2 h2 e2 s2 g2 r2 => ?_
  obtain ⟨ds, i, hl, rfl, k⟩ := h2
  cases r2
  obtain ⟨a, vs, ea, hs, ha⟩ := hl.seq e2 (r1.mono s2 g2)
  exact ⟨i, rfl, a, vs, ea, hs, fun p hp => got_new e2 hp (rp_cut ha _ _) k ((q.on s1 g1).on s2 g2)⟩
theorem wE_sliceFrom {te t : TE} (h : wE G F0 H0 te ρ μ fun u μ1 => wE G F0 H0 t ρ μ1 fun w μ2 => ∃ ds i, IsL μ2 u ds ∧ w = .d (.int i) ∧ R (.p μ2.length) (μ2 ++ [.rw (cutD ds (some i) none)])) : wE G F0 H0 (tSl (rSlL G.K) te (tPart t) tNoPart) ρ μ R := fun F H as σ Q e q => by
  refine h F H as σ _ e fun u μ1 v1 F1 H1 as1 h1 e1 s1 g1 r1 => ?_
  refine h1 F1 H1 as1 σ _ e1 fun w μ2 v2 F2 H2 as2 h2 e2 s2 g2 r2 => ?_
  obtain ⟨ds, i, hl, rfl, k⟩ := h2
  cases r2
  obtain ⟨a, vs, ea, hs, ha⟩ := hl.seq e2 (r1.mono s2 g2)
  exact ⟨i, rfl, a, vs, ea, hs, fun p hp => got_new e2 hp (rp_cut ha _ _) k ((q.on s1 g1).on s2 g2)⟩
theorem w2_cat {i j : Nat} {ds es : List D} (h1 : μ[i]? = some (.rw ds)) (h2 : μ[j]? = some (.rw es)) (hl : ds.length + es.length ≤ 1000000) (k : R (.p μ.length) (μ ++ [.rw (ds ++ es)])) : w2 G F0 H0 rCat (.p i) (.p j) ρ μ R := fun F H as σ v1 v2 Q e r1 r2 q => by
  obtain ⟨a, rfl, ha⟩ := r1
  obtain ⟨b, rfl, hb⟩ := r2
  obtain ⟨_, _, vs, hv, ra⟩ := e.ce i _ a h1 ha
  obtain ⟨_, _, ws, hw, rb⟩ := e.ce j _ b h2 hb
  exact ⟨a, b, vs, ws, rfl, rfl, hv, hw, by rw [ra.length, rb.length]; exact line_of hl, fun p hp => got_new e hp (ra.append rb) k q⟩
theorem inV_ints {i : Int} {ns : List Int} : inV (.int i) (ns.map V.int) = decide (i ∈ ns) := by
  unfold inV
  rw [List.any_map]
  induction ns with
  | nil => rfl
  | cons n ns ih =>
    rw [List.any_cons, ih]
    have e : ((fun y => eqV y (V.int i)) ∘ V.int) n = decide (n = i) := rfl
    rw [e]
    by_cases h : n = i
    · subst h; simp
    · by_cases h2 : i ∈ ns
      · simp [h2]
      · simp [h, h2, Ne.symm h]
theorem flat_ints (ns : List Int) : (ns.map V.int).all flatV = true := by
  rw [List.all_map, List.all_eq_true]
  intro x _
  rfl
theorem w2_in {u : U} {i : Int} {ns : List Int} (hl : IsL μ u (ns.map D.int)) (k : R (.d (.bl (decide (i ∈ ns)))) μ) : w2 G F0 H0 (rIn G.K false) (.d (.int i)) u ρ μ R := fun F H as σ v1 v2 Q e r1 r2 q => by
  cases r1
  obtain ⟨a, vs, rfl, hs, ha⟩ := hl.seq e r2
  rw [ha.of_ints] at hs
  refine ⟨a, _, rfl, .inl hs, rfl, flat_ints ns, ?_⟩
  rw [if_neg Bool.false_ne_true, inV_ints]
  exact q _ _ _ _ _ _ k e (.refl _) .refl (Rp.bl _)
theorem w2_notIn {u : U} {i : Int} {ns : List Int} (hl : IsL μ u (ns.map D.int)) (k : R (.d (.bl (!decide (i ∈ ns)))) μ) : w2 G F0 H0 (rIn G.K true) (.d (.int i)) u ρ μ R := fun F H as σ v1 v2 Q e r1 r2 q => by
  cases r1
  obtain ⟨a, vs, rfl, hs, ha⟩ := hl.seq e r2
  rw [ha.of_ints] at hs
  refine ⟨a, _, rfl, .inl hs, rfl, flat_ints ns, ?_⟩
  rw [if_pos rfl, inV_ints]
  exact q _ _ _ _ _ _ k e (.refl _) .refl (Rp.bl _)
theorem wE_clear {to : TE} (h : wE G F0 H0 to ρ μ fun x μ1 => ∃ k ds, x = .p k ∧ μ1[k]? = some (.rw ds) ∧ R (.d .non) (μ1.set k (.rw []))) : wE G F0 H0 (tBM0 G.K "list" rClear to) ρ μ R := fun F H as σ Q e q => by
  refine h F H as σ _ e fun u μ1 v F1 H1 as1 h1 e1 s1 g1 r1 => ?_
  obtain ⟨k, ds, rfl, hk, kk⟩ := h1
  obtain ⟨a, rfl, ha⟩ := r1
  obtain ⟨n0, nF, vs, hv, _⟩ := e1.ce k _ a hk ha
  refine ⟨.inl ⟨rfl, vs, .of hv⟩, a, vs, rfl, rfl, hv, ?_⟩
  have e3 := e1.write (o := .lst []) (c' := .rw []) hk ha rfl rfl ⟨n0, nF, _, upd_same, .nil⟩
  exact q _ _ _ _ _ _ kk e3 s1 g1 Rp.non
/-- a list's truth -/
theorem wT_truL {ta : TE} {R : RT} (h : wE G F0 H0 ta ρ μ fun u μ1 => ∃ ds, IsL μ1 u ds ∧ R (!ds.isEmpty) μ1) : wT G F0 H0 (fun σ H Q => ta σ H fun x H1 => ∃ k, TruV G.K x H1 k ∧ Q k H1) ρ μ R := fun F H as σ Q e q => by
  refine h F H as σ _ e fun u μ1 v F1 H1 as1 h1 e1 s1 g1 r1 => ?_
  obtain ⟨ds, hl, k⟩ := h1
  obtain ⟨a, vs, rfl, hs, ha⟩ := hl.seq e1 r1
  refine ⟨!ds.isEmpty, .inl ⟨vs, hs, ?_⟩, q _ _ _ _ _ k e1 s1 g1⟩
  cases ha <;> rfl
theorem wT_truB {ta : TE} {R : RT} (h : wE G F0 H0 ta ρ μ fun u μ1 => ∃ b, u = .d (.bl b) ∧ R b μ1) : wT G F0 H0 (fun σ H Q => ta σ H fun x H1 => ∃ k, TruV G.K x H1 k ∧ Q k H1) ρ μ R := fun F H as σ Q e q => by
  refine h F H as σ _ e fun u μ1 v F1 H1 as1 h1 e1 s1 g1 r1 => ?_
  obtain ⟨b, rfl, k⟩ := h1
  cases r1
  exact ⟨b, rfl, q _ _ _ _ _ k e1 s1 g1⟩
/-- for i in range(a, b, c), c above nought -/
theorem wS_rng3 {ta : TA} {g : TG} {tb : TS} {D' : DE} (h : wA G F0 H0 ta ρ μ fun us μ1 => ∃ (i j c : Int) (n : Nat), us = [.d (.int i), .d (.int j), .d (.int c)] ∧ RgC i j c n ∧ ∃ I : Nat → Ro → Mu → Prop, I 0 ρ μ1 ∧
      (∀ m ρ' μ', m < n → I m ρ' μ' → wG G F0 H0 g (.d (.int (i + m * c))) ρ' μ' fun ρ2 μ2 => wS G F0 H0 tb ρ2 μ2 { nx := I (m + 1), ct := I (m + 1), bk := D'.nx, rt := D'.rt }) ∧ ∀ ρ' μ', I n ρ' μ' → D'.nx ρ' μ') :
    wS G F0 H0 (tFor (iRng3 ta) g tb) ρ μ D' := fun F H as σ X e q => by
  refine h F H as σ _ e fun us μ1 vs F1 H1 as1 h1 e1 s1 g1 r1 => ?_
  obtain ⟨i, j, c, n, rfl, hr, I, i0, is, ie⟩ := h1
  cases r1 with
  | cons ra rb =>
    obtain ⟨v, w, rfl, r8, r9⟩ := p2 rb
    cases (show Rp G F1 _ (.int i) from ra)
    cases (show Rp G F1 v (.int j) from r8)
    cases (show Rp G F1 w (.int c) from r9)
    refine ⟨i, j, c, n, rfl, hr, ?_⟩
    refine ⟨fun m2 m σ2 H2 => ∃ F2 as2 ρ2 μ2, Ev G F0 H0 F2 H2 as2 σ2 ρ2 μ2 ∧ Same F1 F2 ∧ Grw as1 as2 ∧ I m2 ρ2 μ2 ∧ m2 + m = n, ⟨n, F1, as1, ρ, μ1, e1, .refl _, .refl, i0, by omega⟩, ?_⟩
    rintro k m σ2 H2 ⟨F2, as2, ρ2, μ2, e2, s2, g2, i2, em⟩
    by_cases hi : k < n
    · refine .inr ⟨hi, fun σ' H' => ∃ F3 as3 ρ3 μ3, Ev G F0 H0 F3 H' as3 σ' ρ3 μ3 ∧ Same F1 F3 ∧ Grw as1 as3 ∧ I (k + 1) ρ3 μ3, ?_, fun x H' y => ?_⟩
      · rintro σ' H' ⟨F3, as3, ρ3, μ3, e3, s3, g3, i3⟩
        exact ⟨m - 1, by omega, F3, as3, ρ3, μ3, e3, s3, g3, i3, by omega⟩
      · obtain ⟨rfl, rfl⟩ := y
        refine is k ρ2 μ2 hi i2 F2 H' as2 σ2 _ _ e2 (Rp.int _) fun ρ3 μ3 σ3 F3 H3 as3 h3 e3 s3 g3 => ?_
        refine h3 F3 H3 as3 σ3 _ e3 ⟨?_, ((q.rt.on s1 g1).on s2 g2).on s3 g3, ((q.nx.on s1 g1).on s2 g2).on s3 g3, ?_⟩
        · intro ρ' μ' σ' F' H' as' h' e' s' g'
          exact ⟨F', as', ρ', μ', e', s2.trans (s3.trans s'), g2.trans (g3.trans g'), h'⟩
        · intro ρ' μ' σ' F' H' as' h' e' s' g'
          exact ⟨F', as', ρ', μ', e', s2.trans (s3.trans s'), g2.trans (g3.trans g'), h'⟩
    · have ei : k = n := by omega
      subst ei
      exact .inl ⟨Nat.le_refl _, q.nx _ _ _ _ _ _ (ie _ _ i2) e2 (s1.trans s2) (g1.trans g2)⟩
end
end L3

set_option Elab.async false
set_option linter.all false
set_option maxRecDepth 100000
set_option maxHeartbeats 4000000
set_option exponentiation.threshold 100
/-! The laws' own drawn steps and pieces: what they are, that they are good. -/
namespace L3
open PySem PySem.Spec PyProof.Rows L2
def mixN (c k : Int) : Int := ((c + 977 * k + 31) * 48271 % 2147483647) * ((c + 977 * k + 31) * 48271 % 2147483647) % 2147483629
theorem mixN_nn (c k : Int) : 0 ≤ mixN c k ∧ mixN c k < 2147483629 := ⟨Int.emod_nonneg _ (by decide), Int.emod_lt_of_pos _ (by decide)⟩
def c__law_mixed : Ct (Int × Int) := ⟨fun a => [.d (.int a.1), .d (.int a.2)], fun _ => True, fun a => .ret (.d (.int (mixN a.1 a.2)))⟩
def sortN (ns : List Int) : List Int := ns.mergeSort fun a b => decide (a ≤ b)
theorem sortN_perm (ns : List Int) : (sortN ns).Perm ns := List.mergeSort_perm _ _
theorem sortN_le (ns : List Int) : (sortN ns).Pairwise (· ≤ ·) := by
  have h := List.pairwise_mergeSort (le := fun a b : Int => decide (a ≤ b)) (fun a b c h1 h2 => by simp at h1 h2 ⊢; omega) (fun a b => by simp; omega) ns
  exact h.imp (fun z => of_decide_eq_true z)
theorem sort_one : ∀ {a b : List Int}, a.Perm b → a.Pairwise (· ≤ ·) → b.Pairwise (· ≤ ·) → a = b
  | [], b, h, _, _ => (List.nil_perm.mp h).symm
  | x :: a, [], h, _, _ => by have := h.length_eq; cases this
  | x :: a, y :: b, h, h1, h2 => by
    have e : x = y := by
      rw [List.pairwise_cons] at h1 h2
      have m1 : x ∈ y :: b := h.subset List.mem_cons_self
      have m2 : y ∈ x :: a := h.symm.subset List.mem_cons_self
      rcases List.mem_cons.mp m1 with m1 | m1
      · exact m1
      · rcases List.mem_cons.mp m2 with m2 | m2
        · exact m2.symm
        · have := h1.1 y m2; have := h2.1 x m1; omega
    subst e
    rw [sort_one ((List.perm_cons x).mp h) (List.pairwise_cons.mp h1).2 (List.pairwise_cons.mp h2).2]
theorem sort_is {ns ns' : List Int} (h : ns'.Perm ns) (h' : ns'.Pairwise (· ≤ ·)) : ns' = sortN ns := sort_one (h.trans (sortN_perm ns).symm) h' (sortN_le ns)
theorem sort_lt {ns : List Int} (h : ns.Nodup) : (sortN ns).Pairwise (· < ·) := by
  have h1 := sortN_le ns
  have h2 : (sortN ns).Nodup := (sortN_perm ns).nodup_iff.mpr h
  have h3 := h1.and h2
  exact h3.imp fun z => by have := z.1; have := z.2; omega
/-! ### the ends that are drawn -/
def put1 (keep : Bool) (acc : List Int) (e : Int) : List Int := if keep = true ∧ e ∉ acc then acc ++ [e] else acc
/-- distinct, within, few -/
structure Ends1 (lo hi : Int) (n : Nat) (acc : List Int) : Prop where
  nd : acc.Nodup
  wi : ∀ e ∈ acc, lo ≤ e ∧ e ≤ hi
  few : acc.length ≤ n
theorem Ends1.nil {lo hi : Int} : Ends1 lo hi 0 [] := ⟨List.nodup_nil, (fun _ h => by cases h), Nat.le_refl _⟩
theorem Ends1.put {lo hi e : Int} {n : Nat} {acc : List Int} {keep : Bool} (h : Ends1 lo hi n acc) (he : keep = true → lo ≤ e ∧ e ≤ hi) : Ends1 lo hi (n + 1) (put1 keep acc e) := by
  unfold put1
  split
  · rename_i c
    refine ⟨?_, fun x hx => ?_, by rw [List.length_append]; have := h.few; simp; omega⟩
    · rw [List.nodup_append]
      exact ⟨h.nd, by simp, fun a ha b hb => by simp at hb; subst hb; intro z; subst z; exact c.2 ha⟩
    · rcases List.mem_append.mp hx with hx | hx
      · exact h.wi x hx
      · simp at hx; subst hx; exact he c.1
  · exact ⟨h.nd, h.wi, by have := h.few; omega⟩
def partsN (c : Int) : Int := if c % 7 = 1 then 2 + c / 7 % 999 else 12
def manyN (c : Int) : Int := if c / 20 % 4 = 1 then c / 5 % 9 else c / 5 % 4
def endN (c : Int) (k : Nat) : Int := 1 + mixN c k % partsN c
def drawS (c : Int) : Nat → List Int
  | 0 => []
  | k + 1 => put1 (decide (endN c k < partsN c)) (drawS c k) (endN c k)
def weightN (c : Int) (i : Nat) : Int := if c / 11 % 8 = 1 then 1 + mixN c (9 + i) % 1000 else 1 + mixN c (9 + i) % 9
def toSteps (c parts : Int) : Nat → List Int → Steps
  | _, [] => []
  | i, e :: r => (Rat.divInt e parts, weightN c i) :: toSteps c parts (i + 1) r
def endsS (c : Int) : List Int := (sortN (drawS c (manyN c).toNat)).take 7 ++ [partsN c]
def stepsBy (c : Int) : Steps := toSteps c (partsN c) 0 (endsS c)
theorem partsN_b (c : Int) : 2 ≤ partsN c ∧ partsN c ≤ 1000 := by
  unfold partsN
  split <;> omega
theorem manyN_b (c : Int) : 0 ≤ manyN c ∧ manyN c ≤ 8 := by
  unfold manyN
  split <;> omega
theorem endN_b (c : Int) (k : Nat) : 1 ≤ endN c k ∧ endN c k ≤ partsN c := by
  have h := partsN_b c
  have h1 := Int.emod_nonneg (mixN c k) (by omega : partsN c ≠ 0)
  have h2 := Int.emod_lt_of_pos (mixN c k) (by omega : 0 < partsN c)
  unfold endN
  omega
theorem drawS_ok (c : Int) : ∀ k, Ends1 1 (partsN c - 1) k (drawS c k)
  | 0 => .nil
  | k + 1 => (drawS_ok c k).put fun h => by
    have h1 := endN_b c k
    have h2 : endN c k < partsN c := of_decide_eq_true h
    omega
theorem weightN_b (c : Int) (i : Nat) : 1 ≤ weightN c i ∧ weightN c i ≤ 1000 := by
  unfold weightN
  split <;> omega
theorem toSteps_len (c parts : Int) : ∀ (l : List Int) (i : Nat), (toSteps c parts i l).length = l.length
  | [], _ => rfl
  | e :: r, i => by simp [toSteps, toSteps_len c parts r]
theorem toSteps_at {c parts : Int} : ∀ {l : List Int} {i j : Nat} {e : Int}, l[j]? = some e → (toSteps c parts i l)[j]? = some (Rat.divInt e parts, weightN c (i + j))
  | [], _, _, _, h => by simp at h
  | x :: l, i, 0, e, h => by simp at h; subst h; rfl
  | x :: l, i, j + 1, e, h => by
    have h' : l[j]? = some e := by simpa using h
    have := toSteps_at (c := c) (parts := parts) (i := i + 1) h'
    show (toSteps c parts (i + 1) l)[j]? = _
    rw [this]
    have e2 : i + 1 + j = i + (j + 1) := by omega
    rw [e2]
theorem divInt_lt {a b p : Int} (hp : 0 < p) (h : a < b) : Rat.divInt a p < Rat.divInt b p := (lt_law hp hp).mpr (Int.mul_lt_mul_of_pos_right h hp)
theorem divInt_self1 {p : Int} (hp : 0 < p) : Rat.divInt p p = 1 := by
  rw [Rat.divInt_eq_div]
  have : (p : Rat) ≠ 0 := by exact_mod_cast (by omega : p ≠ 0)
  grind
theorem toSteps_rise {c parts : Int} (hp : 0 < parts) : ∀ (l : List Int) (i : Nat) (b : Int), (∀ x ∈ l, b < x) → l.Pairwise (· < ·) → (∀ x ∈ l, x < parts) → b < parts → Rise (Rat.divInt b parts) (toSteps c parts i (l ++ [parts]))
  | [], i, b, _, _, _, hb => ⟨divInt_lt hp hb, divInt_self1 hp⟩
  | e :: l, i, b, h, pw, hl, hb => by
    rw [List.pairwise_cons] at pw
    exact ⟨divInt_lt hp (h e List.mem_cons_self), toSteps_rise hp l (i + 1) e pw.1 pw.2 (fun x hx => hl x (List.mem_cons_of_mem _ hx)) (hl e List.mem_cons_self)⟩
theorem toSteps_ok {c parts : Int} (hp : 0 < parts) (hp2 : parts ≤ 1000) : ∀ (l : List Int) (i : Nat), (∀ x ∈ l, 0 ≤ x) → ∀ s ∈ toSteps c parts i l, StepOk s
  | [], _, _, _, h => by cases h
  | e :: l, i, hx, s, h => by
    rcases List.mem_cons.mp h with rfl | h
    · refine ⟨?_, weightN_b c i⟩
      have := (num_le (hx e List.mem_cons_self) hp).2
      show (Rat.divInt e parts).den ≤ 1000
      omega
    · exact toSteps_ok hp hp2 l (i + 1) (fun x hx' => hx x (List.mem_cons_of_mem _ hx')) s h
theorem sort7 (c : Int) : ((sortN (drawS c (manyN c).toNat)).take 7).Pairwise (· < ·) ∧ ∀ x ∈ (sortN (drawS c (manyN c).toNat)).take 7, 1 ≤ x ∧ x ≤ partsN c - 1 := by
  have h := drawS_ok c (manyN c).toNat
  refine ⟨(sort_lt h.nd).sublist (List.take_sublist _ _), fun x hx => h.wi x ?_⟩
  exact (sortN_perm _).subset (List.mem_of_mem_take hx)
theorem stepsBy_good (c : Int) : Good (stepsBy c) := by
  obtain ⟨h1, h2⟩ := sort7 c
  have hp := partsN_b c
  refine ⟨?_, ?_, ?_⟩
  · unfold stepsBy endsS
    rw [toSteps_len, List.length_append, List.length_take]
    simp
    omega
  · refine toSteps_ok (by omega) hp.2 _ 0 fun x hx => ?_
    rcases List.mem_append.mp hx with hx | hx
    · have := h2 x hx; omega
    · simp at hx; omega
  · have e : (0 : Rat) = Rat.divInt 0 (partsN c) := by simp
    rw [e]
    exact toSteps_rise (by omega) _ 0 0 (fun x hx => by have := h2 x hx; omega) h1 (fun x hx => by have := h2 x hx; omega) (by omega)
/-! ### the pieces that are drawn -/
def partsP (c : Int) : Int := if c % 5 = 1 then 2 + c / 5 % 997 else 48
def endP (c : Int) (k : Nat) : Int := mixN c (30 + k) % (partsP c + 1)
def drawP (c : Int) : Nat → List Int
  | 0 => []
  | k + 1 => put1 true (drawP c k) (endP c k)
def toPiece (parts : Int) : List Int → Piece
  | a :: b :: r => (Rat.divInt a parts, Rat.divInt b parts) :: toPiece parts r
  | _ => []
def endsP (c : Int) : List Int := sortN (drawP c (2 * (c / 3 % 9)).toNat)
def pieceBy (c : Int) : Piece := toPiece (partsP c) (endsP c)
theorem partsP_b (c : Int) : 2 ≤ partsP c ∧ partsP c ≤ 998 := by
  unfold partsP
  split <;> omega
theorem drawP_ok (c : Int) : ∀ k, Ends1 0 (partsP c) k (drawP c k)
  | 0 => .nil
  | k + 1 => (drawP_ok c k).put fun _ => by
    have h := partsP_b c
    have h1 := Int.emod_nonneg (mixN c (30 + k)) (by omega : partsP c + 1 ≠ 0)
    have h2 := Int.emod_lt_of_pos (mixN c (30 + k)) (by omega : 0 < partsP c + 1)
    unfold endP
    omega
theorem toPiece_len (parts : Int) : ∀ (l : List Int), (toPiece parts l).length = l.length / 2
  | [] => rfl
  | [_] => by simp [toPiece]
  | a :: b :: r => by
    show (toPiece parts r).length + 1 = (r.length + 1 + 1) / 2
    rw [toPiece_len parts r]
    omega
theorem toPiece_at {parts : Int} : ∀ {l : List Int} {j : Nat} {a b : Int}, l[2 * j]? = some a → l[2 * j + 1]? = some b → (toPiece parts l)[j]? = some (Rat.divInt a parts, Rat.divInt b parts)
  | [], _, _, _, h, _ => by simp at h
  | [x], 0, _, _, _, h => by simp at h
  | [x], j + 1, _, _, h, _ => by
    have : 2 * (j + 1) = 2 * j + 1 + 1 := by omega
    rw [this] at h
    simp at h
  | x :: y :: l, 0, a, b, h, h' => by simp at h h'; subst h h'; rfl
  | x :: y :: l, j + 1, a, b, h, h' => by
    have e : 2 * (j + 1) = 2 * j + 1 + 1 := by omega
    rw [e] at h h'
    exact toPiece_at (l := l) (by simpa using h) (by simpa using h')
theorem toPiece_is {parts : Int} (hp : 0 < parts) : ∀ {l : List Int}, l.Pairwise (· < ·) → (∀ x ∈ l, 0 ≤ x ∧ x ≤ parts) → IsPiece (toPiece parts l) ∧ ∀ s ∈ toPiece parts l, ∃ a b, s = (Rat.divInt a parts, Rat.divInt b parts) ∧ a ∈ l ∧ b ∈ l
  | [], _, _ => ⟨⟨(fun _ h => by cases h), trivial⟩, (fun _ h => by cases h)⟩
  | [_], _, _ => ⟨⟨(fun _ h => by cases h), trivial⟩, (fun _ h => by cases h)⟩
  | a :: b :: l, pw, hx => by
    rw [List.pairwise_cons, List.pairwise_cons] at pw
    obtain ⟨⟨h1, h2⟩, h3⟩ := toPiece_is hp (l := l) pw.2.2 fun x h => hx x (List.mem_cons_of_mem _ (List.mem_cons_of_mem _ h))
    have ha := hx a List.mem_cons_self
    have hb := hx b (List.mem_cons_of_mem _ List.mem_cons_self)
    have hab := pw.1 b List.mem_cons_self
    refine ⟨⟨fun s hs => ?_, ?_⟩, fun s hs => ?_⟩
    · rcases List.mem_cons.mp hs with rfl | hs
      · refine ⟨divInt_nn ha.1 hp, divInt_lt hp hab, ?_⟩
        show Rat.divInt b parts ≤ 1
        rw [← divInt_self1 hp]
        by_cases e : b = parts
        · rw [e]; grind
        · exact Rat.le_of_lt (divInt_lt hp (by omega))
      · exact h1 s hs
    · show Apart ((Rat.divInt a parts, Rat.divInt b parts) :: toPiece parts l)
      cases e : toPiece parts l with
      | nil => trivial
      | cons t r =>
        rw [e] at h2 h3
        refine ⟨?_, h2⟩
        obtain ⟨a', b', e', ha', _⟩ := h3 t List.mem_cons_self
        rw [e']
        exact divInt_lt hp (pw.2.1 a' ha')
    · rcases List.mem_cons.mp hs with rfl | hs
      · exact ⟨a, b, rfl, List.mem_cons_self, List.mem_cons_of_mem _ List.mem_cons_self⟩
      · obtain ⟨a', b', e, h4, h5⟩ := h3 s hs
        exact ⟨a', b', e, List.mem_cons_of_mem _ (List.mem_cons_of_mem _ h4), List.mem_cons_of_mem _ (List.mem_cons_of_mem _ h5)⟩
theorem endsP_ok (c : Int) : (endsP c).Pairwise (· < ·) ∧ (∀ x ∈ endsP c, 0 ≤ x ∧ x ≤ partsP c) ∧ (endsP c).length ≤ 16 := by
  have h := drawP_ok c (2 * (c / 3 % 9)).toNat
  refine ⟨sort_lt h.nd, fun x hx => h.wi x ((sortN_perm _).subset hx), ?_⟩
  have h2 := (sortN_perm (drawP c (2 * (c / 3 % 9)).toNat)).length_eq
  have h3 := h.few
  unfold endsP
  omega
/-- a drawn piece: on the grid of its parts -/
theorem gr_div {a p : Int} (hp : 0 < p) : Gr p.toNat (Rat.divInt a p) := by
  refine ⟨a, ?_⟩
  obtain ⟨n, rfl⟩ := Int.eq_ofNat_of_zero_le (Int.le_of_lt hp)
  rw [Rat.divInt_eq_div, Int.toNat_natCast, int_nat]
  have : ((n : Nat) : Rat) ≠ 0 := by exact_mod_cast (by omega : n ≠ 0)
  grind
theorem pieceBy_is (c : Int) : IsPiece (pieceBy c) := (toPiece_is (by have := partsP_b c; omega) (endsP_ok c).1 (endsP_ok c).2.1).1
theorem pieceBy_len (c : Int) : (pieceBy c).length ≤ 8 := by
  unfold pieceBy
  rw [toPiece_len]
  have := (endsP_ok c).2.2
  omega
/-- of one grid below a thousand -/
def Grid1 (p : Piece) : Prop := ∃ D : Nat, 0 < D ∧ D ≤ 1000 ∧ ∀ s ∈ p, Gr D s.1 ∧ Gr D s.2
theorem pieceBy_grid (c : Int) : Grid1 (pieceBy c) := by
  have hp := partsP_b c
  refine ⟨(partsP c).toNat, by omega, by omega, fun s hs => ?_⟩
  obtain ⟨a, b, rfl, _, _⟩ := (toPiece_is (by omega) (endsP_ok c).1 (endsP_ok c).2.1).2 s hs
  exact ⟨gr_div (by omega), gr_div (by omega)⟩
theorem Grid1.on {p : Piece} (h : Grid1 p) : OnGrid p := by
  obtain ⟨D, h1, h2, h3⟩ := h
  have : 2 ^ 10 ≤ 2 ^ 2000 := pt_lt (by decide)
  exact ⟨D, h1, by omega, h3⟩
theorem Grid1.szs {p : Piece} (h : Grid1 p) (hp : IsPiece p) : Szs p := by
  obtain ⟨D, h1, h2, h3⟩ := h
  have : 2 ^ 10 ≤ 2 ^ 4080 := pt_lt (by decide)
  intro s hs
  have z := hp.1 s hs
  exact ⟨sz1000 h1 (by omega) (h3 s hs).1 z.1 (by grind), sz1000 h1 (by omega) (h3 s hs).2 (by grind) (by grind)⟩
end L3

set_option Elab.async false
set_option linter.all false
set_option maxRecDepth 100000
set_option maxHeartbeats 4000000
set_option exponentiation.threshold 100
/-! The laws' own sums: promises. -/
namespace L3
open PySem PySem.Spec PyProof.Rows L2
def areaSum (st : Steps) (p : Piece) : Rat := p.foldl (fun f s => f + areaR (rowsOf 0 st) s.1 s.2) 0
def c__law_steps_by : Ct Int := ⟨fun a => [.d (.int a)], fun _ => True, fun a => .ret (.own (encSt (stepsBy a)))⟩
def c__law_piece_by : Ct Int := ⟨fun a => [.d (.int a)], fun _ => True, fun a => .ret (.own (encP (pieceBy a)))⟩
def Wz (a b : Int) : Prop := 0 ≤ a ∧ 0 < b ∧ a < 2 ^ 4450 ∧ b < 2 ^ 4450
def c__law_sum : Ct (Int × Int × Int × Int) := ⟨fun a => [.d (.tup [.int a.1, .int a.2.1]), .d (.tup [.int a.2.2.1, .int a.2.2.2])], fun a => Wz a.1 a.2.1 ∧ Wz a.2.2.1 a.2.2.2, fun a => .ret (.d (encF (Rat.divInt a.1 a.2.1 + Rat.divInt a.2.2.1 a.2.2.2)))⟩
def c__law_area : Ct (Steps × Rat × Rat) := ⟨fun a => [.l (encSt a.1), .d (encF a.2.1), .d (encF a.2.2)], fun a => Good a.1 ∧ Pt a.2.1 ∧ Pt a.2.2, fun a => .ret (.d (encF (areaR (rowsOf 0 a.1) a.2.1 a.2.2)))⟩
def c__law_worth : Ct (Steps × Piece) := ⟨fun a => [.l (encSt a.1), .l (encP a.2)], fun a => Good a.1 ∧ IsPiece a.2 ∧ OnGrid a.2 ∧ a.2.length ≤ 900000, fun a => .ret (.d (encF (worthR a.1 a.2)))⟩
theorem Wz.of {q : Rat} (h0 : 0 ≤ q) (h : Sz q) : Wz q.num q.den := by
  have h1 := nn_num h0
  have h2 := den_pos' q
  have h3 : (2 ^ 4400 : Nat) ≤ 2 ^ 4450 := pt_lt (by decide)
  have e := pow_cast 4450
  have a := h.1
  have b := h.2
  exact ⟨h1, h2, by omega, by omega⟩
theorem Wz.up {q : Rat} {w : Int} (h0 : 0 ≤ q) (h : Sz q) (w0 : 0 ≤ w) (w1 : w ≤ 1000) : Wz (q.num * w) q.den := by
  have h1 := nn_num h0
  have h2 := den_pos' q
  have h3 : (2 ^ 4400 : Nat) ≤ 2 ^ 4410 := pt_lt (by decide)
  have h4 : (2 ^ 4410 : Nat) ≤ 2 ^ 4450 := pt_lt (by decide)
  have e := pow_cast 4450
  have e2 := pow_cast 4410
  have e3 := pow_cast 4400
  have a := h.1
  have b := h.2
  have m := mul_of (a := 4400) (b := 10) h1 w0 (by omega) (by have : (2:Int)^10 = 1024 := by decide
                                                              omega)
  exact ⟨m.1, h2, by omega, by omega⟩
theorem Wz.dz {a b c d : Int} (h : Wz a b) (h' : Wz c d) : Dz (b * d) := by
  have m := mul_of (a := 4450) (b := 4450) (Int.le_of_lt h.2.1) (Int.le_of_lt h'.2.1) h.2.2.2 h'.2.2.2
  exact dz_of (n := 8900) (Int.mul_pos h.2.1 h'.2.1) m.2 (by decide)
theorem Wz.mul {a b c d : Int} (h : Wz a b) (h' : Wz c d) : CMulW a d ∧ CMulW c b ∧ CMulW b d := 
  ⟨cm_of (a := 4450) (b := 4450) h.1 (Int.le_of_lt h'.2.1) h.2.2.1 h'.2.2.2 (by decide) (by decide) (by decide),
   cm_of (a := 4450) (b := 4450) h'.1 (Int.le_of_lt h.2.1) h'.2.2.1 h.2.2.2 (by decide) (by decide) (by decide),
   cm_of (a := 4450) (b := 4450) (Int.le_of_lt h.2.1) (Int.le_of_lt h'.2.1) h.2.2.2 h'.2.2.2 (by decide) (by decide) (by decide)⟩
theorem sum_law {a b c d : Int} (hb : 0 < b) (hd : 0 < d) : Rat.divInt (a * d + c * b) (b * d) = Rat.divInt a b + Rat.divInt c d := by
  rw [Rat.divInt_add_divInt _ _ (by omega) (by omega)]
theorem up_law (q : Rat) (w : Int) : Rat.divInt (q.num * w) (q.den : Int) = (w : Rat) * q := by
  have h := rat_div q
  rw [Rat.divInt_eq_div, Rat.intCast_mul]
  have hd : ((q.den : Int) : Rat) ≠ 0 := by have := den_pos' q; exact_mod_cast (by omega : (q.den : Int) ≠ 0)
  generalize (q.num : Rat) = x at *
  generalize ((q.den : Int) : Rat) = y at *
  rw [h]
  grind
theorem self_law (q : Rat) : Rat.divInt q.num (q.den : Int) = q := Rat.num_divInt_den q
theorem worth_area (st : Steps) (p : Piece) : worthR st p = areaSum st p / total st := by
  have S : ∀ (p : Piece) (f : Rat), p.foldl (fun f s => f + withinR st s.1 s.2) (f / total st) = p.foldl (fun f s => f + areaR (rowsOf 0 st) s.1 s.2) f / total st := by
    intro p
    induction p with
    | nil => intro f; rfl
    | cons s p ih =>
      intro f
      show p.foldl _ (f / total st + withinR st s.1 s.2) = p.foldl _ (f + areaR (rowsOf 0 st) s.1 s.2) / total st
      rw [← ih]
      congr 1
      unfold withinR
      grind
  have := S p 0
  unfold worthR areaSum
  rw [← this]
  congr 1
  grind
theorem areaSum_part {st : Steps} (g : Good st) {p : Piece} (hp : IsPiece p) (og : OnGrid p) (hl : p.length ≤ 900000) (i : Nat) : 0 ≤ areaSum st (p.take i) ∧ Sz (areaSum st (p.take i)) ∧ ∀ s : Rat × Rat, s ∈ p → 0 ≤ areaR (rowsOf 0 st) s.1 s.2 ∧ Sz (areaR (rowsOf 0 st) s.1 s.2) ∧ Pt s.1 ∧ Pt s.2 := by
  obtain ⟨Dp, dp0, dpb, gp⟩ := og
  have dd : dt st * Dp < 2 ^ 2100 := by
    have := Nat.mul_lt_mul'' g.dt_lt dpb
    rw [← Nat.pow_add] at this
    exact Nat.lt_of_lt_of_le this (pt_lt (by decide))
  have dpos : 0 < dt st * Dp * 1 := Nat.mul_pos (Nat.mul_pos (dt_pos st) dp0) Nat.one_pos
  have W : ∀ t ∈ p, 0 ≤ areaR (rowsOf 0 st) t.1 t.2 ∧ areaR (rowsOf 0 st) t.1 t.2 ≤ 1000 ∧ Gr (dt st * Dp * 1) (areaR (rowsOf 0 st) t.1 t.2) := fun t ht => by
    have z := hp.1 t ht
    obtain ⟨h1, h2, h3⟩ := g.area (D := dt st * Dp) (fun q h => h.up _) ((gp t ht).1.upL _) ((gp t ht).2.upL _) z.1 z.2.2 (rowsOf 0 st).length
    rw [← area_eq] at h1 h2 h3
    rw [Nat.mul_one]
    exact ⟨h1, h2, h3⟩
  have S : ∀ (q : Piece) (f : Rat) (m : Nat), (∀ t ∈ q, t ∈ p) → 0 ≤ f → f ≤ ((1000 * m : Nat) : Rat) → Gr (dt st * Dp * 1) f → 0 ≤ q.foldl (fun f s => f + areaR (rowsOf 0 st) s.1 s.2) f ∧ q.foldl (fun f s => f + areaR (rowsOf 0 st) s.1 s.2) f ≤ ((1000 * (m + q.length) : Nat) : Rat) ∧ Gr (dt st * Dp * 1) (q.foldl (fun f s => f + areaR (rowsOf 0 st) s.1 s.2) f) := by
    intro q
    induction q with
    | nil => intro f m _ h1 h2 h3; exact ⟨h1, by simpa using h2, h3⟩
    | cons t q ih =>
      intro f m hm h1 h2 h3
      obtain ⟨w1, w2, w3⟩ := W t (hm t List.mem_cons_self)
      have z := ih (f + areaR (rowsOf 0 st) t.1 t.2) (m + 1) (fun x hx => hm x (List.mem_cons_of_mem _ hx)) (by grind) (by
        have e : ((1000 * (m + 1) : Nat) : Rat) = ((1000 * m : Nat) : Rat) + 1000 := by
          rw [Nat.mul_add, Rat.natCast_add]; rfl
        rw [e]; grind) (h3.add w3)
      have e : m + 1 + q.length = m + (t :: q).length := by simp; omega
      rw [e] at z
      exact z
  obtain ⟨s1, s2, s3⟩ := S (p.take i) 0 0 (fun t ht => List.mem_of_mem_take ht) (by grind) (by simp) Gr.zero
  have hlen : (p.take i).length ≤ 900000 := by rw [List.length_take]; omega
  have mb : 1000 * (0 + (p.take i).length) < 2 ^ 40 := by omega
  obtain ⟨b1, b2⟩ := big dd (show 1 < 2 ^ 90 by decide) mb
  obtain ⟨b3, b4⟩ := big dd (show 1 < 2 ^ 90 by decide) (show 1000 < 2 ^ 40 by decide)
  refine ⟨s1, s3.sz dpos s1 s2 b1 b2, fun s hs => ?_⟩
  obtain ⟨w1, w2, w3⟩ := W s hs
  have z := hp.1 s hs
  have z2 := gp s hs
  exact ⟨w1, w3.sz dpos (M := 1000) w1 w2 b3 b4, ⟨z.1, by grind, Nat.lt_of_le_of_lt (z2.1.den_le dp0) dpb⟩, ⟨by grind, z.2.2, Nat.lt_of_le_of_lt (z2.2.den_le dp0) dpb⟩⟩
theorem cutD_to (ds : List D) (k : Nat) : cutD ds none (some (k : Int)) = ds.take k := by
  unfold cutD
  rw [HT.sIx_none, HT.sIx_nat, List.drop_zero, Nat.sub_zero]
  by_cases h : k ≤ ds.length
  · rw [Nat.min_eq_left h]
  · rw [Nat.min_eq_right (by omega), List.take_of_length_le (by omega), List.take_of_length_le (by omega)]
theorem cutD_from (ds : List D) (k : Nat) : cutD ds (some (k : Int)) none = ds.drop k := by
  unfold cutD
  rw [HT.sIx_none, HT.sIx_nat]
  by_cases h : k ≤ ds.length
  · rw [Nat.min_eq_left h, List.take_of_length_le (by simp)]
  · rw [Nat.min_eq_right (by omega), List.drop_of_length_le (by omega), List.drop_of_length_le (by omega), List.take_nil]
theorem encSt_len (st : Steps) : (encSt st).length = st.length := by simp [encSt]
section
variable {G : Gx} {F0 H0 : Hp} {ρ : Ro} {μ : Mu} {R : RE} {X : Ex} {E : XK}
theorem ca_mixed {c k : Int} (r : R (.d (.int (mixN c k))) μ) : Call [.d (.int c), .d (.int k)] c__law_mixed R μ H0 X E := ⟨(c, k), .cons (.d _) (.cons (.d _) .nil), trivial, r⟩
theorem ca_steps_by {c : Int} (r : R (.p μ.length) (μ ++ [.rw (encSt (stepsBy c))])) : Call [.d (.int c)] c__law_steps_by R μ H0 X E := ⟨c, .cons (.d _) .nil, trivial, r⟩
theorem ca_piece_by {c : Int} (r : R (.p μ.length) (μ ++ [.rw (encP (pieceBy c))])) : Call [.d (.int c)] c__law_piece_by R μ H0 X E := ⟨c, .cons (.d _) .nil, trivial, r⟩
theorem ca_lsum {a b c d : Int} {q : Rat} (h : Wz a b) (h' : Wz c d) (e : Rat.divInt a b + Rat.divInt c d = q) (k : R (.d (encF q)) μ) : Call [.d (.tup [.int a, .int b]), .d (.tup [.int c, .int d])] c__law_sum R μ H0 X E := ⟨(a, b, c, d), .cons (.d _) (.cons (.d _) .nil), ⟨h, h'⟩, by subst e; exact k⟩
theorem ca_lsumF {q r : Rat} (h : 0 ≤ q) (h' : 0 ≤ r) (s : Sz q) (s' : Sz r) (k : R (.d (encF (q + r))) μ) : Call [.d (encF q), .d (encF r)] c__law_sum R μ H0 X E := ca_lsum (Wz.of h s) (Wz.of h' s') (by rw [self_law, self_law]) k
theorem ca_larea {st : Steps} {s e : Rat} {u : U} (hl : IsL μ u (encSt st)) (g : Good st) (hs : Pt s) (he : Pt e) (k : R (.d (encF (areaR (rowsOf 0 st) s e))) μ) : Call [u, .d (encF s), .d (encF e)] c__law_area R μ H0 X E := ⟨(st, s, e), .cons (.l hl) (.cons (.d _) (.cons (.d _) .nil)), ⟨g, hs, he⟩, k⟩
theorem ca_lworth {st : Steps} {p : Piece} {u v : U} (hl : IsL μ u (encSt st)) (hv : IsL μ v (encP p)) (g : Good st) (hp : IsPiece p) (og : OnGrid p) (n : p.length ≤ 900000) (k : R (.d (encF (worthR st p))) μ) : Call [u, v] c__law_worth R μ H0 X E := ⟨(st, p), .cons (.l hl) (.cons (.l hv) .nil), ⟨g, hp, og, n⟩, k⟩
end
end L3

set_option Elab.async false
set_option linter.all false
set_option maxRecDepth 100000
set_option maxHeartbeats 4000000
set_option exponentiation.threshold 100
/-! Lists alike; a taste's doors in short; list(...). -/
namespace L3
open PySem PySem.Spec PyProof.Rows L2
theorem eqDs_map {α : Type} {f : α → D} (h : ∀ x y, eqD (f x) (f y) = true ↔ x = y) : ∀ (xs ys : List α), eqDs (xs.map f) (ys.map f) = true ↔ xs = ys
  | [], [] => by simp [eqDs]
  | [], y :: ys => by simp [eqDs]
  | x :: xs, [] => by simp [eqDs]
  | x :: xs, y :: ys => by
    show (eqD (f x) (f y) && eqDs (xs.map f) (ys.map f)) = true ↔ _
    rw [Bool.and_eq_true, h, eqDs_map h xs ys, List.cons.injEq]
theorem eqD_listI {α : Type} {f : α → D} (h : ∀ x y, eqD (f x) (f y) = true ↔ x = y) (xs ys : List α) : eqD (.lst (xs.map f)) (.lst (ys.map f)) = true ↔ xs = ys := by
  show eqDs _ _ = true ↔ _
  exact eqDs_map h xs ys
theorem dec_of {b : Bool} {p : Prop} [Decidable p] (h : b = true ↔ p) : b = decide p := by
  by_cases c : p
  · rw [decide_eq_true c, h.mpr c]
  · rw [decide_eq_false c]
    cases b with
    | false => rfl
    | true => exact absurd (h.mp rfl) c
theorem eq_encF {q r : Rat} : eqD (encF q) (encF r) = true ↔ q = r := by rw [eqD_encF]; exact decide_eq_true_iff
theorem eq_encS {s t : Rat × Rat} : eqD (encS s) (encS t) = true ↔ s = t := by
  show (eqD (encF s.1) (encF t.1) && (eqD (encF s.2) (encF t.2) && true)) = true ↔ _
  rw [Bool.and_true, Bool.and_eq_true, eq_encF, eq_encF, Prod.ext_iff]
theorem eq_encStep {s t : Rat × Int} : eqD (encStep s) (encStep t) = true ↔ s = t := by
  show (eqD (encF s.1) (encF t.1) && (eqD (.int s.2) (.int t.2) && true)) = true ↔ _
  rw [Bool.and_true, Bool.and_eq_true, eq_encF, eqD_int, decide_eq_true_iff, Prod.ext_iff]
theorem shs_map {α : Type} {f : α → D} {n : Nat} (h : ∀ x, sh (f x) n = true) : ∀ xs : List α, shs (xs.map f) n = true
  | [] => by simp [shs]
  | x :: xs => by
    show (sh (f x) n && shs (xs.map f) n) = true
    rw [h, shs_map h xs]
    rfl
theorem sh_list {α : Type} {f : α → D} {n : Nat} (h : ∀ x, sh (f x) n = true) (xs : List α) : sh (.lst (xs.map f)) (n + 1) = true := shs_map h xs
section
variable {G : Gx} {F0 H0 : Hp} {ρ : Ro} {μ : Mu} {R : RE} {X : Ex} {E : XK}
theorem w2_eqL {α : Type} [DecidableEq α] {f : α → D} {n : Nat} {x y : U} {xs ys : List α} (hx : IsL μ x (xs.map f)) (hy : IsL μ y (ys.map f)) (hn : n + 1 ≤ 64) (hf : ∀ x, sh (f x) n = true) (he : ∀ x y, eqD (f x) (f y) = true ↔ x = y) (k : R (.d (.bl (decide (xs = ys)))) μ) : w2 G F0 H0 (rEqD G.K) x y ρ μ R :=
  w2_eqD (.l hx) (.l hy) (n + 1) (n + 1) hn hn (sh_list hf xs) (sh_list hf ys) (by rw [dec_of (eqD_listI he xs ys)]; exact k)
theorem w2_neL {α : Type} [DecidableEq α] {f : α → D} {n : Nat} {x y : U} {xs ys : List α} (hx : IsL μ x (xs.map f)) (hy : IsL μ y (ys.map f)) (hn : n + 1 ≤ 64) (hf : ∀ x, sh (f x) n = true) (he : ∀ x y, eqD (f x) (f y) = true ↔ x = y) (k : R (.d (.bl (!decide (xs = ys)))) μ) : w2 G F0 H0 (rNeD G.K) x y ρ μ R :=
  w2_neD (.l hx) (.l hy) (n + 1) (n + 1) hn hn (sh_list hf xs) (sh_list hf ys) (by rw [dec_of (eqD_listI he xs ys)]; exact k)
theorem w2_neSt {x y : U} {xs ys : Steps} (hx : IsL μ x (encSt xs)) (hy : IsL μ y (encSt ys)) (k : R (.d (.bl (!decide (xs = ys)))) μ) : w2 G F0 H0 (rNeD G.K) x y ρ μ R := w2_neL (n := 2) hx hy (by decide) (fun _ => rfl) (fun _ _ => eq_encStep) k
theorem w2_eqSt {x y : U} {xs ys : Steps} (hx : IsL μ x (encSt xs)) (hy : IsL μ y (encSt ys)) (k : R (.d (.bl (decide (xs = ys)))) μ) : w2 G F0 H0 (rEqD G.K) x y ρ μ R := w2_eqL (n := 2) hx hy (by decide) (fun _ => rfl) (fun _ _ => eq_encStep) k
theorem w2_neP {x y : U} {xs ys : Piece} (hx : IsL μ x (encP xs)) (hy : IsL μ y (encP ys)) (k : R (.d (.bl (!decide (xs = ys)))) μ) : w2 G F0 H0 (rNeD G.K) x y ρ μ R := w2_neL (n := 2) hx hy (by decide) (fun _ => rfl) (fun _ _ => eq_encS) k
theorem w2_eqP {x y : U} {xs ys : Piece} (hx : IsL μ x (encP xs)) (hy : IsL μ y (encP ys)) (k : R (.d (.bl (decide (xs = ys)))) μ) : w2 G F0 H0 (rEqD G.K) x y ρ μ R := w2_eqL (n := 2) hx hy (by decide) (fun _ => rfl) (fun _ _ => eq_encS) k
theorem wC_listOf {u : U} {ds : List D} (hl : IsL μ u ds) (k : R (.p μ.length) (μ ++ [.rw ds])) : wC G F0 H0 (rListOf G.K) [u] ρ μ R := fun F H as σ vs Q e r q => by
  obtain ⟨v, rfl, r9⟩ := p1 r
  obtain ⟨a, vs, rfl, hs, ha⟩ := hl.seq e r9
  exact ⟨a, vs, rfl, .inl hs, fun p hp => got_new e hp ha k q⟩
theorem tg_app {ds : List D} : tgU (μ ++ [.rw ds]) (.p μ.length) = some .lst := by
  show tgC (μ ++ [Cell.rw ds])[μ.length]? = _
  rw [at_app]
  rfl
theorem at_ext {ν : Mu} {k : Nat} {c : Cell} (h : μ[k]? = some c) : (μ ++ ν)[k]? = some c := by
  rw [List.getElem?_append_left (List.getElem?_eq_some_iff.mp h).1]
  exact h
theorem isL_ext {ν : Mu} {u : U} {ds : List D} (h : IsL μ u ds) : IsL (μ ++ ν) u ds := by
  rcases h with h | ⟨k, e, h | h | ⟨vs, h⟩⟩
  · exact .inl h
  · exact .inr ⟨k, e, .inl (at_ext h)⟩
  · exact .inr ⟨k, e, .inr (.inl (at_ext h))⟩
  · exact .inr ⟨k, e, .inr (.inr ⟨vs, at_ext h⟩)⟩
theorem init_or (a : D) : (∃ n, c_Taste___init__.out a = .exc n) ∨ ∃ d, c_Taste___init__.out a = .ret (.d d) := by
  show (∃ n, (match tasteOf a with | some st => Out.ret (.d (encTaste st)) | none => .exc 1) = .exc n) ∨ ∃ d, (match tasteOf a with | some st => Out.ret (.d (encTaste st)) | none => .exc 1) = .ret (.d d)
  cases tasteOf a with
  | none => exact .inl ⟨_, rfl⟩
  | some st => exact .inr ⟨_, rfl⟩
theorem ca_make {st : Steps} {u : U} (hl : IsL μ u (encSt st)) (g : Good st) (k : R (.d (encTaste st)) μ) : Call [u] c_Taste___init__ R μ H0 X E := ⟨.lst (encSt st), .cons (.l hl) .nil, okT_enc g, by
  have e : c_Taste___init__.out (.lst (encSt st)) = .ret (.d (encTaste st)) := by
    show (match tasteOf (.lst (encSt st)) with | some st => Out.ret (.d (encTaste st)) | none => .exc 1) = _
    rw [tasteOf_enc g]
  rw [e]
  exact k⟩
theorem ca_tsteps {st : Steps} (g : Good st) (k : R (.p μ.length) (μ ++ [.rw (encSt st)])) : Call [.d (encTaste st)] c_Taste_steps R μ H0 X E := ⟨st, .cons (.d _) .nil, g, k⟩
theorem ca_tworth {st : Steps} {p : Piece} {u : U} (hl : IsL μ u (encP p)) (g : Good st) (hp : IsPiece p) (og : OnGrid p) (hs : Szs p) (hn : p.length ≤ 900000) (k : R (.d (encF (worthR st p))) μ) : Call [.d (encTaste st), u] c_Taste_worth R μ H0 X E := ⟨(st, .lst (encP p)), .cons (.d _) (.cons (.l hl) .nil), ⟨g, ok3_enc hs hn, fun p' h => by rw [pieceOf_enc hp] at h; cases h; exact og⟩, by
  have e : c_Taste_worth.out (st, .lst (encP p)) = .ret (.d (encF (worthR st p))) := by
    show (match pieceOf (.lst (encP p)) with | some p => Out.ret (.d (encF (worthR st p))) | none => .exc 2) = _
    rw [pieceOf_enc hp]
  rw [e]
  exact k⟩
end
/-- the whole cake, no cake -/
def wholeP : Piece := [(0, 1)]
theorem whole_is : IsPiece wholeP := ⟨fun s h => by
  have e : s = (0, 1) := by simpa [wholeP] using h
  rw [e]
  exact ⟨by decide, by decide, by decide⟩, trivial⟩
theorem whole_grid : Grid1 wholeP := ⟨1, by decide, by decide, fun s h => by
  have e : s = (0, 1) := by simpa [wholeP] using h
  rw [e]
  exact ⟨Gr.zero, Gr.one _⟩⟩
theorem nil_is : IsPiece [] := ⟨(fun _ h => by cases h), trivial⟩
theorem nil_grid : Grid1 [] := ⟨1, by decide, by decide, (fun _ h => by cases h)⟩
theorem worth_nil (st : Steps) : worthR st [] = 0 := rfl
theorem worth_whole {st : Steps} (g : Good st) : worthR st wholeP = 1 := by
  have h := g.total1
  show 0 + total st / total st = 1
  grind
end L3
namespace L3
open PySem PySem.Spec PyProof.Rows L2
/-! ### what the top has laid: classes, methods, constants -/
def clF (a b c d e f g h : Addr) : Nat → Addr
  | 0 => a | 1 => b | 2 => c | 3 => d | 4 => e | 5 => f | 6 => g | 7 => h | 8 => a | _ => 0
theorem clsG_mk {K : PySem.W.Frag} {h : Heap} {mg : Str → Option Value} {x : Str} {C : Addr} (X : K.In h) (G : h.Ns mainGlobals mg) (a : PySem.W.nsIn K mainGlobals x = some (some (.ref C))) : ClsG mg x C := ⟨PySem.W.mg_of X G a⟩
theorem cls_mk {K : PySem.W.Frag} {h : Heap} {mg : Str → Option Value} {x : Str} {C : Addr} (_ : K.In h) (_ : ClsG mg x C) (pg : PySem.W.plainGet K C Str.empty = true) (hd : PySem.W.hasDictIn K C = true) (po : PySem.W.plainOver K C = true)
    (sa : PySem.W.findIn K (.ref C) "__setattr__" = some (some (.builtin "object.__setattr__"))) : Cls K C := ⟨pg, hd, po, sa⟩
theorem na_mk {K : PySem.W.Frag} {h : Heap} {mg : Str → Option Value} {x f : Str} {C : Addr} (_ : K.In h) (_ : ClsG mg x C) (a : PySem.W.findIn K (.ref C) f = some none) : NoAttr K C f := a
theorem topM_mk {K : PySem.W.Frag} {h : Heap} {mg : Str → Option Value} {x m qual : Str} {st : Stmt} {ps : List Str} {C f : Addr} {oc : Value} {od an : Option Addr} {osl : Array (Option Value)} {kV doc pm cdv ct : Value} (_ : K.In h) (_ : ClsG mg x C)
    (a : PySem.W.findIn K (.ref C) m = some (some (.ref f))) (i : PySem.W.isFn K (.ref f) = true) (l : K.lookup f = some ⟨oc, od, .func (PySem.W.fnOf m qual (defArgs st) (defBody st) (defScope st) .none kV doc pm an cdv ct), osl⟩)
    (c : PySem.W.codeIn K cdv qual = true) (k : PySem.W.keepIn K (.ref f) = true)
    (hb : ∀ (kV doc pm : Value) (an : Option Addr) (cdv ct : Value) (us : List Value), us.length = ps.length → bindArgs (PySem.W.fnOf m qual (defArgs st) (defBody st) (defScope st) .none kV doc pm an cdv ct) ⟨us, []⟩ = pure (ps.zip us)) :
    ∀ (cl : Nat → Addr) (n : Nat), cl n = C → TopM ⟨K, cl⟩ n m qual st ps := fun cl n hc => by
  have F := fun_mk (st := st) l c k
  subst hc
  exact ⟨⟨f, _, F, ⟨a, i, k⟩, F.binds hb⟩⟩
theorem topI_mk {K : PySem.W.Frag} {h : Heap} {mg : Str → Option Value} {x qual : Str} {st : Stmt} {ps : List Str} {C f : Addr} {oc : Value} {od an : Option Addr} {osl : Array (Option Value)} {kV doc pm cdv ct : Value} (_ : K.In h) (_ : ClsG mg x C)
    (mk : PySem.W.makesIn K C = true) (a : PySem.W.findIn K (.ref C) "__init__" = some (some (.ref f))) (i : PySem.W.isFn K (.ref f) = true) (kc : PySem.W.keepIn K (.ref C) = true) (l : K.lookup f = some ⟨oc, od, .func (PySem.W.fnOf "__init__" qual (defArgs st) (defBody st) (defScope st) .none kV doc pm an cdv ct), osl⟩)
    (c : PySem.W.codeIn K cdv qual = true) (k : PySem.W.keepIn K (.ref f) = true)
    (hb : ∀ (kV doc pm : Value) (an : Option Addr) (cdv ct : Value) (us : List Value), us.length = ps.length → bindArgs (PySem.W.fnOf "__init__" qual (defArgs st) (defBody st) (defScope st) .none kV doc pm an cdv ct) ⟨us, []⟩ = pure (ps.zip us)) :
    ∀ (cl : Nat → Addr) (n : Nat), cl n = C → TopI ⟨K, cl⟩ n qual st ps := fun cl n hc => by
  have F := fun_mk (st := st) l c k
  subst hc
  exact ⟨⟨f, _, F, ⟨mk, a, i, kc⟩, F.binds hb⟩⟩
theorem cstF_mk' {K : PySem.W.Frag} {h : Heap} {mg : Str → Option Value} {x : Str} {p : Addr} {q : Rat} {dd : Option Addr} {n : Nat} {sl : Array (Option Value)} {t1 t2 : Tok} {i j : Int} (X : K.In h) (G : h.Ns mainGlobals mg) (a : PySem.W.nsIn K mainGlobals x = some (some (.ref p)))
    (l : K.lookup p = some ⟨.type "tuple", dd, .seq #[.int i t1, .int j t2] n, sl⟩) (hi : q.num = i) (hj : (q.den : Int) = j) (cl : Nat → Addr) : CstT ⟨K, cl⟩ mg x (encF q) := cstF_mk (G' := ⟨K, cl⟩) X G a l hi hj
end L3

set_option Elab.async false
set_option linter.all false
set_option maxRecDepth 100000
set_option maxHeartbeats 4000000
set_option exponentiation.threshold 100
/-! The mark: what it is, that it is right. -/
namespace L3
open PySem PySem.Spec PyProof.Rows L2
def markGo (s : Rat) : List Row → Rat → Option Rat
  | [], _ => none
  | r :: rs, left => if s < r.2.1 then
      (if (r.2.2 : Rat) * (r.2.1 - maxR r.1 s) < left then markGo s rs (left - (r.2.2 : Rat) * (r.2.1 - maxR r.1 s)) else some (maxR r.1 s + left / (r.2.2 : Rat)))
    else markGo s rs left
def markR (st : Steps) (s q : Rat) : Option Rat := markGo s (rowsOf 0 st) (q * total st)
def encO : Option Rat → D
  | none => .non
  | some q => encF q
/-! ### sums of rows -/
theorem area_add (s e : Rat) : ∀ (rows : List Row) (f : Rat), rows.foldl (areaStep s e) f = f + rows.foldl (areaStep s e) 0
  | [], f => by show f = f + 0; grind
  | r :: rows, f => by
    show rows.foldl (areaStep s e) (areaStep s e f r) = f + rows.foldl (areaStep s e) (areaStep s e 0 r)
    rw [area_add s e rows (areaStep s e f r), area_add s e rows (areaStep s e 0 r)]
    unfold areaStep
    split <;> grind
theorem rise_le1 : ∀ {st : Steps} {b : Rat}, Rise b st → b ≤ 1
  | [], b, h => by have : b = 1 := h; grind
  | (e, w) :: st, b, h => by have := rise_le1 h.2; have := h.1; grind
theorem area_none {s m : Rat} : ∀ {st : Steps} {b : Rat}, Rise b st → m ≤ b → (rowsOf b st).foldl (areaStep s m) 0 = 0
  | [], _, _, _ => rfl
  | (e, w) :: st, b, h, hm => by
    have h1 := h.1
    have hz : areaStep s m 0 (b, e, w) = 0 := by
      unfold areaStep
      refine if_neg ?_
      show ¬ maxR b s < minR e m
      unfold maxR minR
      split <;> split <;> grind
    show (rowsOf e st).foldl (areaStep s m) (areaStep s m 0 (b, e, w)) = 0
    rw [hz]
    exact area_none h.2 (by grind)
theorem area_cons (s m b e : Rat) (w : Int) (st : Steps) : (rowsOf b ((e, w) :: st)).foldl (areaStep s m) 0 = areaStep s m 0 (b, e, w) + (rowsOf e st).foldl (areaStep s m) 0 := by
  show (rowsOf e st).foldl (areaStep s m) (areaStep s m 0 (b, e, w)) = _
  exact area_add _ _ _ _
theorem area_lb {s : Rat} : ∀ {st : Steps} {b : Rat}, Rise b st → (∀ x ∈ st, StepOk x) → s ≤ b → 1 - b ≤ (rowsOf b st).foldl (areaStep s 1) 0
  | [], b, h, _, _ => by
    have : b = 1 := h
    show 1 - b ≤ 0
    grind
  | (e, w) :: st, b, h, ok, hs => by
    have h1 := h.1
    have h2 := rise_le1 h.2
    have ih := area_lb (s := s) h.2 (fun x hx => ok x (List.mem_cons_of_mem _ hx)) (by grind)
    have w1 : (1 : Rat) ≤ (w : Rat) := by exact_mod_cast (ok _ List.mem_cons_self).2.1
    have hm : maxR b s = b := by unfold maxR; split <;> grind
    have hl : minR e 1 = e := by unfold minR; split <;> grind
    have hz : areaStep s 1 0 (b, e, w) = 0 + (w : Rat) * (e - b) := by
      unfold areaStep
      show (if maxR b s < minR e 1 then 0 + (w : Rat) * (minR e 1 - maxR b s) else 0) = _
      rw [hm, hl, if_pos h1]
    have h5 : 1 * (e - b) ≤ (w : Rat) * (e - b) := Rat.mul_le_mul_of_nonneg_right w1 (by grind)
    rw [area_cons, hz]
    grind
theorem area_nn {s m : Rat} : ∀ {st : Steps} {b : Rat}, (∀ x ∈ st, StepOk x) → 0 ≤ (rowsOf b st).foldl (areaStep s m) 0
  | [], _, _ => by show (0 : Rat) ≤ 0; grind
  | (e, w) :: st, b, ok => by
    have ih := area_nn (s := s) (m := m) (st := st) (b := e) (fun x hx => ok x (List.mem_cons_of_mem _ hx))
    rw [area_cons]
    have w1 : (1 : Rat) ≤ (w : Rat) := by exact_mod_cast (ok _ List.mem_cons_self).2.1
    have : 0 ≤ areaStep s m 0 (b, e, w) := by
      unfold areaStep
      split
      · rename_i c
        have : 0 ≤ (w : Rat) * (minR e m - maxR b s) := Rat.mul_nonneg (by grind) (by grind)
        show 0 ≤ 0 + (w : Rat) * (minR e m - maxR b s)
        grind
      · grind
    grind
theorem mul_div_self {w x : Rat} (h : w ≠ 0) : w * (x / w) = x := by grind
/-- THE MARK'S LAW -/
theorem mark_ok {s : Rat} : ∀ {st : Steps} {b left : Rat}, Rise b st → (∀ x ∈ st, StepOk x) → 0 < left →
    ((rowsOf b st).foldl (areaStep s 1) 0 < left → markGo s (rowsOf b st) left = none) ∧
    (left ≤ (rowsOf b st).foldl (areaStep s 1) 0 → ∃ m, markGo s (rowsOf b st) left = some m ∧ s < m ∧ b < m ∧ m ≤ 1 ∧ (rowsOf b st).foldl (areaStep s m) 0 = left ∧ (left = (rowsOf b st).foldl (areaStep s 1) 0 → m = 1))
  | [], b, left, _, _, h0 => ⟨fun _ => rfl, fun h => by
    have h' : left ≤ 0 := h
    grind⟩
  | (e, w) :: st, b, left, h, ok, h0 => by
    have h1 := h.1
    have h2 := rise_le1 h.2
    have ok' : ∀ x ∈ st, StepOk x := fun x hx => ok x (List.mem_cons_of_mem _ hx)
    have w1 : (1 : Rat) ≤ (w : Rat) := by exact_mod_cast (ok _ List.mem_cons_self).2.1
    have hl : minR e 1 = e := by unfold minR; split <;> grind
    have gd : markGo s (rowsOf b ((e, w) :: st)) left = if s < e then (if (w : Rat) * (e - maxR b s) < left then markGo s (rowsOf e st) (left - (w : Rat) * (e - maxR b s)) else some (maxR b s + left / (w : Rat))) else markGo s (rowsOf e st) left := rfl
    rw [area_cons]
    by_cases c : s < e
    · have hm : maxR b s < e := by unfold maxR; split <;> grind
      have hms : s ≤ maxR b s := by unfold maxR; split <;> grind
      have hmb : b ≤ maxR b s := by unfold maxR; split <;> grind
      have hA : areaStep s 1 0 (b, e, w) = (w : Rat) * (e - maxR b s) := by
        unfold areaStep
        show (if maxR b s < minR e 1 then 0 + (w : Rat) * (minR e 1 - maxR b s) else 0) = _
        rw [hl, if_pos hm]
        grind
      rw [hA]
      rw [if_pos c] at gd
      have lb := area_lb (s := s) h.2 ok' (by grind)
      by_cases d : (w : Rat) * (e - maxR b s) < left
      · rw [if_pos d] at gd
        obtain ⟨i1, i2⟩ := mark_ok (s := s) (left := left - (w : Rat) * (e - maxR b s)) h.2 ok' (by grind)
        refine ⟨fun z => ?_, fun z => ?_⟩
        · rw [gd]; exact i1 (by grind)
        · obtain ⟨m, m1, m2, m3, m4, m5, m6⟩ := i2 (by grind)
          refine ⟨m, by rw [gd]; exact m1, m2, by grind, m4, ?_, fun y => m6 (by grind)⟩
          rw [area_cons, m5]
          have : areaStep s m 0 (b, e, w) = (w : Rat) * (e - maxR b s) := by
            have hl' : minR e m = e := by unfold minR; split <;> grind
            unfold areaStep
            show (if maxR b s < minR e m then 0 + (w : Rat) * (minR e m - maxR b s) else 0) = _
            rw [hl', if_pos hm]
            grind
          rw [this]
          grind
      · rw [if_neg d] at gd
        have T0 : 0 ≤ (rowsOf e st).foldl (areaStep s 1) 0 := area_nn ok'
        refine ⟨fun z => absurd z (by grind), fun _ => ?_⟩
        have wp : (0 : Rat) < (w : Rat) := by grind
        have q0 : 0 < left / (w : Rat) := by
          rw [Rat.lt_div_iff wp]
          grind
        have q1 : left / (w : Rat) ≤ e - maxR b s := Rat.not_lt.mp fun z => by
          rw [Rat.lt_div_iff wp] at z
          grind
        refine ⟨_, gd, by grind, by grind, by grind, ?_, fun y => ?_⟩
        · rw [area_cons, area_none h.2 (by grind)]
          have hl' : minR e (maxR b s + left / (w : Rat)) = maxR b s + left / (w : Rat) := by unfold minR; split <;> grind
          have : areaStep s (maxR b s + left / (w : Rat)) 0 (b, e, w) = left := by
            unfold areaStep
            show (if maxR b s < minR e (maxR b s + left / (w : Rat)) then 0 + (w : Rat) * (minR e (maxR b s + left / (w : Rat)) - maxR b s) else 0) = _
            rw [hl', if_pos (by grind)]
            have := mul_div_self (w := (w : Rat)) (x := left) (by grind)
            grind
          rw [this]
          grind
        · have e1 : e = 1 := by grind
          have e2 : left = (w : Rat) * (e - maxR b s) := by grind
          have e3 : left / (w : Rat) = e - maxR b s := by
            rw [e2]
            have : (w : Rat) ≠ 0 := by grind
            grind
          rw [e3]
          grind
    · rw [if_neg c] at gd
      have hA : ∀ m : Rat, areaStep s m 0 (b, e, w) = 0 := fun m => by
        unfold areaStep
        refine if_neg ?_
        show ¬ maxR b s < minR e m
        unfold maxR minR
        split <;> split <;> grind
      rw [hA]
      obtain ⟨i1, i2⟩ := mark_ok (s := s) (left := left) h.2 ok' h0
      refine ⟨fun z => ?_, fun z => ?_⟩
      · rw [gd]; exact i1 (by grind)
      · obtain ⟨m, m1, m2, m3, m4, m5, m6⟩ := i2 (by grind)
        refine ⟨m, by rw [gd]; exact m1, m2, by grind, m4, ?_, fun y => m6 (by grind)⟩
        rw [area_cons, m5, hA]
        grind
end L3
namespace L3
open PySem PySem.Spec PyProof.Rows L2
theorem mark_law {st : Steps} (g : Good st) {s q : Rat} (hq : 0 < q) :
    (withinR st s 1 < q → markR st s q = none) ∧ (q ≤ withinR st s 1 → ∃ m, markR st s q = some m ∧ s < m ∧ 0 < m ∧ m ≤ 1 ∧ withinR st s m = q ∧ (q = withinR st s 1 → m = 1)) := by
  have t1 : 0 < total st := by have := g.total1; grind
  have lp : 0 < q * total st := Rat.mul_pos hq t1
  obtain ⟨h1, h2⟩ := mark_ok (s := s) g.up g.ok lp
  have tn : total st ≠ 0 := by grind
  refine ⟨fun h => h1 ?_, fun h => ?_⟩
  · have h' : areaR (rowsOf 0 st) s 1 / total st < q := h
    rw [Rat.div_lt_iff t1] at h'
    exact h'
  · have h' : q * total st ≤ areaR (rowsOf 0 st) s 1 := Rat.not_lt.mp fun z => by
      have z2 : withinR st s 1 < q := by
        show areaR (rowsOf 0 st) s 1 / total st < q
        rw [Rat.div_lt_iff t1]
        exact z
      grind
    obtain ⟨m, m1, m2, m3, m4, m5, m6⟩ := h2 h'
    refine ⟨m, m1, m2, m3, m4, ?_, fun e => m6 ?_⟩
    · show areaR (rowsOf 0 st) s m / total st = q
      rw [show areaR (rowsOf 0 st) s m = q * total st from m5]
      grind
    · rw [e]
      show areaR (rowsOf 0 st) s 1 / total st * total st = _
      have : areaR (rowsOf 0 st) s 1 = (rowsOf 0 st).foldl (areaStep s 1) 0 := rfl
      rw [this]
      grind
theorem mark_gr {D : Nat} {s : Rat} (gs : Gr D s) : ∀ {rows : List Row} {left m : Rat}, (∀ r ∈ rows, RowOk D r) → Gr D left → markGo s rows left = some m → ∃ w : Nat, 0 < w ∧ w ≤ 1000 ∧ Gr (D * w) m
  | [], _, _, _, _, h => by cases h
  | r :: rows, left, m, ok, gl, h => by
    have okr := ok r List.mem_cons_self
    have ok' : ∀ x ∈ rows, RowOk D x := fun x hx => ok x (List.mem_cons_of_mem _ hx)
    have h' : (if s < r.2.1 then (if (r.2.2 : Rat) * (r.2.1 - maxR r.1 s) < left then markGo s rows (left - (r.2.2 : Rat) * (r.2.1 - maxR r.1 s)) else some (maxR r.1 s + left / (r.2.2 : Rat))) else markGo s rows left) = some m := h
    by_cases c : s < r.2.1
    · rw [if_pos c] at h'
      by_cases d : (r.2.2 : Rat) * (r.2.1 - maxR r.1 s) < left
      · rw [if_pos d] at h'
        exact mark_gr gs ok' (gl.sub (((okr.gl).sub ((okr.gb).max gs)).mulI _)) h'
      · rw [if_neg d] at h'
        have e := Option.some.inj h'
        subst e
        have w1 := okr.w1
        have w2 := okr.w2
        refine ⟨r.2.2.toNat, by omega, by omega, (((okr.gb).max gs).up _).add ?_⟩
        obtain ⟨n, hn⟩ := Int.eq_ofNat_of_zero_le (by omega : 0 ≤ r.2.2)
        rw [hn, Int.toNat_natCast, int_nat]
        obtain ⟨a, ha⟩ := gl
        refine ⟨a, ?_⟩
        rw [Rat.natCast_mul, ← ha]
        have : ((n : Nat) : Rat) ≠ 0 := by exact_mod_cast (by omega : n ≠ 0)
        grind
    · rw [if_neg c] at h'
      exact mark_gr gs ok' gl h'
theorem gr_pow {D E : Nat} {q : Rat} (h : Gr D q) (e : D = E) : Gr E q := e ▸ h
/-- the mark's own grid -/
theorem Good.mark_on {st : Steps} (g : Good st) {Ds Dq : Nat} {s q m : Rat} (gs : Gr Ds s) (gq : Gr Dq q) (h : markR st s q = some m) : ∃ w : Nat, 0 < w ∧ w ≤ 1000 ∧ Gr (dt st * Ds * Dq * w) m := by
  obtain ⟨h1, h2⟩ := g.totalG
  refine mark_gr (D := dt st * Ds * Dq) ?_ (fun r hr => ?_) ?_ h
  · exact (gs.upL _).up _
  · have z := g.row hr
    exact ⟨z.b0, z.bl, z.l1, (z.gb.up _).up _, (z.gl.up _).up _, z.w1, z.w2⟩
  · refine gr_pow ((gq.mul h1).up Ds) ?_
    rw [Nat.mul_comm Dq, Nat.mul_assoc, Nat.mul_comm Dq, Nat.mul_assoc]
/-- a share -/
def Sh (q : Rat) : Prop := 0 ≤ q ∧ q ≤ 1000 ∧ q.den < 2 ^ 2000
def c_Taste_mark : Ct (Steps × Rat × Rat) := ⟨fun a => [.d (encTaste a.1), .d (encF a.2.1), .d (encF a.2.2)], fun a => Good a.1 ∧ Pt a.2.1 ∧ Sh a.2.2, fun a => .ret (.d (encO (markR a.1 a.2.1 a.2.2)))⟩
def c__law_fraction : Ct (Option Rat) := ⟨fun a => [.d (encO a)], fun a => ∀ q, a = some q → 0 ≤ q ∧ Sz q, fun a => .ret (.d (.bl a.isSome))⟩
theorem szM {D : Nat} {x : Rat} (hD : 0 < D) (hb : D < 2 ^ 4095) (h : Gr D x) (h0 : 0 ≤ x) (h1 : x ≤ 2000000) : Sz x := by
  refine h.sz hD (M := 2000000) h0 (by exact_mod_cast h1) ?_ (Nat.lt_of_lt_of_le hb (pt_lt (by decide)))
  have h2 : 2000000 * D < 2 ^ 21 * 2 ^ 4095 := Nat.mul_lt_mul'' (by decide) hb
  rw [← Nat.pow_add] at h2
  exact Nat.lt_of_lt_of_le h2 (pt_lt (by decide))
theorem pow3 {a b c d : Nat} (h1 : a < 2 ^ 80) (h2 : b < 2 ^ 2000) (h3 : c < 2 ^ 2000) (h4 : d ≤ 1000) : a * b * c * d < 2 ^ 4095 := by
  have e1 : a * b < 2 ^ 80 * 2 ^ 2000 := Nat.mul_lt_mul'' h1 h2
  have e2 : a * b * c < 2 ^ 80 * 2 ^ 2000 * 2 ^ 2000 := Nat.mul_lt_mul'' e1 h3
  have e3 : a * b * c * d < 2 ^ 80 * 2 ^ 2000 * 2 ^ 2000 * 2 ^ 10 := Nat.mul_lt_mul'' e2 (by omega)
  rw [← Nat.pow_add, ← Nat.pow_add, ← Nat.pow_add] at e3
  exact Nat.lt_of_lt_of_le e3 (pt_lt (by decide))
theorem drop_at {α : Type} {l : List α} {i : Nat} {x : α} (h : l[i]? = some x) : l.drop i = x :: l.drop (i + 1) := by
  obtain ⟨hi, e⟩ := List.getElem?_eq_some_iff.mp h
  rw [List.drop_eq_getElem_cons hi, e]
section
variable {G : Gx} {F0 H0 : Hp} {ρ : Ro} {μ : Mu} {R : RE} {X : Ex} {E : XK}
theorem ca_mark {st : Steps} {s q : Rat} (g : Good st) (hs : Pt s) (hq : Sh q) (k : R (.d (encO (markR st s q))) μ) : Call [.d (encTaste st), .d (encF s), .d (encF q)] c_Taste_mark R μ H0 X E := ⟨(st, s, q), .cons (.d _) (.cons (.d _) (.cons (.d _) .nil)), ⟨g, hs, hq⟩, k⟩
theorem ca_lfraction {a : Option Rat} (h : ∀ q, a = some q → 0 ≤ q ∧ Sz q) (k : R (.d (.bl a.isSome)) μ) : Call [.d (encO a)] c__law_fraction R μ H0 X E := ⟨a, .cons (.d _) .nil, h, k⟩
end
end L3
namespace L3
open PySem PySem.Spec PyProof.Rows L2
def rIsN : R2 := fun x y H Q => y = .non ∧ Q (.bl (decide (x = .non))) H
def rNotN : R2 := fun x y H Q => y = .non ∧ Q (.bl (!decide (x = .non))) H
theorem kIsN {X : Cx} : OpR X (compareOp .Is) rIsN := op_isN
theorem kNotN {X : Cx} : OpR X (compareOp .IsNot) rNotN := op_notN
def nonU : U → Bool
  | .d .non => true
  | _ => false
section
variable {G : Gx} {F0 H0 : Hp} {ρ : Ro} {μ : Mu} {R : RE} {X : Ex} {E : XK}
theorem non_iff {as : List Addr} {F : Hp} {v : V} {u : U} (r : RpU G as F v u) : decide (v = .non) = nonU u := by
  cases u with
  | p k =>
    obtain ⟨a, rfl, _⟩ := r
    rfl
  | d x => cases x <;> cases r <;> rfl
theorem w2_isN {x : U} (k : R (.d (.bl (nonU x))) μ) : w2 G F0 H0 rIsN x (.d .non) ρ μ R := fun F H as σ v1 v2 Q e r1 r2 q => by
  cases r2
  refine (⟨rfl, ?_⟩ : _ ∧ _)
  rw [non_iff r1]
  exact q _ _ _ _ _ _ k e (.refl _) .refl (Rp.bl _)
theorem w2_notN {x : U} (k : R (.d (.bl (!nonU x))) μ) : w2 G F0 H0 rNotN x (.d .non) ρ μ R := fun F H as σ v1 v2 Q e r1 r2 q => by
  cases r2
  refine (⟨rfl, ?_⟩ : _ ∧ _)
  rw [non_iff r1]
  exact q _ _ _ _ _ _ k e (.refl _) .refl (Rp.bl _)
end
theorem within_same (st : Steps) (s : Rat) : withinR st s s = 0 := by
  have h : ∀ (rows : List Row), rows.foldl (areaStep s s) 0 = 0 := by
    intro rows
    induction rows with
    | nil => rfl
    | cons r rows ih =>
      have hz : areaStep s s 0 r = 0 := by
        unfold areaStep
        refine if_neg ?_
        unfold maxR minR
        split <;> split <;> grind
      show rows.foldl (areaStep s s) (areaStep s s 0 r) = 0
      rw [hz]
      exact ih
  show areaR (rowsOf 0 st) s s / total st = 0
  rw [show areaR (rowsOf 0 st) s s = 0 from h _]
  grind
theorem worth_one (st : Steps) (s e : Rat) : worthR st [(s, e)] = withinR st s e := by
  show 0 + withinR st s e = _
  grind
theorem one_piece {s e : Rat} (h0 : 0 ≤ s) (h1 : s < e) (h2 : e ≤ 1) : IsPiece [(s, e)] := ⟨fun t ht => by
  have : t = (s, e) := by simpa using ht
  rw [this]
  exact ⟨h0, h1, h2⟩, trivial⟩
theorem one_grid {D : Nat} {s e : Rat} (hD : 0 < D) (hb : D < 2 ^ 2000) (gs : Gr D s) (ge : Gr D e) : OnGrid [(s, e)] := ⟨D, hD, hb, fun t ht => by
  have : t = (s, e) := by simpa using ht
  rw [this]
  exact ⟨gs, ge⟩⟩
theorem gr_pt {D : Nat} {q : Rat} (h : Gr D q) (hD : 0 < D) (hb : D < 2 ^ 2000) (h0 : 0 ≤ q) (h1 : q ≤ 1) : Pt q := ⟨h0, h1, Nat.lt_of_le_of_lt (h.den_le hD) hb⟩
theorem gr_sh {D : Nat} {q : Rat} (h : Gr D q) (hD : 0 < D) (hb : D < 2 ^ 2000) (h0 : 0 ≤ q) (h1 : q ≤ 1000) : Sh q := ⟨h0, h1, Nat.lt_of_le_of_lt (h.den_le hD) hb⟩
theorem Sh.sz {q : Rat} (h : Sh q) : Sz q := szM q.den_pos (Nat.lt_of_lt_of_le h.2.2 (pt_lt (by decide))) (Gr.self q) h.1 (by have := h.2.1; grind)
/-- a drawn fraction -/
theorem divInt_le {a p c : Int} (hp : 0 < p) (h : a ≤ c * p) : Rat.divInt a p ≤ (c : Rat) := by
  rw [Rat.divInt_eq_div]
  have hp' : (0 : Rat) < (p : Rat) := by exact_mod_cast hp
  refine div_le hp' ?_
  have : (a : Rat) ≤ ((c * p : Int) : Rat) := by exact_mod_cast h
  rw [Rat.intCast_mul] at this
  exact this
theorem le2000 {a n : Nat} (h : a < 2 ^ n) (hn : n ≤ 2000) : a < 2 ^ 2000 := Nat.lt_of_lt_of_le h (pt_lt hn)
end L3

set_option Elab.async false
set_option linter.all false
set_option maxRecDepth 100000
set_option maxHeartbeats 4000000
set_option exponentiation.threshold 100
/-! Lists of lists: cells that hold cells; own classes' isinstance. -/
namespace L3
open PySem PySem.Spec PyProof.Rows L2
def IsP (μ : Mu) (u : U) (ks : List Nat) : Prop := ∃ k, u = .p k ∧ μ[k]? = some (.pl ks)
theorem atI_paired {α β : Type} {RR : α → β → Prop} {xs : List α} {ys : List β} {i : Int} {y : β} (h : Paired RR xs ys) (e : atI ys i = some y) : ∃ x, atI xs i = some x ∧ RR x y := by
  unfold atI at e ⊢
  rw [← paired_len h] at e
  cases q : ixN xs.length i with
  | none => rw [q] at e; cases e
  | some j =>
    rw [q] at e
    exact paired_get (i := j) h e
theorem atI_ref {ps : List Addr} {i : Int} {p : Addr} (e : atI ps i = some p) : atI (ps.map V.ref) i = some (.ref p) := by
  unfold atI at e ⊢
  rw [List.length_map]
  cases q : ixN ps.length i with
  | none => rw [q] at e; cases e
  | some j =>
    rw [q] at e
    show (ps.map V.ref)[j]? = some (.ref p)
    rw [List.getElem?_map, show ps[j]? = some p from e]
    rfl
theorem paired_app {α β : Type} {RR : α → β → Prop} : ∀ {xs : List α} {ys : List β} {x : α} {y : β}, Paired RR xs ys → RR x y → Paired RR (xs ++ [x]) (ys ++ [y])
  | _, _, _, _, .nil, r => .cons r .nil
  | _, _, _, _, .cons a t, r => .cons a (paired_app t r)
theorem paired_set {α β : Type} {RR : α → β → Prop} {x : α} {y : β} (r : RR x y) : ∀ {xs : List α} {ys : List β} (j : Nat), Paired RR xs ys → Paired RR (xs.set j x) (ys.set j y)
  | _, _, _, .nil => .nil
  | _, _, 0, .cons _ t => .cons r t
  | _, _, j + 1, .cons a t => .cons a (paired_set r j t)
section
variable {G : Gx} {F0 H0 : Hp} {F F1 H : Hp} {as as1 : List Addr} {σ : L2.St} {ρ : Ro} {μ : Mu} {R : RE} {X : Ex} {D' : DE}
theorem IsP.seq {u : U} {ks : List Nat} {v : V} (h : IsP μ u ks) (e : Ev G F0 H0 F H as σ ρ μ) (r : RpU G as F v u) :
    ∃ (a : Addr) (ps : List Addr), v = .ref a ∧ H a = some (.lst (ps.map V.ref)) ∧ Paired (fun (p : Addr) (k : Nat) => as[k]? = some p) ps ks := by
  obtain ⟨k, rfl, hk⟩ := h
  obtain ⟨a, rfl, ha⟩ := r
  obtain ⟨_, _, ps, h1, h2⟩ := e.ce k _ a hk ha
  exact ⟨a, ps, rfl, h1, h2⟩
theorem wC_lenP {u : U} {ks : List Nat} (hl : IsP μ u ks) (k : R (.d (.int ks.length)) μ) : wC G F0 H0 (rLen G.K) [u] ρ μ R := fun F H as σ vs Q e r q => by
  obtain ⟨v, rfl, r9⟩ := p1 r
  obtain ⟨a, ps, rfl, hs, ha⟩ := hl.seq e r9
  refine ⟨a, ps.map V.ref, rfl, .inl (.of hs), ?_⟩
  rw [List.length_map, paired_len ha]
  exact q _ _ _ _ _ _ k e (.refl _) .refl (Rp.int _)
theorem w2_ixP {u : U} {ks : List Nat} {i : Int} {m : Nat} (hl : IsP μ u ks) (h : atI ks i = some m) (k : R (.p m) μ) : w2 G F0 H0 (rIx G.K) u (.d (.int i)) ρ μ R := fun F H as σ v1 v2 Q e r1 r2 q => by
  cases r2
  obtain ⟨a, ps, rfl, hs, ha⟩ := hl.seq e r1
  obtain ⟨p, h1, h2⟩ := atI_paired ha h
  exact .inl ⟨a, ps.map V.ref, i, .ref p, rfl, rfl, .of hs, atI_ref h1, q _ _ _ _ _ _ k e (.refl _) .refl ⟨p, rfl, h2⟩⟩
/-- xs[i] = v, v a cell -/
theorem wG_subP {to ti : TE} {u : U} {R : Ro → Mu → Prop} (h : ∃ m, u = .p m ∧ wE G F0 H0 to ρ μ fun x μ1 => ∃ k, x = .p k ∧ wE G F0 H0 ti ρ μ1 fun y μ2 => ∃ ks i j, y = .d (.int i) ∧ μ2[k]? = some (.pl ks) ∧ ixN ks.length i = some j ∧ R ρ (μ2.set k (.pl (ks.set j m)))) :
    wG G F0 H0 (gSub to ti rSetL) u ρ μ R := fun F H as σ v Q e r q => by
  obtain ⟨m, rfl, h⟩ := h
  refine h F H as σ _ e fun x μ1 v1 F1 H1 as1 h1 e1 s1 g1 r1 => ?_
  obtain ⟨k, rfl, h1⟩ := h1
  obtain ⟨a, rfl, ha⟩ := r1
  refine h1 F1 H1 as1 σ _ e1 fun y μ2 v2 F2 H2 as2 h2 e2 s2 g2 r2 => ?_
  obtain ⟨ks, i, j, rfl, hk, hj, kk⟩ := h2
  cases (show Rp G F2 v2 (.int i) from r2)
  obtain ⟨b, rfl, hb⟩ := r
  obtain ⟨n0, nF, ps, hw, rw'⟩ := e2.ce k _ a hk (g2 _ _ ha)
  refine ⟨a, ps.map V.ref, i, j, rfl, rfl, hw, by rw [List.length_map, paired_len rw']; exact hj, ?_⟩
  have e3 := e2.write (o := .lst ((ps.set j b).map V.ref)) (c' := .pl (ks.set j m)) hk (g2 _ _ ha) rfl rfl ⟨n0, nF, _, upd_same, paired_set (RR := fun (p : Addr) (k : Nat) => as2[k]? = some p) (g2 _ _ (g1 _ _ hb)) j rw'⟩
  rw [List.map_set] at e3
  exact q _ _ _ _ _ _ kk e3 (s1.trans s2) (g1.trans g2)
/-- a list display of cells -/
theorem cells_of {t : TA} {R2 : RA} (h : wA G F0 H0 t ρ μ R2) : wA G F0 H0 t ρ μ R2 := h
theorem refs_of : ∀ {vs : List V} {ks : List Nat}, Paired (RpU G as F) vs (ks.map U.p) → ∃ ps : List Addr, vs = ps.map V.ref ∧ Paired (fun (p : Addr) (k : Nat) => as[k]? = some p) ps ks
  | _, [], h => by cases h; exact ⟨[], rfl, .nil⟩
  | _, k :: ks, h => by
    cases h with
    | cons a t =>
      obtain ⟨p, rfl, hp⟩ := a
      obtain ⟨ps, rfl, h2⟩ := refs_of t
      exact ⟨p :: ps, rfl, .cons hp h2⟩
theorem wE_lstP {t : TA} (h : wA G F0 H0 t ρ μ fun us μ1 => ∃ ks : List Nat, us = ks.map U.p ∧ ks.length ≤ 1000000 ∧ R (.p μ1.length) (μ1 ++ [.pl ks])) : wE G F0 H0 (tLst t) ρ μ R := fun F H as σ Q e q => by
  refine h F H as σ _ e fun us μ1 vs F1 H1 as1 h1 e1 s1 g1 r1 => ?_
  obtain ⟨ks, rfl, hl, k⟩ := h1
  obtain ⟨ps, rfl, ha⟩ := refs_of r1
  refine ⟨by rw [List.length_map, paired_len ha]; exact line_of hl, fun p hp => ?_⟩
  have hap : Paired (fun (p : Addr) (k : Nat) => (as1 ++ [‹Addr›])[k]? = some p) ps ks := paired_imp (fun _ _ z => Grw.app _ _ z) ha
  have e2 := e1.cell (o := .lst (ps.map V.ref)) (c := .pl ks) hp ⟨e1.bs.h0.free hp, e1.bs.fh.free hp, ps, upd_same, paired_imp (fun _ _ z => Grw.app _ _ z) ha⟩
  refine q _ _ _ _ _ _ k e2 s1 (g1.trans .app) ⟨p, rfl, ?_⟩
  rw [← e1.al, List.getElem?_append_right (Nat.le_refl _)]
  simp
/-- for over a list of cells -/
theorem wS_forP {tl : TE} {g : TG} {tb : TS} (h : wE G F0 H0 tl ρ μ fun u μ1 => ∃ ks, IsP μ1 u ks ∧ ∃ I : Nat → Ro → Mu → Prop, I 0 ρ μ1 ∧ (∀ i ρ' μ', I i ρ' μ' → IsP μ' u ks) ∧
      (∀ i m ρ' μ', ks[i]? = some m → I i ρ' μ' → wG G F0 H0 g (.p m) ρ' μ' fun ρ2 μ2 => wS G F0 H0 tb ρ2 μ2 { nx := I (i + 1), ct := I (i + 1), bk := D'.nx, rt := D'.rt }) ∧ ∀ ρ' μ', I ks.length ρ' μ' → D'.nx ρ' μ') :
    wS G F0 H0 (tFor (iList G.K tl) g tb) ρ μ D' := fun F H as σ X e q => by
  refine h F H as σ _ e fun u μ1 v F1 H1 as1 h1 e1 s1 g1 r1 => ?_
  obtain ⟨ks, hl, I, i0, ip, is, ie⟩ := h1
  obtain ⟨a, ps0, rfl, hs0, _⟩ := hl.seq e1 r1
  have rd : ∀ {F2 H2 as2 σ2 ρ2 μ2} {i : Nat}, Ev G F0 H0 F2 H2 as2 σ2 ρ2 μ2 → Same F1 F2 → Grw as1 as2 → I i ρ2 μ2 → ∃ ps : List Addr, H2 a = some (.lst (ps.map V.ref)) ∧ Paired (fun (p : Addr) (k : Nat) => as2[k]? = some p) ps ks := fun {F2 H2 as2 σ2 ρ2 μ2 i} e2 s2 g2 i2 => by
    obtain ⟨a', ps, ea, hs, ha⟩ := (ip i ρ2 μ2 i2).seq e2 (r1.mono s2 g2)
    cases ea
    exact ⟨ps, hs, ha⟩
  refine ⟨a, rfl, ⟨_, .of hs0⟩, fun i m σ2 H2 => ∃ F2 as2 ρ2 μ2, Ev G F0 H0 F2 H2 as2 σ2 ρ2 μ2 ∧ Same F1 F2 ∧ Grw as1 as2 ∧ I i ρ2 μ2 ∧ i + m = ks.length, ⟨ks.length, F1, as1, ρ, μ1, e1, .refl _, .refl, i0, by omega⟩, ?_⟩
  rintro i m σ2 H2 ⟨F2, as2, ρ2, μ2, e2, s2, g2, i2, em⟩
  obtain ⟨ps, hs, ha⟩ := rd e2 s2 g2 i2
  by_cases hi : i < ks.length
  · have hv : i < (ps.map V.ref).length := by rw [List.length_map, paired_len ha]; exact hi
    refine .inr ⟨⟨_, (ps.map V.ref)[i], .of hs, by rw [List.getElem?_eq_getElem hv]⟩, fun σ' H' => ∃ F3 as3 ρ3 μ3, Ev G F0 H0 F3 H' as3 σ' ρ3 μ3 ∧ Same F1 F3 ∧ Grw as1 as3 ∧ I (i + 1) ρ3 μ3, ?_, fun x H' y => ?_⟩
    · rintro σ' H' ⟨F3, as3, ρ3, μ3, e3, s3, g3, i3⟩
      exact ⟨m - 1, by omega, F3, as3, ρ3, μ3, e3, s3, g3, i3, by omega⟩
    · obtain ⟨rfl, y⟩ := y
      have hx := y _ (.of hs)
      obtain ⟨k, hk⟩ : ∃ k, ks[i]? = some k := ⟨_, List.getElem?_eq_getElem hi⟩
      obtain ⟨p, hp, rk⟩ := paired_get ha hk
      rw [List.getElem?_map, hp] at hx
      have hx' := Option.some.inj hx
      subst hx'
      refine is i k ρ2 μ2 hk i2 F2 H' as2 σ2 (.ref p) _ e2 ⟨p, rfl, rk⟩ fun ρ3 μ3 σ3 F3 H3 as3 h3 e3 s3 g3 => ?_
      refine h3 F3 H3 as3 σ3 _ e3 ⟨?_, ((q.rt.on s1 g1).on s2 g2).on s3 g3, ((q.nx.on s1 g1).on s2 g2).on s3 g3, ?_⟩
      · intro ρ' μ' σ' F' H' as' h' e' s' g'
        exact ⟨F', as', ρ', μ', e', s2.trans (s3.trans s'), g2.trans (g3.trans g'), h'⟩
      · intro ρ' μ' σ' F' H' as' h' e' s' g'
        exact ⟨F', as', ρ', μ', e', s2.trans (s3.trans s'), g2.trans (g3.trans g'), h'⟩
  · have ei : i = ks.length := by omega
    subst ei
    exact .inl ⟨⟨_, .of hs, by rw [List.length_map, paired_len ha]; exact Nat.le_refl _⟩, q.nx _ _ _ _ _ _ (ie _ _ i2) e2 (s1.trans s2) (g1.trans g2)⟩
/-- isinstance with an own class, an object of it -/
theorem wE_isOwn {ta : TE} {n : Nat} (hc : C8.InsC G.K (G.cl n)) (h : wE G F0 H0 ta ρ μ fun u μ1 => ∃ ds, u = .d (.ob n ds) ∧ R (.d (.bl true)) μ1) : wE G F0 H0 (tCB (rIsi G.K) (tCons ta (tCons (tC (.ref (G.cl n))) tNil))) ρ μ R := fun F H as σ Q e q => by
  refine h F H as σ _ e fun u μ1 v F1 H1 as1 h1 e1 s1 g1 r1 => ?_
  obtain ⟨ds, rfl, k⟩ := h1
  cases (show Rp G F1 v (.ob n ds) from r1) with
  | ob hs hf ha =>
    exact ⟨_, .ref (G.cl n), _, _, true, rfl, .own _, .base (TyOf.ins (e1.bs.fh _ _ hs) hc.cl hc.ha hc.hn hc.htk hc.hm), hc.me, q _ _ _ _ _ _ k e1 s1 g1 (Rp.bl _)⟩
/-- xs[::-1] -/
theorem wE_rev {te : TE} (h : wE G F0 H0 te ρ μ fun u μ1 => ∃ ds, IsL μ1 u ds ∧ R (.p μ1.length) (μ1 ++ [.rw ds.reverse])) : wE G F0 H0 (tRevL G.K te) ρ μ R := fun F H as σ Q e q => by
  refine h F H as σ _ e fun u μ1 v F1 H1 as1 h1 e1 s1 g1 r1 => ?_
  obtain ⟨ds, hl, k⟩ := h1
  obtain ⟨a, vs, rfl, hs, ha⟩ := hl.seq e1 r1
  exact ⟨a, vs, rfl, hs, fun p hp => got_new e1 hp ha.reverse k (q.on s1 g1)⟩
/-- one turn of a comprehension; n: the new list's number -/
def LcTurnP (G : Gx) (F0 H0 : Hp) (tt : TT) (te : TE) (n : Nat) (ρ2 : Ro) (I : Mu → Prop) (J : Mu → Prop) (μ2 : Mu) : Prop :=
  wT G F0 H0 tt ρ2 μ2 fun b μ3 => if b = true then wE G F0 H0 te ρ2 μ3 fun y μ4 => ∃ x acc, y = .p x ∧ μ4[n]? = some (.pl acc) ∧ acc.length < 1000000 ∧ J (μ4.set n (.pl (acc ++ [x]))) else J μ3
theorem lc_anyP {g : TG} {tt : TT} {te : TE} {vs : List Nat} {F1 H1 : Hp} {as1 : List Addr} {μ1 : Mu} {Q : VK} {JJ : It} {nn : Nat} {itd : Nat → D → Prop} (hw : Within g vs)
    (e1 : Ev G F0 H0 F1 H1 as1 σ ρ μ1) (q : KE G F0 H0 F1 as1 σ ρ R Q) (I : Nat → Mu → Prop)
    (go : ∀ (i : Nat) (F2 H2 : Hp) (as2 : List Addr) (μ2 : Mu), Ev G F0 H0 F2 H2 as2 σ ρ μ2 → Same F1 F2 → Grw as1 as2 → I i μ2 → (i < nn → JJ.go i H2 ∧ ∀ x H', JJ.yld i H2 x H' → H' = H2 ∧ ∃ d, itd i d ∧ Rp G F2 x d) ∧ (i = nn → JJ.stop i H2))
    (i0 : I 0 (μ1 ++ [.pl []]))
    (is : ∀ i d μ', i < nn → itd i d → I i μ' → wG G F0 H0 g (.d d) (wipeR ρ vs) μ' fun ρ2 μ2 => LcTurnP G F0 H0 tt te μ1.length ρ2 (I i) (I (i + 1)) μ2)
    (ie : ∀ μ', I nn μ' → R (.p μ1.length) μ') :
    ∀ D, H1 D = none → ∃ W : Nat → Nat → Hp → Prop, (∃ m, W 0 m (upd H1 D (.lst []))) ∧ ∀ i m H, W i m H →
  (JJ.stop i H ∧ Q (.ref D) H) ∨ (JJ.go i H ∧ ∃ Nx : Hp → Prop, (∀ H', Nx H' → ∃ m', m' < m ∧ W (i + 1) m' H') ∧ ∀ x H', JJ.yld i H x H' → g x (L2.wipe σ vs) H' fun σ2 H2 => L2.wipe σ2 vs = L2.wipe σ vs ∧ tt σ2 H2 fun b H3 =>
    if b = true then te σ2 H3 fun y H4 => ∃ acc, H4 D = some (.lst acc) ∧ acc.length < sizeLine ∧ Nx (upd H4 D (.lst (acc ++ [y]))) else Nx H3) := by
  intro p hp
  have ec := e1.cell (o := .lst []) (c := .pl []) hp ⟨e1.bs.h0.free hp, e1.bs.fh.free hp, [], upd_same, .nil⟩
  have hpn : (as1 ++ [p])[μ1.length]? = some p := by
    rw [← e1.al, List.getElem?_append_right (Nat.le_refl _)]
    simp
  refine ⟨fun i m H2 => ∃ F2 as2 μ2, Ev G F0 H0 F2 H2 as2 σ ρ μ2 ∧ Same F1 F2 ∧ Grw (as1 ++ [p]) as2 ∧ I i μ2 ∧ i + m = nn, ⟨nn, F1, as1 ++ [p], _, ec, .refl _, .refl, i0, by omega⟩, ?_⟩
  rintro i m H2 ⟨F2, as2, μ2, e2, s2, g2, i2, em⟩
  obtain ⟨go1, go2⟩ := go i F2 H2 as2 μ2 e2 s2 (Grw.app.trans g2) i2
  by_cases hi : i < nn
  · obtain ⟨ha, hb⟩ := go1 hi
    refine .inr ⟨ha, fun H' => ∃ F3 as3 μ3, Ev G F0 H0 F3 H' as3 σ ρ μ3 ∧ Same F1 F3 ∧ Grw (as1 ++ [p]) as3 ∧ I (i + 1) μ3, ?_, fun x H' y => ?_⟩
    · rintro H' ⟨F3, as3, μ3, e3, s3, g3, i3⟩
      exact ⟨m - 1, by omega, F3, as3, μ3, e3, s3, g3, i3, by omega⟩
    · obtain ⟨rfl, d, hd, rd⟩ := hb x H' y
      have ew := e2.wipe vs
      have base := is i d μ2 hi hd i2 F2 H' as2 (L2.wipe σ vs) x (fun σ2 H2 => tt σ2 H2 fun b H3 =>
        if b = true then te σ2 H3 fun y H4 => ∃ acc, H4 p = some (.lst acc) ∧ acc.length < sizeLine ∧ ∃ F3 as3 μ3, Ev G F0 H0 F3 (upd H4 p (.lst (acc ++ [y]))) as3 σ ρ μ3 ∧ Same F1 F3 ∧ Grw (as1 ++ [p]) as3 ∧ I (i + 1) μ3
        else ∃ F3 as3 μ3, Ev G F0 H0 F3 H3 as3 σ ρ μ3 ∧ Same F1 F3 ∧ Grw (as1 ++ [p]) as3 ∧ I (i + 1) μ3) ew rd (fun ρ3 μ3 σ3 F3 H3 as3 h3 e3 s3 g3 => ?_)
      · refine hw _ _ _ _ _ (fun σ' H' z z2 z3 => ⟨?_, z⟩) base
        exact (wipe_eq z2 z3).trans (wipe_twice vs σ)
      · refine h3 F3 H3 as3 σ3 _ e3 fun b μ4 F4 H4 as4 h4 e4 s4 g4 => ?_
        cases b with
        | false =>
          refine iteF ⟨F4, as4, μ4, ec.slots e4 (s2.trans (s3.trans s4)) (g2.trans (g3.trans g4)), s2.trans (s3.trans s4), g2.trans (g3.trans g4), ff_of h4⟩
        | true =>
          refine iteT ((tt_of h4) F4 H4 as4 σ3 _ e4 fun u μ5 v F5 H5 as5 h5 e5 s5 g5 r5 => ?_)
          obtain ⟨x', acc, rfl, hn, hl, hJ⟩ := h5
          have hp5 : as5[μ1.length]? = some p := g5 _ _ (g4 _ _ (g3 _ _ (g2 _ _ hpn)))
          obtain ⟨n0, nF, ps, hw', ra⟩ := e5.ce _ _ p hn hp5
          obtain ⟨b, rfl, hb⟩ := r5
          have e6 := e5.write (o := .lst ((ps ++ [b]).map V.ref)) (c' := .pl (acc ++ [x'])) hn hp5 rfl rfl ⟨n0, nF, _, upd_same, paired_app (RR := fun (p : Addr) (k : Nat) => as5[k]? = some p) ra hb⟩
          rw [List.map_append] at e6
          refine ⟨_, hw', by rw [List.length_map, paired_len ra, sizeLine_eq]; omega, F5, as5, _, ec.slots e6 (s2.trans (s3.trans (s4.trans s5))) (g2.trans (g3.trans (g4.trans g5))), s2.trans (s3.trans (s4.trans s5)), g2.trans (g3.trans (g4.trans g5)), hJ⟩
  · have ei : i = nn := by omega
    subst ei
    exact .inl ⟨go2 rfl, q _ _ _ _ _ _ (ie _ i2) e2 s2 (Grw.app.trans g2) ⟨p, rfl, g2 _ _ hpn⟩⟩
theorem wE_lcPR {ta : TA} {g : TG} {tt : TT} {te : TE} {vs : List Nat} (hw : Within g vs) (h : wA G F0 H0 ta ρ μ fun us μ1 => ∃ j : Int, us = [.d (.int j)] ∧ -(2 ^ 62) ≤ j ∧ j < 2 ^ 62 ∧ ∃ I : Nat → Mu → Prop, I 0 (μ1 ++ [.pl []]) ∧
      (∀ i μ', i < j.toNat → I i μ' → wG G F0 H0 g (.d (.int i)) (wipeR ρ vs) μ' fun ρ2 μ2 => LcTurnP G F0 H0 tt te μ1.length ρ2 (I i) (I (i + 1)) μ2) ∧ ∀ μ', I j.toNat μ' → R (.p μ1.length) μ') :
    wE G F0 H0 (tLc (iRng1 ta) g tt te vs) ρ μ R := fun F H as σ Q e q => by
  refine h F H as σ _ e fun us μ1 v F1 H1 as1 h1 e1 s1 g1 r1 => ?_
  obtain ⟨j, rfl, b1, b2, I, i0, is, ie⟩ := h1
  obtain ⟨v, rfl, r9⟩ := p1 r1
  cases (show Rp G F1 v (.int j) from r9)
  refine ⟨j, rfl, b1, b2, lc_anyP (nn := j.toNat) (itd := fun i d => d = .int i) hw e1 (q.on s1 g1) I (fun i F2 H2 as2 μ2 e2 s2 g2 i2 => ⟨fun hi => ⟨hi, fun x H' y => ?_⟩, fun hi => Nat.le_of_eq hi.symm⟩) i0 (fun i d μ' hi hd hI => by subst hd; exact is i μ' hi hI) ie⟩
  obtain ⟨rfl, rfl⟩ := y
  refine ⟨rfl, _, rfl, ?_⟩
  rw [Int.zero_add]
  exact Rp.int _
end
end L3
namespace L3
open PySem PySem.Spec PyProof.Rows L2
section
variable {G : Gx} {F0 H0 F H : Hp} {as : List Addr} {σ : L2.St} {ρ : Ro} {μ : Mu} {R : RE} {D' : DE}
theorem Ev.freezeG (e : Ev G F0 H0 F H as σ ρ μ) {k : Nat} {p : Addr} {ds : List D} {vs : List V} {c : Cell} (hk : μ[k]? = some c) (hmc : Mt c = true) (ha : as[k]? = some p) (ho : H p = some (.lst vs)) (hr : RpAll G F vs ds) :
    ∃ F', Same F F' ∧ Rp G F' (.ref p) (.lst ds) ∧ Ev G F0 H0 F' H as σ ρ (μ.set k .gone) := by
  obtain ⟨n0, nF, _, _⟩ := (e.ce k _ p hk ha).some hmc
  have kl : k < μ.length := (List.getElem?_eq_some_iff.mp hk).1
  have sF : Same F (upd F p (.lst vs)) := same_upd nF
  refine ⟨upd F p (.lst vs), sF, .lst (.of upd_same) (RpAll.mono sF _ hr), ⟨fun b x h => ?_, e.bs.f0.trans sF, e.bs.h0, fun a h0 => ?_⟩, e.len, fun i u h => ?_, by rw [List.length_set]; exact e.al, ?_, ?_⟩
  · by_cases hb : b = p
    · subst hb; rw [upd_same] at h; cases h; exact ho
    · rw [upd_ne hb] at h; exact e.bs.fh _ _ h
  · have hb : a ≠ p := fun z => by subst z; exact h0 n0
    rw [upd_ne hb]
    exact e.bs.nw a h0
  · obtain ⟨v, h1, h2⟩ := e.sl i u h
    exact ⟨v, h1, h2.mono sF .refl⟩
  · have pick : ∀ i c1, (μ.set k .gone)[i]? = some c1 → Mt c1 = true → μ[i]? = some c1 := fun i c1 h m => by
      by_cases ik : i = k
      · subst ik
        rw [List.getElem?_set_self kl] at h
        cases h
        cases m
      · rw [List.getElem?_set_ne (Ne.symm ik)] at h; exact h
    intro i j a c1 c2 hi hj h1 h2 m1 m2
    exact e.nd i j a c1 c2 hi hj (pick i c1 h1 m1) (pick j c2 h2 m2) m1 m2
  · intro i c1 a hi hai
    by_cases ik : i = k
    · subst ik
      rw [List.getElem?_set_self kl] at hi
      cases hi
      trivial
    · rw [List.getElem?_set_ne (Ne.symm ik)] at hi
      refine (e.ce i c1 a hi hai).mono sF .refl fun hmi => ⟨upd_ne fun z => ?_, rfl⟩
      subst z
      exact ik (e.nd i k a c1 _ hai ha hi hk hmi hmc)
theorem paired_out {k : Nat} {μ : Mu} : ∀ {ks : List Nat} {dss : List (List D)}, k ∉ ks → Paired (fun j ds => μ[j]? = some (.rw ds)) ks dss → Paired (fun j ds => (μ.set k .gone)[j]? = some (.rw ds)) ks dss
  | _, _, _, .nil => .nil
  | j :: ks, _, hn, .cons a t => .cons (by
      rw [List.getElem?_set_ne (by intro z; subst z; exact hn List.mem_cons_self)]
      exact a) (paired_out (fun z => hn (List.mem_cons_of_mem _ z)) t)
theorem Ev.freezes : ∀ (ks : List Nat) (dss : List (List D)) (ps : List Addr) (F : Hp) (μ : Mu), Ev G F0 H0 F H as σ ρ μ → ks.Nodup → Paired (fun j ds => μ[j]? = some (.rw ds)) ks dss → Paired (fun (p : Addr) (k : Nat) => as[k]? = some p) ps ks →
    ∃ F' μ', Same F F' ∧ RpAll G F' (ps.map V.ref) (dss.map D.lst) ∧ Ev G F0 H0 F' H as σ ρ μ' ∧ μ'.length = μ.length ∧ ∀ j, j ∉ ks → μ'[j]? = μ[j]?
  | [], dss, ps, F, μ, e, _, h, hp => by
    cases h; cases hp
    exact ⟨F, μ, .refl _, .nil, e, rfl, fun _ _ => rfl⟩
  | k :: ks, dss, ps, F, μ, e, nd, h, hp => by
    cases h with
    | cons h1 h2 =>
      cases hp with
      | cons p1 p2 =>
        rw [List.nodup_cons] at nd
        obtain ⟨F1, s1, r1, e1⟩ := e.freeze h1 p1
        have h2' : Paired (fun j ds => (μ.set k .gone)[j]? = some (.rw ds)) ks _ := paired_out nd.1 h2
        obtain ⟨F2, μ2, s2, r2, e2, l2, o2⟩ := Ev.freezes ks _ _ F1 _ e1 nd.2 h2' p2
        refine ⟨F2, μ2, s1.trans s2, .cons (Rp.mono s2 _ r1) r2, e2, by rw [l2, List.length_set], fun j hj => ?_⟩
        rw [o2 j (fun z => hj (List.mem_cons_of_mem _ z)), List.getElem?_set_ne (by intro z; subst z; exact hj List.mem_cons_self)]
/-- a list of own lists, made data, whole -/
theorem wE_frz2 {t : TE} (h : wE G F0 H0 t ρ μ fun u μ1 => ∃ k ks dss, u = .p k ∧ μ1[k]? = some (.pl ks) ∧ k ∉ ks ∧ ks.Nodup ∧ Paired (fun j ds => μ1[j]? = some (.rw ds)) ks dss ∧ ∀ μ', R (.d (.lst (dss.map .lst))) μ') : wE G F0 H0 t ρ μ R := fun F H as σ Q e q => by
  refine h F H as σ _ e fun u μ1 v F1 H1 as1 h1 e1 s1 g1 r1 => ?_
  obtain ⟨k, ks, dss, rfl, hk, hn, nd, hp, kk⟩ := h1
  obtain ⟨a, rfl, ha⟩ := r1
  obtain ⟨_, _, ps, ho, hr⟩ := e1.ce k _ a hk ha
  obtain ⟨F2, μ2, s2, r2, e2, _, o2⟩ := Ev.freezes ks dss ps F1 μ1 e1 nd hp hr
  obtain ⟨F3, s3, r3, e3⟩ := e2.freezeG (c := .pl ks) (by rw [o2 k hn]; exact hk) rfl ha ho r2
  exact q _ _ _ _ _ _ (kk _) e3 ((s1.trans s2).trans s3) g1 r3
/-- what a call's own2 is, for wE_frz2 -/
theorem own2_frz {dss : List (List D)} (h : ∀ μ', R (.d (.lst (dss.map .lst))) μ') : ∃ k ks dss', U.p (μ.length + dss.length) = .p k ∧ (μ ++ dss.map Cell.rw ++ [.pl ((List.range dss.length).map (μ.length + ·))])[k]? = some (.pl ks) ∧ k ∉ ks ∧ ks.Nodup ∧ Paired (fun j ds => (μ ++ dss.map Cell.rw ++ [.pl ((List.range dss.length).map (μ.length + ·))])[j]? = some (.rw ds)) ks dss' ∧ ∀ μ', R (.d (.lst (dss'.map .lst))) μ' := by
  refine ⟨_, (List.range dss.length).map (μ.length + ·), dss, rfl, ?_, ?_, ?_, ?_, h⟩
  · rw [List.getElem?_append_right (by simp)]
    simp
  · intro z
    obtain ⟨x, hx, e⟩ := List.mem_map.mp z
    have := List.mem_range.mp hx
    omega
  · refine List.Pairwise.map (μ.length + ·) (fun a b h => ?_) (List.nodup_range (n := dss.length))
    omega
  · refine paired_of' (by simp) fun i x y hx hy => ?_
    have hi := (List.getElem?_eq_some_iff.mp hy).1
    rw [List.getElem?_map, List.getElem?_range hi] at hx
    cases hx
    rw [List.getElem?_append_left (by simp; omega), List.getElem?_append_right (Nat.le_add_right _ _), Nat.add_sub_cancel_left, List.getElem?_map, hy]
    rfl
where
  paired_of' {α β : Type} {RR : α → β → Prop} : ∀ {xs : List α} {ys : List β}, xs.length = ys.length → (∀ (i : Nat) (x : α) (y : β), xs[i]? = some x → ys[i]? = some y → RR x y) → Paired RR xs ys
    | [], [], _, _ => .nil
    | [], _ :: _, h, _ => by cases h
    | _ :: _, [], h, _ => by cases h
    | x :: xs, y :: ys, h, r => .cons (r 0 x y rfl rfl) (paired_of' (by simpa using h) fun i a b ha hb => r (i + 1) a b (by simpa using ha) (by simpa using hb))
/-- a slot's list made data -/
theorem wS_frzSlot {t : TS} {i k : Nat} {ds : List D} (hρ : ρ[i]? = some (some (.p k))) (hμ : μ[k]? = some (.rw ds)) (h : wS G F0 H0 t (ρ.set i (some (.d (.lst ds)))) (μ.set k .gone) D') : wS G F0 H0 t ρ μ D' := fun F H as σ X e q => by
  obtain ⟨v, hs, a, rfl, ha⟩ := e.sl i _ hρ
  obtain ⟨F2, s2, r2, e2⟩ := e.freeze hμ ha
  have e3 := e2.store (i := i) (v := .ref a) (u := .d (.lst ds)) r2
  have es : σ.set i (some (.ref a)) = σ := by
    obtain ⟨hi, he⟩ := List.getElem?_eq_some_iff.mp hs
    rw [← he]
    exact List.set_getElem_self hi
  rw [es] at e3
  exact h F2 H as σ X e3 (q.on s2 .refl)
end
end L3

set_option Elab.async false
set_option linter.all false
set_option maxRecDepth 100000
set_option maxHeartbeats 4000000
set_option exponentiation.threshold 100
/-! Envy; pieces given out by draws. -/
namespace L3
open PySem PySem.Spec PyProof.Rows L2
theorem worth_gr {st : Steps} (g : Good st) {p : Piece} (hp : IsPiece p) {Dp : Nat} (gp : ∀ s ∈ p, Gr Dp s.1 ∧ Gr Dp s.2) {n : Nat} (hn : ∀ {D : Nat} {q : Rat}, Gr D q → Gr (D * n) (q / total st)) :
    0 ≤ worthR st p ∧ worthR st p ≤ ((1000 * p.length : Nat) : Rat) ∧ Gr (dt st * Dp * n) (worthR st p) := by
  have W : ∀ t ∈ p, 0 ≤ withinR st t.1 t.2 ∧ withinR st t.1 t.2 ≤ 1000 ∧ Gr (dt st * Dp * n) (withinR st t.1 t.2) := fun t ht => by
    have z := hp.1 t ht
    exact within_gr g hn z.1 z.2.2 (gp t ht).1 (gp t ht).2
  have S : ∀ (q : Piece) (f : Rat) (m : Nat), (∀ t ∈ q, t ∈ p) → 0 ≤ f → f ≤ ((1000 * m : Nat) : Rat) → Gr (dt st * Dp * n) f → 0 ≤ q.foldl (fun f s => f + withinR st s.1 s.2) f ∧ q.foldl (fun f s => f + withinR st s.1 s.2) f ≤ ((1000 * (m + q.length) : Nat) : Rat) ∧ Gr (dt st * Dp * n) (q.foldl (fun f s => f + withinR st s.1 s.2) f) := by
    intro q
    induction q with
    | nil => intro f m _ h1 h2 h3; exact ⟨h1, by simpa using h2, h3⟩
    | cons t q ih =>
      intro f m hm h1 h2 h3
      obtain ⟨w1, w2, w3⟩ := W t (hm t List.mem_cons_self)
      have z := ih (f + withinR st t.1 t.2) (m + 1) (fun x hx => hm x (List.mem_cons_of_mem _ hx)) (by grind) (by
        have e : ((1000 * (m + 1) : Nat) : Rat) = ((1000 * m : Nat) : Rat) + 1000 := by
          rw [Nat.mul_add, Rat.natCast_add]; rfl
        rw [e]; grind) (h3.add w3)
      have e : m + 1 + q.length = m + (t :: q).length := by simp; omega
      rw [e] at z
      exact z
  have z := S p 0 0 (fun t ht => ht) (by grind) (by simp) Gr.zero
  rw [Nat.zero_add] at z
  exact z
theorem worth_sz {st : Steps} (g : Good st) {p : Piece} (hp : IsPiece p) (og : OnGrid p) (hl : p.length ≤ 900000) : 0 ≤ worthR st p ∧ Sz (worthR st p) := by
  obtain ⟨Dp, dp0, dpb, gp⟩ := og
  obtain ⟨n, n0, nb, hn⟩ := g.over
  have dd : dt st * Dp < 2 ^ 2100 := by
    have := Nat.mul_lt_mul'' g.dt_lt dpb
    rw [← Nat.pow_add] at this
    exact Nat.lt_of_lt_of_le this (pt_lt (by decide))
  have dpos : 0 < dt st * Dp * n := Nat.mul_pos (Nat.mul_pos (dt_pos st) dp0) n0
  obtain ⟨s1, s2, s3⟩ := worth_gr g hp gp hn
  have mb : 1000 * p.length < 2 ^ 40 := by omega
  obtain ⟨b1, b2⟩ := big dd nb mb
  exact ⟨s1, s3.sz dpos s1 s2 b1 b2⟩
/-! ### envy -/
def envyAt (w : Nat → Nat → Rat) (t o : Nat) : Option (Nat × Nat × Rat) := if w t t < w t o then some (t, o, w t o - w t t) else none
def envyRow (w : Nat → Nat → Rat) (t n : Nat) : List (Nat × Nat × Rat) := (List.range n).filterMap (envyAt w t)
def envyAll (w : Nat → Nat → Rat) (n m : Nat) : List (Nat × Nat × Rat) := (List.range m).flatMap fun t => envyRow w t n
def encV (x : Nat × Nat × Rat) : D := .tup [.int x.1, .int x.2.1, encF x.2.2]
theorem envyRow_succ (w : Nat → Nat → Rat) (t n : Nat) : envyRow w t (n + 1) = envyRow w t n ++ (envyAt w t n).toList := by
  unfold envyRow
  rw [List.range_succ, List.filterMap_append]
  congr 1
theorem envyAll_succ (w : Nat → Nat → Rat) (n m : Nat) : envyAll w n (m + 1) = envyAll w n m ++ envyRow w m n := by
  unfold envyAll
  rw [List.range_succ, List.flatMap_append]
  simp
theorem envyRow_len (w : Nat → Nat → Rat) (t n : Nat) : (envyRow w t n).length ≤ n := by
  have := List.length_filterMap_le (envyAt w t) (List.range n)
  simpa [envyRow] using this
theorem envyAll_len (w : Nat → Nat → Rat) (n : Nat) : ∀ m, (envyAll w n m).length ≤ n * m
  | 0 => by simp [envyAll]
  | m + 1 => by
    rw [envyAll_succ, List.length_append, Nat.mul_succ]
    have := envyAll_len w n m
    have := envyRow_len w m n
    omega
def wOf (sts : List Steps) (ps : List Piece) (t o : Nat) : Rat := worthR (sts.getD t []) (ps.getD o [])
def encPs (ps : List Piece) : List D := ps.map fun p => .lst (encP p)
def encTs (sts : List Steps) : List D := sts.map encTaste
/-- a piece fit for worths -/
structure FitP (p : Piece) : Prop where
  is : IsPiece p
  on : OnGrid p
  szs : Szs p
  few : p.length ≤ 900000
def c_envy : Ct (List Piece × List Steps) := ⟨fun a => [.l (encPs a.1), .l (encTs a.2)], fun a => a.1.length = a.2.length ∧ a.2.length ≤ 12 ∧ (∀ st ∈ a.2, Good st) ∧ ∀ p ∈ a.1, FitP p,
  fun a => .ret (.own ((envyAll (wOf a.2 a.1) a.2.length a.2.length).map encV))⟩
theorem eq_encV {x y : Nat × Nat × Rat} : eqD (encV x) (encV y) = true ↔ x = y := by
  show (eqD (.int x.1) (.int y.1) && (eqD (.int x.2.1) (.int y.2.1) && (eqD (encF x.2.2) (encF y.2.2) && true))) = true ↔ _
  rw [Bool.and_true, Bool.and_eq_true, Bool.and_eq_true, eq_encF, eqD_int, eqD_int, decide_eq_true_iff, decide_eq_true_iff, Prod.ext_iff, Prod.ext_iff]
  constructor
  · rintro ⟨h1, h2, h3⟩; exact ⟨by exact_mod_cast h1, by exact_mod_cast h2, h3⟩
  · rintro ⟨h1, h2, h3⟩; exact ⟨by exact_mod_cast h1, by exact_mod_cast h2, h3⟩
/-- the worth of any data as a piece -/
def worthD (st : Steps) (d : D) : D := match pieceOf d with
  | some p => encF (worthR st p)
  | none => .non
theorem worthD_enc {st : Steps} {p : Piece} (hp : IsPiece p) : worthD st (.lst (encP p)) = encF (worthR st p) := by
  unfold worthD
  rw [pieceOf_enc hp]
theorem worthD_map {st : Steps} {ps : List Piece} (h : ∀ p ∈ ps, IsPiece p) : (encPs ps).map (worthD st) = ps.map fun p => encF (worthR st p) := by
  unfold encPs
  rw [List.map_map]
  exact List.map_congr_left fun p hp => worthD_enc (h p hp)
theorem atI_n {α : Type} {l : List α} {n : Nat} {x : α} (h : l[n]? = some x) : atI l (n : Int) = some x := atI_nat h
theorem getD_at {α : Type} {l : List α} {n : Nat} {d : α} (h : n < l.length) : l[n]? = some (l.getD n d) := by
  rw [List.getElem?_eq_getElem h, List.getD_eq_getElem?_getD, List.getElem?_eq_getElem h]
  rfl
/-! ### pieces by draws -/
def addSpan (p : Piece) (s : Rat × Rat) : Piece := match p.getLast? with
  | none => [s]
  | some l => if l.2 = s.1 then p.dropLast ++ [(l.1, s.2)] else p ++ [s]
theorem apart_snoc : ∀ {p : Piece} {s : Rat × Rat}, Apart p → (∀ l, p.getLast? = some l → l.2 < s.1) → Apart (p ++ [s])
  | [], s, _, _ => trivial
  | [a], s, _, h => ⟨h a rfl, trivial⟩
  | a :: b :: p, s, ha, h => by
    refine ⟨ha.1, apart_snoc (p := b :: p) ha.2 fun l hl => h l ?_⟩
    rw [List.getLast?_cons_cons]
    exact hl
theorem apart_last : ∀ {q : Piece} {l : Rat × Rat} {y : Rat}, Apart (q ++ [l]) → Apart (q ++ [(l.1, y)])
  | [], _, _, _ => trivial
  | [a], _, _, h => ⟨h.1, trivial⟩
  | a :: b :: q, l, y, h => ⟨h.1, apart_last (q := b :: q) h.2⟩
theorem snoc_last {p : Piece} {l : Rat × Rat} (e : p.getLast? = some l) : p = p.dropLast ++ [l] := by
  have hne : p ≠ [] := by intro z; subst z; cases e
  have := List.dropLast_concat_getLast hne
  rw [List.getLast?_eq_some_getLast hne] at e
  cases e
  exact this.symm
structure UpTo (D : Nat) (x : Rat) (k : Nat) (p : Piece) : Prop where
  is : ∀ s ∈ p, 0 ≤ s.1 ∧ s.1 < s.2 ∧ s.2 ≤ x
  ap : Apart p
  gr : ∀ s ∈ p, Gr D s.1 ∧ Gr D s.2
  few : p.length ≤ k
theorem UpTo.mono {D k k' : Nat} {x y : Rat} {p : Piece} (h : UpTo D x k p) (hxy : x ≤ y) (hk : k ≤ k') : UpTo D y k' p :=
  ⟨fun s hs => by have := h.is s hs; exact ⟨this.1, this.2.1, by grind⟩, h.ap, h.gr, by have := h.few; omega⟩
theorem UpTo.add {D k : Nat} {x y : Rat} {p : Piece} (h : UpTo D x k p) (x0 : 0 ≤ x) (hxy : x < y) (gx : Gr D x) (gy : Gr D y) : UpTo D y (k + 1) (addSpan p (x, y)) := by
  unfold addSpan
  cases e : p.getLast? with
  | none =>
    refine ⟨fun s hs => ?_, trivial, fun s hs => ?_, by simp⟩
    · have : s = (x, y) := by simpa using hs
      rw [this]; exact ⟨x0, hxy, by show y ≤ y; grind⟩
    · have : s = (x, y) := by simpa using hs
      rw [this]; exact ⟨gx, gy⟩
  | some l =>
    have hm : l ∈ p := List.mem_of_getLast? e
    have hl := h.is l hm
    have hq : p = p.dropLast ++ [l] := by
      exact snoc_last e
    show UpTo D y (k + 1) (if l.2 = x then p.dropLast ++ [(l.1, y)] else p ++ [(x, y)])
    by_cases c : l.2 = x
    · rw [if_pos c]
      refine ⟨fun s hs => ?_, ?_, fun s hs => ?_, ?_⟩
      · rcases List.mem_append.mp hs with hs | hs
        · have := h.is s (by rw [hq]; exact List.mem_append_left _ hs)
          exact ⟨this.1, this.2.1, by grind⟩
        · have : s = (l.1, y) := by simpa using hs
          rw [this]; exact ⟨hl.1, by show l.1 < y; grind, by show y ≤ y; grind⟩
      · exact apart_last (by rw [← hq]; exact h.ap)
      · rcases List.mem_append.mp hs with hs | hs
        · exact h.gr s (by rw [hq]; exact List.mem_append_left _ hs)
        · have : s = (l.1, y) := by simpa using hs
          rw [this]; exact ⟨(h.gr l hm).1, gy⟩
      · have h5 := h.few
        rw [List.length_append, List.length_dropLast]
        simp
        omega
    · rw [if_neg c]
      refine ⟨fun s hs => ?_, ?_, fun s hs => ?_, ?_⟩
      · rcases List.mem_append.mp hs with hs | hs
        · have := h.is s hs
          exact ⟨this.1, this.2.1, by grind⟩
        · have : s = (x, y) := by simpa using hs
          rw [this]; exact ⟨x0, hxy, by show y ≤ y; grind⟩
      · refine apart_snoc h.ap fun l' hl' => ?_
        rw [e] at hl'
        cases hl'
        show l.2 < x
        grind
      · rcases List.mem_append.mp hs with hs | hs
        · exact h.gr s hs
        · have : s = (x, y) := by simpa using hs
          rw [this]; exact ⟨gx, gy⟩
      · have h5 := h.few
        rw [List.length_append]
        simp
        omega
def takerN (c many : Int) (k : Nat) : Nat := (mixN c k % (many + 1)).toNat
def drawO (c many parts : Int) : Nat → List Piece
  | 0 => List.replicate many.toNat []
  | k + 1 => (drawO c many parts k).set (takerN c many k) (addSpan ((drawO c many parts k).getD (takerN c many k) []) (Rat.divInt k parts, Rat.divInt (k + 1) parts))
def partsO (c : Int) : Int := 2 + c % 5
def piecesBy (c many : Int) : List Piece := drawO c many (partsO c) (partsO c).toNat
theorem drawO_len (c many parts : Int) : ∀ k, (drawO c many parts k).length = many.toNat
  | 0 => by simp [drawO]
  | k + 1 => by
    show (List.set _ _ _).length = _
    rw [List.length_set, drawO_len c many parts k]
theorem drawO_ok (c many parts : Int) (hp : 0 < parts) : ∀ k, ∀ p ∈ drawO c many parts k, UpTo parts.toNat (Rat.divInt k parts) k p
  | 0, p, h => by
    have : p = [] := List.eq_of_mem_replicate h
    rw [this]
    exact ⟨(fun _ h => by cases h), trivial, (fun _ h => by cases h), Nat.le_refl _⟩
  | k + 1, p, h => by
    have ih := drawO_ok c many parts hp k
    have lt : Rat.divInt (k : Int) parts < Rat.divInt ((k : Int) + 1) parts := divInt_lt hp (by omega)
    have ec : ((k + 1 : Nat) : Int) = (k : Int) + 1 := by simp
    rw [ec]
    rcases List.mem_or_eq_of_mem_set h with h | h
    · exact (ih p h).mono (Rat.le_of_lt lt) (Nat.le_succ _)
    · rw [h]
      refine UpTo.add (k := k) ?_ (divInt_nn (by omega) hp) lt (gr_div hp) (gr_div hp)
      by_cases z : takerN c many k < (drawO c many parts k).length
      · exact ih _ (List.mem_of_getElem? (getD_at z))
      · rw [List.getD_eq_getElem?_getD, List.getElem?_eq_none (by omega)]
        exact ⟨(fun _ h => by cases h), trivial, (fun _ h => by cases h), Nat.zero_le _⟩
theorem UpTo.fit {D k : Nat} {p : Piece} {x : Rat} (h : UpTo D x k p) (hx : x ≤ 1) (h0 : 0 < D) (h1 : D ≤ 1000) (hk : k ≤ 1000) : FitP p := by
  have hi : IsPiece p := ⟨fun s hs => by have := h.is s hs; exact ⟨this.1, this.2.1, by grind⟩, h.ap⟩
  have hg : Grid1 p := ⟨D, h0, h1, h.gr⟩
  exact ⟨hi, hg.on, hg.szs hi, by have := h.few; omega⟩
theorem piecesBy_fit {c many : Int} : ∀ p ∈ piecesBy c many, FitP p := fun p hp => by
  have b : 2 ≤ partsO c ∧ partsO c ≤ 6 := by unfold partsO; omega
  have z := drawO_ok c many (partsO c) (by omega) _ p hp
  refine z.fit ?_ (by omega) (by omega) (by omega)
  rw [Int.toNat_of_nonneg (by omega), divInt_self1 (by omega)]
  grind
theorem piecesBy_len (c many : Int) : (piecesBy c many).length = many.toNat := drawO_len _ _ _ _
def c__law_pieces_by : Ct (Int × Int) := ⟨fun a => [.d (.int a.1), .d (.int a.2)], fun a => 1 ≤ a.2 ∧ a.2 ≤ 12, fun a => .ret (.own2 ((piecesBy a.1 a.2).map encP))⟩
section
variable {G : Gx} {F0 H0 : Hp} {ρ : Ro} {μ : Mu} {R : RE} {X : Ex} {E : XK}
theorem ca_envy {ps : List Piece} {sts : List Steps} {u v : U} (hu : IsL μ u (encPs ps)) (hv : IsL μ v (encTs sts)) (h1 : ps.length = sts.length) (h2 : sts.length ≤ 12) (h3 : ∀ st ∈ sts, Good st) (h4 : ∀ p ∈ ps, FitP p)
    (k : R (.p μ.length) (μ ++ [.rw ((envyAll (wOf sts ps) sts.length sts.length).map encV)])) : Call [u, v] c_envy R μ H0 X E := ⟨(ps, sts), .cons (.l hu) (.cons (.l hv) .nil), ⟨h1, h2, h3, h4⟩, k⟩
theorem FitP.worth {p : Piece} (h : FitP p) {st : Steps} (g : Good st) : 0 ≤ worthR st p ∧ Sz (worthR st p) := worth_sz g h.is h.on h.few
theorem ca_tworthF {st : Steps} {p : Piece} {u : U} (hl : IsL μ u (encP p)) (g : Good st) (h : FitP p) (k : R (.d (encF (worthR st p))) μ) : Call [.d (encTaste st), u] c_Taste_worth R μ H0 X E := ca_tworth hl g h.is h.on h.szs h.few k
theorem ca_lworthF {st : Steps} {p : Piece} {u v : U} (hl : IsL μ u (encSt st)) (hv : IsL μ v (encP p)) (g : Good st) (h : FitP p) (k : R (.d (encF (worthR st p))) μ) : Call [u, v] c__law_worth R μ H0 X E := ca_lworth hl hv g h.is h.on h.few k
end
end L3
namespace L3
open PySem PySem.Spec PyProof.Rows L2
theorem kit_self (K : PySem.W.Frag) (C : Addr) : PySem.W.kitOne K (.ref C) (.ref C) = some true := if_pos (by first | exact beq_self_eq_true _ | rfl | simp)
theorem insC_mk {K : PySem.W.Frag} {h : Heap} {mg : Str → Option Value} {x : Str} {C : Addr} (_ : K.In h) (_ : ClsG mg x C) (pg : PySem.W.plainGet K C Str.empty = true) (hd : PySem.W.hasDictIn K C = true) (po : PySem.W.plainOver K C = true)
    (sa : PySem.W.findIn K (.ref C) "__setattr__" = some (some (.builtin "object.__setattr__"))) (ha : PySem.W.findIn K (.ref C) "__class__" = some (some (.builtin "object.__class__")))
    (hn : PySem.W.specialIn K (.builtin "object.__class__") "__get__" = some (some (.builtin "getset_descriptor.__get__"))) (htk : PySem.W.takesIn K (.builtin "object.__class__") = some true)
    (hm : PySem.W.mroIn K C (.type "object") = some true) : C8.InsC K C := ⟨⟨pg, hd, po, sa⟩, ha, hn, htk, hm, kit_self K C⟩
theorem dz1000 {j : Int} (h0 : 0 < j) (h1 : j ≤ 1000) : Dz j := dz_of (n := 10) h0 (by
  have : (2 : Int) ^ 10 = 1024 := by decide
  omega) (by decide)
theorem addSpan_nil (s : Rat × Rat) : addSpan [] s = [s] := rfl
theorem addSpan_same {p : Piece} {l s : Rat × Rat} (h : p.getLast? = some l) (e : l.2 = s.1) : addSpan p s = p.dropLast ++ [(l.1, s.2)] := by
  unfold addSpan
  rw [h]
  exact if_pos e
theorem addSpan_new {p : Piece} {l s : Rat × Rat} (h : p.getLast? = some l) (e : ¬ l.2 = s.1) : addSpan p s = p ++ [s] := by
  unfold addSpan
  rw [h]
  exact if_neg e
theorem atI_last {α : Type} {q : List α} {x : α} : atI (q ++ [x]) (-1) = some x := by
  unfold atI ixN
  rw [if_neg (by decide), if_pos (by simp; omega)]
  show (q ++ [x])[(-1 + ((q ++ [x]).length : Int)).toNat]? = some x
  rw [List.length_append, List.length_singleton, show (-1 + ((q.length + 1 : Nat) : Int)).toNat = q.length by omega]
  simp
theorem ixN_last {α : Type} {q : List α} {x : α} : ixN (q ++ [x]).length (-1) = some q.length := by
  unfold ixN
  rw [if_neg (by decide), if_pos (by simp; omega), List.length_append, List.length_singleton]
  congr 1
  omega
theorem nodup_up (n : Nat) : ((List.range n).map (· + 1)).Nodup := by
  refine List.Pairwise.map (· + 1) (fun a b h => ?_) (List.nodup_range (n := n))
  omega
theorem paired_of {α β : Type} {RR : α → β → Prop} : ∀ {xs : List α} {ys : List β}, xs.length = ys.length → (∀ (i : Nat) (x : α) (y : β), xs[i]? = some x → ys[i]? = some y → RR x y) → Paired RR xs ys
  | [], [], _, _ => .nil
  | [], _ :: _, h, _ => by cases h
  | _ :: _, [], h, _ => by cases h
  | x :: xs, y :: ys, h, r => .cons (r 0 x y rfl rfl) (paired_of (by simpa using h) fun i a b ha hb => r (i + 1) a b (by simpa using ha) (by simpa using hb))
theorem paired_cells {α : Type} {f : α → List D} {c0 : Cell} (ps : List α) : Paired (fun j ds => (c0 :: ps.map fun p => Cell.rw (f p))[j]? = some (.rw ds)) ((List.range ps.length).map (· + 1)) (ps.map f) := by
  refine paired_of (by simp) fun i x y hx hy => ?_
  rw [List.getElem?_map] at hx hy
  cases e : ps[i]? with
  | none => rw [e] at hy; cases hy
  | some p =>
    rw [e] at hy
    cases hy
    have hi := (List.getElem?_eq_some_iff.mp e).1
    rw [List.getElem?_range hi] at hx
    cases hx
    show (ps.map fun p => Cell.rw (f p))[i]? = _
    rw [List.getElem?_map, e]
    rfl
def encSts (sts : List Steps) : List D := sts.map fun st => .lst (encSt st)
theorem ca_pieces_by {H0 : Hp} {μ : Mu} {R : RE} {X : Ex} {E : XK} {c m : Int} (h1 : 1 ≤ m) (h2 : m ≤ 12) (k : ∀ dss, dss = (piecesBy c m).map encP → R (.p (μ.length + dss.length)) (μ ++ dss.map Cell.rw ++ [.pl ((List.range dss.length).map (μ.length + ·))])) : Call [.d (.int c), .d (.int m)] c__law_pieces_by R μ H0 X E := ⟨(c, m), .cons (.d _) (.cons (.d _) .nil), ⟨h1, h2⟩, k _ rfl⟩
theorem eq_encPl {p q : Piece} : eqD (.lst (encP p)) (.lst (encP q)) = true ↔ p = q := eqD_listI (fun _ _ => eq_encS) p q
theorem eq_encStl {p q : Steps} : eqD (.lst (encSt p)) (.lst (encSt q)) = true ↔ p = q := eqD_listI (fun _ _ => eq_encStep) p q
end L3

set_option Elab.async false
set_option linter.all false
set_option maxRecDepth 100000
set_option maxHeartbeats 4000000
set_option exponentiation.threshold 100
/-! A def that changes the list it is handed first. -/
namespace L3
open PySem PySem.Spec PyProof.Rows L2
structure Cm (α : Type) where
  old : α → List D
  args : α → List Arg
  pre : α → Prop
  new : α → List D
def spM {α : Type} (G : Gx) (c : Cm α) : Sp := fun vs H Q _ => ∃ (a : α) (F : Hp) (p : Addr) (ws us : List V), vs = .ref p :: us ∧ c.pre a ∧ Same F H ∧ F p = none ∧ H p = some (.lst ws) ∧ RpAll G F ws (c.old a) ∧ Paired (ArgOk G F (hide H p)) us (c.args a) ∧
  ∀ (F' H' : Hp) (ws' : List V), Same F F' → Same F' H' → F' p = none → (∀ b o, b ≠ p → H b = some o → H' b = some o) → (∀ b, b ≠ p → H b ≠ none → F' b = F b) → H' p = some (.lst ws') → RpAll G F' ws' (c.new a) → Q .non H'
section
variable {G : Gx} {F0 H0 : Hp} {F F1 H : Hp} {as as1 : List Addr} {σ : L2.St} {ρ : Ro} {μ : Mu} {R : RE} {α : Type}
theorem spM_len {c : Cm α} {n : Nat} (hn : ∀ a, (c.args a).length + 1 = n) {vs : List V} {H : Hp} {Q : VK} {E : XK} (h : spM G c vs H Q E) : vs.length = n := by
  obtain ⟨a, F, p, ws, us, rfl, _, _, _, _, _, ha, _⟩ := h
  rw [List.length_cons, paired_len ha]
  exact hn a
theorem body_cm {c : Cm α} {t : TS} {N : List Str} {vs : List V} {H : Hp} {Q : VK} {E : XK} (hsp : spM G c vs H Q E) (hN : ∀ a, (c.args a).length + 1 ≤ N.length)
    (h : ∀ (a : α) (F H0 : Hp), c.pre a → wS G F H0 t (some (.p 0) :: slotsFrom 1 (c.args a) ++ List.replicate (N.length - ((c.args a).length + 1)) none) (.rw (c.old a) :: cellsOf (c.args a))
      { nx := fun _ μ => μ[0]? = some (.rw (c.new a)), rt := fun u μ => u = .d .non ∧ μ[0]? = some (.rw (c.new a)) }) :
    t { nx := fun _ H' => Q .non H', rt := Q } (L2.start N vs) H := by
  obtain ⟨a, F, x, gs0, ws, rfl, hp, hF, fx, hx, hr0, ha', hq⟩ := hsp
  have hF' : Same F (hide H x) := fun b o z => by
    have hb : b ≠ x := fun y => by subst y; rw [fx] at z; cases z
    show (if b = x then none else H b) = some o
    rw [if_neg hb]; exact hF _ _ z
  obtain ⟨as, e1, e2, e3⟩ := start_ev (c.args a) ws [x] ha'
  have el := paired_len ha'
  have sHH : Same (hide H x) H := fun b o z => (hide_some z).2
  have ev : Ev G F (hide H x) F H (x :: as) (L2.start N (.ref x :: ws)) (some (.p 0) :: slotsFrom 1 (c.args a) ++ List.replicate (N.length - ((c.args a).length + 1)) none) (.rw (c.old a) :: cellsOf (c.args a)) := by
    refine ⟨⟨hF, .refl _, sHH, fun _ _ => rfl⟩, ?_, fun i u hi => ?_, by simp [e1], fun i j b c1 c2 h1 h2 h3 h4 m1 m2 => ?_, fun k c1 b hk hb => ?_⟩
    · unfold L2.start
      simp [slotsFrom_len, el]
    · unfold L2.start
      cases i with
      | zero =>
        simp at hi
        subst hi
        exact ⟨.ref x, rfl, x, rfl, rfl⟩
      | succ i =>
        have hi' : (slotsFrom 1 (c.args a) ++ List.replicate (N.length - ((c.args a).length + 1)) none)[i]? = some (some u) := by simpa using hi
        by_cases hl : i < (c.args a).length
        · rw [List.getElem?_append_left (by rw [slotsFrom_len]; exact hl)] at hi'
          obtain ⟨v, h1, h2⟩ := e2 i u hi'
          refine ⟨v, ?_, by simpa using h2⟩
          show ((V.ref x :: ws).map some ++ _)[i + 1]? = _
          rw [List.getElem?_append_left (by simp [el]; exact hl)]
          simpa using h1
        · rw [List.getElem?_append_right (by rw [slotsFrom_len]; omega)] at hi'
          rw [List.getElem?_replicate] at hi'
          split at hi' <;> cases hi'
    · have z : ∀ i c1, (Cell.rw (c.old a) :: cellsOf (c.args a))[i]? = some c1 → Mt c1 = true → (x :: as)[i]? = some b → i = 0 := fun i c1 h m hb => by
        cases i with
        | zero => rfl
        | succ i =>
          have := (e3 i c1 b (by simpa using h) (by simpa using hb)).1
          rw [this] at m; cases m
      rw [z i c1 h3 m1 h1, z j c2 h4 m2 h2]
    · cases k with
      | zero =>
        simp at hk hb
        subst hk hb
        exact ⟨by show (if x = x then none else H x) = none; rw [if_pos rfl], fx, gs0, hx, hr0⟩
      | succ k =>
        have hk' : (cellsOf (c.args a))[k]? = some c1 := by simpa using hk
        have hb' : as[k]? = some b := by simpa using hb
        obtain ⟨m, z⟩ := e3 k c1 b hk' hb'
        refine (z (x :: as)).mono (F' := F) (H' := H) (.refl _) .refl fun hm => ?_
        rw [m] at hm; cases hm
  have fin : ∀ {ρ' : Ro} {σ' : L2.St} {μ' : Mu} {F' H' : Hp} {as' : List Addr}, μ'[0]? = some (.rw (c.new a)) → Ev G F (hide H x) F' H' as' σ' ρ' μ' → Same F F' → Grw (x :: as) as' → Q .non H' := fun {ρ' σ' μ' F' H' as'} h0 e' s' g' => by
    have hx' : as'[0]? = some x := g' _ _ rfl
    obtain ⟨n0, nF, ws', h3, h4⟩ := e'.ce 0 _ x h0 hx'
    refine hq F' H' ws' s' e'.bs.fh nF (fun b o hb z => e'.bs.h0 b o (by show (if b = x then none else H b) = some o; rw [if_neg hb]; exact z)) (fun b hb hH => e'.bs.nw b ?_) h3 h4
    show (if b = x then none else H b) ≠ none
    rw [if_neg hb]; exact hH
  refine h a F (hide H x) hp F H (x :: as) _ _ ev ⟨?_, ?_, fun _ _ _ _ _ _ z => z.elim, fun _ _ _ _ _ _ z => z.elim⟩
  · rintro ρ' μ' σ' F' H' as' h0 e' s' g'
    exact fin h0 e' s' g'
  · rintro u μ' v F' H' as' ⟨rfl, h0⟩ e' s' g' r'
    cases (show Rp G F' v .non from r')
    exact fin h0 e' s' g'
theorem wE_m {c : Cm α} {E : XK} {t : TA} (h : wA G F0 H0 t ρ μ fun us μ1 => ∃ a k us', us = .p k :: us' ∧ μ1[k]? = some (.rw (c.old a)) ∧ Paired (ArgOf μ1) us' (c.args a) ∧ (∀ x ∈ c.args a, ∃ d, x = .d d) ∧ c.pre a ∧ R (.d .non) (μ1.set k (.rw (c.new a)))) :
    wE G F0 H0 (tCall (spM G c) [] E t) ρ μ R := fun F H as σ Q e q => by
  refine h F H as σ _ e fun us μ1 vs F1 H1 as1 h1 e1 s1 g1 r1 => ?_
  obtain ⟨a, k, us', rfl, hk, hu, hd, hp, kk⟩ := h1
  cases r1 with
  | cons ra rb =>
    obtain ⟨p, rfl, ha⟩ := ra
    obtain ⟨n0, nF, ws, hw, hr⟩ := e1.ce k _ p hk ha
    rw [List.append_nil]
    refine ⟨a, F1, p, ws, _, rfl, hp, e1.bs.fh, nF, hw, hr, ?_, fun F' H' ws' sF sf nF' sH sn hw' hr' => ?_⟩
    · have conv : ∀ {vs : List V} {us : List U} {xs : List Arg}, Paired (RpU G as1 F1) vs us → Paired (ArgOf μ1) us xs → (∀ x ∈ xs, ∃ d, x = .d d) → Paired (ArgOk G F1 (hide H1 p)) vs xs := by
        intro vs us xs h1 h2 h3
        induction h2 generalizing vs with
        | nil => cases h1; exact .nil
        | cons a1 b1 ih =>
          cases h1 with
          | cons r t =>
            refine .cons ?_ (ih t fun x hx => h3 x (List.mem_cons_of_mem _ hx))
            obtain ⟨d, rfl⟩ := h3 _ List.mem_cons_self
            cases a1
            exact r
      exact conv rb hu hd
    · -- the old list back, then the new one written
      have sH2 : Same H1 (upd H' p (.lst ws)) := fun b o z => by
        by_cases hb : b = p
        · subst hb; rw [upd_same, ← hw, z]
        · rw [upd_ne hb]; exact sH b o hb z
      have sf2 : Same F' (upd H' p (.lst ws)) := fun b o z => by
        have hb : b ≠ p := fun y => by subst y; rw [nF'] at z; cases z
        rw [upd_ne hb]; exact sf _ _ z
      have e2 := e1.grow sF sH2 sf2 fun b hb => by
        by_cases hbp : b = p
        · rw [hbp, nF', nF]
        · exact sn b hbp hb
      have e3 := e2.write (o := .lst ws') (c' := .rw (c.new a)) hk ha rfl rfl ⟨n0, nF', ws', upd_same, hr'⟩
      have eH : upd (upd H' p (.lst ws)) p (.lst ws') = H' := by
        funext b
        by_cases hb : b = p
        · subst hb; rw [upd_same, hw']
        · rw [upd_ne hb, upd_ne hb]
      rw [eH] at e3
      exact q _ _ _ _ _ _ kk e3 (s1.trans sF) g1 Rp.non
def rInsL : V → List V → Hp → VK → Prop := fun x vs H Q => ∃ (l : Addr) (xs : List V) (i : Int) (y : V), x = .ref l ∧ vs = [.int i, y] ∧ H l = some (.lst xs) ∧ xs.length < sizeLine ∧ 0 ≤ i ∧ i < 2 ^ 63 ∧ Q .non (upd H l (.lst (xs.take i.toNat ++ [y] ++ xs.drop i.toNat)))
theorem mt_insL {X : Cx} : MtR X "list.insert" rInsL := mt_insert
theorem wE_insert {to : TE} {t : TA} (h : wE G F0 H0 to ρ μ fun x μ1 => ∃ k ds0, x = .p k ∧ μ1[k]? = some (.rw ds0) ∧ wA G F0 H0 t ρ μ1 fun us μ2 => ∃ ds i d, us = [.d (.int i), .d d] ∧ μ2[k]? = some (.rw ds) ∧ ds.length < 1000000 ∧ 0 ≤ i ∧ i < 2 ^ 63 ∧ R (.d .non) (μ2.set k (.rw (ds.take i.toNat ++ [d] ++ ds.drop i.toNat)))) :
    wE G F0 H0 (tBM G.K "list" rInsL to t) ρ μ R := fun F H as σ Q e q => by
  refine h F H as σ _ e fun u μ1 v F1 H1 as1 h1 e1 s1 g1 r1 => ?_
  obtain ⟨k, ds0, rfl, hk0, h1⟩ := h1
  obtain ⟨a, rfl, ha⟩ := r1
  obtain ⟨_, _, vs0, hv0, _⟩ := e1.ce k _ a hk0 ha
  refine ⟨.inl ⟨rfl, vs0, .of hv0⟩, h1 F1 H1 as1 σ _ e1 fun us μ2 vs F2 H2 as2 h2 e2 s2 g2 r2 => ?_⟩
  obtain ⟨ds, i, d, rfl, hk, hl, i0, i1, kk⟩ := h2
  obtain ⟨x, y, rfl, rx, ry⟩ := p2 r2
  cases (show Rp G F2 x (.int i) from rx)
  obtain ⟨n0, nF, ws, hw, rw'⟩ := e2.ce k _ a hk (g2 _ _ ha)
  refine ⟨a, ws, i, y, rfl, rfl, hw, by rw [rw'.length, sizeLine_eq]; omega, i0, i1, ?_⟩
  have e3 := e2.write (o := .lst (ws.take i.toNat ++ [y] ++ ws.drop i.toNat)) (c' := .rw (ds.take i.toNat ++ [d] ++ ds.drop i.toNat)) hk (g2 _ _ ha) rfl rfl ⟨n0, nF, _, upd_same, RpAll.append (RpAll.append (rw'.take _) (.one ry)) (rw'.drop _)⟩
  exact q _ _ _ _ _ _ kk e3 (s1.trans s2) (g1.trans g2) Rp.non
end
/-- a point put where it stands -/
def putIn : List Rat → Rat → List Rat
  | [], x => [x]
  | p :: ps, x => if p < x then p :: putIn ps x else if p = x then p :: ps else x :: p :: ps
def c_put_in : Cm (List Rat × Rat) := ⟨fun a => a.1.map encF, fun a => [.d (encF a.2)], fun a => (∀ p ∈ a.1, Sz p) ∧ Sz a.2 ∧ a.1.length ≤ 900000, fun a => (putIn a.1 a.2).map encF⟩
theorem putIn_go {x : Rat} : ∀ {ps : List Rat} {i : Nat}, (∀ p ∈ ps.take i, p < x) → putIn ps x = ps.take i ++ putIn (ps.drop i) x
  | ps, 0, _ => by simp
  | [], i + 1, _ => by simp
  | p :: ps, i + 1, h => by
    have h1 : p < x := h p (by simp)
    have h2 := putIn_go (x := x) (ps := ps) (i := i) fun y hy => h y (by simp [hy])
    show (if p < x then p :: putIn ps x else _) = _
    rw [if_pos h1, h2]
    simp
end L3

set_option Elab.async false
set_option linter.all false
set_option maxRecDepth 100000
set_option maxHeartbeats 4000000
set_option exponentiation.threshold 100
/-! Ends of pieces, what holds a stretch: promises. -/
namespace L3
open PySem PySem.Spec PyProof.Rows L2
def putSpan (ps : List Rat) (s : Rat × Rat) : List Rat := putIn (putIn ps s.1) s.2
def endsOf (pieces : List Piece) : List Rat := pieces.foldl (fun ps p => p.foldl putSpan ps) [0, 1]
def holdsR (p : Piece) (s e : Rat) : Bool := p.any fun t => !decide (s < t.1) && !decide (t.2 < e)
def c_holds : Ct (Piece × Rat × Rat) := ⟨fun a => [.l (encP a.1), .d (encF a.2.1), .d (encF a.2.2)], fun a => Szs a.1 ∧ Sz a.2.1 ∧ Sz a.2.2, fun a => .ret (.d (.bl (holdsR a.1 a.2.1 a.2.2)))⟩
def manyR (pieces : List Piece) : Nat := (pieces.map List.length).sum
def c_ends_of : Ct (List Piece) := ⟨fun a => [.l (encPs a)], fun a => (∀ p ∈ a, Szs p) ∧ manyR a ≤ 400000, fun a => .ret (.own ((endsOf a).map encF))⟩
theorem putIn_mem {x y : Rat} : ∀ {ps : List Rat}, y ∈ putIn ps x ↔ y ∈ ps ∨ y = x
  | [] => by simp [putIn]
  | p :: ps => by
    have ih := putIn_mem (x := x) (y := y) (ps := ps)
    show y ∈ (if p < x then p :: putIn ps x else if p = x then p :: ps else x :: p :: ps) ↔ _
    split
    · rw [List.mem_cons, List.mem_cons, ih, or_assoc]
    · split
      · rename_i h
        rw [List.mem_cons]
        constructor
        · intro z; exact .inl z
        · rintro (z | z)
          · exact z
          · exact .inl (z.trans h.symm)
      · simp only [List.mem_cons]
        constructor
        · rintro (z | z | z)
          · exact .inr z
          · exact .inl (.inl z)
          · exact .inl (.inr z)
        · rintro ((z | z) | z)
          · exact .inr (.inl z)
          · exact .inr (.inr z)
          · exact .inl z
theorem putIn_len (x : Rat) : ∀ ps : List Rat, (putIn ps x).length ≤ ps.length + 1
  | [] => by simp [putIn]
  | p :: ps => by
    have ih := putIn_len x ps
    show (if p < x then p :: putIn ps x else if p = x then p :: ps else x :: p :: ps).length ≤ _
    split
    · simp; omega
    · split
      · simp
      · simp
theorem putIn_up {x : Rat} : ∀ {ps : List Rat}, ps.Pairwise (· < ·) → (putIn ps x).Pairwise (· < ·)
  | [], _ => by simp [putIn]
  | p :: ps, h => by
    rw [List.pairwise_cons] at h
    have ih := putIn_up (x := x) h.2
    show (if p < x then p :: putIn ps x else if p = x then p :: ps else x :: p :: ps).Pairwise _
    split
    · rename_i c
      rw [List.pairwise_cons]
      refine ⟨fun y hy => ?_, ih⟩
      rcases putIn_mem.mp hy with z | z
      · exact h.1 y z
      · rw [z]; exact c
    · split
      · exact List.pairwise_cons.mpr h
      · rw [List.pairwise_cons]
        refine ⟨fun y hy => ?_, List.pairwise_cons.mpr h⟩
        rcases List.mem_cons.mp hy with z | z
        · rw [z]; grind
        · have := h.1 y z; grind
theorem putSpans_mem {y : Rat} : ∀ {p : Piece} {ps : List Rat}, y ∈ p.foldl putSpan ps ↔ y ∈ ps ∨ ∃ s ∈ p, y = s.1 ∨ y = s.2
  | [], ps => by simp
  | s :: p, ps => by
    show y ∈ p.foldl putSpan (putSpan ps s) ↔ _
    rw [putSpans_mem (p := p)]
    unfold putSpan
    rw [putIn_mem, putIn_mem]
    constructor
    · rintro (((z | z) | z) | ⟨t, ht, z⟩)
      · exact .inl z
      · exact .inr ⟨s, List.mem_cons_self, .inl z⟩
      · exact .inr ⟨s, List.mem_cons_self, .inr z⟩
      · exact .inr ⟨t, List.mem_cons_of_mem _ ht, z⟩
    · rintro (z | ⟨t, ht, z⟩)
      · exact .inl (.inl (.inl z))
      · rcases List.mem_cons.mp ht with rfl | ht
        · rcases z with z | z
          · exact .inl (.inl (.inr z))
          · exact .inl (.inr z)
        · exact .inr ⟨t, ht, z⟩
theorem putSpans_up : ∀ {p : Piece} {ps : List Rat}, ps.Pairwise (· < ·) → (p.foldl putSpan ps).Pairwise (· < ·)
  | [], _, h => h
  | s :: p, ps, h => putSpans_up (p := p) (putIn_up (putIn_up h))
theorem putSpans_len : ∀ (p : Piece) (ps : List Rat), (p.foldl putSpan ps).length ≤ ps.length + 2 * p.length
  | [], ps => by simp
  | s :: p, ps => by
    have h := putSpans_len p (putSpan ps s)
    have h1 := putIn_len s.1 ps
    have h2 := putIn_len s.2 (putIn ps s.1)
    show (p.foldl putSpan (putSpan ps s)).length ≤ _
    unfold putSpan at h ⊢
    simp only [List.length_cons]
    omega
section
variable {G : Gx} {F0 H0 : Hp} {ρ : Ro} {μ : Mu} {R : RE} {X : Ex} {E : XK}
theorem ca_holds {p : Piece} {s e : Rat} {u : U} (hl : IsL μ u (encP p)) (hp : Szs p) (h1 : Sz s) (h2 : Sz e) (k : R (.d (.bl (holdsR p s e))) μ) : Call [u, .d (encF s), .d (encF e)] c_holds R μ H0 X E := ⟨(p, s, e), .cons (.l hl) (.cons (.d _) (.cons (.d _) .nil)), ⟨hp, h1, h2⟩, k⟩
theorem ca_ends {ps : List Piece} {u : U} (hl : IsL μ u (encPs ps)) (h1 : ∀ p ∈ ps, Szs p) (h2 : manyR ps ≤ 400000) (k : R (.p μ.length) (μ ++ [.rw ((endsOf ps).map encF)])) : Call [u] c_ends_of R μ H0 X E := ⟨ps, .cons (.l hl) .nil, ⟨h1, h2⟩, k⟩
end
theorem manyR_take {ps : List Piece} {i : Nat} {p : Piece} (h : ps[i]? = some p) : manyR (ps.take (i + 1)) = manyR (ps.take i) + p.length := by
  unfold manyR
  rw [List.take_add_one, h]
  simp
theorem manyR_le : ∀ (ps : List Piece) (i : Nat), manyR (ps.take i) ≤ manyR ps
  | [], i => by simp [manyR]
  | p :: ps, 0 => by simp [manyR]
  | p :: ps, i + 1 => by
    have := manyR_le ps i
    simp only [manyR, List.take_succ_cons, List.map_cons, List.sum_cons] at this ⊢
    omega
theorem putIn_sz {x : Rat} {ps : List Rat} (h : ∀ y ∈ ps, Sz y) (hx : Sz x) : ∀ y ∈ putIn ps x, Sz y := fun y hy => by
  rcases putIn_mem.mp hy with z | z
  · exact h y z
  · rw [z]; exact hx
theorem put_arg {a : List Rat × Rat} {y : Arg} (hy : y ∈ c_put_in.args a) : ∃ d, y = .d d := ⟨_, by simpa [c_put_in] using hy⟩
end L3

set_option Elab.async false
set_option linter.all false
set_option maxRecDepth 100000
set_option maxHeartbeats 4000000
set_option exponentiation.threshold 100
/-! list.count of data. -/
namespace L3
open PySem PySem.Spec PyProof.Rows L2
def rCountD (K : PySem.W.Frag) : V → List V → Hp → VK → Prop := fun x xs H Q => ∃ (a : Addr) (y : V) (d : PyData) (ds : List PyData), x = V.ref a ∧ xs = [y] ∧ Dp K H (V.ref a) (.list ds) ∧ Dp K H y d ∧
  SeqAt.shaped (.list ds) = true ∧ SeqAt.shaped d = true ∧ Q (.int ((ds.countP fun z => PyData.eqv z d) : Nat)) H
theorem mt_countD {X : Cx} (hu : X.A.units + 65 < cLine) : MtR X "list.count" (rCountD X.K) := by
  intro pins s σ H x xs v us Q I rx rxs h
  obtain ⟨a, y, d, ds, rfl, rfl, hl, hy, sl, sd, q⟩ := h
  cases rx
  cases rxs with
  | cons ry rt =>
    rename_i uy ut
    cases rt
    obtain ⟨bs, r1⟩ := Dp.reads I d y uy hy ry
    have hxs : PyData.canLayAll0 ds = true := SeqAt.canLay_of_shaped sl
    have hroom : X.A.units + 1 + min (PyData.depthAll ds) d.depth < cLine := room_in_shaped sd hu
    cases hl with
    | lst hs ha =>
      obtain ⟨its, rv, ⟨⟨cls, dd, data, sls⟩, n, ho, hc, hdn, hdt⟩, hlen⟩ := I.list hs
      simp only at hc hdt
      subst hc hdt
      obtain ⟨as, h4⟩ := Dp.readsAll I ds _ its ha rv
      have hmap : its.map (SeqAt.readOf s.heap) = ds := SeqAt.readsAll_map ds its as hxs h4
      refine call_meets PySem.F.slot_list_count ⟨_, ho, rfl⟩ PySem.F.entry_list_count (PySem.F.args_list_count_2 _ _)
        (SeqAt.list_countAt a its.toArray n dd sls uy (fun u => PyData.eqv (SeqAt.readOf s.heap u) d)) ⟨ho, SeqAt.items_eqAt (vs := its.toArray) (show ReadsAll s.heap its.toArray.toList ds as from h4) r1 hxs (SeqAt.canLay_of_shaped sd) hroom, ?_⟩
      have ec : its.toArray.toList.countP (fun u => PyData.eqv (SeqAt.readOf s.heap u) d) = ds.countP fun z => PyData.eqv z d := by
        rw [← hmap, List.countP_map]
        rfl
      refine ⟨.int ((ds.countP fun z => PyData.eqv z d) : Nat), H, I.tok _, ⟨s.toks, ?_⟩, q⟩
      show Value.int ((its.toArray.toList.countP _ : Nat) : Int) s.toks = Value.int _ s.toks
      rw [ec]
section
variable {G : Gx} {F0 H0 : Hp} {ρ : Ro} {μ : Mu} {R : RE}
theorem pys_countP {e' : D} {m : Nat} (h2 : sh e' m = true) : ∀ {ds : List D} {n : Nat}, shs ds n = true → (D.pys ds).countP (fun z => PyData.eqv z e'.py) = ds.countP fun z => eqD z e'
  | [], _, _ => rfl
  | d :: ds, n, h => by
    have h' : (sh d n && shs ds n) = true := h
    rw [Bool.and_eq_true] at h'
    have ih := pys_countP h2 (ds := ds) h'.2
    show (d.py :: D.pys ds).countP _ = _
    rw [List.countP_cons, List.countP_cons, ih, eqD_py d e' n m h'.1 h2]
theorem wE_count {to : TE} {t : TA} (h : wE G F0 H0 to ρ μ fun x μ1 => ∃ k0 ds0, x = .p k0 ∧ μ1[k0]? = some (.rw ds0) ∧ wA G F0 H0 t ρ μ1 fun us μ2 => ∃ ds d n m, us = [.d d] ∧ μ2[k0]? = some (.rw ds) ∧ n + 1 ≤ 64 ∧ m ≤ 64 ∧ shs ds n = true ∧ sh d m = true ∧ R (.d (.int ((ds.countP fun z => eqD z d : Nat)))) μ2) :
    wE G F0 H0 (tBM G.K "list" (rCountD G.K) to t) ρ μ R := fun F H as σ Q e q => by
  refine h F H as σ _ e fun u μ1 v F1 H1 as1 h1 e1 s1 g1 r1 => ?_
  obtain ⟨k, ds0, rfl, hk0, h1⟩ := h1
  obtain ⟨a, rfl, ha⟩ := r1
  obtain ⟨_, _, vs0, hv0, _⟩ := e1.ce k _ a hk0 ha
  refine ⟨.inl ⟨rfl, vs0, .of hv0⟩, h1 F1 H1 as1 σ _ e1 fun us μ2 vs F2 H2 as2 h2 e2 s2 g2 r2 => ?_⟩
  obtain ⟨ds, d, n, m, rfl, hk, hn, hm, hsh, hsd, kk⟩ := h2
  obtain ⟨y, rfl, ry⟩ := p1 r2
  obtain ⟨n0, nF, ws, hw, rw'⟩ := e2.ce k _ a hk (g2 _ _ ha)
  have hsl : sh (.lst ds) (n + 1) = true := hsh
  refine ⟨a, y, d.py, D.pys ds, rfl, rfl, .lst (.of hw) (shs_dp e2.bs.fh ds n ws hsh rw'), sh_dp e2.bs.fh d m y hsd ry, sh_shaped hsl hn, sh_shaped hsd hm, ?_⟩
  rw [pys_countP hsd hsh]
  exact q _ _ _ _ _ _ kk e2 (s1.trans s2) (g1.trans g2) (Rp.int _)
end
theorem kCountD {X : Cx} {K : PySem.W.Frag} (h : X.K = K) (hu : X.A.units + 65 < cLine) : MtR X "list.count" (rCountD K) := by subst h; exact mt_countD hu
/-! ### deals -/
def onceAt (a : List Piece) (n : Nat) : Bool := a.countP (fun p => holdsR p ((endsOf a).getD n 0) ((endsOf a).getD (n + 1) 0)) == 1
def dealsR (a : List Piece) : Bool := (List.range ((endsOf a).length - 1)).all (onceAt a)
def c_deals : Ct (List Piece) := ⟨fun a => [.l (encPs a)], fun a => (∀ p ∈ a, FitP p) ∧ manyR a ≤ 400000 ∧ a.length ≤ 400000, fun a => .ret (.d (.bl (dealsR a)))⟩
theorem endsOf_sz {a : List Piece} (h : ∀ p ∈ a, Szs p) : ∀ x ∈ endsOf a, Sz x := by
  have go : ∀ (l : List Piece) (f : List Rat), (∀ p ∈ l, Szs p) → (∀ x ∈ f, Sz x) → ∀ x ∈ l.foldl (fun ps p => p.foldl putSpan ps) f, Sz x := by
    intro l
    induction l with
    | nil => intro f _ hf; exact hf
    | cons p l ih =>
      intro f hl hf
      refine ih _ (fun q hq => hl q (List.mem_cons_of_mem _ hq)) fun x hx => ?_
      rcases putSpans_mem.mp hx with z | ⟨s, hs, z⟩
      · exact hf x z
      · have y := hl p List.mem_cons_self s hs
        rcases z with rfl | rfl
        · exact y.1
        · exact y.2
  refine go a [0, 1] h fun x hx => ?_
  rcases List.mem_cons.mp hx with rfl | hx
  · exact pt0.sz
  · have : x = 1 := by simpa using hx
    rw [this]; exact pt1.sz
theorem endsOf_len (a : List Piece) : (endsOf a).length ≤ 2 + 2 * manyR a := by
  have go : ∀ (l : List Piece) (f : List Rat), (l.foldl (fun ps p => p.foldl putSpan ps) f).length ≤ f.length + 2 * manyR l := by
    intro l
    induction l with
    | nil => intro f; simp
    | cons p l ih =>
      intro f
      have h1 := ih (p.foldl putSpan f)
      have h2 := putSpans_len p f
      show (l.foldl _ (p.foldl putSpan f)).length ≤ _
      simp only [manyR, List.map_cons, List.sum_cons] at h1 ⊢
      omega
  exact go a [0, 1]
theorem ca_deals {ps : List Piece} {u : U} {μ : Mu} {R : RE} {H0 : Hp} {X : Ex} {E : XK} (hl : IsL μ u (encPs ps)) (h1 : ∀ p ∈ ps, FitP p) (h2 : manyR ps ≤ 400000) (h3 : ps.length ≤ 400000) (k : R (.d (.bl (dealsR ps))) μ) : Call [u] c_deals R μ H0 X E := ⟨ps, .cons (.l hl) .nil, ⟨h1, h2, h3⟩, k⟩
/-- any data as a piece: does it hold -/
def holdsD (s e : Rat) (d : D) : D := match pieceOf d with
  | some p => .bl (holdsR p s e)
  | none => .non
theorem holdsD_enc {s e : Rat} {p : Piece} (hp : IsPiece p) : holdsD s e (.lst (encP p)) = .bl (holdsR p s e) := by
  unfold holdsD
  rw [pieceOf_enc hp]
theorem holdsD_map {s e : Rat} {ps : List Piece} (h : ∀ p ∈ ps, IsPiece p) : (encPs ps).map (holdsD s e) = ps.map fun p => .bl (holdsR p s e) := by
  unfold encPs
  rw [List.map_map]
  exact List.map_congr_left fun p hp => holdsD_enc (h p hp)
theorem count_bl (ps : List Piece) (s e : Rat) : (ps.map fun p => D.bl (holdsR p s e)).countP (fun z => eqD z (.bl true)) = ps.countP fun p => holdsR p s e := by
  rw [List.countP_map]
  congr 1
  funext p
  show eqD (.bl (holdsR p s e)) (.bl true) = holdsR p s e
  rw [eqD_bl]
  cases holdsR p s e <;> rfl
theorem room65 {k : Nat} {A : Around} (r : Room k A) : A.units + 65 < cLine := by have := r.un; omega
end L3

set_option Elab.async false
set_option linter.all false
set_option maxRecDepth 100000
set_option maxHeartbeats 4000000
set_option exponentiation.threshold 100
/-! Pieces of small stretches on a grid: runs. -/
namespace L3
open PySem PySem.Spec PyProof.Rows L2
/-- the runs of the wanted small stretches -/
def runsR (N : Int) (b : Nat → Bool) : Nat → Piece
  | 0 => []
  | k + 1 => if b k = true then addSpan (runsR N b k) (Rat.divInt k N, Rat.divInt (k + 1) N) else runsR N b k
theorem runs_ok {N : Int} (hN : 0 < N) (b : Nat → Bool) : ∀ k : Nat, UpTo N.toNat (Rat.divInt k N) k (runsR N b k)
  | 0 => ⟨(fun _ h => by cases h), trivial, (fun _ h => by cases h), Nat.le_refl _⟩
  | k + 1 => by
    have ih := runs_ok hN b k
    have lt : Rat.divInt (k : Int) N < Rat.divInt ((k : Int) + 1) N := divInt_lt hN (by omega)
    have ec : ((k + 1 : Nat) : Int) = (k : Int) + 1 := by simp
    rw [ec]
    show UpTo _ _ _ (if b k = true then addSpan (runsR N b k) (Rat.divInt k N, Rat.divInt (k + 1) N) else runsR N b k)
    split
    · exact UpTo.add ih (divInt_nn (by omega) hN) lt (gr_div hN) (gr_div hN)
    · exact ih.mono (Rat.le_of_lt lt) (Nat.le_succ _)
theorem runs_fit {N : Nat} (h0 : 0 < N) (h1 : N ≤ 1000) (b : Nat → Bool) : FitP (runsR N b N) := by
  have h := runs_ok (N := (N : Int)) (by omega) b N
  refine h.fit ?_ (by omega) (by omega) (by omega)
  rw [divInt_self1 (by omega)]
  grind
/-- a small stretch lies in a span of the piece -/
def InP (N : Int) (p : Piece) (m : Nat) : Prop := ∃ s ∈ p, s.1 ≤ Rat.divInt m N ∧ Rat.divInt (m + 1) N ≤ s.2
theorem divInt_le2 {a b p : Int} (hp : 0 < p) : Rat.divInt a p ≤ Rat.divInt b p ↔ a ≤ b := by
  constructor
  · intro h
    by_cases c : a ≤ b
    · exact c
    · have := divInt_lt hp (by omega : b < a)
      grind
  · intro h
    by_cases e : a = b
    · rw [e]; grind
    · exact Rat.le_of_lt (divInt_lt hp (by omega))
theorem inP_add {N : Int} (hN : 0 < N) {p : Piece} {k : Nat} (h : UpTo N.toNat (Rat.divInt k N) k p) {m : Nat} : InP N (addSpan p (Rat.divInt k N, Rat.divInt (k + 1) N)) m ↔ InP N p m ∨ m = k := by
  have new : ∀ {s : Rat}, s ≤ Rat.divInt m N → Rat.divInt (m + 1) N ≤ Rat.divInt (k + 1) N → (m < k ∨ m = k) := fun {s} _ h2 => by
    have := (divInt_le2 hN).mp h2
    omega
  cases hq : p.getLast? with
  | none =>
    have hpn : p = [] := List.getLast?_eq_none_iff.mp hq
    subst hpn
    rw [addSpan_nil]
    constructor
    · rintro ⟨s, hs, h1, h2⟩
      have : s = (Rat.divInt k N, Rat.divInt (k + 1) N) := by simpa using hs
      rw [this] at h1 h2
      have a := (divInt_le2 hN).mp h1
      have c := (divInt_le2 hN).mp h2
      exact .inr (by omega)
    · rintro (⟨s, hs, _⟩ | rfl)
      · cases hs
      · exact ⟨_, List.mem_cons_self, by show Rat.divInt _ _ ≤ _; grind, by show _ ≤ Rat.divInt _ _; grind⟩
  | some l =>
    have hpe := snoc_last hq
    have hlm : l ∈ p := List.mem_of_getLast? hq
    by_cases c : l.2 = Rat.divInt k N
    · rw [addSpan_same hq c]
      constructor
      · rintro ⟨s, hs, h1, h2⟩
        rcases List.mem_append.mp hs with hs | hs
        · exact .inl ⟨s, by rw [hpe]; exact List.mem_append_left _ hs, h1, h2⟩
        · have : s = (l.1, Rat.divInt (k + 1) N) := by simpa using hs
          rw [this] at h1 h2
          have z := (divInt_le2 hN).mp h2
          by_cases mk : m = k
          · exact .inr mk
          · refine .inl ⟨l, hlm, h1, ?_⟩
            rw [c]
            exact (divInt_le2 hN).mpr (by omega)
      · rintro (⟨s, hs, h1, h2⟩ | rfl)
        · rw [hpe] at hs
          rcases List.mem_append.mp hs with hs | hs
          · exact ⟨s, List.mem_append_left _ hs, h1, h2⟩
          · have : s = l := by simpa using hs
            rw [this] at h1 h2
            refine ⟨_, List.mem_append_right _ List.mem_cons_self, h1, ?_⟩
            rw [c] at h2
            have z := (divInt_le2 hN).mp h2
            exact (divInt_le2 hN).mpr (by omega)
        · have z := h.is l hlm
          refine ⟨_, List.mem_append_right _ List.mem_cons_self, ?_, ?_⟩
          · show l.1 ≤ Rat.divInt _ _
            grind
          · show _ ≤ Rat.divInt _ _
            grind
    · rw [addSpan_new hq c]
      constructor
      · rintro ⟨s, hs, h1, h2⟩
        rcases List.mem_append.mp hs with hs | hs
        · exact .inl ⟨s, hs, h1, h2⟩
        · have : s = (Rat.divInt k N, Rat.divInt (k + 1) N) := by simpa using hs
          rw [this] at h1 h2
          have a := (divInt_le2 hN).mp h1
          have c := (divInt_le2 hN).mp h2
          exact .inr (by omega)
      · rintro (⟨s, hs, h1, h2⟩ | rfl)
        · exact ⟨s, List.mem_append_left _ hs, h1, h2⟩
        · exact ⟨_, List.mem_append_right _ List.mem_cons_self, by show Rat.divInt _ _ ≤ _; grind, by show _ ≤ Rat.divInt _ _; grind⟩
theorem runs_in {N : Int} (hN : 0 < N) (b : Nat → Bool) {m : Nat} : ∀ k : Nat, InP N (runsR N b k) m ↔ m < k ∧ b m = true
  | 0 => ⟨(fun ⟨_, h, _⟩ => by cases h), (fun h => absurd h.1 (Nat.not_lt_zero _))⟩
  | k + 1 => by
    have ih := runs_in hN b (m := m) k
    show InP N (if b k = true then addSpan (runsR N b k) (Rat.divInt k N, Rat.divInt (k + 1) N) else runsR N b k) m ↔ _
    split
    · rename_i c
      rw [inP_add hN (runs_ok hN b k), ih]
      constructor
      · rintro (z | rfl)
        · exact ⟨by omega, z.2⟩
        · exact ⟨by omega, c⟩
      · rintro ⟨z1, z2⟩
        by_cases e : m = k
        · exact .inr e
        · exact .inl ⟨by omega, z2⟩
    · rename_i c
      rw [ih]
      constructor
      · rintro ⟨z1, z2⟩; exact ⟨by omega, z2⟩
      · rintro ⟨z1, z2⟩
        refine ⟨?_, z2⟩
        by_cases e : m = k
        · rw [e] at z2; exact absurd z2 c
        · omega
end L3
namespace L3
open PySem PySem.Spec PyProof.Rows L2
/-! ### neighbouring points -/
theorem nb_of {x : Rat} : ∀ {l : List Rat} {a : Rat}, (a :: l).Pairwise (· < ·) → a ≤ x → (∃ y ∈ l, x < y) → ∃ n : Nat, n + 1 < (a :: l).length ∧ (a :: l).getD n 0 ≤ x ∧ x < (a :: l).getD (n + 1) 0
  | [], _, _, _, ⟨_, h, _⟩ => by cases h
  | b :: l, a, hp, ha, ⟨y, hy, hxy⟩ => by
    rw [List.pairwise_cons] at hp
    by_cases c : x < b
    · exact ⟨0, by simp, ha, c⟩
    · have hy' : ∃ y ∈ l, x < y := by
        rcases List.mem_cons.mp hy with rfl | hy
        · exact absurd hxy c
        · exact ⟨y, hy, hxy⟩
      obtain ⟨n, h1, h2, h3⟩ := nb_of hp.2 (Rat.not_lt.mp c) hy'
      exact ⟨n + 1, by simp at h1 ⊢; omega, h2, h3⟩
theorem nb_gap {l : List Rat} (hp : l.Pairwise (· < ·)) {n : Nat} (hn : n + 1 < l.length) {y : Rat} (hy : y ∈ l) : y ≤ l.getD n 0 ∨ l.getD (n + 1) 0 ≤ y := by
  obtain ⟨i, hi, rfl⟩ := List.getElem_of_mem hy
  have e1 : l.getD n 0 = l[n] := by rw [List.getD_eq_getElem?_getD, List.getElem?_eq_getElem (by omega)]; rfl
  have e2 : l.getD (n + 1) 0 = l[n + 1] := by rw [List.getD_eq_getElem?_getD, List.getElem?_eq_getElem hn]; rfl
  rw [e1, e2]
  rw [List.pairwise_iff_getElem] at hp
  rcases Nat.lt_trichotomy i n with h | h | h
  · exact .inl (Rat.le_of_lt (hp i n hi (by omega) h))
  · subst h; left; grind
  · by_cases e : i = n + 1
    · subst e; right; grind
    · exact .inr (Rat.le_of_lt (hp (n + 1) i hn hi (by omega)))
theorem endsOf_up (a : List Piece) : (endsOf a).Pairwise (· < ·) := by
  have go : ∀ (l : List Piece) (f : List Rat), f.Pairwise (· < ·) → (l.foldl (fun ps p => p.foldl putSpan ps) f).Pairwise (· < ·) := by
    intro l
    induction l with
    | nil => intro f h; exact h
    | cons p l ih => intro f h; exact ih _ (putSpans_up h)
  refine go a [0, 1] ?_
  rw [List.pairwise_cons]
  exact ⟨fun y hy => by have : y = 1 := by simpa using hy
                        rw [this]; decide, by simp⟩
theorem endsOf_mem {a : List Piece} {y : Rat} : y ∈ endsOf a ↔ y = 0 ∨ y = 1 ∨ ∃ p ∈ a, ∃ s ∈ p, y = s.1 ∨ y = s.2 := by
  have go : ∀ (l : List Piece) (f : List Rat), y ∈ l.foldl (fun ps p => p.foldl putSpan ps) f ↔ y ∈ f ∨ ∃ p ∈ l, ∃ s ∈ p, y = s.1 ∨ y = s.2 := by
    intro l
    induction l with
    | nil => intro f; simp
    | cons p l ih =>
      intro f
      show y ∈ l.foldl _ (p.foldl putSpan f) ↔ _
      rw [ih, putSpans_mem]
      constructor
      · rintro ((z | z) | ⟨q, hq, z⟩)
        · exact .inl z
        · exact .inr ⟨p, List.mem_cons_self, z⟩
        · exact .inr ⟨q, List.mem_cons_of_mem _ hq, z⟩
      · rintro (z | ⟨q, hq, z⟩)
        · exact .inl (.inl z)
        · rcases List.mem_cons.mp hq with rfl | hq
          · exact .inl (.inr z)
          · exact .inr ⟨q, hq, z⟩
  have := go a [0, 1]
  unfold endsOf
  rw [this]
  simp [or_assoc]
end L3
namespace L3
open PySem PySem.Spec PyProof.Rows L2
def OnN (N : Nat) (a : List Piece) : Prop := ∀ p ∈ a, ∀ s ∈ p, Gr N s.1 ∧ Gr N s.2
theorem endsOf_gr {N : Nat} {a : List Piece} (h : OnN N a) {y : Rat} (hy : y ∈ endsOf a) : Gr N y := by
  rcases endsOf_mem.mp hy with rfl | rfl | ⟨p, hp, s, hs, z⟩
  · exact Gr.zero
  · exact Gr.one _
  · have := h p hp s hs
    rcases z with rfl | rfl
    · exact this.1
    · exact this.2
theorem gr_step {N : Nat} (hN : 0 < N) {e : Rat} (ge : Gr N e) {m : Nat} (h : Rat.divInt m (N : Int) < e) : Rat.divInt (m + 1) (N : Int) ≤ e := by
  obtain ⟨k, hk⟩ := ge
  have hN' : (0 : Int) < (N : Int) := by omega
  have hq : (0 : Rat) < (N : Rat) := by exact_mod_cast hN
  have ee : e = Rat.divInt k (N : Int) := by
    rw [Rat.divInt_eq_div, int_nat, ← hk]
    have : (N : Rat) ≠ 0 := by grind
    grind
  rw [ee] at h ⊢
  have h2 : (m : Int) < k := by
    by_cases c : (m : Int) < k
    · exact c
    · have := (divInt_le2 hN').mpr (by omega : k ≤ (m : Int))
      grind
  exact (divInt_le2 hN').mpr (by omega)
theorem holds_in {N : Nat} (hN : 0 < N) {a : List Piece} (hg : OnN N a) {n m : Nat} (hn : n + 1 < (endsOf a).length) (h1 : (endsOf a).getD n 0 ≤ Rat.divInt m (N : Int)) (h2 : Rat.divInt m (N : Int) < (endsOf a).getD (n + 1) 0) {p : Piece} (hp : p ∈ a) :
    holdsR p ((endsOf a).getD n 0) ((endsOf a).getD (n + 1) 0) = true ↔ InP (N : Int) p m := by
  have up := endsOf_up a
  have he := gr_step hN (endsOf_gr hg (List.mem_of_getElem? (getD_at (d := 0) hn))) h2
  have hm1 : Rat.divInt (m : Int) (N : Int) < Rat.divInt (m + 1) (N : Int) := divInt_lt (by omega) (by omega)
  unfold holdsR InP
  rw [List.any_eq_true]
  constructor
  · rintro ⟨t, ht, hh⟩
    rw [Bool.and_eq_true, Bool.not_eq_true', Bool.not_eq_true', decide_eq_false_iff_not, decide_eq_false_iff_not] at hh
    exact ⟨t, ht, by have := hh.1; grind, by have := hh.2; grind⟩
  · rintro ⟨t, ht, g1, g2⟩
    have i1 : t.1 ∈ endsOf a := endsOf_mem.mpr (.inr (.inr ⟨p, hp, t, ht, .inl rfl⟩))
    have i2 : t.2 ∈ endsOf a := endsOf_mem.mpr (.inr (.inr ⟨p, hp, t, ht, .inr rfl⟩))
    have n1 := nb_gap up hn i1
    have n2 := nb_gap up hn i2
    refine ⟨t, ht, ?_⟩
    rw [Bool.and_eq_true, Bool.not_eq_true', Bool.not_eq_true', decide_eq_false_iff_not, decide_eq_false_iff_not]
    constructor
    · rcases n1 with z | z <;> grind
    · rcases n2 with z | z <;> grind
/-- each small stretch lies between two neighbours -/
theorem ends_nb {N : Nat} (hN : 0 < N) {a : List Piece} (h0 : ∀ p ∈ a, ∀ s ∈ p, 0 ≤ s.1 ∧ s.1 < s.2) {m : Nat} (hm : m < N) : ∃ n : Nat, n + 1 < (endsOf a).length ∧ (endsOf a).getD n 0 ≤ Rat.divInt m (N : Int) ∧ Rat.divInt m (N : Int) < (endsOf a).getD (n + 1) 0 := by
  have up := endsOf_up a
  have i0 : (0 : Rat) ∈ endsOf a := endsOf_mem.mpr (.inl rfl)
  have i1 : (1 : Rat) ∈ endsOf a := endsOf_mem.mpr (.inr (.inl rfl))
  have mn : 0 ≤ Rat.divInt (m : Int) (N : Int) := divInt_nn (by omega) (by omega)
  have m1 : Rat.divInt (m : Int) (N : Int) < 1 := by
    rw [← divInt_self1 (p := (N : Int)) (by omega)]
    exact divInt_lt (by omega) (by omega)
  cases e : endsOf a with
  | nil => rw [e] at i0; cases i0
  | cons x l =>
    rw [e] at up i0 i1
    have hx : x ≤ 0 := by
      rcases List.mem_cons.mp i0 with z | z
      · rw [← z]; grind
      · have := (List.pairwise_cons.mp up).1 0 z; grind
    refine nb_of up (by grind) ?_
    rcases List.mem_cons.mp i1 with z | z
    · grind
    · exact ⟨1, z, m1⟩
/-- THE LAW OF deals on a grid -/
theorem deals_grid {N : Nat} (hN : 0 < N) {a : List Piece} (hg : OnN N a) (h0 : ∀ p ∈ a, ∀ s ∈ p, 0 ≤ s.1 ∧ s.1 < s.2 ∧ s.2 ≤ 1) (c : Nat → Nat) (hc : ∀ m, m < N → ∀ n, n + 1 < (endsOf a).length → (endsOf a).getD n 0 ≤ Rat.divInt m (N : Int) → Rat.divInt m (N : Int) < (endsOf a).getD (n + 1) 0 →
    a.countP (fun p => holdsR p ((endsOf a).getD n 0) ((endsOf a).getD (n + 1) 0)) = c m) : dealsR a = true ↔ ∀ m, m < N → c m = 1 := by
  unfold dealsR
  rw [List.all_eq_true]
  constructor
  · intro h m hm
    obtain ⟨n, n1, n2, n3⟩ := ends_nb hN (fun p hp s hs => ⟨(h0 p hp s hs).1, (h0 p hp s hs).2.1⟩) hm
    have := h n (List.mem_range.mpr (by omega))
    rw [← hc m hm n n1 n2 n3]
    exact beq_iff_eq.mp this
  · intro h n hn
    have hn' := List.mem_range.mp hn
    have up := endsOf_up a
    have hn1 : n + 1 < (endsOf a).length := by omega
    have p1 := getD_at (d := 0) (show n < (endsOf a).length by omega)
    have p2 := getD_at (d := 0) hn1
    have i1 := List.mem_of_getElem? p1
    have i2 := List.mem_of_getElem? p2
    have lt : (endsOf a).getD n 0 < (endsOf a).getD (n + 1) 0 := by
      have e1 : (endsOf a).getD n 0 = (endsOf a)[n] := by rw [List.getD_eq_getElem?_getD, List.getElem?_eq_getElem (by omega)]; rfl
      have e2 : (endsOf a).getD (n + 1) 0 = (endsOf a)[n + 1] := by rw [List.getD_eq_getElem?_getD, List.getElem?_eq_getElem hn1]; rfl
      rw [e1, e2]
      exact (List.pairwise_iff_getElem.mp up) n (n + 1) (by omega) hn1 (by omega)
    have b0 : ∀ y ∈ endsOf a, 0 ≤ y ∧ y ≤ 1 := fun y hy => by
      rcases endsOf_mem.mp hy with rfl | rfl | ⟨p, hp, s, hs, z⟩
      · constructor <;> grind
      · constructor <;> grind
      · have := h0 p hp s hs
        rcases z with rfl | rfl <;> constructor <;> grind
    obtain ⟨k, hk⟩ := endsOf_gr hg i1
    have hq : (0 : Rat) < (N : Rat) := by exact_mod_cast hN
    have ee : (endsOf a).getD n 0 = Rat.divInt k (N : Int) := by
      rw [Rat.divInt_eq_div, int_nat, ← hk]
      have : (N : Rat) ≠ 0 := by grind
      grind
    have k0 : 0 ≤ k := by
      have := (b0 _ i1).1
      rw [ee] at this
      have e0 : (0 : Rat) = Rat.divInt 0 (N : Int) := by simp
      rw [e0] at this
      exact (divInt_le2 (by omega)).mp this
    obtain ⟨m, rfl⟩ := Int.eq_ofNat_of_zero_le k0
    have mN : m < N := by
      have z1 := (b0 _ i2).2
      have z2 : Rat.divInt (m : Int) (N : Int) < 1 := by rw [← ee]; grind
      by_cases cc : m < N
      · exact cc
      · have := (divInt_le2 (p := (N : Int)) (by omega)).mpr (by omega : (N : Int) ≤ (m : Int))
        rw [divInt_self1 (by omega)] at this
        grind
    have := hc m mN n hn1 (by rw [ee]; grind) (by rw [← ee]; exact lt)
    unfold onceAt
    rw [this, h m mN]
    rfl
end L3

set_option Elab.async false
set_option linter.all false
set_option maxRecDepth 100000
set_option maxHeartbeats 4000000
set_option exponentiation.threshold 100
/-! k13: what is given out, by draws. -/
namespace L3
open PySem PySem.Spec PyProof.Rows L2
def encI (ts : List Int) : D := .lst (ts.map D.int)
def encG (gs : List (List Int)) : List D := gs.map encI
def c__law_given : Cr (List Int × Int × Int) := ⟨fun a => [.l (a.1.map D.int), .d (.int a.2.1), .d (.int a.2.2)], fun a => 2 ≤ a.2.1 ∧ a.2.1 ≤ 7 ∧ 1 ≤ a.2.2 ∧ a.2.2 ≤ 4,
  fun a o => ∃ gs : List (List Int), gs.length = (2 * a.2.1).toNat ∧ o = .ret (.own (encG gs))⟩
/-- who has the small stretch -/
def hasAt (gs : List (List Int)) (t : Int) (k : Nat) : Bool := decide (t ∈ gs.getD k [])
def c__law_piece_of : Ct (List (List Int) × Int) := ⟨fun a => [.l (encG a.1), .d (.int a.2)], fun a => 0 < a.1.length ∧ a.1.length ≤ 1000, fun a => .ret (.own (encP (runsR (a.1.length : Int) (hasAt a.1 a.2) a.1.length)))⟩
theorem at_gone {μ : Mu} {n : Nat} {x c : Cell} (h : μ[n]? = some c) : ((μ ++ [x]).set μ.length .gone)[n]? = some c := by
  have hl := (List.getElem?_eq_some_iff.mp h).1
  rw [List.getElem?_set_ne (by omega)]
  exact at_ext h
/-- a value that is a list of one's own, stored: made data first -/
theorem wG_frz {G : Gx} {F0 H0 : Hp} {g : TG} {u : U} {ρ : Ro} {μ : Mu} {R : Ro → Mu → Prop} (h : ∃ j es, u = .p j ∧ μ[j]? = some (.rw es) ∧ wG G F0 H0 g (.d (.lst es)) ρ (μ.set j .gone) R) : wG G F0 H0 g u ρ μ R := fun F H as σ v Q e r q => by
  obtain ⟨j, es, rfl, hj, h⟩ := h
  obtain ⟨a, rfl, ha⟩ := r
  obtain ⟨F2, s2, r2, e2⟩ := e.freeze hj ha
  exact h F2 H as σ (.ref a) Q e2 r2 (q.on s2 .refl)
def rIsBl : R2 := fun x y H Q => ∃ a b : Bool, x = .bl a ∧ y = .bl b ∧ Q (.bl (decide (a = b))) H
theorem kIsB {X : Cx} : OpR X (compareOp .Is) rIsBl := op_isBl
theorem w2_isB {G : Gx} {F0 H0 : Hp} {ρ : Ro} {μ : Mu} {R : RE} {a b : Bool} (k : R (.d (.bl (decide (a = b)))) μ) : w2 G F0 H0 rIsBl (.d (.bl a)) (.d (.bl b)) ρ μ R := fun F H as σ v1 v2 Q e r1 r2 q => by
  cases r1
  cases r2
  exact ⟨a, b, rfl, rfl, q _ _ _ _ _ _ k e (.refl _) .refl (Rp.bl _)⟩
/-! ### runs of whole numbers -/
abbrev PieceI := List (Int × Int)
def addI (p : PieceI) (s : Int × Int) : PieceI := match p.getLast? with
  | none => [s]
  | some l => if l.2 = s.1 then p.dropLast ++ [(l.1, s.2)] else p ++ [s]
def runsI (b : Nat → Bool) : Nat → PieceI
  | 0 => []
  | k + 1 => if b k = true then addI (runsI b k) ((k : Int), (k : Int) + 1) else runsI b k
def toS (N : Int) (s : Int × Int) : Rat × Rat := (Rat.divInt s.1 N, Rat.divInt s.2 N)
def encII (s : Int × Int) : D := .tup [.int s.1, .int s.2]
theorem addI_nil (s : Int × Int) : addI [] s = [s] := rfl
theorem addI_same {p : PieceI} {l s : Int × Int} (h : p.getLast? = some l) (e : l.2 = s.1) : addI p s = p.dropLast ++ [(l.1, s.2)] := by
  unfold addI
  rw [h]
  exact if_pos e
theorem addI_new {p : PieceI} {l s : Int × Int} (h : p.getLast? = some l) (e : ¬ l.2 = s.1) : addI p s = p ++ [s] := by
  unfold addI
  rw [h]
  exact if_neg e
theorem snocI_last {p : PieceI} {l : Int × Int} (e : p.getLast? = some l) : p = p.dropLast ++ [l] := by
  have hne : p ≠ [] := by intro z; subst z; cases e
  have := List.dropLast_concat_getLast hne
  rw [List.getLast?_eq_some_getLast hne] at e
  cases e
  exact this.symm
theorem divInt_inj {a b p : Int} (hp : 0 < p) : Rat.divInt a p = Rat.divInt b p ↔ a = b := by
  constructor
  · intro h
    have h1 := (divInt_le2 hp (a := a) (b := b)).mp (by rw [h]; grind)
    have h2 := (divInt_le2 hp (a := b) (b := a)).mp (by rw [h]; grind)
    omega
  · rintro rfl; rfl
theorem add_toS {N : Int} (hN : 0 < N) (p : PieceI) (s : Int × Int) : (addI p s).map (toS N) = addSpan (p.map (toS N)) (toS N s) := by
  cases hq : p.getLast? with
  | none =>
    have hpn : p = [] := List.getLast?_eq_none_iff.mp hq
    subst hpn
    rfl
  | some l =>
    have hl : (p.map (toS N)).getLast? = some (toS N l) := by rw [List.getLast?_map, hq]; rfl
    by_cases c : l.2 = s.1
    · have c' : (toS N l).2 = (toS N s).1 := (divInt_inj hN).mpr c
      rw [addI_same hq c, addSpan_same hl c', List.map_append, List.map_dropLast]
      rfl
    · have c' : ¬ (toS N l).2 = (toS N s).1 := fun z => c ((divInt_inj hN).mp z)
      rw [addI_new hq c, addSpan_new hl c', List.map_append]
      rfl
theorem runs_toS {N : Int} (hN : 0 < N) (b : Nat → Bool) : ∀ k : Nat, (runsI b k).map (toS N) = runsR N b k
  | 0 => rfl
  | k + 1 => by
    show (if b k = true then addI (runsI b k) ((k : Int), (k : Int) + 1) else runsI b k).map (toS N) = (if b k = true then addSpan (runsR N b k) (Rat.divInt k N, Rat.divInt (k + 1) N) else runsR N b k)
    split
    · rw [add_toS hN, runs_toS hN b k]
      rfl
    · exact runs_toS hN b k
theorem runsI_ok (b : Nat → Bool) : ∀ k : Nat, (runsI b k).length ≤ k ∧ ∀ s ∈ runsI b k, 0 ≤ s.1 ∧ 0 ≤ s.2 ∧ s.1 ≤ k ∧ s.2 ≤ k
  | 0 => ⟨Nat.le_refl _, (fun _ h => by cases h)⟩
  | k + 1 => by
    obtain ⟨h1, h2⟩ := runsI_ok b k
    have up : ∀ s ∈ runsI b k, 0 ≤ s.1 ∧ 0 ≤ s.2 ∧ s.1 ≤ ((k + 1 : Nat) : Int) ∧ s.2 ≤ ((k + 1 : Nat) : Int) := fun s hs => by
      have := h2 s hs
      omega
    show (if b k = true then addI (runsI b k) ((k : Int), (k : Int) + 1) else runsI b k).length ≤ _ ∧ ∀ s ∈ (if b k = true then addI (runsI b k) ((k : Int), (k : Int) + 1) else runsI b k), _
    split
    · cases hq : (runsI b k).getLast? with
      | none =>
        have hpn : runsI b k = [] := List.getLast?_eq_none_iff.mp hq
        rw [hpn, addI_nil]
        refine ⟨by simp, fun s hs => ?_⟩
        have : s = ((k : Int), (k : Int) + 1) := by simpa using hs
        rw [this]
        dsimp only
        omega
      | some l =>
        have hlm := up l (List.mem_of_getLast? hq)
        by_cases c : l.2 = (k : Int)
        · rw [addI_same (s := ((k : Int), (k : Int) + 1)) hq c]
          have hpe := snocI_last hq
          refine ⟨?_, fun s hs => ?_⟩
          · have := congrArg List.length hpe
            rw [List.length_append, List.length_singleton] at this
            rw [List.length_append, List.length_singleton]
            omega
          · rcases List.mem_append.mp hs with hs | hs
            · exact up s (by rw [hpe]; exact List.mem_append_left _ hs)
            · have : s = (l.1, (k : Int) + 1) := by simpa using hs
              rw [this]
              dsimp only
              omega
        · rw [addI_new (s := ((k : Int), (k : Int) + 1)) hq c]
          refine ⟨by rw [List.length_append]; simp; omega, fun s hs => ?_⟩
          rcases List.mem_append.mp hs with hs | hs
          · exact up s hs
          · have : s = ((k : Int), (k : Int) + 1) := by simpa using hs
            rw [this]
            dsimp only
            omega
    · exact ⟨by omega, up⟩
def spanD (N : Int) (d : D) : D := match d with
  | .tup [.int a, .int b] => encS (toS N (a, b))
  | _ => .non
theorem wGs_two {K : PySem.W.Frag} {i j : Nat} {vs : List Nat} (h1 : i ∈ vs) (h2 : j ∈ vs) : Within (gTup K 2 (gCons (gName i) (gCons (gName j) gNil))) vs := within_tup (withins_cons (within_name h1) (withins_cons (within_name h2) withins_nil))
/-! ### k13's law -/
def takersP (gs : List (List Int)) (many : Nat) : List Piece := (List.range many).map fun (t : Nat) => runsR (gs.length : Int) (hasAt gs t) gs.length
def dueG (gs : List (List Int)) (many : Nat) : Bool := (List.range gs.length).all fun m => (List.range many).countP (fun (t : Nat) => hasAt gs t m) == 1
theorem takersP_up {gs : List (List Int)} {many : Nat} (hN : 0 < gs.length) : ∀ p ∈ takersP gs many, UpTo gs.length 1 gs.length p := fun p hp => by
  obtain ⟨t, _, rfl⟩ := List.mem_map.mp hp
  have h := runs_ok (N := (gs.length : Int)) (by omega) (hasAt gs t) gs.length
  rw [divInt_self1 (by omega), Int.toNat_natCast] at h
  exact h
theorem takersP_fit {gs : List (List Int)} {many : Nat} (hN : 0 < gs.length) (hM : gs.length ≤ 1000) : ∀ p ∈ takersP gs many, FitP p := fun p hp => by
  obtain ⟨t, _, rfl⟩ := List.mem_map.mp hp
  exact runs_fit hN hM _
theorem given_deals {gs : List (List Int)} {many : Nat} (hN : 0 < gs.length) (es : List Piece) (he : es = [] ∨ es = [[]]) : dealsR (takersP gs many ++ es) = dueG gs many := by
  have em : ∀ p ∈ es, p = [] := fun p hp => by
    rcases he with rfl | rfl
    · cases hp
    · simpa using hp
  have hg : OnN gs.length (takersP gs many ++ es) := fun p hp s hs => by
    rcases List.mem_append.mp hp with hp | hp
    · exact (takersP_up hN p hp).gr s hs
    · rw [em p hp] at hs; cases hs
  have h0 : ∀ p ∈ takersP gs many ++ es, ∀ s ∈ p, 0 ≤ s.1 ∧ s.1 < s.2 ∧ s.2 ≤ 1 := fun p hp s hs => by
    rcases List.mem_append.mp hp with hp | hp
    · exact (takersP_up hN p hp).is s hs
    · rw [em p hp] at hs; cases hs
  have key := deals_grid hN hg h0 (fun m => (List.range many).countP (fun (t : Nat) => hasAt gs t m)) (fun m hm n hn h1 h2 => by
    have hz : es.countP (fun p => holdsR p ((endsOf (takersP gs many ++ es)).getD n 0) ((endsOf (takersP gs many ++ es)).getD (n + 1) 0)) = 0 := by
      rw [List.countP_eq_zero]
      intro p hp
      rw [em p hp]
      simp [holdsR]
    rw [List.countP_append, hz, Nat.add_zero]
    conv => lhs; arg 2; rw [takersP]
    rw [List.countP_map]
    refine List.countP_congr fun t ht => ?_
    have hp : runsR (gs.length : Int) (hasAt gs t) gs.length ∈ takersP gs many ++ es := List.mem_append_left _ (List.mem_map_of_mem (f := fun (t : Nat) => runsR (gs.length : Int) (hasAt gs t) gs.length) ht)
    have z := holds_in hN hg hn h1 h2 hp
    show holdsR (runsR (gs.length : Int) (hasAt gs t) gs.length) _ _ = true ↔ _
    rw [z, runs_in (by omega)]
    constructor
    · exact fun h => h.2
    · exact fun h => ⟨hm, h⟩)
  rw [Bool.eq_iff_iff, key]
  unfold dueG
  rw [List.all_eq_true]
  constructor
  · intro h m hm
    exact beq_iff_eq.mpr (h m (List.mem_range.mp hm))
  · intro h m hm
    exact beq_iff_eq.mp (h m (List.mem_range.mpr hm))
end L3

set_option Elab.async false
set_option linter.all false
set_option maxRecDepth 100000
set_option maxHeartbeats 4000000
set_option exponentiation.threshold 100
/-! Pieces put together, sifted: promises, the plain law on a grid. -/
namespace L3
open PySem PySem.Spec PyProof.Rows L2
def togR (st : Piece) : Piece := st.foldl addSpan []
def c_put_together : Ct Piece := ⟨fun a => [.l (encP a)], fun a => a.length ≤ 900000, fun a => .ret (.own (encP (togR a)))⟩
def c_whole : Ct Unit := ⟨fun _ => [], fun _ => True, fun _ => .ret (.own (encP wholeP))⟩
abbrev Wn := List (Bool × Bool)
def encW (w : Bool × Bool) : D := .tup [.bl w.1, .bl w.2]
/-- the stretches that are wanted, of the first n -/
def keptR (a b : Piece) (w : Wn) : Nat → Piece
  | 0 => []
  | n + 1 => if (holdsR a ((endsOf [a, b]).getD n 0) ((endsOf [a, b]).getD (n + 1) 0), holdsR b ((endsOf [a, b]).getD n 0) ((endsOf [a, b]).getD (n + 1) 0)) ∈ w then keptR a b w n ++ [((endsOf [a, b]).getD n 0, (endsOf [a, b]).getD (n + 1) 0)] else keptR a b w n
def siftR (a b : Piece) (w : Wn) : Piece := togR (keptR a b w ((endsOf [a, b]).length - 1))
def c_sifted : Ct (Piece × Piece × Wn) := ⟨fun a => [.l (encP a.1), .l (encP a.2.1), .l (a.2.2.map encW)], fun a => FitP a.1 ∧ FitP a.2.1 ∧ a.1.length ≤ 100000 ∧ a.2.1.length ≤ 100000, fun a => .ret (.own (encP (siftR a.1 a.2.1 a.2.2)))⟩
def wJoin : Wn := [(true, true), (true, false), (false, true)]
def wShare : Wn := [(true, true)]
def wOut : Wn := [(true, false)]
def c_joined : Ct (Piece × Piece) := ⟨fun a => [.l (encP a.1), .l (encP a.2)], fun a => FitP a.1 ∧ FitP a.2 ∧ a.1.length ≤ 100000 ∧ a.2.length ≤ 100000, fun a => .ret (.own (encP (siftR a.1 a.2 wJoin)))⟩
def c_shared : Ct (Piece × Piece) := ⟨fun a => [.l (encP a.1), .l (encP a.2)], fun a => FitP a.1 ∧ FitP a.2 ∧ a.1.length ≤ 100000 ∧ a.2.length ≤ 100000, fun a => .ret (.own (encP (siftR a.1 a.2 wShare)))⟩
def c_without : Ct (Piece × Piece) := ⟨fun a => [.l (encP a.1), .l (encP a.2)], fun a => FitP a.1 ∧ FitP a.2 ∧ a.1.length ≤ 100000 ∧ a.2.length ≤ 100000, fun a => .ret (.own (encP (siftR a.1 a.2 wOut)))⟩
theorem keptR_len (a b : Piece) (w : Wn) : ∀ n, (keptR a b w n).length ≤ n
  | 0 => Nat.le_refl _
  | n + 1 => by
    have := keptR_len a b w n
    show (if _ then _ else _ : Piece).length ≤ _
    split
    · rw [List.length_append]; simp; omega
    · omega
theorem addSpan_len (p : Piece) (s : Rat × Rat) : (addSpan p s).length ≤ p.length + 1 := by
  cases hq : p.getLast? with
  | none =>
    have hpn : p = [] := List.getLast?_eq_none_iff.mp hq
    subst hpn
    simp [addSpan_nil]
  | some l =>
    by_cases c : l.2 = s.1
    · rw [addSpan_same hq c, List.length_append, List.length_dropLast, List.length_singleton]; omega
    · rw [addSpan_new hq c, List.length_append]; simp
theorem tog_len : ∀ (st p : Piece), (st.foldl addSpan p).length ≤ p.length + st.length
  | [], p => by simp
  | s :: st, p => by
    have h1 := tog_len st (addSpan p s)
    have h2 := addSpan_len p s
    show (st.foldl addSpan (addSpan p s)).length ≤ _
    simp only [List.length_cons]
    omega
theorem addSpan_two (p : Piece) {x y z : Rat} : addSpan (addSpan p (x, y)) (y, z) = addSpan p (x, z) := by
  cases hq : p.getLast? with
  | none =>
    have hpn : p = [] := List.getLast?_eq_none_iff.mp hq
    subst hpn
    rw [addSpan_nil, addSpan_nil]
    exact addSpan_same (l := (x, y)) rfl rfl
  | some l =>
    by_cases c : l.2 = x
    · rw [addSpan_same (s := (x, y)) hq c, addSpan_same (s := (x, z)) hq c, addSpan_same (l := (l.1, y)) (s := (y, z)) (by simp) rfl]
      simp
    · rw [addSpan_new (s := (x, y)) hq c, addSpan_new (s := (x, z)) hq c, addSpan_same (l := (x, y)) (s := (y, z)) (by simp) rfl]
      simp
/-- a stretch of one kind -/
theorem runs_step {N : Int} {b : Nat → Bool} {w : Bool} {m : Nat} : ∀ {d : Nat}, (∀ j, m ≤ j → j < m + d → b j = w) → 0 < d → runsR N b (m + d) = if w = true then addSpan (runsR N b m) (Rat.divInt m N, Rat.divInt ((m + d : Nat) : Int) N) else runsR N b m
  | 0, _, h => absurd h (Nat.lt_irrefl _)
  | 1, h, _ => by
    have hb := h m (Nat.le_refl _) (by omega)
    show (if b m = true then addSpan (runsR N b m) (Rat.divInt m N, Rat.divInt (m + 1) N) else runsR N b m) = _
    rw [hb, Int.natCast_add]
    rfl
  | d + 2, h, _ => by
    have ih := runs_step (N := N) (b := b) (w := w) (m := m) (d := d + 1) (fun j h1 h2 => h j h1 (by omega)) (by omega)
    have hb := h (m + (d + 1)) (by omega) (by omega)
    show (if b (m + (d + 1)) = true then addSpan (runsR N b (m + (d + 1))) (Rat.divInt ((m + (d + 1) : Nat) : Int) N, Rat.divInt (((m + (d + 1) : Nat) : Int) + 1) N) else runsR N b (m + (d + 1))) = _
    rw [hb, ih]
    cases w with
    | false => rfl
    | true =>
      rw [if_pos rfl, if_pos rfl, if_pos rfl, addSpan_two]
      congr 2
theorem gr_nat {N : Nat} (hN : 0 < N) {y : Rat} (h : Gr N y) (h0 : 0 ≤ y) (h1 : y ≤ 1) : ∃ m : Nat, m ≤ N ∧ y = Rat.divInt m (N : Int) := by
  obtain ⟨k, hk⟩ := h
  have hq : (0 : Rat) < (N : Rat) := by exact_mod_cast hN
  have ee : y = Rat.divInt k (N : Int) := by
    rw [Rat.divInt_eq_div, int_nat, ← hk]
    have : (N : Rat) ≠ 0 := by grind
    grind
  have k0 : 0 ≤ k := by
    rw [ee] at h0
    have e0 : (0 : Rat) = Rat.divInt 0 (N : Int) := by simp
    rw [e0] at h0
    exact (divInt_le2 (by omega)).mp h0
  have k1 : k ≤ (N : Int) := by
    rw [ee, ← divInt_self1 (p := (N : Int)) (by omega)] at h1
    exact (divInt_le2 (by omega)).mp h1
  obtain ⟨m, rfl⟩ := Int.eq_ofNat_of_zero_le k0
  exact ⟨m, by omega, ee⟩
theorem up_first {l : List Rat} (hp : l.Pairwise (· < ·)) {x : Rat} (hx : x ∈ l) (h : ∀ y ∈ l, x ≤ y) : l.getD 0 0 = x ∧ 0 < l.length := by
  cases l with
  | nil => cases hx
  | cons a l =>
    refine ⟨?_, by simp⟩
    show a = x
    have h1 := h a List.mem_cons_self
    rcases List.mem_cons.mp hx with z | z
    · exact z.symm
    · have := (List.pairwise_cons.mp hp).1 x z
      grind
theorem up_last {l : List Rat} (hp : l.Pairwise (· < ·)) {x : Rat} (hx : x ∈ l) (h : ∀ y ∈ l, y ≤ x) : l.getD (l.length - 1) 0 = x := by
  obtain ⟨i, hi, e⟩ := List.getElem_of_mem hx
  have hl : l.length - 1 < l.length := by omega
  rw [List.getD_eq_getElem?_getD, List.getElem?_eq_getElem hl]
  show l[l.length - 1] = x
  have h1 := h _ (List.getElem_mem hl)
  by_cases c : i = l.length - 1
  · subst c; exact e
  · have := (List.pairwise_iff_getElem.mp hp) i (l.length - 1) hi hl (by omega)
    rw [e] at this
    grind
/-- THE LAW OF sifted on a grid -/
theorem sift_grid {N : Nat} (hN : 0 < N) {p q : Piece} (hg : OnN N [p, q]) (h0 : ∀ r ∈ [p, q], ∀ s ∈ r, 0 ≤ s.1 ∧ s.1 < s.2 ∧ s.2 ≤ 1) {b1 b2 : Nat → Bool} (hp : ∀ m, m < N → (InP (N : Int) p m ↔ b1 m = true)) (hq : ∀ m, m < N → (InP (N : Int) q m ↔ b2 m = true)) (w : Wn) :
    siftR p q w = runsR (N : Int) (fun m => decide ((b1 m, b2 m) ∈ w)) N := by
  have up := endsOf_up [p, q]
  have b0 : ∀ y ∈ endsOf [p, q], 0 ≤ y ∧ y ≤ 1 := fun y hy => by
    rcases endsOf_mem.mp hy with rfl | rfl | ⟨p, hp, s, hs, z⟩
    · constructor <;> grind
    · constructor <;> grind
    · have := h0 p hp s hs
      rcases z with rfl | rfl <;> constructor <;> grind
  obtain ⟨f0, fl⟩ := up_first up (endsOf_mem.mpr (.inl rfl)) fun y hy => (b0 y hy).1
  have l1 := up_last up (endsOf_mem.mpr (.inr (.inl rfl))) fun y hy => (b0 y hy).2
  have key : ∀ n : Nat, n < (endsOf [p, q]).length → ∃ m : Nat, m ≤ N ∧ (endsOf [p, q]).getD n 0 = Rat.divInt m (N : Int) ∧ togR (keptR p q w n) = runsR (N : Int) (fun m => decide ((b1 m, b2 m) ∈ w)) m := by
    intro n
    induction n with
    | zero => intro _; exact ⟨0, Nat.zero_le _, by rw [f0]; simp, rfl⟩
    | succ n ih =>
      intro hn
      obtain ⟨m, m1, m2, m3⟩ := ih (by omega)
      have a1 := getD_at (d := 0) (show n < (endsOf [p, q]).length by omega)
      have a2 := getD_at (d := 0) hn
      have i2 := List.mem_of_getElem? a2
      have lt : (endsOf [p, q]).getD n 0 < (endsOf [p, q]).getD (n + 1) 0 := by
        have e1 : (endsOf [p, q]).getD n 0 = (endsOf [p, q])[n] := by rw [List.getD_eq_getElem?_getD, List.getElem?_eq_getElem (by omega)]; rfl
        have e2 : (endsOf [p, q]).getD (n + 1) 0 = (endsOf [p, q])[n + 1] := by rw [List.getD_eq_getElem?_getD, List.getElem?_eq_getElem hn]; rfl
        rw [e1, e2]
        exact (List.pairwise_iff_getElem.mp up) n (n + 1) (by omega) hn (by omega)
      obtain ⟨m', n1, n2⟩ := gr_nat hN (endsOf_gr hg i2) (b0 _ i2).1 (b0 _ i2).2
      have hmm : m < m' := by
        rw [m2, n2] at lt
        by_cases c : m < m'
        · exact c
        · have := (divInt_le2 (p := (N : Int)) (by omega)).mpr (by omega : (m' : Int) ≤ (m : Int))
          grind
      have hom : ∀ j, m ≤ j → j < m + (m' - m) → decide ((b1 j, b2 j) ∈ w) = decide ((holdsR p ((endsOf [p, q]).getD n 0) ((endsOf [p, q]).getD (n + 1) 0), holdsR q ((endsOf [p, q]).getD n 0) ((endsOf [p, q]).getD (n + 1) 0)) ∈ w) := fun j h1 h2 => by
        have c1 : (endsOf [p, q]).getD n 0 ≤ Rat.divInt j (N : Int) := by
          rw [m2]; exact (divInt_le2 (by omega)).mpr (by omega)
        have c2 : Rat.divInt j (N : Int) < (endsOf [p, q]).getD (n + 1) 0 := by
          rw [n2]; exact divInt_lt (by omega) (by omega)
        have z1 := (holds_in hN hg hn c1 c2 (p := p) (by simp)).trans (hp j (by omega))
        have z2 := (holds_in hN hg hn c1 c2 (p := q) (by simp)).trans (hq j (by omega))
        rw [Bool.eq_iff_iff.mpr z1, Bool.eq_iff_iff.mpr z2]
      have st := runs_step (N := (N : Int)) hom (by omega)
      rw [show m + (m' - m) = m' by omega] at st
      refine ⟨m', n1, n2, ?_⟩
      rw [st, ← m3, ← m2, ← n2]
      show togR (if _ then _ else _) = _
      by_cases c : (holdsR p ((endsOf [p, q]).getD n 0) ((endsOf [p, q]).getD (n + 1) 0), holdsR q ((endsOf [p, q]).getD n 0) ((endsOf [p, q]).getD (n + 1) 0)) ∈ w
      · rw [if_pos c, if_pos (decide_eq_true c)]
        unfold togR
        rw [List.foldl_append]
        rfl
      · rw [if_neg c, if_neg (by simpa using c)]
  obtain ⟨m, m1, m2, m3⟩ := key ((endsOf [p, q]).length - 1) (by omega)
  rw [l1] at m2
  have hm : m = N := by
    have e : Rat.divInt (N : Int) (N : Int) = Rat.divInt (m : Int) (N : Int) := by rw [divInt_self1 (by omega)]; exact m2
    have := (divInt_inj (p := (N : Int)) (by omega)).mp e
    omega
  subst hm
  exact m3
theorem sift_runs {N : Nat} (hN : 0 < N) (b1 b2 : Nat → Bool) (w : Wn) : siftR (runsR (N : Int) b1 N) (runsR (N : Int) b2 N) w = runsR (N : Int) (fun m => decide ((b1 m, b2 m) ∈ w)) N := by
  have up : ∀ b : Nat → Bool, UpTo N 1 N (runsR (N : Int) b N) := fun b => by
    have h := runs_ok (N := (N : Int)) (by omega) b N
    rw [divInt_self1 (by omega), Int.toNat_natCast] at h
    exact h
  refine sift_grid hN (fun r hr s hs => ?_) (fun r hr s hs => ?_) (fun m hm => ?_) (fun m hm => ?_) w
  · rcases List.mem_cons.mp hr with rfl | hr
    · exact (up b1).gr s hs
    · have : r = runsR (N : Int) b2 N := by simpa using hr
      rw [this] at hs; exact (up b2).gr s hs
  · rcases List.mem_cons.mp hr with rfl | hr
    · exact (up b1).is s hs
    · have : r = runsR (N : Int) b2 N := by simpa using hr
      rw [this] at hs; exact (up b2).is s hs
  · rw [runs_in (by omega)]; exact ⟨fun h => h.2, fun h => ⟨hm, h⟩⟩
  · rw [runs_in (by omega)]; exact ⟨fun h => h.2, fun h => ⟨hm, h⟩⟩
/-! ### `in` a list of data -/
def rInDa (K : PySem.W.Frag) : R2 := rInD K
section
variable {G : Gx} {F0 H0 : Hp} {ρ : Ro} {μ : Mu} {R : RE} {X : Ex} {E : XK}
theorem pys_any {e' : D} {m : Nat} (h2 : sh e' m = true) : ∀ {ds : List D} {n : Nat}, shs ds n = true → (D.pys ds).any (fun z => PyData.eqv z e'.py) = ds.any fun z => eqD z e'
  | [], _, _ => rfl
  | d :: ds, n, h => by
    have h' : (sh d n && shs ds n) = true := h
    rw [Bool.and_eq_true] at h'
    have ih := pys_any h2 (ds := ds) h'.2
    show (d.py :: D.pys ds).any _ = _
    rw [List.any_cons, List.any_cons, ih, eqD_py d e' n m h'.1 h2]
theorem w2_inD {x : D} {u : U} {ds : List D} {n m : Nat} (hl : IsL μ u ds) (hn : n + 1 ≤ 64) (hm : m ≤ 64) (h1 : shs ds n = true) (h2 : sh x m = true) (k : R (.d (.bl (ds.any fun z => eqD z x))) μ) : w2 G F0 H0 (rInD G.K) (.d x) u ρ μ R := fun F H as σ v1 v2 Q e r1 r2 q => by
  have hd := DatU.dp (.l hl) e r2 (n := n + 1) (show sh (.lst ds) (n + 1) = true from h1)
  refine ⟨x.py, D.pys ds, sh_dp e.bs.fh x m v1 h2 r1, hd, sh_shaped h2 hm, sh_shaped (show sh (.lst ds) (n + 1) = true from h1) hn, ?_⟩
  rw [pys_any h2 h1]
  exact q _ _ _ _ _ _ k e (.refl _) .refl (Rp.bl _)
end
theorem kInD {X : Cx} {K : PySem.W.Frag} (h : X.K = K) (hu : X.A.units + 65 < cLine) : OpR X (compareOp .In) (rInD K) := by subst h; exact op_inD hu
theorem in_encW (w : Bool × Bool) (ws : Wn) : ((ws.map encW).any fun z => eqD z (encW w)) = decide (w ∈ ws) := by
  rw [List.any_map]
  induction ws with
  | nil => rfl
  | cons v ws ih =>
    rw [List.any_cons, ih]
    have e : ((fun z => eqD z (encW w)) ∘ encW) v = decide (v = w) := by
      show (eqD (.bl v.1) (.bl w.1) && (eqD (.bl v.2) (.bl w.2) && true)) = _
      rw [eqD_bl, eqD_bl]
      rcases v with ⟨a, b⟩; rcases w with ⟨c, d⟩
      cases a <;> cases b <;> cases c <;> cases d <;> rfl
    rw [e]
    by_cases h : v = w
    · subst h; simp
    · by_cases h2 : w ∈ ws
      · simp [h2]
      · simp [h2, h, Ne.symm h]
/-! ### k04's own -/
def encB (bs : List Bool) : List D := bs.map D.bl
def bAt (bs : List Bool) (k : Nat) : Bool := bs.getD k false
def c4_ends_by : Cr (Int × Int) := ⟨fun a => [.d (.int a.1), .d (.int a.2)], fun a => 2 ≤ a.2 ∧ a.2 ≤ 1000, fun a o => ∃ es : List Int, es.length % 2 = 0 ∧ es.length ≤ 16 ∧ (∀ e ∈ es, 0 ≤ e ∧ e ≤ a.2) ∧ o = .ret (.own (es.map .int))⟩
def c4_cells_by : Cr (Int × Int) := ⟨fun a => [.d (.int a.1), .d (.int a.2)], fun a => 2 ≤ a.2 ∧ a.2 ≤ 1000, fun a o => ∃ bs : List Bool, bs.length = a.2.toNat ∧ o = .ret (.own (encB bs))⟩
def c4_piece_of : Ct (List Bool × Nat) := ⟨fun a => [.l (encB a.1), .d (.int a.2)], fun a => a.1.length = a.2 ∧ 0 < a.2 ∧ a.2 ≤ 1000, fun a => .ret (.own (encP (runsR (a.2 : Int) (bAt a.1) a.2)))⟩
def c4_told : Ct (Piece × List Bool × Nat) := ⟨fun a => [.l (encP a.1), .l (encB a.2.1), .d (.int a.2.2)], fun a => a.2.1.length = a.2.2 ∧ 0 < a.2.2 ∧ a.2.2 ≤ 1000, fun a => .ret (.d (.bl (decide (a.1 = runsR (a.2.2 : Int) (bAt a.2.1) a.2.2))))⟩
section
variable {μ : Mu} {R : RE} {H0 : Hp} {X : Ex} {E : XK}
theorem ca_joined {p q : Piece} {u v : U} (hu : IsL μ u (encP p)) (hv : IsL μ v (encP q)) (hp : FitP p) (hq : FitP q) (h1 : p.length ≤ 100000) (h2 : q.length ≤ 100000) (k : R (.p μ.length) (μ ++ [.rw (encP (siftR p q wJoin))])) : Call [u, v] c_joined R μ H0 X E := ⟨(p, q), .cons (.l hu) (.cons (.l hv) .nil), ⟨hp, hq, h1, h2⟩, k⟩
theorem ca_shared {p q : Piece} {u v : U} (hu : IsL μ u (encP p)) (hv : IsL μ v (encP q)) (hp : FitP p) (hq : FitP q) (h1 : p.length ≤ 100000) (h2 : q.length ≤ 100000) (k : R (.p μ.length) (μ ++ [.rw (encP (siftR p q wShare))])) : Call [u, v] c_shared R μ H0 X E := ⟨(p, q), .cons (.l hu) (.cons (.l hv) .nil), ⟨hp, hq, h1, h2⟩, k⟩
theorem ca_without {p q : Piece} {u v : U} (hu : IsL μ u (encP p)) (hv : IsL μ v (encP q)) (hp : FitP p) (hq : FitP q) (h1 : p.length ≤ 100000) (h2 : q.length ≤ 100000) (k : R (.p μ.length) (μ ++ [.rw (encP (siftR p q wOut))])) : Call [u, v] c_without R μ H0 X E := ⟨(p, q), .cons (.l hu) (.cons (.l hv) .nil), ⟨hp, hq, h1, h2⟩, k⟩
theorem ca_whole (k : R (.p μ.length) (μ ++ [.rw (encP wholeP)])) : Call [] c_whole R μ H0 X E := ⟨(), .nil, trivial, k⟩
theorem ca_check_fit {p : Piece} {u : U} (hu : IsL μ u (encP p)) (h : FitP p) (k : R (.d .non) μ) : Call [u] c_check_piece R μ H0 X E := ca_check hu h.is h.szs h.few k
end
theorem runs_len {N : Nat} (hN : 0 < N) (b : Nat → Bool) : (runsR (N : Int) b N).length ≤ N := (runs_ok (N := (N : Int)) (by omega) b N).few
theorem whole_runs : wholeP = runsR ((1 : Nat) : Int) (fun _ => true) 1 := by
  show wholeP = addSpan [] (Rat.divInt ((0 : Nat) : Int) ((1 : Nat) : Int), Rat.divInt (((0 : Nat) : Int) + 1) ((1 : Nat) : Int))
  rw [addSpan_nil]
  decide +kernel
theorem whole_fit : FitP wholeP := ⟨whole_is, whole_grid.on, whole_grid.szs whole_is, by decide⟩
/-! ### a call whose arguments are lists of own lists: all lists frozen for its time -/
def lstO : Option HO → Bool
  | some (.lst _) => true
  | some (.frz _ (.lst _)) => true
  | _ => false
open Classical in
noncomputable def fzF (F H : Hp) : Hp := fun b => if F b = none ∧ lstO (H b) = true then H b else F b
open Classical in
noncomputable def unF (F H F' : Hp) : Hp := fun b => if F b = none ∧ lstO (H b) = true then none else F' b
mutual
def flatD : D → Bool
  | .tup ds => flatDs ds
  | .lst _ => false
  | .ob _ _ => false
  | .raw _ => false
  | .fn _ => false
  | _ => true
def flatDs : List D → Bool
  | [] => true
  | d :: ds => flatD d && flatDs ds
end
def flatR : Res → Bool
  | .d x => flatD x
  | .own ds => flatDs ds
  | .own2 dss => dss.all flatDs
  | .ownT dss => dss.all flatDs
def flatO : Out → Bool
  | .ret r => flatR r
  | .exc _ => true
inductive ArgT (μ : Mu) : U → Arg → Prop
  | o {u : U} {a : Arg} : ArgOf μ u a → ArgT μ u a
  | t {k : Nat} {ks : List Nat} {dss : List (List D)} : μ[k]? = some (.pl ks) → Paired (fun j ds => IsL μ (.p j) ds) ks dss → ArgT μ (.p k) (.l (dss.map .lst))
section
variable {G : Gx} {F0 H0 : Hp} {F F' H H' : Hp} {as as1 : List Addr} {σ : L2.St} {ρ : Ro} {μ : Mu} {R : RE}
theorem fz_same (h : Same F H) : Same F (fzF F H) ∧ Same (fzF F H) H := by
  constructor
  · intro b o hb
    unfold fzF
    rw [if_neg (by rw [hb]; rintro ⟨z, _⟩; cases z)]
    exact hb
  · intro b o hb
    unfold fzF at hb
    split at hb
    · exact hb
    · exact h _ _ hb
theorem fz_at {a : Addr} {vs : List V} (h : Same F H) (hl : Rd H a (.lst vs)) : Rd (fzF F H) a (.lst vs) := by
  have hc : lstO (H a) = true := by
    rcases hl with z | ⟨o, z⟩
    · rw [z]; rfl
    · rw [z]; rfl
  have e : fzF F H a = H a := by
    unfold fzF
    split
    · rfl
    · rename_i c
      cases hF : F a with
      | none => exact absurd ⟨hF, hc⟩ c
      | some o => exact (h _ _ hF).symm
  unfold Rd
  rw [e]
  exact hl
theorem un_ok (h2 : Same (fzF F H) F') (hn : ∀ a, H a ≠ none → F' a = fzF F H a) (hf : Same F' H') (hs : Same F H) : Same F (unF F H F') ∧ Same (unF F H F') H' ∧ (∀ a, H a ≠ none → unF F H F' a = F a) ∧ ∀ a, F' a = none → unF F H F' a = none := by
  refine ⟨fun b o hb => ?_, fun b o hb => ?_, fun a ha => ?_, fun a ha => ?_⟩
  · unfold unF
    rw [if_neg (by rw [hb]; rintro ⟨z, _⟩; cases z)]
    exact h2 _ _ ((fz_same hs).1 _ _ hb)
  · unfold unF at hb
    split at hb
    · cases hb
    · exact hf _ _ hb
  · unfold unF
    split
    · rename_i c; exact c.1.symm
    · rename_i c
      rw [hn a ha]
      unfold fzF
      rw [if_neg c]
  · unfold unF
    split
    · rfl
    · exact ha
theorem un_tup {a : Addr} {xs : List V} (hn : ∀ a, H a ≠ none → F' a = fzF F H a) (h : SqT G.K F' a xs) : SqT G.K (unF F H F') a xs := by
  rcases h with h | h
  · left
    have e : unF F H F' a = F' a := by
      unfold unF
      split
      · rename_i c
        have hne : H a ≠ none := by
          intro z
          rw [z] at c
          exact Bool.false_ne_true c.2
        have e2 := hn a hne
        have e3 : fzF F H a = H a := by unfold fzF; rw [if_pos c]
        rw [e3] at e2
        have c2 := c.2
        rw [← e2] at c2
        rcases h with h | ⟨o, h⟩
        · rw [h] at c2; cases c2
        · rw [h] at c2; cases c2
      · rfl
    unfold Rd
    rw [e]
    exact h
  · exact .inr h
mutual
theorem un_rp (hn : ∀ a, H a ≠ none → F' a = fzF F H a) : ∀ (d : D) {v : V}, flatD d = true → Rp G F' v d → Rp G (unF F H F') v d
  | .non, _, _, q => by cases q; exact .non
  | .bl b, _, _, q => by cases q; exact .bl b
  | .int i, _, _, q => by cases q; exact .int i
  | .str x, _, _, q => by cases q; exact .str x
  | .tup ds, _, f, q => by
    cases q with
    | tup hs ha => exact .tup (un_tup hn hs) (un_rps hn ds (by simpa [flatD] using f) ha)
  | .lst ds, _, f, q => by simp [flatD] at f
  | .ob n ds, _, f, q => by simp [flatD] at f
  | .raw _, _, f, q => by simp [flatD] at f
  | .fn _, _, f, q => by simp [flatD] at f
theorem un_rps (hn : ∀ a, H a ≠ none → F' a = fzF F H a) : ∀ (ds : List D) {vs : List V}, flatDs ds = true → RpAll G F' vs ds → RpAll G (unF F H F') vs ds
  | [], _, _, q => by cases q; exact .nil
  | d :: ds, _, f, q => by
    cases q with
    | cons a b =>
      simp only [flatDs, Bool.and_eq_true] at f
      exact .cons (un_rp hn d f.1 a) (un_rps hn ds f.2 b)
end
theorem un_own (hn : ∀ a, H a ≠ none → F' a = fzF F H a) (hz : ∀ a, F' a = none → unF F H F' a = none) {p : Addr} {ds : List D} (f : flatDs ds = true) (h : OwnOk G H F' H' p ds) : OwnOk G H (unF F H F') H' p ds := by
  obtain ⟨h1, h2, vs, h3, h4⟩ := h
  exact ⟨h1, hz _ h2, vs, h3, un_rps hn ds f h4⟩
theorem un_res (hn : ∀ a, H a ≠ none → F' a = fzF F H a) (hz : ∀ a, F' a = none → unF F H F' a = none) {v : V} {r : Res} (f : flatR r = true) (h : ResOk G H F' H' v r) : ResOk G H (unF F H F') H' v r := by
  cases r with
  | d x => exact un_rp hn x f h
  | own ds =>
    obtain ⟨p, rfl, h⟩ := h
    exact ⟨p, rfl, un_own hn hz f h⟩
  | own2 dss =>
    obtain ⟨p, ps, rfl, h1, h2, h3, nd, hp⟩ := h
    refine ⟨p, ps, rfl, h1, hz _ h2, h3, nd, ?_⟩
    have go : ∀ {ps : List Addr} {dss : List (List D)}, dss.all flatDs = true → Paired (OwnOk G H F' H') ps dss → Paired (OwnOk G H (unF F H F') H') ps dss := by
      intro ps dss f h
      induction h with
      | nil => exact .nil
      | cons a b ih =>
        rw [List.all_cons, Bool.and_eq_true] at f
        exact .cons (un_own hn hz f.1 a) (ih f.2)
    exact go f hp
  | ownT dss =>
    obtain ⟨p, ps, rfl, h1, h2, h3, nd, hp⟩ := h
    refine ⟨p, ps, rfl, h1, hz _ h2, h3, nd, ?_⟩
    have go : ∀ {ps : List Addr} {dss : List (List D)}, dss.all flatDs = true → Paired (OwnOk G H F' H') ps dss → Paired (OwnOk G H (unF F H F') H') ps dss := by
      intro ps dss f h
      induction h with
      | nil => exact .nil
      | cons a b ih =>
        rw [List.all_cons, Bool.and_eq_true] at f
        exact .cons (un_own hn hz f.1 a) (ih f.2)
    exact go f hp
theorem argT_ok (e : Ev G F0 H0 F H as σ ρ μ) : ∀ {vs : List V} {us : List U} {xs : List Arg}, Paired (RpU G as F) vs us → Paired (ArgT μ) us xs → Paired (ArgOk G (fzF F H) H) vs xs
  | _, _, _, .nil, h => by cases h; exact .nil
  | _, _, _, .cons r t, h => by
    have sF := (fz_same e.bs.fh).1
    cases h with
    | cons a b =>
      refine .cons ?_ (argT_ok e t b)
      cases a with
      | o a =>
        cases a with
        | d x => exact Rp.mono sF x r
        | l hl =>
          obtain ⟨p, vs, h1, h2, h3⟩ := hl.seq e r
          exact ⟨p, vs, h1, h2, RpAll.mono sF _ h3⟩
      | t hk hp =>
        obtain ⟨p, rfl, ha⟩ := r
        obtain ⟨_, _, ps, hw, hpp⟩ := e.ce _ _ p hk ha
        refine ⟨p, _, rfl, .of hw, ?_⟩
        have go : ∀ {ps : List Addr} {ks : List Nat} {dss : List (List D)}, Paired (fun (p : Addr) (k : Nat) => as[k]? = some p) ps ks → Paired (fun j ds => IsL μ (.p j) ds) ks dss → RpAll G (fzF F H) (ps.map V.ref) (dss.map .lst) := by
          intro ps ks dss h1 h2
          induction h1 generalizing dss with
          | nil => cases h2; exact .nil
          | cons a1 b1 ih =>
            cases h2 with
            | cons a2 b2 =>
              obtain ⟨q, ws, eq, hs, hr⟩ := a2.seq e (v := V.ref _) ⟨_, rfl, a1⟩
              cases eq
              refine .cons (.lst ?_ (RpAll.mono sF _ hr)) (ih b2)
              rcases hs with hs | hs
              · exact .inl (fz_at e.bs.fh hs)
              · exact .inr hs
        exact go hpp hp
theorem wE_ctT {α : Type} {X : Ex} {c : Ct α} {E : XK} {t : TA} (h : wA G F0 H0 t ρ μ fun us μ1 => ∃ a, Paired (ArgT μ1) us (c.args a) ∧ c.pre a ∧ flatO (c.out a) = true ∧ Ends' R μ1 H0 X E (c.out a)) :
    wE G F0 H0 (tCall (spC G X c) [] E t) ρ μ R := fun F H as σ Q e q => by
  refine h F H as σ _ e fun us μ1 vs F1 H1 as1 h1 e1 s1 g1 r1 => ?_
  obtain ⟨a, ha, hp, hfl, hg⟩ := h1
  have sz := fz_same e1.bs.fh
  refine ⟨a, hp, fzF F1 H1, c.args a, sz.2, by rw [List.append_nil]; exact argT_ok e1 r1 ha, rfl, fun r v F' H' hr sF sf sH sn ro => ?_, fun x H' hx hs => ?_⟩
  · rw [hr] at hg hfl
    obtain ⟨u1, u2, u3, u4⟩ := un_ok sF sn sf e1.bs.fh
    exact got_ok e1 u1 u2 sH u3 (un_res sn u4 hfl ro) hg (q.on s1 g1)
  · obtain ⟨n, hn, rfl⟩ := hx
    rw [hn] at hg
    exact hg H' (e1.bs.h0.trans hs)
end
theorem flatDs_map {α : Type} {f : α → D} (h : ∀ x, flatD (f x) = true) : ∀ xs : List α, flatDs (xs.map f) = true
  | [] => rfl
  | x :: xs => by
    show (flatD (f x) && flatDs (xs.map f)) = true
    rw [h, flatDs_map h xs]
    rfl
theorem flat_P (p : Piece) : flatDs (encP p) = true := flatDs_map (f := encS) (fun _ => rfl) p
theorem flat_Fs (l : List Rat) : flatDs (l.map encF) = true := flatDs_map (fun _ => rfl) l
end L3
namespace L3
open PySem PySem.Spec PyProof.Rows L2
theorem runs_congr {N : Int} {b b' : Nat → Bool} : ∀ {k : Nat}, (∀ j, j < k → b j = b' j) → runsR N b k = runsR N b' k
  | 0, _ => rfl
  | k + 1, h => by
    show (if b k = true then addSpan (runsR N b k) (Rat.divInt k N, Rat.divInt (k + 1) N) else runsR N b k) = (if b' k = true then addSpan (runsR N b' k) (Rat.divInt k N, Rat.divInt (k + 1) N) else runsR N b' k)
    rw [h k (Nat.lt_succ_self k), runs_congr fun j hj => h j (Nat.lt_succ_of_lt hj)]
theorem bAt_map {f : Nat → Bool} {n j : Nat} (h : j < n) : bAt ((List.range n).map f) j = f j := by
  unfold bAt
  rw [List.getD_eq_getElem?_getD, List.getElem?_map, List.getElem?_range h]
  rfl
theorem at_bAt {bs : List Bool} {j : Nat} (h : j < bs.length) : atI (encB bs) (j : Int) = some (.bl (bAt bs j)) := atI_n (by
  have := getD_at (d := false) h
  rw [encB, List.getElem?_map, this]
  rfl)
/-- found pieces of k04, as cells -/
structure Fk4 (n : Nat) (a b c : Nat) (p q r : Piece) (μ : Mu) : Prop where
  n : μ[n]? = some (.pl [a, b, c])
  a : μ[a]? = some (.rw (encP p))
  b : μ[b]? = some (.rw (encP q))
  c : μ[c]? = some (.rw (encP r))
theorem Fk4.ext {n a b c : Nat} {p q r : Piece} {μ ν : Mu} (h : Fk4 n a b c p q r μ) : Fk4 n a b c p q r (μ ++ ν) := ⟨at_ext h.n, at_ext h.a, at_ext h.b, at_ext h.c⟩
theorem at_out {μ : Mu} {k n : Nat} {c x : Cell} (h : μ[k]? = some c) (hn : k < n) : (μ.set n x)[k]? = some c := by
  rw [List.getElem?_set_ne (by omega)]
  exact h
theorem lt_at {μ : Mu} {k : Nat} {c : Cell} (h : μ[k]? = some c) : k < μ.length := (List.getElem?_eq_some_iff.mp h).1
theorem Fk4.out {n a b c m : Nat} {p q r : Piece} {μ : Mu} {x : Cell} (h : Fk4 n a b c p q r μ) (h1 : n < m) (h2 : a < m) (h3 : b < m) (h4 : c < m) : Fk4 n a b c p q r (μ.set m x) := ⟨at_out h.n h1, at_out h.a h2, at_out h.b h3, at_out h.c h4⟩
theorem eq_encPl' {p q : Piece} : eqD (.lst (encP p)) (.lst (encP q)) = true ↔ p = q := eq_encPl
end L3

set_option Elab.async false
set_option linter.all false
set_option maxRecDepth 100000
set_option maxHeartbeats 4000000
set_option exponentiation.threshold 100
/-! list + list of any lists; list.remove of data; what a dealing is. -/
namespace L3
open PySem PySem.Spec PyProof.Rows L2
def rCatL (K : PySem.W.Frag) : R2 := fun x y H Q => ∃ l b xs zs, x = .ref l ∧ y = .ref b ∧ SqL K H l xs ∧ SqL K H b zs ∧ xs.length + zs.length ≤ sizeLine ∧ ∀ p, H p = none → Q (.ref p) (upd H p (.lst (xs ++ zs)))
theorem op_catL0 {X : Cx} : OpR X (binaryOp .Add) (rCatL X.K) := by
  intro pins s σ H x y v u Q I rx ry h
  obtain ⟨l, b, xs, zs, rfl, rfl, hH, hB, hz, q⟩ := h
  cases rx
  cases ry
  obtain ⟨its, r, ⟨⟨cls, dd, data, sl⟩, n, ho, hc, _, hd⟩, _⟩ := I.list hH
  obtain ⟨its2, r2, ⟨⟨cls2, dd2, data2, sl2⟩, n2, ho2, hc2, _, hd2⟩, _⟩ := I.list hB
  simp only at hc hd hc2 hd2
  subst hc hd hc2 hd2
  have hl := r.length
  have hl2 := r2.length
  have ea : its.toArray ++ its2.toArray = (its ++ its2).toArray := by simp
  refine concat_meets ⟨_, ho, rfl⟩ ⟨_, ho2, rfl⟩ noFill_list_add seq_list_add PySem.F.slot_list_add PySem.F.entry_list_add (PySem.F.args_list_add_2 _ _) (list_addW l b its.toArray its2.toArray n n2 dd dd2 sl sl2 (by rw [List.size_toArray, List.size_toArray]; omega)) ⟨ho, ho2, ?_⟩
  rw [ea]
  exact ⟨.ref _, _, I.lnew (t' := s.toks) (r.append r2) (by rw [List.length_append]; omega), rfl, q _ I.fresh⟩
theorem op_catL {X : Cx} {K : PySem.W.Frag} (h : X.K = K) : OpR X (binaryOp .Add) (rCatL K) := by subst h; exact op_catL0
def rRemD (K : PySem.W.Frag) : V → List V → Hp → VK → Prop := fun x xs H Q => ∃ (a : Addr) (ys : List V) (y : V) (d : PyData) (ds : List PyData) (j : Nat) (z : PyData), x = V.ref a ∧ xs = [y] ∧ H a = some (.lst ys) ∧ DpAll K H ys ds ∧ Dp K H y d ∧
  SeqAt.shaped (.list ds) = true ∧ SeqAt.shaped d = true ∧ ds[j]? = some z ∧ PyData.eqv z d = true ∧ (∀ (m : Nat) (z' : PyData), m < j → ds[m]? = some z' → PyData.eqv z' d = false) ∧ Q .non (upd H a (.lst (ys.eraseIdx j)))
theorem mt_remD {X : Cx} (hu : X.A.units + 65 < cLine) : MtM X "list.remove" (rRemD X.K) := by
  intro pins s σ H x xs v us Q I rx rxs h
  obtain ⟨a, ys, y, d, ds, j, z, rfl, rfl, hH, ha, hy, sl, sd, hz, hzj, hno, q⟩ := h
  cases rx
  obtain ⟨u, rfl, ry⟩ := rxs.one
  obtain ⟨bs, r1⟩ := Dp.reads I d y u hy ry
  have hxs : PyData.canLayAll0 ds = true := SeqAt.canLay_of_shaped sl
  have hroom : X.A.units + 1 + min (PyData.depthAll ds) d.depth < cLine := room_in_shaped sd hu
  obtain ⟨zz, its, n, rv, hl, e⟩ := I.lstM hH
  obtain ⟨as, h4⟩ := Dp.readsAll I ds _ its ha rv
  have hn : its.length = ds.length := SeqAt.ReadsAll.length ds its as h4
  have hmap : its.map (SeqAt.readOf s.heap) = ds := SeqAt.readsAll_map ds its as hxs h4
  obtain ⟨hjd, _⟩ := List.getElem?_eq_some_iff.mp hz
  have hjl : j < its.length := by omega
  have hj : j < its.toArray.size := by simpa using hjl
  have at_ : ∀ (m : Nat) (hm : m < its.toArray.size) (z' : PyData), ds[m]? = some z' → SeqAt.readOf s.heap its.toArray[m] = z' := by
    intro m hm z' hz'
    have hml : m < its.length := by simpa using hm
    rw [← hmap, List.getElem?_map, List.getElem?_eq_getElem hml] at hz'
    have e1 : SeqAt.readOf s.heap its[m] = z' := Option.some.inj (show some (SeqAt.readOf s.heap its[m]) = some z' from hz')
    simpa using e1
  refine call_meets PySem.F.slot_list_remove ⟨_, e, rfl⟩ PySem.F.entry_list_remove (PySem.F.args_list_remove_2 _ _)
    (SeqAt.list_removeAt a its.toArray n none #[] u (fun u => PyData.eqv (SeqAt.readOf s.heap u) d) j hj ?_ ?_ (by rw [List.size_toArray]; omega)) ⟨e, SeqAt.items_eqAt (vs := its.toArray) (show ReadsAll s.heap its.toArray.toList ds as from h4) r1 hxs (SeqAt.canLay_of_shaped sd) hroom, ?_⟩
  · show PyData.eqv (SeqAt.readOf s.heap its.toArray[j]) d = true
    rw [at_ j hj z hz]
    exact hzj
  · intro m hm hmj
    have hmd : m < ds.length := by omega
    have hz' : ds[m]? = some ds[m] := List.getElem?_eq_getElem hmd
    show PyData.eqv (SeqAt.readOf s.heap its.toArray[m]) d = false
    rw [at_ m hm _ hz']
    exact hno m _ hmj hz'
  · have rr := rv.eraseIdx j
    refine ⟨.non, _, I.lset (its' := its.eraseIdx j) (t' := s.toks) hH e ?_ rr ?_, rfl, q⟩
    · show its.toArray.eraseIdxIfInBounds j = (its.eraseIdx j).toArray
      rw [List.eraseIdxIfInBounds_toArray]
    · have z2 : (ys.eraseIdx j).length ≤ ys.length := by
        rw [List.length_eraseIdx]; split <;> omega
      omega
theorem kRemD {X : Cx} {K : PySem.W.Frag} (h : X.K = K) (hu : X.A.units + 65 < cLine) : MtM X "list.remove" (rRemD K) := by subst h; exact mt_remD hu
section
variable {G : Gx} {F0 H0 : Hp} {ρ : Ro} {μ : Mu} {R : RE}
theorem w2_catL {u w : U} {ds es : List D} (h1 : IsL μ u ds) (h2 : IsL μ w es) (hl : ds.length + es.length ≤ 1000000) (k : R (.p μ.length) (μ ++ [.rw (ds ++ es)])) : w2 G F0 H0 (rCatL G.K) u w ρ μ R := fun F H as σ v1 v2 Q e r1 r2 q => by
  obtain ⟨a, vs, rfl, hv, ra⟩ := h1.seq e r1
  obtain ⟨b, ws, rfl, hw, rb⟩ := h2.seq e r2
  exact ⟨a, b, vs, ws, rfl, rfl, hv, hw, by rw [ra.length, rb.length]; exact line_of hl, fun p hp => got_new e hp (ra.append rb) k q⟩
theorem wE_remD {to : TE} {t : TA} (h : wE G F0 H0 to ρ μ fun x μ1 => ∃ k0 ds0, x = .p k0 ∧ μ1[k0]? = some (.rw ds0) ∧ wA G F0 H0 t ρ μ1 fun us μ2 => ∃ ds d n m j z, us = [.d d] ∧ μ2[k0]? = some (.rw ds) ∧ n + 1 ≤ 64 ∧ m ≤ 64 ∧ shs ds n = true ∧ sh d m = true ∧
      ds[j]? = some z ∧ eqD z d = true ∧ (∀ (i : Nat) (z' : D), i < j → ds[i]? = some z' → eqD z' d = false) ∧ R (.d .non) (μ2.set k0 (.rw (ds.eraseIdx j)))) :
    wE G F0 H0 (tBM G.K "list" (rRemD G.K) to t) ρ μ R := fun F H as σ Q e q => by
  refine h F H as σ _ e fun u μ1 v F1 H1 as1 h1 e1 s1 g1 r1 => ?_
  obtain ⟨k, ds0, rfl, hk0, h1⟩ := h1
  obtain ⟨a, rfl, ha⟩ := r1
  obtain ⟨_, _, vs0, hv0, _⟩ := e1.ce k _ a hk0 ha
  refine ⟨.inl ⟨rfl, vs0, .of hv0⟩, h1 F1 H1 as1 σ _ e1 fun us μ2 vs F2 H2 as2 h2 e2 s2 g2 r2 => ?_⟩
  obtain ⟨ds, d, n, m, j, z, rfl, hk, hn, hm, hsh, hsd, hz, hzd, hno, kk⟩ := h2
  obtain ⟨y, rfl, ry⟩ := p1 r2
  obtain ⟨n0, nF, ws, hw, rw'⟩ := e2.ce k _ a hk (g2 _ _ ha)
  have hsl : sh (.lst ds) (n + 1) = true := hsh
  have shAt : ∀ {ds : List D} {i : Nat} {z : D}, shs ds n = true → ds[i]? = some z → sh z n = true := by
    intro ds
    induction ds with
    | nil => intro i z _ h; simp at h
    | cons d ds ih =>
      intro i z h hz
      have h' : (sh d n && shs ds n) = true := h
      rw [Bool.and_eq_true] at h'
      cases i with
      | zero => simp at hz; subst hz; exact h'.1
      | succ i => exact ih h'.2 (by simpa using hz)
  have pysAt : ∀ {ds : List D} {i : Nat}, (D.pys ds)[i]? = ds[i]?.map D.py := by
    intro ds
    induction ds with
    | nil => intro i; rfl
    | cons d ds ih =>
      intro i
      cases i with
      | zero => rfl
      | succ i =>
        show (d.py :: D.pys ds)[i + 1]? = _
        rw [List.getElem?_cons_succ, ih, List.getElem?_cons_succ]
  refine ⟨a, ws, y, d.py, D.pys ds, j, z.py, rfl, rfl, hw, shs_dp e2.bs.fh ds n ws hsh rw', sh_dp e2.bs.fh d m y hsd ry, sh_shaped hsl hn, sh_shaped hsd hm, by rw [pysAt, hz]; rfl, by rw [eqD_py z d n m (shAt hsh hz) hsd]; exact hzd, fun i z' hi hz' => ?_, ?_⟩
  · rw [pysAt] at hz'
    cases e : ds[i]? with
    | none => rw [e] at hz'; cases hz'
    | some w =>
      rw [e] at hz'
      have ez : w.py = z' := Option.some.inj hz'
      rw [← ez, eqD_py w d n m (shAt hsh e) hsd]
      exact hno i w hi e
  · have e3 := e2.write (o := .lst (ws.eraseIdx j)) (c' := .rw (ds.eraseIdx j)) hk (g2 _ _ ha) rfl rfl ⟨n0, nF, _, upd_same, rw'.eraseIdx j⟩
    exact q _ _ _ _ _ _ kk e3 (s1.trans s2) (g1.trans g2) Rp.non
end
/-! ### what deals the cake: a chain of spans -/
def ChainR : Rat → Piece → Prop
  | x, [] => x = 1
  | x, s :: l => s.1 = x ∧ s.1 < s.2 ∧ ChainR s.2 l
theorem ChainR.ge : ∀ {l : Piece} {x : Rat}, ChainR x l → ∀ s ∈ l, x ≤ s.1
  | [], _, _, _, h => by cases h
  | t :: l, x, ⟨h1, h2, h3⟩, s, h => by
    rcases List.mem_cons.mp h with rfl | h
    · grind
    · have := ChainR.ge h3 s h; grind
def TilesR (ps : List Piece) : Prop := ∃ l : Piece, l.Perm ps.flatten ∧ ChainR 0 l
def c__law_piece : Ct Piece := ⟨fun a => [.l (encP a)], fun a => FitP a, fun _ => .ret (.d (.bl true))⟩
def c__law_dealt : Ct (List Piece × Nat) := ⟨fun a => [.l (encPs a.1), .d (.int a.2)], fun a => a.1.length = a.2 ∧ (∀ p ∈ a.1, FitP p) ∧ a.1.length ≤ 1000 ∧ manyR a.1 ≤ 400000 ∧ TilesR a.1, fun _ => .ret (.d (.bl true))⟩
/-- the spans that begin at the point -/
theorem chain_ahead {x : Rat} {s : Rat × Rat} {l rest : Piece} (hp : rest.Perm (s :: l)) (hc : ChainR x (s :: l)) : rest.filter (fun t => decide (t.1 = x)) = [s] := by
  have h1 := hp.filter (fun t => decide (t.1 = x))
  have h2 : (s :: l).filter (fun t => decide (t.1 = x)) = [s] := by
    rw [List.filter_cons, if_pos (decide_eq_true hc.1)]
    congr 1
    rw [List.filter_eq_nil_iff]
    intro t ht z
    have z := of_decide_eq_true z
    have g := ChainR.ge hc.2.2 t ht
    have := hc.1
    have := hc.2.1
    grind
  rw [h2] at h1
  exact List.perm_singleton.mp h1
theorem chain_rem {s : Rat × Rat} {l rest : Piece} (hp : rest.Perm (s :: l)) : ∃ j : Nat, rest[j]? = some s ∧ (∀ (i : Nat) (t : Rat × Rat), i < j → rest[i]? = some t → t ≠ s) ∧ (rest.eraseIdx j).Perm l ∧ (rest.eraseIdx j).length + 1 = rest.length := by
  have hm : s ∈ rest := hp.symm.subset List.mem_cons_self
  obtain ⟨as, bs, e, hn⟩ := List.eq_append_cons_of_mem hm
  subst e
  refine ⟨as.length, by rw [List.getElem?_append_right (Nat.le_refl _), Nat.sub_self]; rfl, fun i t hi ht => ?_, ?_, ?_⟩
  · rw [List.getElem?_append_left hi] at ht
    exact fun z => hn (z ▸ List.mem_of_getElem? ht)
  · rw [List.eraseIdx_append_of_length_le (Nat.le_refl _), Nat.sub_self]
    show (as ++ bs).Perm l
    exact (List.perm_cons s).mp ((List.perm_middle (a := s) (l₁ := as) (l₂ := bs)).symm.trans hp)
  · rw [List.eraseIdx_append_of_length_le (Nat.le_refl _), Nat.sub_self]
    simp
    omega
/-! ### takers -/
def c_check_takers : Ct (List Steps × Nat × Nat) := ⟨fun a => [.l (encTs a.1), .d (.int a.2.1), .d (.int a.2.2)], fun a => a.2.1 ≤ a.1.length ∧ a.1.length ≤ a.2.2 ∧ a.2.2 ≤ 100 ∧ ∀ st ∈ a.1, Good st, fun _ => .ret (.d .non)⟩
section
variable {μ : Mu} {R : RE} {H0 : Hp} {X : Ex} {E : XK}
theorem ca_takers {sts : List Steps} {lo hi : Nat} {u : U} (hu : IsL μ u (encTs sts)) (h1 : lo ≤ sts.length) (h2 : sts.length ≤ hi) (h3 : hi ≤ 100) (g : ∀ st ∈ sts, Good st) (k : R (.d .non) μ) : Call [u, .d (.int lo), .d (.int hi)] c_check_takers R μ H0 X E := ⟨(sts, lo, hi), .cons (.l hu) (.cons (.d _) (.cons (.d _) .nil)), ⟨h1, h2, h3, g⟩, k⟩
theorem ca_lpiece {p : Piece} {u : U} (hu : IsL μ u (encP p)) (h : FitP p) (k : R (.d (.bl true)) μ) : Call [u] c__law_piece R μ H0 X E := ⟨p, .cons (.l hu) .nil, h, k⟩
theorem ca_ldealt {ps : List Piece} {m : Nat} {u : U} (hu : IsL μ u (encPs ps)) (h1 : ps.length = m) (h2 : ∀ p ∈ ps, FitP p) (h3 : ps.length ≤ 1000) (h4 : manyR ps ≤ 400000) (h5 : TilesR ps) (k : R (.d (.bl true)) μ) : Call [u, .d (.int m)] c__law_dealt R μ H0 X E := ⟨(ps, m), .cons (.l hu) (.cons (.d _) .nil), ⟨h1, h2, h3, h4, h5⟩, k⟩
end
end L3

set_option Elab.async false
set_option linter.all false
set_option maxRecDepth 100000
set_option maxHeartbeats 4000000
set_option exponentiation.threshold 100
/-! Objects without attributes; comprehensions over lists of own lists. -/
namespace L3
open PySem PySem.Spec PyProof.Rows L2 PySem.W
/-- an own class without __init__, as the top has laid it -/
structure Mk0 (K : PySem.W.Frag) (C : Addr) : Prop where
  makes : PySem.W.makesIn K C = true
  ini : PySem.W.findIn K (.ref C) "__init__" = some (some (.builtin "object.__init__"))
  top : PySem.W.mroIn K C (.type "object") = some true
  kp : PySem.W.keepIn K (.ref C) = true
def tMk0 (C : Addr) : TE := fun _ H Q => ∀ x dx, H x = none → H dx = none → dx ≠ x → Q (.ref x) (upd (upd H dx (.own x)) x (.ins C dx []))
theorem run_mk0 {X : Cx} {C : Addr} {pins : List (Addr × Obj)} {σ : L2.St} {H : Hp} {s : Shared} {Q : VK} (M : Mk0 X.K C) (I : Inv X pins σ H s) (h : tMk0 C σ H Q) : wpAny (model X.prog X.w) X.A (call (.ref C) []) (EP X pins σ Q) X.xe s := by
  have hq := h (s.heap.objs.size + 1) s.heap.objs.size (I.hok.fresh (Nat.le_succ _)) (I.hok.fresh (Nat.le_refl _)) (Nat.ne_of_lt (Nat.lt_succ_self _))
  have I2 := Inv.made (C := C) I
  refine wpAny_call (make_map0 I.kIn M.makes M.ini (fun self => PySem.W.Looks.of_pure (oi_bind _)) ?_)
  obtain ⟨_, _, _, ho, _⟩ := I2.hok _ _ upd_same
  have t2 : PySem.W.Looks (model X.prog X.w) _ (isInstance (.ref (s.heap.objs.size + 1)) (.type "object")) true := (NwA.type_at ho rfl).andThen (PySem.W.looks_mroIn I2.kIn M.top)
  refine codeAny_call_builtin oi_plain entry_oi (@check_slot (model X.prog X.w) _ _ _ "object.__init__" "object" "__init__" (.ref (s.heap.objs.size + 1)) [] [] _ oi_kind oi_split t2 (NwA.oi_args_any _ [] []) ?_)
  rw [oi_run]
  exact wpAny_pure (And.intro rfl ⟨V.ref (s.heap.objs.size + 1), _, I2, rfl, hq⟩)
theorem pe_mk0 {X : Cx} {C : Addr} {x : Str} {p pos : Pos} (M : Mk0 X.K C) (hg : Gl X x) (hm : X.mg x = some (.ref C)) (hdb : (x == ("__debug__" : Str)) = false := by decide) : PE X (.Call (.Name x p) [] [] pos) (tMk0 C) := by
  refine ⟨fun pins s σ H Q I h => ?_⟩
  refine wpAny_Call_Name_kw (ld_glob I hg hm ?_ hdb)
  exact PySem.W.callWith_K0 I.kIn M.kp (run_mk0 M I h)

section
variable {G : Gx} {F0 H0 : Hp} {F F1 H : Hp} {as as1 : List Addr} {σ : L2.St} {ρ : Ro} {μ : Mu} {R : RE}
theorem wE_mk0 {n : Nat} (hf : fl n = []) (k : R (.d (.ob n [])) μ) : wE G F0 H0 (tMk0 (G.cl n)) ρ μ R := fun F H as σ Q e q => by
  intro x dx hx hd ne
  obtain ⟨e1, s1⟩ := e.fresh (o := .own x) hd
  have hx1 : upd H dx (.own x) x = none := by rw [upd_ne (Ne.symm ne)]; exact hx
  obtain ⟨e2, s2⟩ := e1.fresh (o := .ins (G.cl n) dx []) hx1
  exact q _ _ _ _ _ _ k e2 (s1.trans s2) .refl (Rp.ob upd_same hf.symm .nil)
theorem lc_anyU {g : TG} {tt : TT} {te : TE} {vs : List Nat} {F1 H1 : Hp} {as1 : List Addr} {μ1 : Mu} {Q : VK} {JJ : It} {nn : Nat} {itd : Nat → U → Prop} (hw : Within g vs)
    (e1 : Ev G F0 H0 F1 H1 as1 σ ρ μ1) (q : KE G F0 H0 F1 as1 σ ρ R Q) (I : Nat → Mu → Prop)
    (go : ∀ (i : Nat) (F2 H2 : Hp) (as2 : List Addr) (μ2 : Mu), Ev G F0 H0 F2 H2 as2 σ ρ μ2 → Same F1 F2 → Grw as1 as2 → I i μ2 → (i < nn → JJ.go i H2 ∧ ∀ x H', JJ.yld i H2 x H' → H' = H2 ∧ ∃ d, itd i d ∧ RpU G as2 F2 x d) ∧ (i = nn → JJ.stop i H2))
    (i0 : I 0 (μ1 ++ [.rw []]))
    (is : ∀ i d μ', i < nn → itd i d → I i μ' → wG G F0 H0 g d (wipeR ρ vs) μ' fun ρ2 μ2 => LcTurn G F0 H0 tt te μ1.length ρ2 (I i) (I (i + 1)) μ2)
    (ie : ∀ μ', I nn μ' → R (.p μ1.length) μ') :
    ∀ D, H1 D = none → ∃ W : Nat → Nat → Hp → Prop, (∃ m, W 0 m (upd H1 D (.lst []))) ∧ ∀ i m H, W i m H →
  (JJ.stop i H ∧ Q (.ref D) H) ∨ (JJ.go i H ∧ ∃ Nx : Hp → Prop, (∀ H', Nx H' → ∃ m', m' < m ∧ W (i + 1) m' H') ∧ ∀ x H', JJ.yld i H x H' → g x (L2.wipe σ vs) H' fun σ2 H2 => L2.wipe σ2 vs = L2.wipe σ vs ∧ tt σ2 H2 fun b H3 =>
    if b = true then te σ2 H3 fun y H4 => ∃ acc, H4 D = some (.lst acc) ∧ acc.length < sizeLine ∧ Nx (upd H4 D (.lst (acc ++ [y]))) else Nx H3) := by
  intro p hp
  have ec := e1.cell (o := .lst []) (c := .rw []) hp ⟨e1.bs.h0.free hp, e1.bs.fh.free hp, [], upd_same, .nil⟩
  have hpn : (as1 ++ [p])[μ1.length]? = some p := by
    rw [← e1.al, List.getElem?_append_right (Nat.le_refl _)]
    simp
  refine ⟨fun i m H2 => ∃ F2 as2 μ2, Ev G F0 H0 F2 H2 as2 σ ρ μ2 ∧ Same F1 F2 ∧ Grw (as1 ++ [p]) as2 ∧ I i μ2 ∧ i + m = nn, ⟨nn, F1, as1 ++ [p], _, ec, .refl _, .refl, i0, by omega⟩, ?_⟩
  rintro i m H2 ⟨F2, as2, μ2, e2, s2, g2, i2, em⟩
  obtain ⟨go1, go2⟩ := go i F2 H2 as2 μ2 e2 s2 (Grw.app.trans g2) i2
  by_cases hi : i < nn
  · obtain ⟨ha, hb⟩ := go1 hi
    refine .inr ⟨ha, fun H' => ∃ F3 as3 μ3, Ev G F0 H0 F3 H' as3 σ ρ μ3 ∧ Same F1 F3 ∧ Grw (as1 ++ [p]) as3 ∧ I (i + 1) μ3, ?_, fun x H' y => ?_⟩
    · rintro H' ⟨F3, as3, μ3, e3, s3, g3, i3⟩
      exact ⟨m - 1, by omega, F3, as3, μ3, e3, s3, g3, i3, by omega⟩
    · obtain ⟨rfl, d, hd, rd⟩ := hb x H' y
      have ew := e2.wipe vs
      have base := is i d μ2 hi hd i2 F2 H' as2 (L2.wipe σ vs) x (fun σ2 H2 => tt σ2 H2 fun b H3 =>
        if b = true then te σ2 H3 fun y H4 => ∃ acc, H4 p = some (.lst acc) ∧ acc.length < sizeLine ∧ ∃ F3 as3 μ3, Ev G F0 H0 F3 (upd H4 p (.lst (acc ++ [y]))) as3 σ ρ μ3 ∧ Same F1 F3 ∧ Grw (as1 ++ [p]) as3 ∧ I (i + 1) μ3
        else ∃ F3 as3 μ3, Ev G F0 H0 F3 H3 as3 σ ρ μ3 ∧ Same F1 F3 ∧ Grw (as1 ++ [p]) as3 ∧ I (i + 1) μ3) ew rd (fun ρ3 μ3 σ3 F3 H3 as3 h3 e3 s3 g3 => ?_)
      · refine hw _ _ _ _ _ (fun σ' H' z z2 z3 => ⟨?_, z⟩) base
        exact (wipe_eq z2 z3).trans (wipe_twice vs σ)
      · refine h3 F3 H3 as3 σ3 _ e3 fun b μ4 F4 H4 as4 h4 e4 s4 g4 => ?_
        cases b with
        | false =>
          refine iteF ⟨F4, as4, μ4, ec.slots e4 (s2.trans (s3.trans s4)) (g2.trans (g3.trans g4)), s2.trans (s3.trans s4), g2.trans (g3.trans g4), ff_of h4⟩
        | true =>
          refine iteT ((tt_of h4) F4 H4 as4 σ3 _ e4 fun u μ5 v F5 H5 as5 h5 e5 s5 g5 r5 => ?_)
          obtain ⟨x', acc, rfl, hn, hl, hJ⟩ := h5
          have hp5 : as5[μ1.length]? = some p := g5 _ _ (g4 _ _ (g3 _ _ (g2 _ _ hpn)))
          obtain ⟨n0, nF, ws, hw', ra⟩ := e5.ce _ _ p hn hp5
          refine ⟨ws, hw', by rw [ra.length, sizeLine_eq]; omega, F5, as5, _, ec.slots (e5.write (o := .lst (ws ++ [v])) (c' := .rw (acc ++ [x'])) hn hp5 rfl rfl ⟨n0, nF, _, upd_same, RpAll.append ra (.one r5)⟩) (s2.trans (s3.trans (s4.trans s5))) (g2.trans (g3.trans (g4.trans g5))), s2.trans (s3.trans (s4.trans s5)), g2.trans (g3.trans (g4.trans g5)), hJ⟩
  · have ei : i = nn := by omega
    subst ei
    exact .inl ⟨go2 rfl, q _ _ _ _ _ _ (ie _ i2) e2 s2 (Grw.app.trans g2) ⟨p, rfl, g2 _ _ hpn⟩⟩

/-- a comprehension over a list of own lists -/
theorem wE_lcU {tl : TE} {g : TG} {tt : TT} {te : TE} {vs : List Nat} (hw : Within g vs) (h : wE G F0 H0 tl ρ μ fun u μ1 => ∃ ks, IsP μ1 u ks ∧ ∃ I : Nat → Mu → Prop, I 0 (μ1 ++ [.rw []]) ∧ (∀ i μ', I i μ' → IsP μ' u ks) ∧
      (∀ (i m : Nat) (μ' : Mu), ks[i]? = some m → I i μ' → wG G F0 H0 g (.p m) (wipeR ρ vs) μ' fun ρ2 μ2 => LcTurn G F0 H0 tt te μ1.length ρ2 (I i) (I (i + 1)) μ2) ∧ ∀ μ', I ks.length μ' → R (.p μ1.length) μ') :
    wE G F0 H0 (tLc (iList G.K tl) g tt te vs) ρ μ R := fun F H as σ Q e q => by
  refine h F H as σ _ e fun u μ1 v F1 H1 as1 h1 e1 s1 g1 r1 => ?_
  obtain ⟨ks, hl, I, i0, ip, is, ie⟩ := h1
  obtain ⟨a, ps0, rfl, hs0, _⟩ := hl.seq e1 r1
  refine ⟨a, rfl, ⟨_, .of hs0⟩, lc_anyU (nn := ks.length) (itd := fun i d => ∃ m, ks[i]? = some m ∧ d = .p m) hw e1 (q.on s1 g1) I (fun i F2 H2 as2 μ2 e2 s2 g2 i2 => ?_) i0 (fun i d μ' _ hd hI => by obtain ⟨m, hm, rfl⟩ := hd; exact is i m μ' hm hI) ie⟩
  obtain ⟨a', ps, ea, hs, ha⟩ := (ip i μ2 i2).seq e2 (r1.mono s2 g2)
  cases ea
  have hlen : (ps.map V.ref).length = ks.length := by rw [List.length_map, paired_len ha]
  refine ⟨fun hi => ?_, fun hi => ⟨_, .of hs, by omega⟩⟩
  have hv : i < (ps.map V.ref).length := by omega
  refine ⟨⟨_, (ps.map V.ref)[i], .of hs, by rw [List.getElem?_eq_getElem hv]⟩, fun x H' y => ?_⟩
  obtain ⟨rfl, y⟩ := y
  have hx := y _ (.of hs)
  obtain ⟨k, hk⟩ : ∃ k, ks[i]? = some k := ⟨_, List.getElem?_eq_getElem hi⟩
  obtain ⟨p, hp, rk⟩ := paired_get ha hk
  rw [List.getElem?_map, hp] at hx
  have hx' := Option.some.inj hx
  subst hx'
  exact ⟨rfl, .p k, ⟨k, hk, rfl⟩, p, rfl, rk⟩
/-- a comprehension over a list that makes a list of own lists -/
theorem wE_lcPL {tl : TE} {g : TG} {tt : TT} {te : TE} {vs : List Nat} (hw : Within g vs) (h : wE G F0 H0 tl ρ μ fun u μ1 => ∃ ds, IsL μ1 u ds ∧ ∃ I : Nat → Mu → Prop, I 0 (μ1 ++ [.pl []]) ∧ (∀ i μ', I i μ' → IsL μ' u ds) ∧
      (∀ (i : Nat) (d : D) (μ' : Mu), ds[i]? = some d → I i μ' → wG G F0 H0 g (.d d) (wipeR ρ vs) μ' fun ρ2 μ2 => LcTurnP G F0 H0 tt te μ1.length ρ2 (I i) (I (i + 1)) μ2) ∧ ∀ μ', I ds.length μ' → R (.p μ1.length) μ') :
    wE G F0 H0 (tLc (iList G.K tl) g tt te vs) ρ μ R := fun F H as σ Q e q => by
  refine h F H as σ _ e fun u μ1 v F1 H1 as1 h1 e1 s1 g1 r1 => ?_
  obtain ⟨ds, hl, I, i0, ip, is, ie⟩ := h1
  obtain ⟨a, vs0, rfl, hs0, _⟩ := hl.seq e1 r1
  refine ⟨a, rfl, ⟨vs0, hs0⟩, lc_anyP (nn := ds.length) (itd := fun i d => ds[i]? = some d) hw e1 (q.on s1 g1) I (fun i F2 H2 as2 μ2 e2 s2 g2 i2 => ?_) i0 (fun i d μ' _ hd hI => is i d μ' hd hI) ie⟩
  obtain ⟨a', ws, ea, hs, ha⟩ := (ip i μ2 i2).seq e2 (r1.mono s2 g2)
  cases ea
  refine ⟨fun hi => ?_, fun hi => ⟨ws, hs, by rw [ha.length]; omega⟩⟩
  have hv : i < ws.length := by rw [ha.length]; exact hi
  refine ⟨⟨ws, ws[i], hs, by simp [hv]⟩, fun x H' y => ?_⟩
  obtain ⟨rfl, y⟩ := y
  obtain ⟨d, hd, rd⟩ := ha.getV (y ws hs)
  exact ⟨rfl, d, hd, rd⟩
theorem wE_crm {α : Type} {X : Ex} {c : Cr α} {E : XK} {C : Addr} {m : Str} {ta : TE} {t : TA} (h : wE G F0 H0 ta ρ μ fun u μ1 => ∃ n ds, u = .d (.ob n ds) ∧ G.cl n = C ∧ (fl n).contains m = false ∧
      wA G F0 H0 t ρ μ1 fun us μ2 => ∃ a, Paired (ArgOf μ2) (.d (.ob n ds) :: us) (c.args a) ∧ c.pre a ∧ ∀ o, c.post a o → Ends' R μ2 H0 X E o) :
    wE G F0 H0 (tMeth C m (spR G X c) [] E ta t) ρ μ R := fun F H as σ Q e q => by
  refine h F H as σ _ e fun u μ1 v F1 H1 as1 h1 e1 s1 g1 r1 => ?_
  obtain ⟨n, ds, rfl, hc, hm, h1⟩ := h1
  cases (show Rp G F1 v (.ob n ds) from r1) with
  | ob ho hf ha0 =>
    rename_i a dx fs
    refine ⟨a, dx, fs, rfl, by rw [← hc]; exact e1.bs.fh _ _ ho, look_none hf hm, ?_⟩
    refine h1 F1 H1 as1 σ _ e1 fun us μ2 vs F2 H2 as2 h2 e2 s2 g2 r2 => ?_
    obtain ⟨b, ha, hp, hg⟩ := h2
    have rs : Paired (RpU G as2 F2) (.ref a :: vs) (.d (.ob n ds) :: us) := .cons (Rp.mono s2 _ (Rp.ob ho hf ha0)) r2
    refine ⟨b, hp, F2, c.args b, e2.bs.fh, by rw [List.append_nil]; exact args_ok e2 rs ha, rfl, fun r v F' H' hr sF sf sH sn ro => ?_, fun e H' hx hs => ?_⟩
    · exact got_ok e2 sF sf sH sn ro (hg _ hr) ((q.on s1 g1).on s2 g2)
    · obtain ⟨n, hn, rfl⟩ := hx
      exact hg _ hn H' (e2.bs.h0.trans hs)
end
theorem mk0_mk {K : PySem.W.Frag} {h : Heap} {mg : Str → Option Value} {x : Str} {C : Addr} (_ : K.In h) (_ : ClsG mg x C) (a : PySem.W.makesIn K C = true) (b : PySem.W.findIn K (.ref C) "__init__" = some (some (.builtin "object.__init__")))
    (c : PySem.W.mroIn K C (.type "object") = some true) (d : PySem.W.keepIn K (.ref C) = true) : Mk0 K C := ⟨a, b, c, d⟩
end L3
namespace L3
open PySem PySem.Spec PyProof.Rows L2
/-! ### worths of stretches: split, lower bound -/
theorem row_split (s m n : Rat) (r : Row) (h1 : s ≤ m) (h2 : m ≤ n) : areaStep s n 0 r = areaStep s m 0 r + areaStep m n 0 r := by
  unfold areaStep maxR minR
  obtain ⟨b, e, w⟩ := r
  dsimp only
  by_cases a1 : b < s <;> by_cases a2 : n < e <;> by_cases a3 : m < e <;> by_cases a4 : b < m <;> simp only [a1, a2, a3, a4, if_true, if_false] <;> (repeat' split) <;> grind
theorem area_split {s m n : Rat} (h1 : s ≤ m) (h2 : m ≤ n) : ∀ rows : List Row, rows.foldl (areaStep s n) 0 = rows.foldl (areaStep s m) 0 + rows.foldl (areaStep m n) 0
  | [] => by show (0 : Rat) = 0 + 0; grind
  | r :: rows => by
    show rows.foldl (areaStep s n) (areaStep s n 0 r) = rows.foldl (areaStep s m) (areaStep s m 0 r) + rows.foldl (areaStep m n) (areaStep m n 0 r)
    rw [area_add, area_add s m, area_add m n, area_split h1 h2 rows, row_split s m n r h1 h2]
    grind
theorem within_split (st : Steps) {s m n : Rat} (h1 : s ≤ m) (h2 : m ≤ n) : withinR st s n = withinR st s m + withinR st m n := by
  unfold withinR areaR
  rw [area_split h1 h2]
  grind
/-- a stretch's area is at least its length -/
theorem area_ge {s m : Rat} (hm : m ≤ 1) : ∀ {st : Steps} {b : Rat}, Rise b st → (∀ x ∈ st, StepOk x) → m - maxR b s ≤ (rowsOf b st).foldl (areaStep s m) 0
  | [], b, h, _ => by
    have h' : b = 1 := h
    subst h'
    show m - maxR 1 s ≤ 0
    unfold maxR
    split <;> grind
  | (e, w) :: st, b, h, ok => by
    obtain ⟨h1, h2⟩ := (show b < e ∧ Rise e st from h)
    have ih := area_ge (s := s) hm h2 fun x hx => ok x (List.mem_cons_of_mem _ hx)
    have nn := area_nn (s := s) (m := m) (b := e) (st := st) fun x hx => ok x (List.mem_cons_of_mem _ hx)
    have hw := (ok _ List.mem_cons_self).2.1
    have hw' : (1 : Rat) ≤ (w : Rat) := by exact_mod_cast hw
    rw [area_cons]
    generalize (rowsOf e st).foldl (areaStep s m) 0 = rest at *
    have key : ∀ x : Rat, 0 ≤ x → x ≤ (w : Rat) * x := fun x hx => by
      have := Rat.mul_le_mul_of_nonneg_right hw' hx
      grind
    unfold areaStep maxR minR at *
    dsimp only at *
    by_cases a1 : b < s <;> by_cases a2 : m < e <;> by_cases a3 : e < s <;> simp only [a1, a2, a3, if_true, if_false] at ih ⊢ <;> split <;> first
      | grind
      | (rename_i c; have := key (m - s) (by grind); grind)
      | (rename_i c; have := key (m - b) (by grind); grind)
      | (rename_i c; have := key (e - s) (by grind); grind)
      | (rename_i c; have := key (e - b) (by grind); grind)
theorem within_pos {st : Steps} (g : Good st) {s m : Rat} (h0 : 0 ≤ s) (h : s < m) (h1 : m ≤ 1) : 0 < withinR st s m := by
  have a := area_ge (s := s) h1 g.up g.ok
  have t1 := g.total1
  have e : maxR 0 s = s := by unfold maxR; split <;> grind
  rw [e] at a
  show 0 < areaR (rowsOf 0 st) s m / total st
  rw [Rat.lt_div_iff (by grind)]
  show 0 * total st < (rowsOf 0 st).foldl (areaStep s m) 0
  grind
theorem within_nn {st : Steps} (g : Good st) {s m : Rat} : 0 ≤ withinR st s m := div_nn (area_nn g.ok) (by have := g.total1; grind)
theorem within_one {st : Steps} (g : Good st) : withinR st 0 1 = 1 := by
  have := g.total1
  show total st / total st = 1
  grind
end L3

set_option Elab.async false
set_option linter.all false
set_option maxRecDepth 100000
set_option maxHeartbeats 4000000
set_option exponentiation.threshold 100
/-! Dealings of spans: in order, as cells. -/
namespace L3
open PySem PySem.Spec PyProof.Rows L2
theorem map_erase {α β : Type} (f : α → β) : ∀ (l : List α) (j : Nat), (l.map f).eraseIdx j = (l.eraseIdx j).map f
  | [], _ => rfl
  | _ :: _, 0 => rfl
  | x :: l, j + 1 => by
    show f x :: (l.map f).eraseIdx j = f x :: (l.eraseIdx j).map f
    rw [map_erase f l j]
abbrev Ord := List (Nat × Rat × Rat)
def stOf (sts : List Steps) (k : Nat) : Steps := sts.getD k []
theorem getD_mem {sts : List Steps} {k : Nat} (h : k < sts.length) : stOf sts k ∈ sts := List.mem_of_getElem? (getD_at h)
/-- spans that follow one another -/
def ChainTo : Rat → Ord → Rat → Prop
  | x, [], y => x = y
  | x, s :: l, y => s.2.1 = x ∧ s.2.1 < s.2.2 ∧ ChainTo s.2.2 l y
theorem ChainTo.snoc : ∀ {l : Ord} {x y z : Rat} {t : Nat}, ChainTo x l y → y < z → ChainTo x (l ++ [(t, y, z)]) z
  | [], _, _, _, _, h, hz => by
    have h' := (show _ = _ from h)
    subst h'
    exact ⟨rfl, hz, rfl⟩
  | s :: l, _, _, _, _, ⟨h1, h2, h3⟩, hz => ⟨h1, h2, h3.snoc hz⟩
theorem ChainTo.app : ∀ {l l' : Ord} {x y z : Rat}, ChainTo x l y → ChainTo y l' z → ChainTo x (l ++ l') z
  | [], _, _, _, _, h, h' => by
    have e := (show _ = _ from h)
    subst e
    exact h'
  | s :: l, _, _, _, _, ⟨h1, h2, h3⟩, h' => ⟨h1, h2, h3.app h'⟩
theorem ChainTo.le : ∀ {l : Ord} {x y : Rat}, ChainTo x l y → x ≤ y
  | [], _, _, h => by have := (show _ = _ from h); grind
  | s :: l, _, _, ⟨h1, h2, h3⟩ => by have := h3.le; grind
theorem ChainTo.in : ∀ {l : Ord} {x y : Rat}, ChainTo x l y → ∀ s ∈ l, x ≤ s.2.1 ∧ s.2.1 < s.2.2 ∧ s.2.2 ≤ y
  | [], _, _, _, _, h => by cases h
  | t :: l, x, y, ⟨h1, h2, h3⟩, s, h => by
    have hl := h3.le
    rcases List.mem_cons.mp h with rfl | h
    · exact ⟨by grind, h2, hl⟩
    · have := h3.in s h
      exact ⟨by grind, this.2.1, this.2.2⟩
theorem ChainTo.first {l : Ord} {s : Nat × Rat × Rat} {x y : Rat} (h : ChainTo x l y) (h0 : l[0]? = some s) : s.2.1 = x := by
  cases l with
  | nil => simp at h0
  | cons t l => simp at h0; subst h0; exact h.1
theorem ChainTo.next : ∀ {l : Ord} {x y : Rat} {i : Nat} {s s' : Nat × Rat × Rat}, ChainTo x l y → l[i]? = some s → l[i + 1]? = some s' → s'.2.1 = s.2.2
  | [], _, _, _, _, _, _, h, _ => by simp at h
  | t :: l, _, _, 0, s, s', ⟨_, _, h3⟩, h, h' => by
    simp at h
    subst h
    exact h3.first (by simpa using h')
  | t :: l, _, _, i + 1, s, s', ⟨_, _, h3⟩, h, h' => h3.next (i := i) (by simpa using h) (by simpa using h')
theorem ChainTo.last : ∀ {l : Ord} {x y : Rat} {i : Nat} {s : Nat × Rat × Rat}, ChainTo x l y → l[i]? = some s → i + 1 = l.length → s.2.2 = y
  | [], _, _, _, _, _, h, _ => by simp at h
  | [t], _, _, 0, s, ⟨_, _, h3⟩, h, _ => by simp at h; subst h; exact h3
  | t :: u :: l, _, _, 0, s, _, _, h' => by simp at h'
  | t :: l, _, _, i + 1, s, ⟨_, _, h3⟩, h, h' => h3.last (i := i) (by simpa using h) (by simp at h'; omega)
theorem ChainTo.one : ∀ {l : Ord} {x y : Rat} {i : Nat} {s : Nat × Rat × Rat}, ChainTo x l y → l[i]? = some s → l.filter (fun r => decide (r.2.1 = s.2.1)) = [s]
  | [], _, _, _, _, _, h => by simp at h
  | t :: l, x, y, 0, s, ⟨h1, h2, h3⟩, h => by
    simp at h
    subst h
    rw [List.filter_cons, if_pos (decide_eq_true rfl)]
    congr 1
    rw [List.filter_eq_nil_iff]
    intro r hr z
    have z := of_decide_eq_true z
    have := (h3.in r hr).1
    grind
  | t :: l, x, y, i + 1, s, ⟨h1, h2, h3⟩, h => by
    have h' : l[i]? = some s := by simpa using h
    have ih := h3.one h'
    have := (h3.in s (List.mem_of_getElem? h')).1
    rw [List.filter_cons, if_neg (by simp; intro z; grind), ih]
theorem chain_of : ∀ {l : Ord} {x : Rat}, ChainTo x l 1 → ChainR x (l.map (·.2))
  | [], _, h => h
  | _ :: _, _, ⟨h1, h2, h3⟩ => ⟨h1, h2, chain_of h3⟩
/-- a span for each taker -/
structure SpanDeal (n : Nat) (ord : Ord) (ps : List Piece) : Prop where
  perm : (ord.map (·.1)).Perm (List.range n)
  chain : ChainTo 0 ord 1
  len : ps.length = n
  at_ : ∀ s ∈ ord, ps[s.1]? = some [s.2]
  on : ∀ s ∈ ord, ∃ D : Nat, 0 < D ∧ D < 2 ^ 900 ∧ Gr D s.2.1 ∧ Gr D s.2.2
theorem SpanDeal.any {n : Nat} {ord : Ord} {ps : List Piece} (h : SpanDeal n ord ps) {k : Nat} (hk : k < n) : ∃ s ∈ ord, s.1 = k := by
  have := h.perm.symm.subset (List.mem_range.mpr hk)
  obtain ⟨s, hs, e⟩ := List.mem_map.mp this
  exact ⟨s, hs, e⟩
def seOf (ps : List Piece) (k : Nat) : Rat × Rat := (ps.getD k []).headD (0, 0)
theorem SpanDeal.se {n : Nat} {ord : Ord} {ps : List Piece} (h : SpanDeal n ord ps) : ∀ s ∈ ord, seOf ps s.1 = s.2 := fun s hs => by
  unfold seOf
  rw [List.getD_eq_getElem?_getD, h.at_ s hs]
  rfl
theorem SpanDeal.ps_at {n : Nat} {ord : Ord} {ps : List Piece} (h : SpanDeal n ord ps) {k : Nat} (hk : k < n) : ps[k]? = some [seOf ps k] := by
  obtain ⟨s, hs, rfl⟩ := h.any hk
  rw [h.se s hs]
  exact h.at_ s hs
theorem SpanDeal.ps_eq {n : Nat} {ord : Ord} {ps : List Piece} (h : SpanDeal n ord ps) : ps = (List.range n).map fun k => [seOf ps k] := by
  apply List.ext_getElem?
  intro k
  by_cases hk : k < n
  · rw [h.ps_at hk, List.getElem?_map, List.getElem?_range hk]; rfl
  · rw [List.getElem?_eq_none (by rw [h.len]; omega), List.getElem?_eq_none (by simp; omega)]
theorem SpanDeal.mem {n : Nat} {ord : Ord} {ps : List Piece} (h : SpanDeal n ord ps) {p : Piece} (hp : p ∈ ps) : ∃ s ∈ ord, p = [s.2] := by
  obtain ⟨k, hk, rfl⟩ := List.getElem_of_mem hp
  have hk' : k < n := by rw [← h.len]; exact hk
  obtain ⟨s, hs, e⟩ := h.any hk'
  have z := h.at_ s hs
  rw [e, List.getElem?_eq_getElem hk] at z
  exact ⟨s, hs, Option.some.inj z⟩
theorem one_fit {s e : Rat} (h0 : 0 ≤ s) (h1 : s < e) (h2 : e ≤ 1) (on : ∃ D : Nat, 0 < D ∧ D < 2 ^ 2000 ∧ Gr D s ∧ Gr D e) : FitP [(s, e)] := by
  obtain ⟨D, d0, d1, g1, g2⟩ := on
  refine ⟨one_piece h0 h1 h2, one_grid d0 d1 g1 g2, fun t ht => ?_, by simp⟩
  have : t = (s, e) := by simpa using ht
  rw [this]
  exact ⟨(gr_pt g1 d0 d1 h0 (by grind)).sz, (gr_pt g2 d0 d1 (by grind) h2).sz⟩
theorem SpanDeal.fit {n : Nat} {ord : Ord} {ps : List Piece} (h : SpanDeal n ord ps) : ∀ p ∈ ps, FitP p := fun p hp => by
  obtain ⟨s, hs, rfl⟩ := h.mem hp
  have z := h.chain.in s hs
  obtain ⟨D, d0, d1, d2⟩ := h.on s hs
  exact one_fit z.1 z.2.1 z.2.2 ⟨D, d0, Nat.lt_trans d1 (Nat.pow_lt_pow_right (by decide) (by decide)), d2⟩
/-- ends of few figures -/
def DenP (n : Nat) (p : Piece) : Prop := ∀ s ∈ p, s.1.den < 2 ^ n ∧ s.2.den < 2 ^ n
theorem den_one {n D : Nat} {s e : Rat} (d0 : 0 < D) (d1 : D < 2 ^ n) (g1 : Gr D s) (g2 : Gr D e) : DenP n [(s, e)] := fun t ht => by
  have : t = (s, e) := by simpa using ht
  rw [this]
  exact ⟨Nat.lt_of_le_of_lt (g1.den_le d0) d1, Nat.lt_of_le_of_lt (g2.den_le d0) d1⟩
theorem SpanDeal.den {n : Nat} {ord : Ord} {ps : List Piece} (h : SpanDeal n ord ps) : ∀ p ∈ ps, DenP 900 p := fun p hp => by
  obtain ⟨s, hs, rfl⟩ := h.mem hp
  obtain ⟨D, d0, d1, g1, g2⟩ := h.on s hs
  exact den_one d0 d1 g1 g2
theorem SpanDeal.one {n : Nat} {ord : Ord} {ps : List Piece} (h : SpanDeal n ord ps) : ∀ p ∈ ps, p.length = 1 := fun p hp => by
  obtain ⟨s, hs, rfl⟩ := h.mem hp
  rfl
theorem SpanDeal.many {n : Nat} {ord : Ord} {ps : List Piece} (h : SpanDeal n ord ps) : manyR ps = n := by
  have go : ∀ l : List Piece, (∀ p ∈ l, p.length = 1) → manyR l = l.length := by
    intro l
    induction l with
    | nil => intro _; rfl
    | cons p l ih =>
      intro hl
      have h1 := ih fun q hq => hl q (List.mem_cons_of_mem _ hq)
      have h2 := hl p List.mem_cons_self
      simp only [manyR, List.map_cons, List.sum_cons, List.length_cons] at h1 ⊢
      omega
  rw [go ps h.one, h.len]
theorem flat_one {β : Type} (f : Nat → β) : ∀ l : List Nat, (l.map fun k => [f k]).flatten = l.map f
  | [] => rfl
  | k :: l => by
    show [f k] ++ (l.map fun k => [f k]).flatten = f k :: l.map f
    rw [flat_one f l]
    rfl
theorem SpanDeal.tiles {n : Nat} {ord : Ord} {ps : List Piece} (h : SpanDeal n ord ps) : TilesR ps := by
  refine ⟨ord.map (·.2), ?_, chain_of h.chain⟩
  have e1 : ps.flatten = (List.range n).map (seOf ps) := by
    conv => lhs; rw [h.ps_eq]
    exact flat_one _ _
  have e2 : ord.map (·.2) = (ord.map (·.1)).map (seOf ps) := by
    rw [List.map_map]
    exact List.map_congr_left fun s hs => (h.se s hs).symm
  rw [e1, e2]
  exact h.perm.map _
/-- who begins at the point -/
theorem SpanDeal.who {n : Nat} {ord : Ord} {ps : List Piece} (h : SpanDeal n ord ps) {i : Nat} {s : Nat × Rat × Rat} (hs : ord[i]? = some s) : (List.range n).filter (fun k => decide ((seOf ps k).1 = s.2.1)) = [s.1] := by
  have h1 := (h.perm.symm.filter (fun k => decide ((seOf ps k).1 = s.2.1)))
  have e : (ord.map (·.1)).filter (fun k => decide ((seOf ps k).1 = s.2.1)) = [s.1] := by
    rw [List.filter_map]
    have e2 : ord.filter ((fun k => decide ((seOf ps k).1 = s.2.1)) ∘ (·.1)) = ord.filter (fun r => decide (r.2.1 = s.2.1)) := by
      refine List.filter_congr fun r hr => ?_
      show decide ((seOf ps r.1).1 = s.2.1) = _
      rw [h.se r hr]
    rw [e2, h.chain.one hs]
    rfl
  rw [e] at h1
  exact List.perm_singleton.mp h1
/-- the same order: the same pieces -/
theorem SpanDeal.same {n : Nat} {ord : Ord} {ps ps' : List Piece} (h : SpanDeal n ord ps) (h' : SpanDeal n ord ps') : ps = ps' := by
  rw [h.ps_eq, h'.ps_eq]
  refine List.map_congr_left fun k hk => ?_
  obtain ⟨s, hs, rfl⟩ := h.any (List.mem_range.mp hk)
  rw [h.se s hs, h'.se s hs]
end L3
namespace L3
open PySem PySem.Spec PyProof.Rows L2
def encN (l : List Nat) : List D := l.map fun (k : Nat) => D.int k
theorem encF_inv {n : Nat} (h : 0 < n) : encF (1 / (n : Rat)) = .tup [.int 1, .int n] := by
  have e : (1 / (n : Rat)) = Rat.divInt 1 (n : Int) := by
    rw [Rat.divInt_eq_div]; rfl
  have hn : (0 : Int) < (n : Int) := by omega
  have a := low_num (a := 1) hn
  have b := low_den (a := 1) hn
  have g : Int.gcd 1 (n : Int) = 1 := by simp
  rw [g] at a b
  unfold encF
  rw [e, ← a, ← b]
  simp
theorem erase_at {l : List Nat} {t : Nat} (h : t ∈ l) : ∃ j : Nat, l[j]? = some t ∧ (∀ (i : Nat) (k : Nat), i < j → l[i]? = some k → k ≠ t) ∧ l.eraseIdx j = l.erase t := by
  obtain ⟨as, bs, e, hn⟩ := List.eq_append_cons_of_mem h
  subst e
  refine ⟨as.length, by rw [List.getElem?_append_right (Nat.le_refl _), Nat.sub_self]; rfl, fun i t hi ht => ?_, ?_⟩
  · rw [List.getElem?_append_left hi] at ht
    exact fun z => hn (z ▸ List.mem_of_getElem? ht)
  · rw [List.eraseIdx_append_of_length_le (Nat.le_refl _), Nat.sub_self, List.erase_append_right _ hn, List.erase_cons_head]
    rfl
theorem atN {l : List Nat} {i k : Nat} (h : l[i]? = some k) : atI (encN l) (i : Int) = some (.int k) := atI_n (by rw [encN, List.getElem?_map, h]; rfl)
theorem atT {sts : List Steps} {k : Nat} (h : k < sts.length) : atI (encTs sts) (k : Int) = some (encTaste (stOf sts k)) := atI_n (by
  have := getD_at (d := []) h
  rw [encTs, List.getElem?_map, this]
  rfl)
theorem nodup_set {l : List Nat} {x : Nat} (h : l.Nodup) (hx : x ∉ l) (i : Nat) : (l.set i x).Nodup := by
  rw [List.nodup_iff_pairwise_ne, List.pairwise_iff_getElem] at h ⊢
  intro a b ha hb hab
  rw [List.length_set] at ha hb
  rw [List.getElem_set, List.getElem_set]
  have z := h a b ha hb hab
  split
  · split
    · omega
    · rename_i c1 c2
      intro e
      exact hx (e ▸ List.getElem_mem hb)
  · split
    · intro e
      exact hx (e ▸ List.getElem_mem ha)
    · exact z
/-- the own lists of a dealing under way -/
structure Deal (μ : Mu) (np : Nat) (ks : List Nat) (ps : List Piece) : Prop where
  at_ : μ[np]? = some (.pl ks)
  nd : ks.Nodup
  out : np ∉ ks
  pr : Paired (fun j (p : Piece) => μ[j]? = some (.rw (encP p))) ks ps
theorem Deal.lt {μ : Mu} {np : Nat} {ks : List Nat} {ps : List Piece} (h : Deal μ np ks ps) : ∀ j ∈ ks, j < μ.length := fun j hj => by
  obtain ⟨i, hi, rfl⟩ := List.getElem_of_mem hj
  have hl := paired_len h.pr
  obtain ⟨x, x1, x2⟩ := paired_get h.pr (List.getElem?_eq_getElem (by omega : i < ps.length))
  rw [List.getElem?_eq_getElem hi] at x1
  cases x1
  exact lt_at x2
theorem Deal.ext {μ ν : Mu} {np : Nat} {ks : List Nat} {ps : List Piece} (h : Deal μ np ks ps) : Deal (μ ++ ν) np ks ps := ⟨at_ext h.at_, h.nd, h.out, paired_imp (fun _ _ z => at_ext z) h.pr⟩
theorem Deal.other {μ : Mu} {np n : Nat} {ks : List Nat} {ps : List Piece} {c : Cell} (h : Deal μ np ks ps) (h1 : n ≠ np) (h2 : n ∉ ks) : Deal (μ.set n c) np ks ps := by
  refine ⟨by rw [List.getElem?_set_ne h1]; exact h.at_, h.nd, h.out, ?_⟩
  have go : ∀ {ks : List Nat} {ps : List Piece}, n ∉ ks → Paired (fun j (p : Piece) => μ[j]? = some (.rw (encP p))) ks ps → Paired (fun j (p : Piece) => (μ.set n c)[j]? = some (.rw (encP p))) ks ps := by
    intro ks ps hn hp
    induction hp with
    | nil => exact .nil
    | cons a b ih =>
      rw [List.mem_cons, not_or] at hn
      exact .cons (by rw [List.getElem?_set_ne hn.1]; exact a) (ih hn.2)
  exact go h2 h.pr
/-- pieces[t] = a new list -/
theorem Deal.put {μ : Mu} {np t : Nat} {ks : List Nat} {ps : List Piece} {p : Piece} (h : Deal μ np ks ps) : Deal ((μ ++ [Cell.rw (encP p)]).set np (Cell.pl (ks.set t μ.length))) np (ks.set t μ.length) (ps.set t p) := by
  have hnp := lt_at h.at_
  have hml : μ.length ∉ ks := fun z => Nat.lt_irrefl _ (h.lt _ z)
  refine ⟨List.getElem?_set_self (by simp; omega), nodup_set h.nd hml t, fun z => ?_, ?_⟩
  · rcases List.mem_or_eq_of_mem_set z with z | z
    · exact h.out z
    · omega
  · have e := (h.ext (ν := [Cell.rw (encP p)])).pr
    have go : ∀ {ks' : List Nat} {ps' : List Piece}, (∀ j ∈ ks', j ≠ np) → Paired (fun j (q : Piece) => (μ ++ [Cell.rw (encP p)])[j]? = some (Cell.rw (encP q))) ks' ps' → Paired (fun j (q : Piece) => ((μ ++ [Cell.rw (encP p)]).set np (Cell.pl (ks.set t μ.length)))[j]? = some (Cell.rw (encP q))) ks' ps' := by
      intro ks' ps' hn hp
      induction hp with
      | nil => exact .nil
      | cons a b ih => exact .cons (by rw [List.getElem?_set_ne (Ne.symm (hn _ List.mem_cons_self))]; exact a) (ih fun j hj => hn j (List.mem_cons_of_mem _ hj))
    refine go (fun j hj z => ?_) (paired_set (RR := fun (j : Nat) (q : Piece) => (μ ++ [Cell.rw (encP p)])[j]? = some (Cell.rw (encP q))) at_app t e)
    subst z
    rcases List.mem_or_eq_of_mem_set hj with z | z
    · exact h.out z
    · omega
theorem Deal.push {μ : Mu} {np : Nat} {ks : List Nat} {ps : List Piece} {p : Piece} (h : Deal μ np ks ps) : Deal ((μ ++ [Cell.rw (encP p)]).set np (Cell.pl (ks ++ [μ.length]))) np (ks ++ [μ.length]) (ps ++ [p]) := by
  have hnp := lt_at h.at_
  have hml : μ.length ∉ ks := fun z => Nat.lt_irrefl _ (h.lt _ z)
  refine ⟨List.getElem?_set_self (by simp; omega), ?_, fun z => ?_, ?_⟩
  · rw [List.nodup_append]
    exact ⟨h.nd, by simp, fun a ha b hb => by simp at hb; subst hb; intro z; subst z; exact hml ha⟩
  · rcases List.mem_append.mp z with z | z
    · exact h.out z
    · have : np = μ.length := by simpa using z
      omega
  · have e := (h.ext (ν := [Cell.rw (encP p)])).pr
    have go : ∀ {ks' : List Nat} {ps' : List Piece}, (∀ j ∈ ks', j ≠ np) → Paired (fun j (q : Piece) => (μ ++ [Cell.rw (encP p)])[j]? = some (Cell.rw (encP q))) ks' ps' → Paired (fun j (q : Piece) => ((μ ++ [Cell.rw (encP p)]).set np (Cell.pl (ks ++ [μ.length])))[j]? = some (Cell.rw (encP q))) ks' ps' := by
      intro ks' ps' hn hp
      induction hp with
      | nil => exact .nil
      | cons a b ih => exact .cons (by rw [List.getElem?_set_ne (Ne.symm (hn _ List.mem_cons_self))]; exact a) (ih fun j hj => hn j (List.mem_cons_of_mem _ hj))
    refine go (fun j hj z => ?_) (paired_app (RR := fun (j : Nat) (q : Piece) => (μ ++ [Cell.rw (encP p)])[j]? = some (Cell.rw (encP q))) e at_app)
    subst z
    rcases List.mem_append.mp hj with z | z
    · exact h.out z
    · have : j = μ.length := by simpa using z
      omega
theorem paired_mapR {α β γ : Type} {RR : α → γ → Prop} {f : β → γ} : ∀ {xs : List α} {ys : List β}, Paired (fun a b => RR a (f b)) xs ys → Paired RR xs (ys.map f)
  | _, _, .nil => .nil
  | _, _, .cons a t => .cons a (paired_mapR t)
theorem Deal.ret {μ : Mu} {np : Nat} {ks : List Nat} {ps : List Piece} (h : Deal μ np ks ps) : Ret μ (.p np) (.own2 (ps.map encP)) := .own2 h.at_ h.nd (paired_mapR (RR := fun (j : Nat) (ds : List D) => μ[j]? = some (Cell.rw ds)) (f := encP) h.pr)
/-- a call's own2, as a dealing -/
theorem Deal.of {μ : Mu} (ps : List Piece) : Deal (μ ++ (ps.map encP).map Cell.rw ++ [.pl ((List.range (ps.map encP).length).map (μ.length + ·))]) (μ.length + (ps.map encP).length) ((List.range (ps.map encP).length).map (μ.length + ·)) ps := by
  refine ⟨?_, ?_, ?_, ?_⟩
  · rw [List.getElem?_append_right (by simp)]
    simp
  · refine List.Pairwise.map (μ.length + ·) (fun a b h => ?_) (List.nodup_range (n := (ps.map encP).length))
    omega
  · intro z
    obtain ⟨x, hx, e⟩ := List.mem_map.mp z
    have := List.mem_range.mp hx
    omega
  · refine paired_of (by simp) fun i x y hx hy => ?_
    have hi := (List.getElem?_eq_some_iff.mp hy).1
    rw [List.getElem?_map, List.getElem?_range (by simpa using hi)] at hx
    cases hx
    rw [List.getElem?_append_left (by simp; omega), List.getElem?_append_right (Nat.le_add_right _ _), Nat.add_sub_cancel_left, List.getElem?_map, List.getElem?_map, hy]
    rfl
theorem Deal.argT {μ : Mu} {np : Nat} {ks : List Nat} {ps : List Piece} (h : Deal μ np ks ps) : ArgT μ (.p np) (.l (encPs ps)) := by
  have e : encPs ps = (ps.map encP).map D.lst := by rw [List.map_map]; rfl
  rw [e]
  refine .t h.at_ (paired_mapR (RR := fun (j : Nat) (ds : List D) => IsL μ (.p j) ds) (f := encP) (paired_imp (fun _ _ z => isL_rw z) h.pr))
theorem Deal.isP {μ : Mu} {np : Nat} {ks : List Nat} {ps : List Piece} (h : Deal μ np ks ps) : IsP μ (.p np) ks := ⟨np, rfl, h.at_⟩
theorem Deal.len {μ : Mu} {np : Nat} {ks : List Nat} {ps : List Piece} (h : Deal μ np ks ps) : ks.length = ps.length := paired_len h.pr
theorem Deal.get {μ : Mu} {np i m : Nat} {ks : List Nat} {ps : List Piece} (h : Deal μ np ks ps) (hm : ks[i]? = some m) : ∃ p, ps[i]? = some p ∧ μ[m]? = some (.rw (encP p)) := by
  have hi := (List.getElem?_eq_some_iff.mp hm).1
  have hi' : i < ps.length := by rw [← h.len]; exact hi
  obtain ⟨x, x1, x2⟩ := paired_get h.pr (List.getElem?_eq_getElem hi')
  rw [hm] at x1
  cases x1
  exact ⟨_, List.getElem?_eq_getElem hi', x2⟩
theorem kRev {X : Cx} {K : PySem.W.Frag} (h : X.K = K) {e : Expr} {te : TE} {k : Nat} {p1 p2 p3 pos : Pos} (he : PE X e te) : PE X (.Subscript e (.Slice none none (some (.UnaryOp .USub (.Constant (.int 1) k p1) p2)) p3) pos) (tRevL K te) := by subst h; exact pe_revL he
/-! ### a list whose very values are known -/
section
variable {G : Gx} {F0 H0 : Hp} {F H : Hp} {as : List Addr} {σ : L2.St} {ρ : Ro} {μ : Mu} {R : RE} {D' : DE}
theorem Ev.recell (e : Ev G F0 H0 F H as σ ρ μ) {k : Nat} {c c' : Cell} {a : Addr} {vs : List V} (hk : μ[k]? = some c) (ha : as[k]? = some a) (m : Mt c = true) (m' : Mt c' = true) (hv : H a = some (.lst vs)) (hc : CellOk G as H0 F H a c') : Ev G F0 H0 F H as σ ρ (μ.set k c') := by
  have eH : upd H a (.lst vs) = H := by
    funext b
    by_cases hb : b = a
    · subst hb; rw [upd_same, hv]
    · rw [upd_ne hb]
  have e2 := e.write (o := .lst vs) (c' := c') hk ha m m' (by rw [eH]; exact hc)
  rw [eH] at e2
  exact e2
/-- its values named -/
theorem wS_name {t : TS} {k : Nat} {ds : List D} (hk : μ[k]? = some (.rw ds)) (hi : ∃ i : Nat, ρ[i]? = some (some (U.p k))) (h : ∀ vs, wS G F0 H0 t ρ (μ.set k (.vw vs ds)) D') : wS G F0 H0 t ρ μ D' := fun F H as σ X e q => by
  obtain ⟨i, hi⟩ := hi
  obtain ⟨v, _, a, rfl, ha⟩ := e.sl i _ hi
  obtain ⟨n0, nF, vs, hv, hr⟩ := e.ce k _ a hk ha
  exact h vs F H as σ X (e.recell hk ha rfl rfl hv ⟨n0, nF, hv, hr⟩) q
theorem wC_listOfV {k : Nat} {vs : List V} {ds : List D} (hk : μ[k]? = some (.vw vs ds)) (kk : R (.p μ.length) (μ ++ [.vw vs ds])) : wC G F0 H0 (rListOf G.K) [.p k] ρ μ R := fun F H as σ ws Q e r q => by
  obtain ⟨v, rfl, r9⟩ := p1 r
  obtain ⟨a, rfl, ha⟩ := r9
  obtain ⟨n0, nF, hv, hr⟩ := e.ce k _ a hk ha
  refine ⟨a, vs, rfl, .inl (.of hv), fun p hp => ?_⟩
  have e2 := e.cell (o := .lst vs) (c := .vw vs ds) hp ⟨e.bs.h0.free hp, e.bs.fh.free hp, upd_same, hr⟩
  refine q _ _ _ _ _ _ kk e2 (.refl _) .app ⟨p, rfl, ?_⟩
  rw [← e.al, List.getElem?_append_right (Nat.le_refl _)]
  simp
theorem isL_vw {k : Nat} {vs : List V} {ds : List D} (h : μ[k]? = some (.vw vs ds)) : IsL μ (.p k) ds := .inr ⟨k, rfl, .inr (.inr ⟨vs, h⟩)⟩
def rNeSame (K : PySem.W.Frag) : R2 := fun x y H Q => ∃ a b xs, x = .ref a ∧ y = .ref b ∧ SqL K H a xs ∧ SqL K H b xs ∧ (∀ z ∈ xs, ∃ p, z = V.ref p) ∧ Q (.bl false) H
theorem op_neSame {X : Cx} (hu : X.A.units + 64 < cLine) : OpR X (compareOp .NotEq) (rNeSame X.K) := by
  intro pins s σ H x y v u Q I rx ry h
  obtain ⟨a, b, xs, rfl, rfl, ha, hb, hz, q⟩ := h
  cases rx
  cases ry
  obtain ⟨its, r, p1, _⟩ := I.list ha
  obtain ⟨its2, r2, p2, _⟩ := I.list hb
  have same : ∀ {xs : List V} {its its2 : List Value}, (∀ z ∈ xs, ∃ p, z = V.ref p) → Vals xs its → Vals xs its2 → its = its2 := by
    intro xs
    induction xs with
    | nil => intro its its2 _ h1 h2; cases h1; cases h2; rfl
    | cons x xs ih =>
      intro its its2 hz h1 h2
      cases h1 with
      | cons a1 b1 =>
        cases h2 with
        | cons a2 b2 =>
          obtain ⟨p, rfl⟩ := hz x List.mem_cons_self
          rw [ih (fun z hz' => hz z (List.mem_cons_of_mem _ hz')) b1 b2]
          cases a1
          cases a2
          rfl
  have e := same hz r r2
  subst e
  have hl : s.heap.IsList a its.toArray := by
    obtain ⟨o, n, h1, h2, _, h4⟩ := p1
    exact ⟨o, h1, h2, n, h4⟩
  have hl2 : s.heap.IsList b its.toArray := by
    obtain ⟨o, n, h1, h2, _, h4⟩ := p2
    exact ⟨o, h1, h2, n, h4⟩
  have z := SeqAt.RcNeAt.lists (A := X.A) (e := fun _ => true) hl hl2 rfl (by omega) (fun j h1 h2 => SeqAt.EqAt.same _)
  refine z X.prog X.w X.xe _ ⟨.bl false, H, I, ?_, q⟩
  have e0 : ((List.range its.toArray.size).all fun _ => true) = true := by rw [List.all_eq_true]; intro _ _; rfl
  rw [e0]
  rfl
theorem kNeSame {X : Cx} {K : PySem.W.Frag} (h : X.K = K) (hu : X.A.units + 64 < cLine) : OpR X (compareOp .NotEq) (rNeSame K) := by subst h; exact op_neSame hu
theorem obs_ref {F : Hp} : ∀ {vs : List V} {ds : List D}, (∀ d ∈ ds, ∃ n es, d = .ob n es) → RpAll G F vs ds → ∀ z ∈ vs, ∃ p, z = V.ref p
  | _, [], _, h, z, hz => by cases h; cases hz
  | _, d :: ds, ho, h, z, hz => by
    cases h with
    | cons a b =>
      rcases List.mem_cons.mp hz with rfl | hz
      · obtain ⟨n, es, rfl⟩ := ho _ List.mem_cons_self
        cases a
        exact ⟨_, rfl⟩
      · exact obs_ref (fun d hd => ho d (List.mem_cons_of_mem _ hd)) b z hz
theorem w2_neSame {i j : Nat} {vs : List V} {ds : List D} (h1 : μ[i]? = some (.vw vs ds)) (h2 : μ[j]? = some (.vw vs ds)) (ho : ∀ d ∈ ds, ∃ n es, d = .ob n es) (k : R (.d (.bl false)) μ) : w2 G F0 H0 (rNeSame G.K) (.p i) (.p j) ρ μ R := fun F H as σ v1 v2 Q e r1 r2 q => by
  obtain ⟨a, rfl, ha⟩ := r1
  obtain ⟨b, rfl, hb⟩ := r2
  obtain ⟨_, _, hv, hr⟩ := e.ce i _ a h1 ha
  obtain ⟨_, _, hw, _⟩ := e.ce j _ b h2 hb
  exact ⟨a, b, vs, rfl, rfl, .of hv, .of hw, obs_ref ho hr, q _ _ _ _ _ _ k e (.refl _) .refl (Rp.bl _)⟩
end
end L3

set_option Elab.async false
set_option linter.all false
set_option maxRecDepth 100000
set_option maxHeartbeats 4000000
set_option exponentiation.threshold 100
/-! Last's way. -/
namespace L3
open PySem PySem.Spec PyProof.Rows L2
/-! ### whoever would cut first: the order -/
/-- who is served so far, who is left, up to where -/
inductive LastTo (sts : List Steps) (q : Rat) : Ord → List Nat → Rat → Prop
  | start : LastTo sts q [] (List.range sts.length) 0
  | step {done : Ord} {left : List Nat} {x : Rat} {t : Nat} {m : Rat} : LastTo sts q done left x → 1 < left.length → t ∈ left → markR (stOf sts t) x q = some m →
      (∀ k ∈ left, ∀ m', markR (stOf sts k) x q = some m' → m ≤ m') → (∀ k ∈ left, k < t → ∀ m', markR (stOf sts k) x q = some m' → m < m') → LastTo sts q (done ++ [(t, x, m)]) (left.erase t) m
/-- what holds of it -/
structure LastOk (sts : List Steps) (q : Rat) (done : Ord) (left : List Nat) (x : Rat) : Prop where
  perm : (done.map (·.1) ++ left).Perm (List.range sts.length)
  up : left.Pairwise (· < ·)
  x0 : 0 ≤ x
  x1 : x < 1
  rest : ∀ k ∈ left, (left.length : Rat) * q ≤ withinR (stOf sts k) x 1
  on : ∃ Dx : Nat, 0 < Dx ∧ Dx ≤ 2 ^ (100 * done.length) ∧ Gr Dx x
  chain : ChainTo 0 done x
  each : ∀ (i : Nat) (s : Nat × Rat × Rat), done[i]? = some s → 0 ≤ s.2.1 ∧ s.2.1 < s.2.2 ∧ s.2.2 < 1 ∧ withinR (stOf sts s.1) s.2.1 s.2.2 = q ∧ (∃ D : Nat, 0 < D ∧ D < 2 ^ 900 ∧ Gr D s.2.1 ∧ Gr D s.2.2) ∧
    ∀ k : Nat, (k ∈ left ∨ ∃ j s', i < j ∧ done[j]? = some s' ∧ s'.1 = k) → withinR (stOf sts k) s.2.1 s.2.2 ≤ q ∧ (withinR (stOf sts k) s.2.1 s.2.2 = q → s.1 < k)
theorem last_ok {sts : List Steps} {q : Rat} {n : Nat} (hn : sts.length = n) (n1 : 1 ≤ n) (n8 : n ≤ 8) (hq : q = 1 / (n : Rat)) (hg : ∀ st ∈ sts, Good st) : ∀ {done : Ord} {left : List Nat} {x : Rat}, LastTo sts q done left x → LastOk sts q done left x := by
  have nq : (0 : Rat) < (n : Rat) := by exact_mod_cast (by omega : 0 < n)
  have q0 : 0 < q := by rw [hq, Rat.lt_div_iff nq]; grind
  have nq1 : (n : Rat) * q = 1 := by rw [hq]; grind
  have gq : Gr n q := by
    refine ⟨1, ?_⟩
    have e : ((1 : Int) : Rat) = 1 := rfl
    rw [e]
    grind
  intro done left x h
  induction h with
  | start =>
    refine ⟨by simp, ?_, by grind, by grind, fun k hk => ?_, ⟨1, by decide, by decide, Gr.zero⟩, rfl, fun i s h => by simp at h⟩
    · rw [List.pairwise_iff_getElem]
      intro i j hi hj hij
      simp
      exact hij
    · have hk' : k < sts.length := List.mem_range.mp hk
      rw [within_one (hg _ (getD_mem hk')), List.length_range, hn, nq1]
      grind
  | @step done left x t m hl h1 ht hm hmin hlt ih =>
    have hin : ∀ k ∈ left, k < sts.length := fun k hk => List.mem_range.mp (ih.perm.subset (List.mem_append_right _ hk))
    have gk : ∀ k ∈ left, Good (stOf sts k) := fun k hk => hg _ (getD_mem (hin k hk))
    have l2 : (2 : Rat) ≤ (left.length : Rat) := by exact_mod_cast h1
    have ge : ∀ k ∈ left, q < withinR (stOf sts k) x 1 := fun k hk => by
      have z := ih.rest k hk
      have : (2 : Rat) * q ≤ (left.length : Rat) * q := Rat.mul_le_mul_of_nonneg_right l2 (by grind)
      grind
    have mk : ∀ k ∈ left, ∃ m', markR (stOf sts k) x q = some m' ∧ x < m' ∧ m' ≤ 1 ∧ withinR (stOf sts k) x m' = q := fun k hk => by
      obtain ⟨m', a, b, _, c, d, _⟩ := (mark_law (gk k hk) (s := x) q0).2 (by have := ge k hk; grind)
      exact ⟨m', a, b, c, d⟩
    obtain ⟨mt, e1, e2, e3, e4⟩ := mk t ht
    rw [hm] at e1
    cases e1
    have m1 : m < 1 := by
      have z := ge t ht
      by_cases c : m = 1
      · rw [c] at e4; grind
      · grind
    have le : ∀ k ∈ left, withinR (stOf sts k) x m ≤ q ∧ (withinR (stOf sts k) x m = q → ¬ k < t) := fun k hk => by
      obtain ⟨m', a, b, c, d⟩ := mk k hk
      have mm := hmin k hk m' a
      have sp := within_split (stOf sts k) (s := x) (m := m) (n := m') (by grind) mm
      have nn := within_nn (gk k hk) (s := m) (m := m')
      refine ⟨by grind, fun e hkt => ?_⟩
      have lt := hlt k hk hkt m' a
      have := within_pos (gk k hk) (s := m) (m := m') (by have := ih.x0; grind) lt c
      grind
    have nd : left.Nodup := ih.up.imp fun h => Nat.ne_of_lt h
    have me : ∀ k, k ∈ left.erase t ↔ k ≠ t ∧ k ∈ left := fun k => nd.mem_erase_iff
    have ll : (left.erase t).length = left.length - 1 := List.length_erase_of_mem ht
    obtain ⟨Dx, dx0, dx1, gx⟩ := ih.on
    obtain ⟨w, w0, w1, gm⟩ := (gk t ht).mark_on gx gq hm
    have dlt := (gk t ht).dt_lt
    have dp := dt_pos (stOf sts t)
    have dl : done.length + left.length = n := by
      have := ih.perm.length_eq
      simp at this
      omega
    have bound : dt (stOf sts t) * Dx * n * w ≤ 2 ^ (100 * (done.length + 1)) := by
      have a1 : dt (stOf sts t) * Dx ≤ 2 ^ 80 * 2 ^ (100 * done.length) := Nat.mul_le_mul (by omega) dx1
      have a2 : dt (stOf sts t) * Dx * n ≤ 2 ^ 80 * 2 ^ (100 * done.length) * 2 ^ 3 := Nat.mul_le_mul a1 (by omega)
      have a3 : dt (stOf sts t) * Dx * n * w ≤ 2 ^ 80 * 2 ^ (100 * done.length) * 2 ^ 3 * 2 ^ 10 := Nat.mul_le_mul a2 (by omega)
      rw [← Nat.pow_add, ← Nat.pow_add, ← Nat.pow_add] at a3
      exact Nat.le_trans a3 (Nat.pow_le_pow_right (by decide) (by omega))
    have b8 : 2 ^ (100 * (done.length + 1)) < 2 ^ 900 := Nat.pow_lt_pow_right (by decide) (by omega)
    refine ⟨?_, ih.up.sublist List.erase_sublist, by have := ih.x0; grind, m1, fun k hk => ?_, ⟨_, Nat.mul_pos (Nat.mul_pos (Nat.mul_pos dp dx0) (by omega)) w0, by rw [List.length_append]; exact bound, gm⟩, ?_, fun i s hs => ?_⟩
    · rw [List.map_append, List.append_assoc]
      refine List.Perm.trans ?_ ih.perm
      refine List.Perm.append_left _ ?_
      exact (List.perm_cons_erase ht).symm
    · obtain ⟨kt, hk'⟩ := (me k).mp hk
      have z := ih.rest k hk'
      have sp := within_split (stOf sts k) (s := x) (m := m) (n := 1) (by grind) (by grind)
      have l3 := (le k hk').1
      have e : ((left.erase t).length : Rat) = (left.length : Rat) - 1 := by
        rw [ll]
        have : ((left.length - 1 + 1 : Nat) : Rat) = ((left.length - 1 : Nat) : Rat) + 1 := by rw [Rat.natCast_add]; rfl
        rw [show left.length - 1 + 1 = left.length by omega] at this
        grind
      rw [e]
      grind
    · exact ih.chain.snoc e2
    · by_cases hi : i < done.length
      · rw [List.getElem?_append_left hi] at hs
        obtain ⟨z1, z2, z3, z4, z5, z6⟩ := ih.each i s hs
        refine ⟨z1, z2, z3, z4, z5, fun k hk => z6 k ?_⟩
        rcases hk with hk | ⟨j, s', hij, hj, rfl⟩
        · exact .inl ((me k).mp hk).2
        · by_cases hjl : j < done.length
          · rw [List.getElem?_append_left hjl] at hj
            exact .inr ⟨j, s', hij, hj, rfl⟩
          · rw [List.getElem?_append_right (by omega)] at hj
            have : s' = (t, x, m) := by
              have := List.mem_of_getElem? hj
              simpa using this
            rw [this]
            exact .inl ht
      · have hl2 := (List.getElem?_eq_some_iff.mp hs).1
        simp at hl2
        have ei : i = done.length := by omega
        subst ei
        rw [at_app] at hs
        cases hs
        refine ⟨ih.x0, e2, m1, e4, ⟨dt (stOf sts t) * Dx * n * w, Nat.mul_pos (Nat.mul_pos (Nat.mul_pos dp dx0) (by omega)) w0, Nat.lt_of_le_of_lt bound b8, ?_, gm⟩, fun k hk => ?_⟩
        · exact ((gx.upL _).up _).up _
        · rcases hk with hk | ⟨j, s', hij, hj, _⟩
          · obtain ⟨kt, hk'⟩ := (me k).mp hk
            obtain ⟨z1, z2⟩ := le k hk'
            refine ⟨z1, fun e => ?_⟩
            have := z2 e
            show t < k
            omega
          · have := (List.getElem?_eq_some_iff.mp hj).1
            simp at this
            omega
end L3
namespace L3
open PySem PySem.Spec PyProof.Rows L2
def lastOrd (done : Ord) (k : Nat) (x : Rat) : Ord := done ++ [(k, x, 1)]
def c_Last_deal : Cr (List Steps) := ⟨fun a => [.d (.ob 2 []), .l (encTs a)], fun a => 1 ≤ a.length ∧ a.length ≤ 8 ∧ ∀ st ∈ a, Good st, fun a o => ∃ (done : Ord) (k : Nat) (x : Rat) (ps : List Piece), LastTo a (1 / (a.length : Rat)) done [k] x ∧ ps.length = a.length ∧
  (∀ s ∈ lastOrd done k x, ps[s.1]? = some [(s.2.1, s.2.2)]) ∧ o = .ret (.own2 (ps.map encP))⟩
theorem LastTo.len {sts : List Steps} {q : Rat} {done : Ord} {left : List Nat} {x : Rat} (h : LastTo sts q done left x) : done.length + left.length = sts.length := by
  induction h with
  | start => simp
  | step _ h1 ht _ _ _ ih =>
    rw [List.length_append, List.length_erase_of_mem ht, List.length_singleton]
    omega
theorem LastTo.det {sts : List Steps} {q : Rat} {done : Ord} {left : List Nat} {x : Rat} (h : LastTo sts q done left x) : ∀ {done' : Ord} {left' : List Nat} {x' : Rat}, LastTo sts q done' left' x' → done.length = done'.length → done = done' ∧ left = left' ∧ x = x' := by
  induction h with
  | start =>
    intro done' left' x' h' e
    cases h' with
    | start => exact ⟨rfl, rfl, rfl⟩
    | step => simp at e
  | @step done left x t m hl h1 ht hm hmin hlt ih =>
    intro done' left' x' h' e
    cases h' with
    | start => simp at e
    | @step done2 _ x2 t2 _ hl2 h12 ht2 hm2 hmin2 hlt2 =>
      obtain ⟨rfl, rfl, rfl⟩ := ih hl2 (by simpa using e)
      have a := hmin _ ht2 _ hm2
      have b := hmin2 _ ht _ hm
      have em : m = x' := by grind
      subst em
      have et : t = t2 := by
        rcases Nat.lt_trichotomy t t2 with z | z | z
        · have := hlt2 _ ht z _ hm; grind
        · exact z
        · have := hlt _ ht2 z _ hm2; grind
      subst et
      exact ⟨rfl, rfl, rfl⟩
theorem last_span {sts : List Steps} {q : Rat} {n : Nat} (hn : sts.length = n) (n1 : 1 ≤ n) (n8 : n ≤ 8) (hq : q = 1 / (n : Rat)) (hg : ∀ st ∈ sts, Good st) {done : Ord} {k : Nat} {x : Rat} {ps : List Piece} (h : LastTo sts q done [k] x) (hl : ps.length = n) (ha : ∀ s ∈ lastOrd done k x, ps[s.1]? = some [(s.2.1, s.2.2)]) : SpanDeal n (lastOrd done k x) ps := by
  have ok := last_ok hn n1 n8 hq hg h
  refine ⟨?_, ok.chain.snoc ok.x1, hl, ha, fun s hs => ?_⟩
  · unfold lastOrd
    rw [List.map_append, ← hn]
    exact ok.perm
  · rcases List.mem_append.mp hs with hs | hs
    · obtain ⟨i, hi, e⟩ := List.getElem_of_mem hs
      exact (ok.each i s (by rw [List.getElem?_eq_getElem hi, e])).2.2.2.2.1
    · have : s = (k, x, 1) := by simpa using hs
      rw [this]
      obtain ⟨Dx, d0, d1, g⟩ := ok.on
      have dl := h.len
      simp at dl
      exact ⟨Dx, d0, Nat.lt_of_le_of_lt d1 (Nat.pow_lt_pow_right (by decide) (by omega)), g, Gr.one _⟩
def c__law_all_steps : Cr (List Int × Nat) := ⟨fun a => [.l (a.1.map D.int), .d (.int a.2)], fun a => 1 ≤ a.2 ∧ a.2 ≤ 8, fun a o => ∃ sts : List Steps, sts.length = a.2 ∧ (∀ st ∈ sts, Good st) ∧ o = .ret (.own (encSts sts))⟩
end L3

set_option Elab.async false
set_option linter.all false
set_option maxRecDepth 100000
set_option maxHeartbeats 4000000
set_option exponentiation.threshold 100
/-! The best piece; one cuts, the other chooses. -/
namespace L3
open PySem PySem.Spec PyProof.Rows L2
def bestGo (w : Nat → Rat) : Nat → List Nat → Nat
  | f, [] => f
  | f, a :: l => bestGo w (if w f < w a then a else f) l
theorem bestGo_snoc (w : Nat → Rat) : ∀ (l : List Nat) (f a : Nat), bestGo w f (l ++ [a]) = if w (bestGo w f l) < w a then a else bestGo w f l
  | [], _, _ => rfl
  | b :: l, f, a => bestGo_snoc w l _ a
theorem bestGo_mem (w : Nat → Rat) : ∀ (l : List Nat) (f : Nat), bestGo w f l = f ∨ bestGo w f l ∈ l
  | [], _ => .inl rfl
  | b :: l, f => by
    show bestGo w (if w f < w b then b else f) l = f ∨ bestGo w (if w f < w b then b else f) l ∈ b :: l
    rcases bestGo_mem w l (if w f < w b then b else f) with h | h
    · rw [h]
      split
      · exact .inr List.mem_cons_self
      · exact .inl rfl
    · exact .inr (List.mem_cons_of_mem _ h)
def wAt (st : Steps) (ps : List Piece) (k : Nat) : Rat := worthR st (ps.getD k [])
def bestP (st : Steps) (ps : List Piece) (l : List Nat) : Nat := bestGo (wAt st ps) (l.headD 0) l
def c_best : Ct (Steps × List Piece × List Nat) := ⟨fun a => [.d (encTaste a.1), .l (encPs a.2.1), .l (encN a.2.2)], fun a => Good a.1 ∧ (∀ p ∈ a.2.1, FitP p) ∧ 0 < a.2.2.length ∧ ∀ k ∈ a.2.2, k < a.2.1.length, fun a => .ret (.d (.int (bestP a.1 a.2.1 a.2.2)))⟩
/-- the cutter's point -/
def midR (st : Steps) : Rat := (markR st 0 (1 / 2)).getD 0
def chooseR (s0 s1 : Steps) : List Piece := if withinR s1 0 (midR s0) < withinR s1 (midR s0) 1 then [[(0, midR s0)], [(midR s0, 1)]] else [[(midR s0, 1)], [(0, midR s0)]]
def c_Choose_deal : Ct (Steps × Steps) := ⟨fun a => [.d (.ob 1 []), .l (encTs [a.1, a.2])], fun a => Good a.1 ∧ Good a.2, fun a => .ret (.own2 ((chooseR a.1 a.2).map encP))⟩
structure MidOk (st : Steps) (m : Rat) : Prop where
  e : markR st 0 (1 / 2) = some m
  m0 : 0 < m
  m1 : m < 1
  l : withinR st 0 m = 1 / 2
  r : withinR st m 1 = 1 / 2
  on : ∃ D : Nat, 0 < D ∧ D < 2 ^ 900 ∧ Gr D 0 ∧ Gr D m ∧ Gr D 1
theorem mid_ok {st : Steps} (g : Good st) : MidOk st (midR st) := by
  obtain ⟨m, h1, h2, h3, h4, h5, h6⟩ := (mark_law g (s := 0) (q := 1 / 2) (by grind)).2 (by rw [within_one g]; grind)
  have e : midR st = m := by unfold midR; rw [h1]; rfl
  rw [e]
  have sp := within_split st (s := 0) (m := m) (n := 1) (by grind) h4
  rw [within_one g, h5] at sp
  have r : withinR st m 1 = 1 / 2 := by grind
  have m1 : m < 1 := by
    by_cases c : m = 1
    · rw [c, within_same] at r; grind
    · grind
  obtain ⟨w, w0, w1, gm⟩ := g.mark_on (Ds := 1) (Dq := 2) Gr.zero ⟨1, by show (1 : Rat) / 2 * ((2 : Nat) : Rat) = ((1 : Int) : Rat); have e2 : ((2 : Nat) : Rat) = 2 := rfl; have e1 : ((1 : Int) : Rat) = 1 := rfl; rw [e2, e1]; grind⟩ h1
  have dlt := g.dt_lt
  have dp := dt_pos st
  refine ⟨h1, h3, m1, h5, r, dt st * 1 * 2 * w, Nat.mul_pos (Nat.mul_pos (Nat.mul_pos dp (by decide)) (by decide)) w0, ?_, Gr.zero, gm, Gr.one _⟩
  have a0 : dt st * 1 ≤ 2 ^ 80 := by omega
  have a1 : dt st * 1 * 2 * w ≤ 2 ^ 80 * 2 ^ 1 * 2 ^ 10 := Nat.mul_le_mul (Nat.mul_le_mul a0 (by decide)) (by omega)
  rw [← Nat.pow_add, ← Nat.pow_add] at a1
  exact Nat.lt_of_le_of_lt a1 (Nat.pow_lt_pow_right (by decide) (by decide))
theorem MidOk.fitL {st : Steps} {m : Rat} (h : MidOk st m) : FitP [(0, m)] := by
  obtain ⟨D, d0, d1, g0, gm, g1⟩ := h.on
  exact one_fit (by grind) h.m0 (by have := h.m1; grind) ⟨D, d0, Nat.lt_trans d1 (Nat.pow_lt_pow_right (by decide) (by decide)), g0, gm⟩
theorem MidOk.fitR {st : Steps} {m : Rat} (h : MidOk st m) : FitP [(m, 1)] := by
  obtain ⟨D, d0, d1, g0, gm, g1⟩ := h.on
  exact one_fit (by have := h.m0; grind) h.m1 (by grind) ⟨D, d0, Nat.lt_trans d1 (Nat.pow_lt_pow_right (by decide) (by decide)), gm, g1⟩
theorem choose_span {s0 s1 : Steps} (g0 : Good s0) : ∃ ord, SpanDeal 2 ord (chooseR s0 s1) := by
  have h := mid_ok g0
  obtain ⟨D, d0, d1, gz, gm, g1⟩ := h.on
  have m0 := h.m0
  have m1 := h.m1
  unfold chooseR
  generalize midR s0 = m at *
  split
  · refine ⟨[(0, 0, m), (1, m, 1)], (show List.Perm [0, 1] (List.range 2) by decide), ⟨rfl, m0, rfl, m1, rfl⟩, rfl, fun s hs => ?_, fun s hs => ?_⟩
    · simp only [List.mem_cons, List.not_mem_nil, or_false] at hs
      rcases hs with rfl | rfl <;> rfl
    · simp only [List.mem_cons, List.not_mem_nil, or_false] at hs
      rcases hs with rfl | rfl
      · exact ⟨D, d0, d1, gz, gm⟩
      · exact ⟨D, d0, d1, gm, g1⟩
  · refine ⟨[(1, 0, m), (0, m, 1)], (show List.Perm [1, 0] (List.range 2) by decide), ⟨rfl, m0, rfl, m1, rfl⟩, rfl, fun s hs => ?_, fun s hs => ?_⟩
    · simp only [List.mem_cons, List.not_mem_nil, or_false] at hs
      rcases hs with rfl | rfl <;> rfl
    · simp only [List.mem_cons, List.not_mem_nil, or_false] at hs
      rcases hs with rfl | rfl
      · exact ⟨D, d0, d1, gz, gm⟩
      · exact ⟨D, d0, d1, gm, g1⟩
theorem half_sh : Sh (1 / 2 : Rat) := gr_sh (D := 2) ⟨1, by have e2 : ((2 : Nat) : Rat) = 2 := rfl; have e1 : ((1 : Int) : Rat) = 1 := rfl; rw [e2, e1]; grind⟩ (by decide) (Nat.lt_of_lt_of_le (by decide : 2 < 2 ^ 2) (Nat.pow_le_pow_right (by decide) (by decide))) (by grind) (by grind)
theorem wS_frzSlotV {G : Gx} {F0 H0 : Hp} {ρ : Ro} {μ : Mu} {D' : DE} {t : TS} {i k : Nat} {vs : List V} {ds : List D} (hρ : ρ[i]? = some (some (.p k))) (hμ : μ[k]? = some (.vw vs ds)) (h : wS G F0 H0 t (ρ.set i (some (.d (.lst ds)))) (μ.set k .gone) D') : wS G F0 H0 t ρ μ D' := fun F H as σ X e q => by
  obtain ⟨v, hs, a, rfl, ha⟩ := e.sl i _ hρ
  obtain ⟨_, _, hv, hr⟩ := e.ce k _ a hμ ha
  obtain ⟨F2, s2, r2, e2⟩ := e.freezeG hμ rfl ha hv hr
  have e3 := e2.store (i := i) (v := .ref a) (u := .d (.lst ds)) r2
  have es : σ.set i (some (.ref a)) = σ := by
    obtain ⟨hi, he⟩ := List.getElem?_eq_some_iff.mp hs
    rw [← he]
    exact List.set_getElem_self hi
  rw [es] at e3
  exact h F2 H as σ X e3 (q.on s2 .refl)
end L3

set_option Elab.async false
set_option linter.all false
set_option maxRecDepth 100000
set_option maxHeartbeats 4000000
set_option exponentiation.threshold 100
/-! Tuples of own lists; a call in a try; a piece in two. -/
namespace L3
open PySem PySem.Spec PyProof.Rows L2
def IsT (μ : Mu) (u : U) (ks : List Nat) : Prop := ∃ k, u = .p k ∧ μ[k]? = some (.tp ks)
section
variable {G : Gx} {F0 H0 : Hp} {F F1 H : Hp} {as as1 : List Addr} {σ : L2.St} {ρ : Ro} {μ : Mu} {R : RE} {X : Ex} {D' : DE}
theorem IsT.seq {u : U} {ks : List Nat} {v : V} (h : IsT μ u ks) (e : Ev G F0 H0 F H as σ ρ μ) (r : RpU G as F v u) :
    ∃ (a : Addr) (ps : List Addr), v = .ref a ∧ H a = some (.tup (ps.map V.ref)) ∧ Paired (fun (p : Addr) (k : Nat) => as[k]? = some p) ps ks := by
  obtain ⟨k, rfl, hk⟩ := h
  obtain ⟨a, rfl, ha⟩ := r
  obtain ⟨_, _, ps, h1, h2⟩ := e.ce k _ a hk ha
  exact ⟨a, ps, rfl, h1, h2⟩
theorem wC_lenTP {u : U} {ks : List Nat} (hl : IsT μ u ks) (k : R (.d (.int ks.length)) μ) : wC G F0 H0 (rLen G.K) [u] ρ μ R := fun F H as σ vs Q e r q => by
  obtain ⟨v, rfl, r9⟩ := p1 r
  obtain ⟨a, ps, rfl, hs, ha⟩ := hl.seq e r9
  refine ⟨a, ps.map V.ref, rfl, .inr (.of hs), ?_⟩
  rw [List.length_map, paired_len ha]
  exact q _ _ _ _ _ _ k e (.refl _) .refl (Rp.int _)
theorem w2_ixTP {u : U} {ks : List Nat} {i : Int} {m : Nat} (hl : IsT μ u ks) (h : atI ks i = some m) (k : R (.p m) μ) : w2 G F0 H0 (rIx G.K) u (.d (.int i)) ρ μ R := fun F H as σ v1 v2 Q e r1 r2 q => by
  cases r2
  obtain ⟨a, ps, rfl, hs, ha⟩ := hl.seq e r1
  obtain ⟨p, h1, h2⟩ := atI_paired ha h
  exact .inr (.inl ⟨a, ps.map V.ref, i, .ref p, rfl, rfl, .of hs, atI_ref h1, q _ _ _ _ _ _ k e (.refl _) .refl ⟨p, rfl, h2⟩⟩)
theorem wE_tupP {t : TA} (h : wA G F0 H0 t ρ μ fun us μ1 => ∃ ks : List Nat, us = ks.map U.p ∧ ks.length ≤ 1000000 ∧ R (.p μ1.length) (μ1 ++ [.tp ks])) : wE G F0 H0 (tTup t) ρ μ R := fun F H as σ Q e q => by
  refine h F H as σ _ e fun us μ1 vs F1 H1 as1 h1 e1 s1 g1 r1 => ?_
  obtain ⟨ks, rfl, hl, k⟩ := h1
  obtain ⟨ps, rfl, ha⟩ := refs_of r1
  refine ⟨by rw [List.length_map, paired_len ha]; exact line_of hl, fun p hp => ?_⟩
  have e2 := e1.cell (o := .tup (ps.map V.ref)) (c := .tp ks) hp ⟨e1.bs.h0.free hp, e1.bs.fh.free hp, ps, upd_same, paired_imp (fun _ _ z => Grw.app _ _ z) ha⟩
  refine q _ _ _ _ _ _ k e2 s1 (g1.trans .app) ⟨p, rfl, ?_⟩
  rw [← e1.al, List.getElem?_append_right (Nat.le_refl _)]
  simp
theorem paired_cat {α β : Type} {RR : α → β → Prop} : ∀ {xs : List α} {ys : List β} {xs' : List α} {ys' : List β}, Paired RR xs ys → Paired RR xs' ys' → Paired RR (xs ++ xs') (ys ++ ys')
  | _, _, _, _, .nil, h => h
  | _, _, _, _, .cons a t, h => .cons a (paired_cat t h)
theorem w2_catTP {u w : U} {ks js : List Nat} (h1 : IsT μ u ks) (h2 : IsT μ w js) (n1 : ks ≠ []) (n2 : js ≠ []) (hl : ks.length + js.length ≤ 1000000) (k : R (.p μ.length) (μ ++ [.tp (ks ++ js)])) : w2 G F0 H0 (rCatA G.K) u w ρ μ R := fun F H as σ v1 v2 Q e r1 r2 q => by
  obtain ⟨a, ps, rfl, hs, ha⟩ := h1.seq e r1
  obtain ⟨b, qs, rfl, hs2, hb⟩ := h2.seq e r2
  have la := paired_len ha
  have lb := paired_len hb
  have x1 : ps.map V.ref ≠ [] := fun z => n1 (List.eq_nil_of_length_eq_zero (by rw [← la, ← List.length_map (f := V.ref), z]; rfl))
  have x2 : qs.map V.ref ≠ [] := fun z => n2 (List.eq_nil_of_length_eq_zero (by rw [← lb, ← List.length_map (f := V.ref), z]; rfl))
  refine ⟨a, b, _, _, rfl, rfl, .of hs, .of hs2, by rw [List.length_map, List.length_map, la, lb]; exact line_of hl, fun z => absurd z x1, fun _ z => absurd z x2, fun _ _ p hp => ?_⟩
  have e2 := e.cell (o := .tup (ps.map V.ref ++ qs.map V.ref)) (c := .tp (ks ++ js)) hp ⟨e.bs.h0.free hp, e.bs.fh.free hp, ps ++ qs, by rw [upd_same, List.map_append], paired_imp (fun _ _ z => Grw.app _ _ z) (paired_cat (RR := fun (p : Addr) (k : Nat) => as[k]? = some p) ha hb)⟩
  refine q _ _ _ _ _ _ k e2 (.refl _) .app ⟨p, rfl, ?_⟩
  rw [← e.al, List.getElem?_append_right (Nat.le_refl _)]
  simp
/-- for over a tuple of cells -/
theorem wS_forT {tl : TE} {g : TG} {tb : TS} (h : wE G F0 H0 tl ρ μ fun u μ1 => ∃ ks, IsT μ1 u ks ∧ ∃ I : Nat → Ro → Mu → Prop, I 0 ρ μ1 ∧ (∀ i ρ' μ', I i ρ' μ' → IsT μ' u ks) ∧
      (∀ i m ρ' μ', ks[i]? = some m → I i ρ' μ' → wG G F0 H0 g (.p m) ρ' μ' fun ρ2 μ2 => wS G F0 H0 tb ρ2 μ2 { nx := I (i + 1), ct := I (i + 1), bk := D'.nx, rt := D'.rt }) ∧ ∀ ρ' μ', I ks.length ρ' μ' → D'.nx ρ' μ') :
    wS G F0 H0 (tFor (iTup G.K tl) g tb) ρ μ D' := fun F H as σ X e q => by
  refine h F H as σ _ e fun u μ1 v F1 H1 as1 h1 e1 s1 g1 r1 => ?_
  obtain ⟨ks, hl, I, i0, ip, is, ie⟩ := h1
  obtain ⟨a, ps0, rfl, hs0, _⟩ := hl.seq e1 r1
  have rd : ∀ {F2 H2 as2 σ2 ρ2 μ2} {i : Nat}, Ev G F0 H0 F2 H2 as2 σ2 ρ2 μ2 → Same F1 F2 → Grw as1 as2 → I i ρ2 μ2 → ∃ ps : List Addr, H2 a = some (.tup (ps.map V.ref)) ∧ Paired (fun (p : Addr) (k : Nat) => as2[k]? = some p) ps ks := fun {F2 H2 as2 σ2 ρ2 μ2 i} e2 s2 g2 i2 => by
    obtain ⟨a', ps, ea, hs, ha⟩ := (ip i ρ2 μ2 i2).seq e2 (r1.mono s2 g2)
    cases ea
    exact ⟨ps, hs, ha⟩
  refine ⟨a, rfl, ⟨_, .of hs0⟩, fun i m σ2 H2 => ∃ F2 as2 ρ2 μ2, Ev G F0 H0 F2 H2 as2 σ2 ρ2 μ2 ∧ Same F1 F2 ∧ Grw as1 as2 ∧ I i ρ2 μ2 ∧ i + m = ks.length, ⟨ks.length, F1, as1, ρ, μ1, e1, .refl _, .refl, i0, by omega⟩, ?_⟩
  rintro i m σ2 H2 ⟨F2, as2, ρ2, μ2, e2, s2, g2, i2, em⟩
  obtain ⟨ps, hs, ha⟩ := rd e2 s2 g2 i2
  by_cases hi : i < ks.length
  · have hv : i < (ps.map V.ref).length := by rw [List.length_map, paired_len ha]; exact hi
    refine .inr ⟨⟨_, (ps.map V.ref)[i], .of hs, by rw [List.getElem?_eq_getElem hv]⟩, fun σ' H' => ∃ F3 as3 ρ3 μ3, Ev G F0 H0 F3 H' as3 σ' ρ3 μ3 ∧ Same F1 F3 ∧ Grw as1 as3 ∧ I (i + 1) ρ3 μ3, ?_, fun x H' y => ?_⟩
    · rintro σ' H' ⟨F3, as3, ρ3, μ3, e3, s3, g3, i3⟩
      exact ⟨m - 1, by omega, F3, as3, ρ3, μ3, e3, s3, g3, i3, by omega⟩
    · obtain ⟨rfl, y⟩ := y
      have hx := y _ (.of hs)
      obtain ⟨k, hk⟩ : ∃ k, ks[i]? = some k := ⟨_, List.getElem?_eq_getElem hi⟩
      obtain ⟨p, hp, rk⟩ := paired_get ha hk
      rw [List.getElem?_map, hp] at hx
      have hx' := Option.some.inj hx
      subst hx'
      refine is i k ρ2 μ2 hk i2 F2 H' as2 σ2 (.ref p) _ e2 ⟨p, rfl, rk⟩ fun ρ3 μ3 σ3 F3 H3 as3 h3 e3 s3 g3 => ?_
      refine h3 F3 H3 as3 σ3 _ e3 ⟨?_, ((q.rt.on s1 g1).on s2 g2).on s3 g3, ((q.nx.on s1 g1).on s2 g2).on s3 g3, ?_⟩
      · intro ρ' μ' σ' F' H' as' h' e' s' g'
        exact ⟨F', as', ρ', μ', e', s2.trans (s3.trans s'), g2.trans (g3.trans g'), h'⟩
      · intro ρ' μ' σ' F' H' as' h' e' s' g'
        exact ⟨F', as', ρ', μ', e', s2.trans (s3.trans s'), g2.trans (g3.trans g'), h'⟩
  · have ei : i = ks.length := by omega
    subst ei
    exact .inl ⟨⟨_, .of hs, by rw [List.length_map, paired_len ha]; exact Nat.le_refl _⟩, q.nx _ _ _ _ _ _ (ie _ _ i2) e2 (s1.trans s2) (g1.trans g2)⟩
theorem Ev.freezeT (e : Ev G F0 H0 F H as σ ρ μ) {k : Nat} {p : Addr} {ds : List D} {vs : List V} {c : Cell} (hk : μ[k]? = some c) (hmc : Mt c = true) (ha : as[k]? = some p) (ho : H p = some (.tup vs)) (hr : RpAll G F vs ds) :
    ∃ F', Same F F' ∧ Rp G F' (.ref p) (.tup ds) ∧ Ev G F0 H0 F' H as σ ρ (μ.set k .gone) := by
  obtain ⟨n0, nF, _, _⟩ := (e.ce k _ p hk ha).some hmc
  have kl : k < μ.length := (List.getElem?_eq_some_iff.mp hk).1
  have sF : Same F (upd F p (.tup vs)) := same_upd nF
  refine ⟨upd F p (.tup vs), sF, .tup (.of upd_same) (RpAll.mono sF _ hr), ⟨fun b x h => ?_, e.bs.f0.trans sF, e.bs.h0, fun a h0 => ?_⟩, e.len, fun i u h => ?_, by rw [List.length_set]; exact e.al, ?_, ?_⟩
  · by_cases hb : b = p
    · subst hb; rw [upd_same] at h; cases h; exact ho
    · rw [upd_ne hb] at h; exact e.bs.fh _ _ h
  · have hb : a ≠ p := fun z => by subst z; exact h0 n0
    rw [upd_ne hb]
    exact e.bs.nw a h0
  · obtain ⟨v, h1, h2⟩ := e.sl i u h
    exact ⟨v, h1, h2.mono sF .refl⟩
  · have pick : ∀ i c1, (μ.set k .gone)[i]? = some c1 → Mt c1 = true → μ[i]? = some c1 := fun i c1 h m => by
      by_cases ik : i = k
      · subst ik
        rw [List.getElem?_set_self kl] at h
        cases h
        cases m
      · rw [List.getElem?_set_ne (Ne.symm ik)] at h; exact h
    intro i j a c1 c2 hi hj h1 h2 m1 m2
    exact e.nd i j a c1 c2 hi hj (pick i c1 h1 m1) (pick j c2 h2 m2) m1 m2
  · intro i c1 a hi hai
    by_cases ik : i = k
    · subst ik
      rw [List.getElem?_set_self kl] at hi
      cases hi
      trivial
    · rw [List.getElem?_set_ne (Ne.symm ik)] at hi
      refine (e.ce i c1 a hi hai).mono sF .refl fun hmi => ⟨upd_ne fun z => ?_, rfl⟩
      subst z
      exact ik (e.nd i k a c1 _ hai ha hi hk hmi hmc)
theorem wE_frzT {t : TE} (h : wE G F0 H0 t ρ μ fun u μ1 => ∃ k ks dss, u = .p k ∧ μ1[k]? = some (.tp ks) ∧ k ∉ ks ∧ ks.Nodup ∧ Paired (fun j ds => μ1[j]? = some (.rw ds)) ks dss ∧ ∀ μ', R (.d (.tup (dss.map .lst))) μ') : wE G F0 H0 t ρ μ R := fun F H as σ Q e q => by
  refine h F H as σ _ e fun u μ1 v F1 H1 as1 h1 e1 s1 g1 r1 => ?_
  obtain ⟨k, ks, dss, rfl, hk, hn, nd, hp, kk⟩ := h1
  obtain ⟨a, rfl, ha⟩ := r1
  obtain ⟨_, _, ps, ho, hr⟩ := e1.ce k _ a hk ha
  obtain ⟨F2, μ2, s2, r2, e2, _, o2⟩ := Ev.freezes ks dss ps F1 μ1 e1 nd hp hr
  obtain ⟨F3, s3, r3, e3⟩ := e2.freezeT (c := .tp ks) (by rw [o2 k hn]; exact hk) rfl ha ho r2
  exact q _ _ _ _ _ _ (kk _) e3 ((s1.trans s2).trans s3) g1 r3
theorem ownT_frz {dss : List (List D)} (h : ∀ μ', R (.d (.tup (dss.map .lst))) μ') : ∃ k ks dss', U.p (μ.length + dss.length) = .p k ∧ (μ ++ dss.map Cell.rw ++ [.tp ((List.range dss.length).map (μ.length + ·))])[k]? = some (.tp ks) ∧ k ∉ ks ∧ ks.Nodup ∧ Paired (fun j ds => (μ ++ dss.map Cell.rw ++ [.tp ((List.range dss.length).map (μ.length + ·))])[j]? = some (.rw ds)) ks dss' ∧ ∀ μ', R (.d (.tup (dss'.map .lst))) μ' := by
  refine ⟨_, (List.range dss.length).map (μ.length + ·), dss, rfl, ?_, ?_, ?_, ?_, h⟩
  · rw [List.getElem?_append_right (by simp)]
    simp
  · intro z
    obtain ⟨x, hx, e⟩ := List.mem_map.mp z
    have := List.mem_range.mp hx
    omega
  · refine List.Pairwise.map (μ.length + ·) (fun a b h => ?_) (List.nodup_range (n := dss.length))
    omega
  · refine paired_of (by simp) fun i x y hx hy => ?_
    have hi := (List.getElem?_eq_some_iff.mp hy).1
    rw [List.getElem?_map, List.getElem?_range hi] at hx
    cases hx
    rw [List.getElem?_append_left (by simp; omega), List.getElem?_append_right (Nat.le_add_right _ _), Nat.add_sub_cancel_left, List.getElem?_map, hy]
    rfl
end
theorem kCatA {X : Cx} {K : PySem.W.Frag} (h : X.K = K) : OpR X (binaryOp .Add) (rCatA K) := by subst h; exact op_catA
/-! ### a method's call in a try -/
def tMethT (C : Addr) (m : Str) (sp : Sp) (E : L2.St → XK) (ta : TE) (t : TA) : TE := fun σ H Q => ta σ H fun x H1 => ∃ a dx fs, x = .ref a ∧ H1 a = some (.ins C dx fs) ∧ fs.lookup m = none ∧ t σ H1 fun vs H2 => sp (x :: vs) H2 Q (E σ)
theorem pe_methT {X : Cx} {CX : CXT} {k : Nat} {f C : Addr} {fd : FuncData} {ps : List Str} {sp : Sp} {E : L2.St → XK} {m : Str} {pos apos : Pos} {e o : Expr} {es : List Expr} {ta : TE} {t : TA} {pl : Sem Bool} (he : PE X o ta) (c : Cls X.K C) (hm : Meth X.K C m f) (F : FnOk X.prog X.w X.K X.mg X.base CX k f fd ps sp) (hr : Room k X.A) (hb : Binds X.K fd ps []) (hx : ∀ σ, PassesAt CX X σ (E σ)) (ha : PA X (e :: es) t)
    (hst : starEach (e :: es) X.env = (false, eval e X.env) :: starEach es X.env := by rfl) (hpl : (backTo pos (starEach es X.env)).any (·.1) = false := by rfl)
    (ht : eval (.Call (.Attribute o m apos) (e :: es) [] pos) X.env = (do
      let ov ← eval o X.env
      standAt apos.atName
      let (f, first) ← holding [ov] (getMethod ov m pl)
      callWith pos f first (backTo pos (starEach (e :: es) X.env)) (backToKw pos (keywordEach [] X.env))) := by rfl) :
    PE X (.Call (.Attribute o m apos) (e :: es) [] pos) (tMethT C m sp E ta t) := by
  refine ⟨fun pins s σ H Q I h => ?_⟩
  refine PySem.W.methodCall_KW (pl := pl) (thn (he.run pins s σ H _ I h) fun u s1 ⟨x, H1, I1, rx, a, dx, fs, ex, ea, l, q⟩ => ?_) ht
  subst ex
  obtain rfl : u = Value.ref a := rx
  refine getmeth_ok I1 ea c hm l ?_
  refine PySem.W.callWith_K (first := [.ref a]) (h₀ := X.base) I.ok.mod.kin hm.kp (thn (ha.run pos pins s1 σ H1 _ I1 q) fun us s2 ⟨vs, H2, I2, r, q2⟩ => ⟨I2.kIn, ?_⟩) hst hpl
  exact run_fnS (us := .ref a :: us) (vs := .ref a :: vs) F hr hb (hx σ) I2 (.cons rfl r) q2
/-- try: x = o.m(..) except C: suite -/
theorem wS_tryM {α : Type} {G : Gx} {F0 H0 : Hp} {ρ : Ro} {μ : Mu} {D' : DE} {X : Ex} {c : Ct α} {C cc : Addr} {m : Str} {ta : TE} {t : TA} {g : TG} {ts : TS} {Wout : WX} (h : wE G F0 H0 ta ρ μ fun u μ1 => ∃ n ds, u = .d (.ob n ds) ∧ G.cl n = C ∧ (fl n).contains m = false ∧
      wA G F0 H0 t ρ μ1 fun us μ2 => ∃ a, Paired (ArgOf μ2) (.d (.ob n ds) :: us) (c.args a) ∧ c.pre a ∧
        ((∃ r, c.out a = .ret r ∧ Got (fun u μ3 => wG G F0 H0 g u ρ μ3 D'.nx) μ2 r) ∨ (∃ n', c.out a = .exc n' ∧ PySem.W.exmOne G.K (.ref (X n')) (.ref cc) = some true ∧ wS G F0 H0 ts ρ μ2 D'))) :
    wS G F0 H0 (fun D σ H => tAsg (tMethT C m (spC G X c) (fun σ => fun cls d H' => wOnly G.K (.ref cc) (fun _ _ _ => ts) Wout D cls d σ H') ta t) g D σ H) ρ μ D' := fun F H as σ Xe e k => by
  refine h F H as σ _ e fun u μ1 v F1 H1 as1 h1 e1 s1 g1 r1 => ?_
  obtain ⟨n, ds, rfl, hc, hm, h1⟩ := h1
  cases (show Rp G F1 v (.ob n ds) from r1) with
  | ob ho hf ha0 =>
    rename_i a dx fs
    refine ⟨a, dx, fs, rfl, by rw [← hc]; exact e1.bs.fh _ _ ho, look_none hf hm, ?_⟩
    refine h1 F1 H1 as1 σ _ e1 fun us μ2 vs F2 H2 as2 h2 e2 s2 g2 r2 => ?_
    obtain ⟨b, ha, hp, hg⟩ := h2
    have rs : Paired (RpU G as2 F2) (.ref a :: vs) (.d (.ob n ds) :: us) := .cons (Rp.mono s2 _ (Rp.ob ho hf ha0)) r2
    have k2 := (k.on s1 g1).on s2 g2
    refine ⟨b, hp, F2, c.args b, e2.bs.fh, args_ok e2 rs ha, rfl, fun r v F' H' hr sF sf sH sn ro => ?_, fun x H' hx hs => ?_⟩
    · rcases hg with ⟨r', hr', hg⟩ | ⟨n', hn', _⟩
      · rw [hr] at hr'
        injection hr' with hr'
        subst hr'
        refine got_ok (R := fun u μ3 => wG G F0 H0 g u ρ μ3 D'.nx) (Q := fun v H' => g v σ H' Xe.nx) e2 sF sf sH sn ro hg fun u μ3 v F3 H3 as3 h3 e3 s3 g3 r3 => ?_
        exact h3 F3 H3 as3 σ v _ e3 r3 (k2.nx.on s3 g3)
      · rw [hr] at hn'; cases hn'
    · obtain ⟨n1, hn1, rfl⟩ := hx
      rcases hg with ⟨r', hr', _⟩ | ⟨n', hn', hex, hsu⟩
      · rw [hn1] at hr'; cases hr'
      · rw [hn1] at hn'
        injection hn' with hn'
        subst hn'
        refine ⟨true, hex, fun _ a' _ => ?_, fun z => nomatch z⟩
        have e3 := e2.grow (.refl _) hs (e2.bs.fh.trans hs) fun _ _ => rfl
        exact hsu F2 H' as2 σ Xe e3 k2
end L3

set_option Elab.async false
set_option linter.all false
set_option maxRecDepth 100000
set_option maxHeartbeats 4000000
set_option exponentiation.threshold 100
/-! A piece in two: the plain law. -/
namespace L3
open PySem PySem.Spec PyProof.Rows L2
abbrev CutA := Piece × Piece × Rat
def cutStep (st : Steps) (a : CutA) (t : Rat × Rat) : CutA :=
  if a.2.2 = 0 then (a.1, a.2.1 ++ [t], 0)
  else if a.2.2 < withinR st t.1 t.2 then (a.1 ++ [(t.1, (markR st t.1 a.2.2).getD 0)], a.2.1 ++ [((markR st t.1 a.2.2).getD 0, t.2)], 0)
  else (a.1 ++ [t], a.2.1, a.2.2 - withinR st t.1 t.2)
def cutR (st : Steps) (p : Piece) (q : Rat) : CutA := p.foldl (cutStep st) ([], [], q)
structure CutPre (st : Steps) (p : Piece) (q : Rat) : Prop where
  g : Good st
  is : IsPiece p
  few : p.length ≤ 1000
  q0 : 0 ≤ q
  q1 : q ≤ 1000
  on : ∃ Dp : Nat, 0 < Dp ∧ Dp < 2 ^ 300 ∧ ∀ s ∈ p, Gr Dp s.1 ∧ Gr Dp s.2
  onq : ∃ Dq : Nat, 0 < Dq ∧ Dq < 2 ^ 600 ∧ Gr Dq q
def c_Taste_cut : Ct (Steps × Piece × Rat) := ⟨fun a => [.d (encTaste a.1), .l (encP a.2.1), .d (encF a.2.2)], fun a => CutPre a.1 a.2.1 a.2.2, fun a => if (cutR a.1 a.2.1 a.2.2).2.2 = 0 then .ret (.ownT [encP (cutR a.1 a.2.1 a.2.2).1, encP (cutR a.1 a.2.1 a.2.2).2.1]) else .exc 4⟩
theorem worth_app (st : Steps) (p : Piece) (t : Rat × Rat) : worthR st (p ++ [t]) = worthR st p + withinR st t.1 t.2 := by
  unfold worthR
  rw [List.foldl_append]
  rfl
theorem worth_fold (st : Steps) : ∀ (r : Piece) (x : Rat), r.foldl (fun f s => f + withinR st s.1 s.2) x = x + r.foldl (fun f s => f + withinR st s.1 s.2) 0
  | [], x => by show x = x + 0; grind
  | t :: r, x => by
    show r.foldl _ (x + withinR st t.1 t.2) = x + r.foldl _ (0 + withinR st t.1 t.2)
    rw [worth_fold st r (x + withinR st t.1 t.2), worth_fold st r (0 + withinR st t.1 t.2)]
    grind
theorem worth_cat (st : Steps) (p r : Piece) : worthR st (p ++ r) = worthR st p + worthR st r := by
  unfold worthR
  rw [List.foldl_append, worth_fold]
theorem worth_nn {st : Steps} (g : Good st) : ∀ p : Piece, 0 ≤ worthR st p := by
  intro p
  induction p with
  | nil => show (0 : Rat) ≤ 0; grind
  | cons t p ih =>
    have h := worth_cat st [t] p
    have h1 := worth_one st t.1 t.2
    have h2 := within_nn g (s := t.1) (m := t.2)
    show 0 ≤ worthR st ([t] ++ p)
    rw [h]
    have h3 : worthR st [t] = withinR st t.1 t.2 := h1
    grind
/-- how far the cutting is -/
inductive CutInv (st : Steps) (q : Rat) : Piece → CutA → Prop
  | a {pre : Piece} : worthR st pre ≤ q → CutInv st q pre (pre, [], q - worthR st pre)
  | b {f r : Piece} : worthR st f = q → r ≠ [] → CutInv st q (f ++ r) (f, r, 0)
  | c {f r : Piece} {s m e l : Rat} : worthR st (f ++ [(s, m)]) = q → 0 < l → l = q - worthR st f → markR st s l = some m → s < m → m < e → CutInv st q (f ++ (s, e) :: r) (f ++ [(s, m)], (m, e) :: r, 0)
theorem cut_step {st : Steps} (g : Good st) {q : Rat} {pre : Piece} {a : CutA} {t : Rat × Rat} (h : CutInv st q pre a) (h0 : 0 ≤ t.1) (h1 : t.1 < t.2) (h2 : t.2 ≤ 1) : CutInv st q (pre ++ [t]) (cutStep st a t) := by
  cases h with
  | a hw =>
    unfold cutStep
    dsimp only
    by_cases c : q - worthR st pre = 0
    · rw [if_pos c]
      exact .b (by grind) (by simp)
    · rw [if_neg c]
      by_cases d : q - worthR st pre < withinR st t.1 t.2
      · rw [if_pos d]
        have sp := within_split st (s := t.1) (m := t.2) (n := 1) (by grind) h2
        have nn := within_nn g (s := t.2) (m := 1)
        obtain ⟨m, e1, e2, _, e3, e4, _⟩ := (mark_law g (s := t.1) (q := q - worthR st pre) (by grind)).2 (by grind)
        have hme : m < t.2 := by
          by_cases z : m < t.2
          · exact z
          · have sp2 := within_split st (s := t.1) (m := t.2) (n := m) (by grind) (by grind)
            have nn2 := within_nn g (s := t.2) (m := m)
            grind
        rw [e1]
        exact .c (r := []) (by rw [worth_app]; show worthR st pre + withinR st t.1 m = q; rw [e4]; grind) (by grind) rfl e1 e2 hme
      · rw [if_neg d]
        have e : q - worthR st pre - withinR st t.1 t.2 = q - worthR st (pre ++ [t]) := by rw [worth_app]; grind
        rw [e]
        exact .a (by rw [worth_app]; grind)
  | b hw hr =>
    unfold cutStep
    rw [if_pos rfl, List.append_assoc]
    exact .b hw (by simp)
  | c hw l0 le hm sm me =>
    unfold cutStep
    rw [if_pos rfl, List.append_assoc]
    exact .c hw l0 le hm sm me
theorem cut_inv {st : Steps} (g : Good st) {q : Rat} (q0 : 0 ≤ q) {p : Piece} (hp : IsPiece p) : ∀ i : Nat, CutInv st q (p.take i) ((p.take i).foldl (cutStep st) ([], [], q))
  | 0 => by
    have h : CutInv st q [] ([], [], q - worthR st []) := .a (by rw [worth_nil]; exact q0)
    rw [worth_nil] at h
    rw [show q - 0 = q by grind] at h
    exact h
  | i + 1 => by
    have ih := cut_inv g q0 hp i
    by_cases hi : i < p.length
    · rw [List.take_add_one, List.getElem?_eq_getElem hi]
      have z := hp.1 _ (List.getElem_mem hi)
      rw [List.foldl_append]
      exact cut_step g ih z.1 z.2.1 z.2.2
    · rw [List.take_of_length_le (by omega)] at ih ⊢
      exact ih
def againR (f r : Piece) : Piece := match f.getLast?, r with
  | some l, h :: r' => if l.2 = h.1 then f.dropLast ++ (l.1, h.2) :: r' else f ++ h :: r'
  | _, _ => f ++ r
theorem apart_app : ∀ {f : Piece} {a : Rat × Rat} {r : Piece}, Apart (f ++ a :: r) → ∀ l, f.getLast? = some l → l.2 < a.1
  | [], _, _, _, _, h => by cases h
  | [x], a, r, h, l, hl => by
    simp at hl
    subst hl
    exact h.1
  | x :: y :: f, a, r, h, l, hl => by
    rw [List.getLast?_cons_cons] at hl
    exact apart_app (f := y :: f) h.2 l hl
theorem cut_again {st : Steps} {q : Rat} {p : Piece} {a : CutA} (h : CutInv st q p a) (hp : IsPiece p) (h0 : a.2.2 = 0) : againR a.1 a.2.1 = p ∧ worthR st a.1 = q := by
  cases h with
  | a hw =>
    refine ⟨?_, by have z : q - worthR st p = 0 := h0; grind⟩
    unfold againR
    cases p.getLast? <;> simp
  | @b f r hw hr =>
    refine ⟨?_, hw⟩
    cases r with
    | nil => exact absurd rfl hr
    | cons x r =>
      unfold againR
      dsimp only
      cases hl : f.getLast? with
      | none => rfl
      | some l =>
        have := apart_app hp.2 l hl
        show (if l.2 = x.1 then _ else _) = _
        rw [if_neg (by grind)]
  | @c f r s m e l hw l0 le hm sm me =>
    refine ⟨?_, hw⟩
    unfold againR
    rw [List.getLast?_concat, List.dropLast_concat]
    show (if m = m then _ else _) = _
    rw [if_pos rfl]
theorem apart_pre : ∀ {f r : Piece}, Apart (f ++ r) → Apart f
  | [], _, _ => trivial
  | [_], _, _ => trivial
  | x :: y :: f, r, h => ⟨h.1, apart_pre (f := y :: f) h.2⟩
theorem apart_suf : ∀ {f r : Piece}, Apart (f ++ r) → Apart r
  | [], _, h => h
  | [x], [], _ => trivial
  | [x], y :: r, h => h.2
  | x :: y :: f, r, h => apart_suf (f := y :: f) h.2
theorem apart_head {a b : Rat × Rat} {r : Piece} (h : Apart (a :: r)) (e : b.2 = a.2) : Apart (b :: r) := by
  cases r with
  | nil => trivial
  | cons x r => exact ⟨by rw [e]; exact h.1, h.2⟩
theorem two_k {a b c d e f g : Nat} (ha : a < 2 ^ 80) (hb : b < 2 ^ 300) (hc : c < 2 ^ 600) (hd : d < 2 ^ 90) (hw : g ≤ 1000) : a * b * (c * (a * b * d)) * g < 2 ^ 1990 ∧ c * (a * b * d) < 2 ^ 1990 := by
  have e1 : a * b < 2 ^ 80 * 2 ^ 300 := Nat.mul_lt_mul'' ha hb
  have e2 : a * b * d < 2 ^ 80 * 2 ^ 300 * 2 ^ 90 := Nat.mul_lt_mul'' e1 hd
  have e3 : c * (a * b * d) < 2 ^ 600 * (2 ^ 80 * 2 ^ 300 * 2 ^ 90) := Nat.mul_lt_mul'' hc e2
  have e4 : a * b * (c * (a * b * d)) < 2 ^ 80 * 2 ^ 300 * (2 ^ 600 * (2 ^ 80 * 2 ^ 300 * 2 ^ 90)) := Nat.mul_lt_mul'' e1 e3
  have e5 : a * b * (c * (a * b * d)) * g < 2 ^ 80 * 2 ^ 300 * (2 ^ 600 * (2 ^ 80 * 2 ^ 300 * 2 ^ 90)) * 2 ^ 10 := Nat.mul_lt_mul'' e4 (by omega)
  simp only [← Nat.pow_add] at e3 e5
  exact ⟨Nat.lt_of_lt_of_le e5 (pt_lt (by decide)), Nat.lt_of_lt_of_le e3 (pt_lt (by decide))⟩
/-- what is left is fit for a mark -/
theorem cut_sh {st : Steps} {p : Piece} {q : Rat} (h : CutPre st p q) (i : Nat) : Sh ((p.take i).foldl (cutStep st) ([], [], q)).2.2 := by
  obtain ⟨Dp, d0, d1, gp⟩ := h.on
  obtain ⟨Dq, e0, e1, gq⟩ := h.onq
  obtain ⟨n, n0, nb, hn⟩ := h.g.over
  have inv := cut_inv h.g h.q0 h.is i
  have z0 : Sh (0 : Rat) := gr_sh (D := 1) Gr.zero (by decide) (Nat.lt_of_lt_of_le (by decide : 1 < 2 ^ 1) (pt_lt (by decide))) (by grind) (by grind)
  have hpt : IsPiece (p.take i) := ⟨fun s hs => h.is.1 s (List.mem_of_mem_take hs), apart_pre (r := p.drop i) (by rw [List.take_append_drop]; exact h.is.2)⟩
  have w := worth_gr h.g hpt (Dp := Dp) (fun s hs => gp s (List.mem_of_mem_take hs)) hn
  generalize (p.take i).foldl (cutStep st) ([], [], q) = a at *
  generalize p.take i = pre at *
  cases inv with
  | a hw =>
    show Sh (q - worthR st pre)
    have := h.q1
    have b2 := (two_k (e := 0) (f := 0) h.g.dt_lt d1 e1 nb (Nat.zero_le 1000)).2
    exact gr_sh (D := Dq * (dt st * Dp * n)) ((gq.up _).sub (w.2.2.upL _)) (Nat.mul_pos e0 (Nat.mul_pos (Nat.mul_pos (dt_pos st) d0) n0)) (Nat.lt_of_lt_of_le b2 (pt_lt (by decide))) (by grind) (by have := w.1; grind)
  | b => exact z0
  | c => exact z0
/-- both parts are pieces, fit for worths -/
theorem cut_fit {st : Steps} {p : Piece} {q : Rat} (h : CutPre st p q) : FitP (cutR st p q).1 ∧ FitP (cutR st p q).2.1 := by
  obtain ⟨Dp, d0, d1, gp⟩ := h.on
  obtain ⟨Dq, e0, e1, gq⟩ := h.onq
  obtain ⟨n, n0, nb, hn⟩ := h.g.over
  have inv := cut_inv h.g h.q0 h.is p.length
  rw [List.take_length] at inv
  have few := h.few
  have is := h.is
  have dpos := dt_pos st
  have mk : ∀ {r : Piece} {D : Nat}, IsPiece r → 0 < D → D < 2 ^ 2000 → (∀ s ∈ r, Gr D s.1 ∧ Gr D s.2) → r.length ≤ 1001 → FitP r := fun {r D} hr dd0 dd1 hg hl =>
    ⟨hr, ⟨D, dd0, dd1, hg⟩, fun s hs => by
      have z := hr.1 s hs
      have y := hg s hs
      exact ⟨(gr_pt y.1 dd0 dd1 z.1 (by grind)).sz, (gr_pt y.2 dd0 dd1 (by grind) z.2.2).sz⟩, by omega⟩
  have d1' : Dp < 2 ^ 2000 := Nat.lt_of_lt_of_le d1 (pt_lt (by decide))
  have nilF : FitP [] := ⟨nil_is, nil_grid.on, nil_grid.szs nil_is, by decide⟩
  unfold cutR
  generalize p.foldl (cutStep st) ([], [], q) = a at *
  cases inv with
  | a hw => exact ⟨mk (r := p) is d0 d1' gp (by omega), nilF⟩
  | @b f r hw hr =>
    rw [List.length_append] at few
    exact ⟨mk (r := f) ⟨fun s hs => is.1 s (List.mem_append_left _ hs), apart_pre is.2⟩ d0 d1' (fun s hs => gp s (List.mem_append_left _ hs)) (by omega), mk (r := r) ⟨fun s hs => is.1 s (List.mem_append_right _ hs), apart_suf is.2⟩ d0 d1' (fun s hs => gp s (List.mem_append_right _ hs)) (by omega)⟩
  | @c f r s m e l hw l0 le hm sm me =>
    rw [List.length_append, List.length_cons] at few
    have hse : (s, e) ∈ f ++ (s, e) :: r := List.mem_append_right _ List.mem_cons_self
    have z := is.1 _ hse
    have y := gp _ hse
    have hf : IsPiece f := ⟨fun x hx => is.1 x (List.mem_append_left _ hx), apart_pre is.2⟩
    have w := worth_gr h.g hf (Dp := Dp) (fun x hx => gp x (List.mem_append_left _ hx)) hn
    have gl : Gr (Dq * (dt st * Dp * n)) l := by rw [le]; exact (gq.up _).sub (w.2.2.upL _)
    obtain ⟨v, v0, v1, gm⟩ := h.g.mark_on y.1 gl hm
    have b1 := (two_k (e := 0) (f := 0) h.g.dt_lt d1 e1 nb v1).1
    have D0 : 0 < dt st * Dp * (Dq * (dt st * Dp * n)) * v := Nat.mul_pos (Nat.mul_pos (Nat.mul_pos dpos d0) (Nat.mul_pos e0 (Nat.mul_pos (Nat.mul_pos dpos d0) n0))) v0
    have D1 : dt st * Dp * (Dq * (dt st * Dp * n)) * v < 2 ^ 2000 := Nat.lt_of_lt_of_le b1 (pt_lt (by decide))
    have up : ∀ {x : Rat}, Gr Dp x → Gr (dt st * Dp * (Dq * (dt st * Dp * n)) * v) x := fun {x} hx => ((hx.upL _).up _).up _
    have ap1 : Apart (f ++ [(s, m)]) := by
      refine apart_snoc hf.2 fun l hl => ?_
      exact apart_app is.2 l hl
    have ap2 : Apart ((m, e) :: r) := apart_head (apart_suf is.2) rfl
    refine ⟨mk ⟨fun x hx => ?_, ap1⟩ D0 D1 (fun x hx => ?_) (by simp; omega), mk ⟨fun x hx => ?_, ap2⟩ D0 D1 (fun x hx => ?_) (by simp; omega)⟩
    · rcases List.mem_append.mp hx with hx | hx
      · exact hf.1 x hx
      · have : x = (s, m) := by simpa using hx
        rw [this]; exact ⟨z.1, sm, by have := z.2.2; grind⟩
    · rcases List.mem_append.mp hx with hx | hx
      · have := gp x (List.mem_append_left _ hx); exact ⟨up this.1, up this.2⟩
      · have : x = (s, m) := by simpa using hx
        rw [this]; exact ⟨up y.1, gm⟩
    · rcases List.mem_cons.mp hx with rfl | hx
      · exact ⟨by have := z.1; grind, me, z.2.2⟩
      · exact is.1 x (List.mem_append_right _ (List.mem_cons_of_mem _ hx))
    · rcases List.mem_cons.mp hx with rfl | hx
      · exact ⟨gm, up y.2⟩
      · have := gp x (List.mem_append_right _ (List.mem_cons_of_mem _ hx)); exact ⟨up this.1, up this.2⟩
theorem cut_law {st : Steps} {p : Piece} {q : Rat} (h : CutPre st p q) : ((cutR st p q).2.2 = 0 ↔ ¬ worthR st p < q) ∧ ((cutR st p q).2.2 = 0 → againR (cutR st p q).1 (cutR st p q).2.1 = p ∧ worthR st (cutR st p q).1 = q) := by
  have inv := cut_inv h.g h.q0 h.is p.length
  rw [List.take_length] at inv
  have is := h.is
  have nn := worth_nn h.g
  refine ⟨?_, fun h0 => cut_again inv is h0⟩
  unfold cutR
  generalize p.foldl (cutStep st) ([], [], q) = a at *
  cases inv with
  | a hw =>
    show q - worthR st p = 0 ↔ _
    constructor
    · intro z; grind
    · intro z; grind
  | @b f r hw hr =>
    have e := worth_cat st f r
    have := nn r
    exact ⟨fun _ => by grind, fun _ => rfl⟩
  | @c f r s m e l hw l0 le hm sm me =>
    have e1 := worth_cat st f ((s, e) :: r)
    have e2 := worth_cat st [(s, e)] r
    have e3 := worth_one st s e
    have e4 := worth_app st f (s, m)
    have sp := within_split st (s := s) (m := m) (n := e) (by grind) (by grind)
    have n1 := nn r
    have n2 := within_nn h.g (s := m) (m := e)
    have e5 : worthR st ((s, e) :: r) = worthR st [(s, e)] + worthR st r := e2
    refine ⟨fun _ => ?_, fun _ => rfl⟩
    rw [e1, e5, e3, sp]
    rw [hw] at e4
    have e6 : q = worthR st f + withinR st s m := e4
    grind
theorem xm_mk {K : PySem.W.Frag} {h : Heap} {C : Addr} (_ : K.In h) (b : PySem.W.subIn K (.ref C) (.type "BaseException") = some true) (t : PySem.W.typeIn K (.ref C) = some (.type "type")) (i : PySem.W.isClsIn K C = true) (s : PySem.W.subIn K (.ref C) (.ref C) = some true) : PySem.W.exmOne K (.ref C) (.ref C) = some true := by
  have i' : (PySem.W.clsIn K C).isSome = true := i
  unfold PySem.W.exmOne PySem.W.kitCls
  rw [b]
  simp only [beq_self_eq_true, if_true, t, i', Bool.and_self]
  exact s
theorem excx_mk {K : PySem.W.Frag} {h : Heap} {mg : Str → Option Value} {x : Str} {C : Addr} (X : K.In h) (G : h.Ns mainGlobals mg) (a : PySem.W.nsIn K mainGlobals x = some (some (.ref C)))
    (x1 : PySem.W.excIn K C [.type "ValueError", .type "Exception", .type "BaseException", .type "object"] "ValueError.__new__" = true) (k : PySem.W.keepIn K (.ref C) = true) (b : PySem.W.subIn K (.ref C) (.type "BaseException") = some true) (t : PySem.W.typeIn K (.ref C) = some (.type "type"))
    (i : PySem.W.isClsIn K C = true) (s : PySem.W.subIn K (.ref C) (.ref C) = some true) : ∃ c, ExcOk K mg x c ∧ PySem.W.exmOne K (.ref c) (.ref c) = some true := ⟨C, ⟨x1, PySem.W.mg_of X G a, k, b, t⟩, xm_mk X b t i s⟩
theorem cutPre_szs {st : Steps} {p : Piece} {q : Rat} (h : CutPre st p q) : Szs p := fun s hs => by
  obtain ⟨Dp, d0, d1, gp⟩ := h.on
  have z := h.is.1 s hs
  have y := gp s hs
  have d2 : Dp < 2 ^ 2000 := Nat.lt_of_lt_of_le d1 (pt_lt (by decide))
  exact ⟨(gr_pt y.1 d0 d2 z.1 (by grind)).sz, (gr_pt y.2 d0 d2 (by grind) z.2.2).sz⟩
theorem cutPre_pt {st : Steps} {p : Piece} {q : Rat} (h : CutPre st p q) : ∀ s ∈ p, Pt s.1 ∧ Pt s.2 := fun s hs => by
  obtain ⟨Dp, d0, d1, gp⟩ := h.on
  have z := h.is.1 s hs
  have y := gp s hs
  have d2 : Dp < 2 ^ 2000 := Nat.lt_of_lt_of_le d1 (pt_lt (by decide))
  exact ⟨gr_pt y.1 d0 d2 z.1 (by grind), gr_pt y.2 d0 d2 (by grind) z.2.2⟩
theorem within_szs {st : Steps} (g : Good st) {s : Rat × Rat} (h0 : 0 ≤ s.1) (h1 : s.1 < s.2) (h2 : s.2 ≤ 1) (hp : Pt s.1 ∧ Pt s.2) (on : ∃ D : Nat, 0 < D ∧ D < 2 ^ 2000 ∧ Gr D s.1 ∧ Gr D s.2) : Sz (withinR st s.1 s.2) := by
  have f := one_fit (s := s.1) (e := s.2) h0 h1 h2 on
  have := (f.worth g).2
  rw [worth_one] at this
  exact this
def c__law_again : Ct (Piece × Piece) := ⟨fun a => [.l (encP a.1), .l (encP a.2)], fun a => a.1.length ≤ 1001 ∧ a.2.length ≤ 1001, fun a => .ret (.own (encP (againR a.1 a.2)))⟩
theorem cutD_last (ds : List D) (x : D) : cutD (ds ++ [x]) none (some (-1)) = ds := by
  unfold cutD
  rw [HT.sIx_none]
  have e : HT.sIx (ds ++ [x]).length (ds ++ [x]).length (some (-1)) = ds.length := by
    unfold HT.sIx
    simp
    omega
  rw [e, List.drop_zero, Nat.sub_zero]
  exact List.take_left
theorem worth_le {st : Steps} (g : Good st) : ∀ {p : Piece} {x : Rat}, Apart p → (∀ s ∈ p, x ≤ s.1 ∧ s.1 < s.2 ∧ s.2 ≤ 1) → x ≤ 1 → worthR st p ≤ withinR st x 1
  | [], x, _, _, hx => by
    have := within_nn g (s := x) (m := 1)
    show (0 : Rat) ≤ _
    exact this
  | t :: r, x, ha, hs, hx => by
    have h := hs t List.mem_cons_self
    have ih : worthR st r ≤ withinR st t.2 1 := by
      refine worth_le g (x := t.2) (apart_suf (f := [t]) ha) (fun s hs' => ?_) h.2.2
      have z := hs s (List.mem_cons_of_mem _ hs')
      refine ⟨?_, z.2⟩
      cases r with
      | nil => cases hs'
      | cons u r =>
        have hu : t.2 < u.1 := ha.1
        rcases List.mem_cons.mp hs' with rfl | hm
        · grind
        · have : u.1 ≤ s.1 := by
            have up : ∀ {l : Piece} {u : Rat × Rat}, Apart (u :: l) → (∀ s ∈ u :: l, s.1 < s.2) → ∀ s ∈ l, u.1 ≤ s.1 := by
              intro l
              induction l with
              | nil => intro u _ _ s hs; cases hs
              | cons v l ih =>
                intro u h h2 s hs
                have h3 := h2 u List.mem_cons_self
                have h4 : u.2 < v.1 := h.1
                rcases List.mem_cons.mp hs with rfl | hs
                · grind
                · have := ih h.2 (fun s hs => h2 s (List.mem_cons_of_mem _ hs)) s hs
                  grind
            exact up (apart_suf (f := [t]) ha) (fun s hs2 => (hs s (List.mem_cons_of_mem _ hs2)).2.1) s hm
          grind
    have e := worth_cat st [t] r
    have e1 := worth_one st t.1 t.2
    have s1 := within_split st (s := x) (m := t.1) (n := 1) h.1 (by grind)
    have s2 := within_split st (s := t.1) (m := t.2) (n := 1) (by grind) h.2.2
    have nn := within_nn g (s := x) (m := t.1)
    have e2 : worthR st (t :: r) = worthR st [t] + worthR st r := e
    have e3 : worthR st [t] = withinR st t.1 t.2 := e1
    grind
theorem worth_le1 {st : Steps} (g : Good st) {p : Piece} (hp : IsPiece p) : worthR st p ≤ 1 := by
  have h := worth_le g (p := p) (x := 0) hp.2 (fun s hs => hp.1 s hs) (by grind)
  rw [within_one g] at h
  exact h
def duT (f r : Piece) : D := .tup [.lst (encP f), .lst (encP r)]
theorem eq_duT (f r : Piece) : eqD (duT f r) (duT f r) = true := by
  show (eqD (.lst (encP f)) (.lst (encP f)) && (eqD (.lst (encP r)) (.lst (encP r)) && true)) = true
  rw [eq_encPl.mpr rfl, eq_encPl.mpr rfl]
  rfl
theorem sh_duT (f r : Piece) : sh (duT f r) 4 = true := by
  show (sh (.lst (encP f)) 3 && (sh (.lst (encP r)) 3 && true)) = true
  have e1 : sh (.lst (encP f)) 3 = true := sh_list (f := encS) (n := 2) (fun _ => rfl) f
  have e2 : sh (.lst (encP r)) 3 = true := sh_list (f := encS) (n := 2) (fun _ => rfl) r
  rw [e1, e2]
  rfl
/-- a share that is drawn -/
structure ShareOk (q : Rat) : Prop where
  q0 : 0 ≤ q
  q1 : q ≤ 1000
  on : ∃ Dq : Nat, 0 < Dq ∧ Dq < 2 ^ 600 ∧ Gr Dq q
theorem ShareOk.sz {q : Rat} (h : ShareOk q) : Sz q := by
  obtain ⟨D, d0, d1, g⟩ := h.on
  exact (gr_sh g d0 (Nat.lt_of_lt_of_le d1 (pt_lt (by decide))) h.q0 h.q1).sz
theorem share_small {k u : Int} (k0 : 0 ≤ k) (u0 : 0 < u) (u1 : u ≤ 20) (ku : k ≤ 1000 * u) : ShareOk (Rat.divInt k u) :=
  ⟨divInt_nn k0 u0, divInt_le (c := 1000) u0 ku, u.toNat, by omega, Nat.lt_of_lt_of_le (by omega : u.toNat < 2 ^ 5) (pt_lt (by decide)), gr_div u0⟩
theorem worth_share {st : Steps} (g : Good st) {p : Piece} (hp : IsPiece p) (h1 : Grid1 p) : ShareOk (worthR st p) ∧ ∃ D : Nat, 0 < D ∧ D < 2 ^ 580 ∧ Gr D (worthR st p) := by
  obtain ⟨Dp, d0, d1, gp⟩ := h1
  obtain ⟨n, n0, nb, hn⟩ := g.over
  have w := worth_gr g hp gp hn
  have dlt := g.dt_lt
  have a1 : dt st * Dp < 2 ^ 80 * 2 ^ 11 := Nat.mul_lt_mul'' dlt (by omega)
  have a2 : dt st * Dp * n < 2 ^ 80 * 2 ^ 11 * 2 ^ 90 := Nat.mul_lt_mul'' a1 nb
  rw [← Nat.pow_add, ← Nat.pow_add] at a2
  have D0 : 0 < dt st * Dp * n := Nat.mul_pos (Nat.mul_pos (dt_pos st) d0) n0
  have le1 := worth_le1 g hp
  exact ⟨⟨w.1, by grind, _, D0, Nat.lt_of_lt_of_le a2 (pt_lt (by decide)), w.2.2⟩, _, D0, Nat.lt_of_lt_of_le a2 (pt_lt (by decide)), w.2.2⟩
theorem part_law {w : Rat} {k u : Int} (u0 : 0 < u) : Rat.divInt (w.num * k) ((w.den : Int) * u) = w * Rat.divInt k u := by
  have hd := den_pos' w
  rw [Rat.divInt_eq_div, Rat.divInt_eq_div, Rat.intCast_mul, Rat.intCast_mul]
  have h1 : ((w.den : Int) : Rat) ≠ 0 := by exact_mod_cast (by omega : (w.den : Int) ≠ 0)
  have h2 : (u : Rat) ≠ 0 := by exact_mod_cast (by omega : u ≠ 0)
  have e := rat_div w
  generalize (w.num : Rat) = x at *
  generalize ((w.den : Int) : Rat) = y at *
  rw [e]
  grind
theorem share_part {w : Rat} (hw : ShareOk w) (hD : ∃ D : Nat, 0 < D ∧ D < 2 ^ 580 ∧ Gr D w) {k u : Int} (k0 : 0 ≤ k) (ku : k ≤ u) (u0 : 0 < u) (u1 : u ≤ 20) : ShareOk (w * Rat.divInt k u) := by
  obtain ⟨D, d0, d1, gw⟩ := hD
  have a := divInt_nn k0 u0
  have b : Rat.divInt k u ≤ ((1 : Int) : Rat) := divInt_le (c := 1) u0 (by omega)
  have b' : Rat.divInt k u ≤ 1 := b
  have w0 := hw.q0
  have w1 := hw.q1
  have m := Rat.mul_le_mul_of_nonneg_left b' w0
  have gd := gr_div (a := k) u0
  refine ⟨Rat.mul_nonneg w0 a, by grind, D * u.toNat, Nat.mul_pos d0 (by omega), ?_, gw.mul gd⟩
  have a2 : D * u.toNat < 2 ^ 580 * 2 ^ 5 := Nat.mul_lt_mul'' d1 (by omega)
  rw [← Nat.pow_add] at a2
  exact Nat.lt_of_lt_of_le a2 (pt_lt (by decide))
theorem wE_ctS {α : Type} {G : Gx} {F0 H0 : Hp} {ρ : Ro} {μ : Mu} {R : RE} {X : Ex} {c : Ct α} {E : XK} {t : TA} (h : wA G F0 H0 t ρ μ fun us μ1 => ∃ a, Paired (ArgOf μ1) us (c.args a) ∧ c.pre a ∧ Ends' R μ1 H0 X E (c.out a)) :
    wE G F0 H0 (tCallS (spC G X c) (fun _ => E) t) ρ μ R := fun F H as σ Q e q => by
  have z : (t σ H fun vs H1 => spC G X c (vs ++ []) H1 Q E) := wE_ct (E := E) h F H as σ Q e q
  have e2 : (fun (vs : List V) H1 => spC G X c (vs ++ []) H1 Q E) = fun vs H1 => spC G X c vs H1 Q E := by
    funext vs H1
    rw [List.append_nil]
  rw [e2] at z
  exact z
theorem cut_len (st : Steps) (q : Rat) (p : Piece) : (cutR st p q).1.length ≤ p.length ∧ (cutR st p q).2.1.length ≤ p.length := by
  have go : ∀ (l : Piece) (a : CutA), (l.foldl (cutStep st) a).1.length ≤ a.1.length + l.length ∧ (l.foldl (cutStep st) a).2.1.length ≤ a.2.1.length + l.length := by
    intro l
    induction l with
    | nil => intro a; exact ⟨Nat.le_refl _, Nat.le_refl _⟩
    | cons t l ih =>
      intro a
      obtain ⟨i1, i2⟩ := ih (cutStep st a t)
      have s1 : (cutStep st a t).1.length ≤ a.1.length + 1 ∧ (cutStep st a t).2.1.length ≤ a.2.1.length + 1 := by
        unfold cutStep
        split
        · simp
        · split
          · simp
          · simp
      show (l.foldl (cutStep st) (cutStep st a t)).1.length ≤ _ ∧ (l.foldl (cutStep st) (cutStep st a t)).2.1.length ≤ _
      rw [List.length_cons]
      omega
  have z := go p ([], [], q)
  simp only [List.length_nil, Nat.zero_add] at z
  exact z
theorem Deal.ofT {μ : Mu} (f r : Piece) : (μ ++ [encP f, encP r].map Cell.rw ++ [.tp ((List.range 2).map (μ.length + ·))])[μ.length + 2]? = some (.tp [μ.length + 0, μ.length + 1]) ∧ (μ ++ [encP f, encP r].map Cell.rw ++ [.tp ((List.range 2).map (μ.length + ·))])[μ.length + 0]? = some (.rw (encP f)) ∧ (μ ++ [encP f, encP r].map Cell.rw ++ [.tp ((List.range 2).map (μ.length + ·))])[μ.length + 1]? = some (.rw (encP r)) := by
  refine ⟨?_, ?_, ?_⟩
  · rw [List.getElem?_append_right (by simp)]
    simp
    rfl
  · rw [List.getElem?_append_left (by simp), List.getElem?_append_right (by omega)]
    simp
  · rw [List.getElem?_append_left (by simp), List.getElem?_append_right (by omega)]
    simp
/-! ### the pieces that are drawn by forty-eighths -/
def endQ (c : Int) (k : Nat) : Int := mixN c (30 + k) % 49
def drawQ (c : Int) : Nat → List Int
  | 0 => []
  | k + 1 => put1 true (drawQ c k) (endQ c k)
def endsQ (c : Int) : List Int := sortN (drawQ c (2 * (c / 3 % 9)).toNat)
def pieceQ (c : Int) : Piece := toPiece 48 (endsQ c)
theorem drawQ_ok (c : Int) : ∀ k, Ends1 0 48 k (drawQ c k)
  | 0 => .nil
  | k + 1 => (drawQ_ok c k).put fun _ => by
    unfold endQ
    omega
theorem endsQ_ok (c : Int) : (endsQ c).Pairwise (· < ·) ∧ (∀ x ∈ endsQ c, 0 ≤ x ∧ x ≤ 48) ∧ (endsQ c).length ≤ 16 := by
  have h := drawQ_ok c (2 * (c / 3 % 9)).toNat
  refine ⟨sort_lt h.nd, fun x hx => h.wi x ((sortN_perm _).subset hx), ?_⟩
  have h2 := (sortN_perm (drawQ c (2 * (c / 3 % 9)).toNat)).length_eq
  have h3 := h.few
  unfold endsQ
  omega
theorem pieceQ_is (c : Int) : IsPiece (pieceQ c) := (toPiece_is (by decide) (endsQ_ok c).1 (endsQ_ok c).2.1).1
theorem pieceQ_len (c : Int) : (pieceQ c).length ≤ 8 := by
  unfold pieceQ
  rw [toPiece_len]
  have := (endsQ_ok c).2.2
  omega
theorem pieceQ_grid (c : Int) : Grid1 (pieceQ c) := by
  refine ⟨48, by omega, by omega, fun s hs => ?_⟩
  obtain ⟨a, b, rfl, _, _⟩ := (toPiece_is (by decide) (endsQ_ok c).1 (endsQ_ok c).2.1).2 s hs
  exact ⟨gr_div (p := 48) (by decide), gr_div (p := 48) (by decide)⟩
def c5_piece_by : Ct Int := ⟨fun a => [.d (.int a)], fun _ => True, fun a => .ret (.own (encP (pieceQ a)))⟩
section
variable {μ : Mu} {R : RE} {H0 : Hp} {X : Ex} {E : XK}
theorem ca_piece_q {c : Int} (r : R (.p μ.length) (μ ++ [.rw (encP (pieceQ c))])) : Call [.d (.int c)] c5_piece_by R μ H0 X E := ⟨c, .cons (.d _) .nil, trivial, r⟩
end
end L3

set_option Elab.async false
set_option linter.all false
set_option maxRecDepth 100000
set_option maxHeartbeats 4000000
set_option exponentiation.threshold 100
/-! Texts: the rules' readings. A text is the list of its signs' numbers. -/
namespace L3
open PySem PySem.Spec PyProof.Rows L2
abbrev S (l : List Nat) : Str := ⟨l.toArray⟩
abbrev rSplit : V → List V → Hp → VK → Prop := fun x xs H Q => ∃ a b, x = .str a ∧ xs = [.str b] ∧ (b.length == 0) = false ∧ a.length + 2 ≤ sizeLine ∧ rNewStrs (Txt.split a b) H Q
abbrev rPart : V → List V → Hp → VK → Prop := fun x xs H Q => ∃ a b, x = .str a ∧ xs = [.str b] ∧ (b.length == 0) = false ∧ a.length ≤ sizeLine ∧
  ∀ p, H p = none → Q (.ref p) (upd H p (.tup [.str (Txt.partition a b).1, .str (Txt.partition a b).2.1, .str (Txt.partition a b).2.2]))
abbrev rJoin (K : PySem.W.Frag) : V → List V → Hp → VK → Prop := fun x xs H Q => ∃ a p, ∃ ys : List Str, x = .str a ∧ xs = [.ref p] ∧ (SqL K H p (ys.map V.str) ∨ SqT K H p (ys.map V.str)) ∧
  (ys.map (·.length)).sum + ys.length * a.length ≤ 16777216 ∧ Q (.str (Txt.join a ys)) H
abbrev rStrI : List V → Hp → VK → Prop := fun xs H Q => ∃ i, xs = [.int i] ∧ i.natAbs.log2 < 1920 ∧ Q (.str (toString i)) H
abbrev rIntS : List V → Hp → VK → Prop := fun xs H Q => ∃ a n, xs = [.str a] ∧ PySem.intText? a = some n ∧ a.length ≤ 640 ∧ Q (.int n) H
abbrev rAddS : V → V → Hp → VK → Prop := fun x y H Q => ∃ i j, x = .str i ∧ y = .str j ∧ i.length + j.length ≤ sizeLine ∧ Q (.str (i ++ j)) H
abbrev rMulS : V → V → Hp → VK → Prop := fun x y H Q => ∃ i j, x = .str i ∧ y = .int j ∧ MulOk i j ∧ Q (.str (Txt.mul i j)) H
abbrev rInS : V → V → Hp → VK → Prop := fun x y H Q => ∃ (c : Nat) (z : Str), x = .str ⟨#[c]⟩ ∧ y = .str z ∧ Q (.bl (decide (c ∈ z.cps.toList))) H
abbrev rNotInS : V → V → Hp → VK → Prop := fun x y H Q => ∃ (c : Nat) (z : Str), x = .str ⟨#[c]⟩ ∧ y = .str z ∧ Q (.bl (!decide (c ∈ z.cps.toList))) H
abbrev rLenTx : List V → Hp → VK → Prop := fun xs H Q => ∃ z, xs = [.str z] ∧ z.length ≤ sizeLine ∧ Q (.int z.length) H
abbrev rIxS : V → V → Hp → VK → Prop := fun x y H Q => ∃ z i c, x = .str z ∧ y = .int i ∧ 0 ≤ i ∧ i < 2 ^ 63 ∧ i < z.length ∧ z.cps[i.toNat]? = some c ∧ Q (.str ⟨#[c]⟩) H
abbrev rAbsI : List V → Hp → VK → Prop := fun xs H Q => ∃ i, xs = [.int i] ∧ Q (.int (if i < 0 then -i else i)) H
theorem kAbsI {X : Cx} : CallR X (.builtin "abs") rAbsI := call_abs
def rNotBl : R2 := fun x y H Q => ∃ a b : Bool, x = .bl a ∧ y = .bl b ∧ Q (.bl (!decide (a = b))) H
theorem kNotB {X : Cx} : OpR X (compareOp .IsNot) rNotBl := op_notBl
theorem cstS_mk {K : PySem.W.Frag} {h : Heap} {mg : Str → Option Value} {x : Str} {i : Str} {t : Tok} (X : K.In h) (G : h.Ns mainGlobals mg) (a : PySem.W.nsIn K mainGlobals x = some (some (.str i t))) : CstS mg x i := ⟨t, PySem.W.mg_of X G a⟩
theorem kMulS {X : Cx} : OpR X (binaryOp .Mult) rMulS := by
  intro pins s σ H x y v u Q I rx ry h
  obtain ⟨i, j, rfl, rfl, hz, q⟩ := h
  obtain ⟨t, rfl⟩ := rx
  obtain ⟨t', rfl⟩ := ry
  exact PySem.SB.mul hz fun t' k => ⟨.str _, H, I.tok _, ⟨_, rfl⟩, q⟩
theorem kAddS {X : Cx} : OpR X (binaryOp .Add) rAddS := op_add_str
theorem kInS {X : Cx} : OpR X (compareOp .In) rInS := op_in_sign
theorem kNotInS {X : Cx} : OpR X (compareOp .NotIn) rNotInS := op_notIn_sign
theorem kLenS {X : Cx} : CallR X (.builtin "len") rLenTx := call_len_str
theorem kStrI {X : Cx} : CallR X (.type "str") rStrI := call_str_int
theorem kIntS {X : Cx} : CallR X (.type "int") rIntS := call_int_str
theorem look_rel {c : NameKind → Str → Bool} : ∀ {names : List (Str × NameKind)} {x : Str}, names.lookup x = some .cell ∨ names.lookup x = some .free → (names.map fun (n, k) => if c k n = true then (n, NameKind.cell) else (n, k)).lookup x = some .cell ∨ (names.map fun (n, k) => if c k n = true then (n, NameKind.cell) else (n, k)).lookup x = some .free
  | [], x, h => by simp at h
  | (n, k) :: r, x, h => by
    have ih := look_rel (c := c) (names := r) (x := x)
    show List.lookup x ((if c k n = true then (n, NameKind.cell) else (n, k)) :: _) = _ ∨ List.lookup x ((if c k n = true then (n, NameKind.cell) else (n, k)) :: _) = _
    cases hx : x == n with
    | true =>
      have h' : some k = some .cell ∨ some k = some NameKind.free := by
        rcases h with h | h
        · left; rw [List.lookup_cons, hx] at h; exact h
        · right; rw [List.lookup_cons, hx] at h; exact h
      cases hc : c k n
      · rw [if_neg (by simp), List.lookup_cons, hx]; exact h'
      · rw [if_pos rfl, List.lookup_cons, hx]; exact .inl rfl
    | false =>
      have h' : List.lookup x r = some .cell ∨ List.lookup x r = some NameKind.free := by
        rcases h with h | h
        · left; rw [List.lookup_cons, hx] at h; exact h
        · right; rw [List.lookup_cons, hx] at h; exact h
      cases hc : c k n
      · rw [if_neg (by simp), List.lookup_cons, hx]; exact ih h'
      · rw [if_pos rfl, List.lookup_cons, hx]; exact ih h'
/-- a comprehension within a comprehension: its block -/
theorem blk_in (N : List Str) {X : Cx} {sc0 scope : Scope} {own : List (Str × Nat)} {s : Shared} {H : Hp} {C : Addr} {cl : List (Str × Addr)} {fp : List Addr} (h : blkC N sc0 scope own = true) (hN : (X.blk s H sc0 (compEnvC sc0 cl C X.env) fp).N = N) : BlkOk (X.blk s H sc0 (compEnvC sc0 cl C X.env) fp).N (X.blk s H sc0 (compEnvC sc0 cl C X.env) fp).env.scope scope own := by
  rw [hN]
  have o := blkOk_by h
  exact ⟨o.kind, o.uniq, o.ix, fun y hy e => look_rel (c := fun k n => k == NameKind.free && X.env.scope.kind == .function && X.env.kindOf n == some .cell) (o.free y hy e), o.own⟩
section
variable {X : Cx} {o e : Expr} {to te : TE}
theorem kSplit {apos pos : Pos} (ho : PE X o to) (he : PE X e te) (hs : starEach [e] X.env = [(false, eval e X.env)] := by rfl) (hbase : attributeBase o "split" X.env (eval o X.env) = eval o X.env := by rfl) (hline : (apos.endLine == pos.line) = true := by rfl) : PE X (.Call (.Attribute o "split" apos) [e] [] pos) (tM1 rSplit to te) := pe_split ho he hs hbase hline
theorem kPart {apos pos : Pos} (ho : PE X o to) (he : PE X e te) (hs : starEach [e] X.env = [(false, eval e X.env)] := by rfl) (hbase : attributeBase o "partition" X.env (eval o X.env) = eval o X.env := by rfl) (hline : (apos.endLine == pos.line) = true := by rfl) : PE X (.Call (.Attribute o "partition" apos) [e] [] pos) (tM1 rPart to te) := pe_partition ho he hs hbase hline
theorem kJoin {K : PySem.W.Frag} (hK : X.K = K) {apos pos : Pos} (ho : PE X o to) (he : PE X e te) (hs : starEach [e] X.env = [(false, eval e X.env)] := by rfl) (hbase : attributeBase o "join" X.env (eval o X.env) = eval o X.env := by rfl) (hline : (apos.endLine == pos.line) = true := by rfl) : PE X (.Call (.Attribute o "join" apos) [e] [] pos) (tM1 (rJoin K) to te) := by
  subst hK
  exact pe_join ho he hs hbase hline
theorem kItemS {pos : Pos} {a b : Expr} {ta tb : TE} (ha : PE X a ta) (hb : PE X b tb) (hs : PlainIxT b) : PE X (.Subscript a b pos) (tOp rIxS ta tb) := pe_item_str ha hb hs
end
abbrev sd (l : List Nat) : D := .str (S l)
section
variable {G : Gx} {F0 H0 : Hp} {ρ : Ro} {μ : Mu} {R : RE}
theorem rpAll_strs (F : Hp) : ∀ ys : List Str, RpAll G F (ys.map V.str) (ys.map D.str)
  | [] => .nil
  | y :: ys => .cons (.str y) (rpAll_strs F ys)
theorem wE_split {to te : TE} (h : wE G F0 H0 to ρ μ fun u μ1 => ∃ a, u = .d (sd a) ∧ wE G F0 H0 te ρ μ1 fun u2 μ2 => ∃ c, u2 = .d (sd [c]) ∧ c < 256 ∧ a.length ≤ 10000000 ∧ R (.p μ2.length) (μ2 ++ [.rw ((TL.spl [c] 0 [] a).map sd)])) : wE G F0 H0 (tM1 rSplit to te) ρ μ R := fun F H as σ Q e q => by
  refine h F H as σ _ e fun u μ1 v F1 H1 as1 h1 e1 s1 g1 r1 => ?_
  obtain ⟨a, rfl, h2⟩ := h1
  cases r1
  refine ⟨⟨_, rfl⟩, h2 F1 H1 as1 σ _ e1 fun u2 μ2 v2 F2 H2 as2 h2 e2 s2 g2 r2 => ?_⟩
  obtain ⟨c, rfl, hc, hl, k⟩ := h2
  cases r2
  refine ⟨S a, S [c], rfl, rfl, rfl, by rw [sizeLine_eq]; show a.toArray.size + 2 ≤ _; rw [List.size_toArray]; omega, fun p hp => ?_⟩
  have es : Txt.split (S a) (S [c]) = (TL.spl [c] 0 [] a).map S := SX.split_S (by simp) (by simpa using hc)
  rw [es]
  have ra := rpAll_strs (G := G) F2 ((TL.spl [c] 0 [] a).map S)
  rw [List.map_map (f := S) (g := D.str)] at ra
  have e3 := e2.cell (o := .lst _) (c := .rw _) hp ⟨e2.bs.h0.free hp, e2.bs.fh.free hp, _, upd_same, ra⟩
  refine q _ _ _ _ _ _ k e3 (s1.trans s2) ((g1.trans g2).trans Grw.app) ⟨p, rfl, ?_⟩
  rw [← e2.al, List.getElem?_append_right (Nat.le_refl _)]
  simp
/-- the parts of a text at a sign -/
def parD (c : Nat) (a : List Nat) : List Nat × List Nat × List Nat :=
  match TL.par [c] [] a with
  | some (p, q) => (p, [c], q)
  | none => (a, [], [])
theorem partition_S (c : Nat) (a : List Nat) : Txt.partition (S a) (S [c]) = (S (parD c a).1, S (parD c a).2.1, S (parD c a).2.2) := by
  unfold parD
  cases h : TL.par [c] [] a with
  | none => exact SX.partition_none (by simp) h
  | some pq => exact SX.partition_some (by simp) h
theorem wE_part {to te : TE} (h : wE G F0 H0 to ρ μ fun u μ1 => ∃ a, u = .d (sd a) ∧ wE G F0 H0 te ρ μ1 fun u2 μ2 => ∃ c, u2 = .d (sd [c]) ∧ a.length ≤ 10000000 ∧ R (.d (.tup [sd (parD c a).1, sd (parD c a).2.1, sd (parD c a).2.2])) μ2) : wE G F0 H0 (tM1 rPart to te) ρ μ R := fun F H as σ Q e q => by
  refine h F H as σ _ e fun u μ1 v F1 H1 as1 h1 e1 s1 g1 r1 => ?_
  obtain ⟨a, rfl, h2⟩ := h1
  cases r1
  refine ⟨⟨_, rfl⟩, h2 F1 H1 as1 σ _ e1 fun u2 μ2 v2 F2 H2 as2 h2 e2 s2 g2 r2 => ?_⟩
  obtain ⟨c, rfl, hl, k⟩ := h2
  cases r2
  refine ⟨S a, S [c], rfl, rfl, rfl, by rw [sizeLine_eq]; show a.toArray.size ≤ _; rw [List.size_toArray]; omega, fun p hp => ?_⟩
  rw [partition_S]
  obtain ⟨e3, s3⟩ := e2.fresh (o := .tup [.str (S (parD c a).1), .str (S (parD c a).2.1), .str (S (parD c a).2.2)]) hp
  exact q _ _ _ _ _ _ k e3 ((s1.trans s2).trans s3) (g1.trans g2) (Rp.tup (.of upd_same) (.cons (.str _) (.cons (.str _) (.cons (.str _) .nil))))
theorem wE_join {to te : TE} (h : wE G F0 H0 to ρ μ fun u μ1 => ∃ c, u = .d (sd [c]) ∧ wE G F0 H0 te ρ μ1 fun u2 μ2 => ∃ ys : List (List Nat), IsL μ2 u2 (ys.map sd) ∧ (ys.map List.length).sum + ys.length ≤ 16777216 ∧ R (.d (sd (TL.joinL [c] ys))) μ2) : wE G F0 H0 (tM1 (rJoin G.K) to te) ρ μ R := fun F H as σ Q e q => by
  refine h F H as σ _ e fun u μ1 v F1 H1 as1 h1 e1 s1 g1 r1 => ?_
  obtain ⟨c, rfl, h2⟩ := h1
  cases r1
  refine ⟨⟨_, rfl⟩, h2 F1 H1 as1 σ _ e1 fun u2 μ2 v2 F2 H2 as2 h2 e2 s2 g2 r2 => ?_⟩
  obtain ⟨ys, hl, hs, k⟩ := h2
  obtain ⟨p, vs, rfl, hq, ha⟩ := hl.seq e2 r2
  have ev : vs = (ys.map S).map V.str := by
    refine RpAll.of_strs (G := G) (F := F2) ?_
    rw [List.map_map]
    exact ha
  subst ev
  refine ⟨S [c], p, ys.map S, rfl, rfl, .inl hq, ?_, ?_⟩
  · rw [SX.lens, List.length_map]
    show (ys.map List.length).sum + ys.length * 1 ≤ _
    omega
  · rw [SX.join_S]
    exact q _ _ _ _ _ _ k e2 (s1.trans s2) (g1.trans g2) (Rp.str _)
theorem wC_strI {n : Nat} (hn : n < 2 ^ 1900) (k : R (.d (sd (TL.numL n))) μ) : wC G F0 H0 rStrI [.d (.int n)] ρ μ R := fun F H as σ vs Q e r q => by
  obtain ⟨v, rfl, r9⟩ := p1 r
  cases r9
  refine ⟨n, rfl, ?_, ?_⟩
  · show (Int.natAbs (n : Int)).log2 < 1920
    rw [Int.natAbs_natCast]
    by_cases h0 : n = 0
    · subst h0; decide
    · exact (Nat.log2_lt h0).mpr (Nat.lt_of_lt_of_le hn (Nat.pow_le_pow_right (by decide) (by decide)))
  · have := SX.num_S n
    rw [show (toString (n : Int) : Str) = S (TL.numL n) from this]
    exact q _ _ _ _ _ _ k e (.refl _) .refl (Rp.str _)
def digs (a : List Nat) : Bool := a.all fun c => decide (48 ≤ c) && decide (c ≤ 57)
theorem wC_intS {a : List Nat} (hd : digs a = true) (hne : a ≠ []) (hl : a.length ≤ 640) (k : R (.d (.int (NumText.digitsVal a : Nat))) μ) : wC G F0 H0 rIntS [.d (sd a)] ρ μ R := fun F H as σ vs Q e r q => by
  obtain ⟨v, rfl, r9⟩ := p1 r
  cases r9
  exact ⟨S a, _, rfl, SX.int_S hd hne (by omega), by show a.toArray.size ≤ 640; rw [List.size_toArray]; exact hl, q _ _ _ _ _ _ k e (.refl _) .refl (Rp.int _)⟩
theorem wC_abs {i : Int} (k : R (.d (.int (i.natAbs : Nat))) μ) : wC G F0 H0 rAbsI [.d (.int i)] ρ μ R := fun F H as σ vs Q e r q => by
  obtain ⟨v, rfl, r9⟩ := p1 r
  cases r9
  have : (if i < 0 then -i else i) = ((i.natAbs : Nat) : Int) := by split <;> omega
  refine ⟨i, rfl, ?_⟩
  rw [this]
  exact q _ _ _ _ _ _ k e (.refl _) .refl (Rp.int _)
theorem eqD_sd (a b : List Nat) : eqD (sd a) (sd b) = decide (a = b) := by
  show (S a == S b) = _
  exact SX.S_beq_eq
/-- signs there are -/
def Cps (a : List Nat) : Prop := ∀ c ∈ a, c < 1114112
theorem sh_sd {a : List Nat} (h : Cps a) (n : Nat) : sh (sd a) n = true := by
  show PySem.PyData.strOk (S a) = true
  unfold PySem.PyData.strOk
  rw [← Array.all_toList, List.all_eq_true]
  intro c hc
  exact decide_eq_true (h c hc)
theorem cps_nil : Cps [] := fun _ h => by cases h
theorem cps_one {c : Nat} (h : c < 1114112) : Cps [c] := fun x hx => by rw [List.mem_singleton.mp hx]; exact h
theorem w2_eqS {a b : List Nat} (ha : Cps a) (hb : Cps b) (k : R (.d (.bl (decide (a = b)))) μ) : w2 G F0 H0 (rEqD G.K) (.d (sd a)) (.d (sd b)) ρ μ R := w2_eqD (.d _) (.d _) 1 1 (by decide) (by decide) (sh_sd ha 1) (sh_sd hb 1) (by rw [eqD_sd]; exact k)
theorem w2_neS {a b : List Nat} (ha : Cps a) (hb : Cps b) (k : R (.d (.bl (!decide (a = b)))) μ) : w2 G F0 H0 (rNeD G.K) (.d (sd a)) (.d (sd b)) ρ μ R := w2_neD (.d _) (.d _) 1 1 (by decide) (by decide) (sh_sd ha 1) (sh_sd hb 1) (by rw [eqD_sd]; exact k)
theorem w2_notB {a b : Bool} (k : R (.d (.bl (!decide (a = b)))) μ) : w2 G F0 H0 rNotBl (.d (.bl a)) (.d (.bl b)) ρ μ R := fun F H as σ v1 v2 Q e r1 r2 q => by
  cases r1
  cases r2
  exact ⟨a, b, rfl, rfl, q _ _ _ _ _ _ k e (.refl _) .refl (Rp.bl _)⟩
theorem wC_lenS {a : List Nat} (hl : a.length ≤ 10000000) (k : R (.d (.int a.length)) μ) : wC G F0 H0 rLenTx [.d (sd a)] ρ μ R := fun F H as σ vs Q e r q => by
  obtain ⟨v, rfl, r9⟩ := p1 r
  cases r9
  refine ⟨S a, rfl, by rw [sizeLine_eq]; show a.toArray.size ≤ _; rw [List.size_toArray]; omega, ?_⟩
  have e2 : (S a).length = a.length := SX.S_len a
  rw [e2]
  exact q _ _ _ _ _ _ k e (.refl _) .refl (Rp.int _)
theorem w2_addS {a b : List Nat} (hl : a.length + b.length ≤ 10000000) (k : R (.d (sd (a ++ b))) μ) : w2 G F0 H0 rAddS (.d (sd a)) (.d (sd b)) ρ μ R := fun F H as σ v1 v2 Q e r1 r2 q => by
  cases r1
  cases r2
  refine ⟨_, _, rfl, rfl, by rw [sizeLine_eq]; show a.toArray.size + b.toArray.size ≤ _; rw [List.size_toArray, List.size_toArray]; omega, ?_⟩
  rw [SX.S_cat]
  exact q _ _ _ _ _ _ k e (.refl _) .refl (Rp.str _)
theorem w2_inS {c : Nat} {a : List Nat} (k : R (.d (.bl (decide (c ∈ a)))) μ) : w2 G F0 H0 rInS (.d (sd [c])) (.d (sd a)) ρ μ R := fun F H as σ v1 v2 Q e r1 r2 q => by
  cases r1
  cases r2
  exact ⟨c, S a, rfl, rfl, q _ _ _ _ _ _ k e (.refl _) .refl (Rp.bl _)⟩
theorem w2_notInS {c : Nat} {a : List Nat} (k : R (.d (.bl (!decide (c ∈ a)))) μ) : w2 G F0 H0 rNotInS (.d (sd [c])) (.d (sd a)) ρ μ R := fun F H as σ v1 v2 Q e r1 r2 q => by
  cases r1
  cases r2
  exact ⟨c, S a, rfl, rfl, q _ _ _ _ _ _ k e (.refl _) .refl (Rp.bl _)⟩
theorem w2_ixS {c : Nat} {a : List Nat} {i : Int} (h0 : 0 ≤ i) (h1 : i < 1000000) (hc : a[i.toNat]? = some c) (k : R (.d (sd [c])) μ) : w2 G F0 H0 rIxS (.d (sd a)) (.d (.int i)) ρ μ R := fun F H as σ v1 v2 Q e r1 r2 q => by
  cases r1
  cases r2
  have hl := (List.getElem?_eq_some_iff.mp hc).1
  exact ⟨S a, i, c, rfl, rfl, h0, by omega, by show i < ((S a).length : Int); rw [show (S a).length = a.length from SX.S_len a]; omega, by show a.toArray[i.toNat]? = _; rw [List.getElem?_toArray]; exact hc, q _ _ _ _ _ _ k e (.refl _) .refl (Rp.str _)⟩
theorem wS_par3 {i j l : Nat} {ta : TA} {D' : DE} (h : wA G F0 H0 ta ρ μ fun us μ1 => ∃ u v w, us = [u, v, w] ∧ D'.nx (((ρ.set i (some u)).set j (some v)).set l (some w)) μ1) : wS G F0 H0 (tPar3 i j l ta) ρ μ D' := fun F H as σ X e q => by
  refine h F H as σ _ e fun us μ1 vs F1 H1 as1 h1 e1 s1 g1 r1 => ?_
  obtain ⟨u, v, w, rfl, k⟩ := h1
  cases r1 with
  | cons r1 rs =>
    cases rs with
    | cons r2 rs =>
      cases rs with
      | cons r3 rs =>
        cases rs
        exact ⟨_, _, _, rfl, q.nx _ _ _ _ _ _ k (((e1.store r1).store r2).store r3) s1 g1⟩
/-- a comprehension over a text -/
theorem wE_lcS {tl : TE} {g : TG} {tt : TT} {te : TE} {vs : List Nat} (hw : Within g vs) (h : wE G F0 H0 tl ρ μ fun u μ1 => ∃ a : List Nat, u = .d (sd a) ∧ ∃ I : Nat → Mu → Prop, I 0 (μ1 ++ [.rw []]) ∧
      (∀ (i c : Nat) (μ' : Mu), a[i]? = some c → I i μ' → wG G F0 H0 g (.d (sd [c])) (wipeR ρ vs) μ' fun ρ2 μ2 => LcTurn G F0 H0 tt te μ1.length ρ2 (I i) (I (i + 1)) μ2) ∧ ∀ μ', I a.length μ' → R (.p μ1.length) μ') :
    wE G F0 H0 (tLc (iStr tl) g tt te vs) ρ μ R := fun F H as σ Q e q => by
  refine h F H as σ _ e fun u μ1 v F1 H1 as1 h1 e1 s1 g1 r1 => ?_
  obtain ⟨a, rfl, I, i0, is, ie⟩ := h1
  cases r1
  refine ⟨S a, rfl, lc_any (nn := a.length) (itd := fun i d => ∃ c, a[i]? = some c ∧ d = sd [c]) hw e1 (q.on s1 g1) I (fun i F2 H2 as2 μ2 e2 s2 g2 i2 => ?_) i0 (fun i d μ' _ hd hI => by obtain ⟨c, hc, rfl⟩ := hd; exact is i c μ' hc hI) ie⟩
  have hz : (S a).cps.size = a.length := List.size_toArray
  refine ⟨fun hi => ⟨by show i < (S a).cps.size; omega, fun x H' y => ?_⟩, fun hi => by show (S a).cps.size ≤ i; omega⟩
  obtain ⟨rfl, c, hc, rfl⟩ := y
  rw [List.getElem?_toArray] at hc
  exact ⟨rfl, _, ⟨c, hc, rfl⟩, .str _⟩
end
example : ("/" : Str) = S [47] := rfl
example : ("0123456789" : Str) = S [48,49,50,51,52,53,54,55,56,57] := rfl
end L3

set_option Elab.async false
set_option linter.all false
set_option maxRecDepth 100000
set_option maxHeartbeats 4000000
set_option exponentiation.threshold 100
/-! Texts: what they write, what is read. -/
namespace L3
open PySem PySem.Spec PyProof.Rows L2
open TL (numL)
/-- the number that the signs write -/
def numR (a : List Nat) : Option Nat := if a ≠ [] ∧ a.length ≤ 300 ∧ digs a = true ∧ ¬ (a.head? = some 48 ∧ 1 < a.length) then some (NumText.digitsVal a) else none
theorem digs_num (n : Nat) : digs (numL n) = true := by
  unfold digs
  rw [List.all_eq_true]
  intro c hc
  have := TL.numL_digits n c hc
  simp
  omega
theorem headT_app {α : Type} : ∀ {p : List α} (q : List α), p ≠ [] → (p ++ q).head? = p.head?
  | [], _, h => absurd rfl h
  | _ :: _, _, _ => rfl
theorem num_head : ∀ n : Nat, (numL n).head? = some 48 → n = 0 := by
  intro n
  induction n using Nat.strongRecOn with
  | _ n ih =>
    intro h
    by_cases h1 : n < 10
    · rw [show numL n = [48 + n] from TL.numL_lt h1] at h
      have : 48 + n = 48 := Option.some.inj h
      omega
    · rw [show numL n = numL (n / 10) ++ [48 + n % 10] from TL.numL_step (by omega)] at h
      rw [headT_app _ (TL.numL_ne _)] at h
      have := ih (n / 10) (by omega) h
      omega
theorem numL_of : ∀ (k : Nat) (a : List Nat), a.length = k → a ≠ [] → digs a = true → ¬ (a.head? = some 48 ∧ 1 < a.length) → numL (NumText.digitsVal a) = a := by
  intro k
  induction k with
  | zero => intro a hk hne; exact absurd (List.length_eq_zero_iff.mp hk) hne
  | succ k ih =>
    intro a hk hne hd hh
    obtain ⟨p, c, rfl⟩ : ∃ p c, a = p ++ [c] := ⟨a.dropLast, a.getLast hne, (List.dropLast_concat_getLast hne).symm⟩
    have hp : p.length = k := by simpa using hk
    have hdc : 48 ≤ c ∧ c ≤ 57 := by
      have := List.all_eq_true.mp hd c (by simp)
      simpa using this
    have hdp : digs p = true := by
      refine List.all_eq_true.mpr fun x hx => List.all_eq_true.mp hd x (List.mem_append_left _ hx)
    rw [NumText.digitsVal_snoc]
    by_cases hpe : p = []
    · subst hpe
      have e : NumText.digitsVal [] = 0 := rfl
      rw [e]
      rw [show numL (0 * 10 + (c - 48)) = [48 + (0 * 10 + (c - 48))] from TL.numL_lt (by omega)]
      simp
      omega
    · have p0 : 0 < p.length := List.length_pos_iff.mpr hpe
      have hh' : p.head? ≠ some 48 := fun e => hh ⟨by rw [headT_app _ hpe]; exact e, by simp; omega⟩
      have i := ih p hp hpe hdp fun z => hh' z.1
      have pos : 0 < NumText.digitsVal p := by
        refine Nat.pos_of_ne_zero fun z => ?_
        rw [z] at i
        rw [show numL 0 = [48] from TL.numL_lt (by decide)] at i
        rw [← i] at hh'
        exact hh' rfl
      rw [show numL (NumText.digitsVal p * 10 + (c - 48)) = numL ((NumText.digitsVal p * 10 + (c - 48)) / 10) ++ [48 + (NumText.digitsVal p * 10 + (c - 48)) % 10] from TL.numL_step (by omega)]
      rw [show (NumText.digitsVal p * 10 + (c - 48)) / 10 = NumText.digitsVal p by omega, show 48 + (NumText.digitsVal p * 10 + (c - 48)) % 10 = c by omega, i]
/-- the law's own way to say it -/
theorem num_iff {a : List Nat} (hne : a ≠ []) (hd : digs a = true) : numL (NumText.digitsVal a) = a ↔ ¬ (a.head? = some 48 ∧ 1 < a.length) := by
  refine ⟨fun e h => ?_, numL_of _ a rfl hne hd⟩
  rw [← e] at h
  have z := num_head _ h.1
  rw [z] at h
  have : numL 0 = [48] := TL.numL_lt (by decide)
  rw [this] at h
  exact absurd h.2 (by decide)
theorem numR_num {n : Nat} (h : (numL n).length ≤ 300) : numR (numL n) = some n := by
  unfold numR
  have hne : numL n ≠ [] := TL.numL_ne n
  have hv : NumText.digitsVal (numL n) = n := TL.numL_val n
  rw [if_pos ⟨hne, h, digs_num n, (num_iff hne (digs_num n)).mp (by rw [hv])⟩, hv]
theorem digitsVal_lt : ∀ (a : List Nat), digs a = true → NumText.digitsVal a < 10 ^ a.length := by
  intro a
  generalize hk : a.length = k
  induction k generalizing a with
  | zero =>
    intro _
    rw [List.length_eq_zero_iff.mp hk]
    decide
  | succ k ih =>
    intro hd
    have hne : a ≠ [] := fun z => by rw [z] at hk; cases hk
    obtain ⟨p, c, rfl⟩ : ∃ p c, a = p ++ [c] := ⟨a.dropLast, a.getLast hne, (List.dropLast_concat_getLast hne).symm⟩
    have hdc : 48 ≤ c ∧ c ≤ 57 := by
      have := List.all_eq_true.mp hd c (by simp)
      simpa using this
    have i := ih p (by simpa using hk) (List.all_eq_true.mpr fun x hx => List.all_eq_true.mp hd x (List.mem_append_left _ hx))
    rw [NumText.digitsVal_snoc, Nat.pow_succ]
    omega
theorem numR_lt {a : List Nat} {n : Nat} (h : numR a = some n) : n < 2 ^ 1000 := by
  unfold numR at h
  split at h
  · rename_i c
    cases h
    have := digitsVal_lt a c.2.2.1
    have l : 10 ^ a.length ≤ 10 ^ 300 := Nat.pow_le_pow_right (by decide) c.2.1
    have : (10 : Nat) ^ 300 < 2 ^ 1000 := by decide +kernel
    omega
  · cases h
/-- lowest terms -/
def lowQ (x y : Nat) : Bool := decide ((Rat.divInt x y).num = x ∧ ((Rat.divInt x y).den : Int) = y)
def fracT (a : List Nat) : Option Rat :=
  match numR (parD 47 a).1, (if (parD 47 a).2.1 = [] then some 1 else numR (parD 47 a).2.2) with
  | some x, some y => if y < 1 ∨ (parD 47 a).2.1 ≠ [] ∧ y = 1 ∨ lowQ x y = false then none else some (Rat.divInt x y)
  | _, _ => none
theorem par_no {c : Nat} {a : List Nat} (h : c ∉ a) : parD c a = (a, [], []) := by
  unfold parD
  rw [SX.par_head_none h]
theorem par_yes {c : Nat} {p q : List Nat} (h : c ∉ p) : parD c (p ++ c :: q) = (p, [c], q) := by
  unfold parD
  have : TL.par [c] [] (p ++ ([c] ++ q)) = some (p, q) := SX.par_head (sep := []) q h
  rw [show p ++ c :: q = p ++ ([c] ++ q) from rfl, this]
theorem first_of {c : Nat} : ∀ {a : List Nat}, c ∈ a → ∃ p q, a = p ++ c :: q ∧ c ∉ p
  | [], h => by cases h
  | x :: a, h => by
    by_cases e : x = c
    · subst e; exact ⟨[], a, rfl, by simp⟩
    · have h' : c ∈ a := by
        rcases List.mem_cons.mp h with h | h
        · exact absurd h.symm e
        · exact h
      obtain ⟨p, q, rfl, hp⟩ := first_of h'
      exact ⟨x :: p, q, rfl, fun z => by
        rcases List.mem_cons.mp z with z | z
        · exact e z.symm
        · exact hp z⟩
theorem par_cases (c : Nat) (a : List Nat) : (c ∉ a ∧ parD c a = (a, [], [])) ∨ ∃ p q, a = p ++ c :: q ∧ c ∉ p ∧ parD c a = (p, [c], q) := by
  by_cases h : c ∈ a
  · obtain ⟨p, q, rfl, hp⟩ := first_of h
    exact .inr ⟨p, q, rfl, hp, par_yes hp⟩
  · exact .inl ⟨h, par_no h⟩
theorem par_len (c : Nat) (a : List Nat) : (parD c a).1.length ≤ a.length ∧ (parD c a).2.2.length ≤ a.length := by
  rcases par_cases c a with ⟨_, e⟩ | ⟨p, q, rfl, _, e⟩
  · rw [e]; exact ⟨Nat.le_refl _, Nat.zero_le _⟩
  · rw [e]; simp; omega
theorem par_cps {c : Nat} {a : List Nat} (h : Cps a) : Cps (parD c a).1 ∧ Cps (parD c a).2.1 ∧ Cps (parD c a).2.2 := by
  rcases par_cases c a with ⟨_, e⟩ | ⟨p, q, rfl, _, e⟩
  · rw [e]; exact ⟨h, cps_nil, cps_nil⟩
  · rw [e]
    exact ⟨fun x hx => h x (List.mem_append_left _ hx), cps_one (h c (by simp)), fun x hx => h x (List.mem_append_right _ (List.mem_cons_of_mem _ hx))⟩
theorem par_mark (c : Nat) (a : List Nat) : (parD c a).2.1 = [] ∨ (parD c a).2.1 = [c] := by
  rcases par_cases c a with ⟨_, e⟩ | ⟨p, q, rfl, _, e⟩
  · rw [e]; exact .inl rfl
  · rw [e]; exact .inr rfl
/-- what a fraction is written as -/
def txF (q : Rat) : List Nat := if q.den = 1 then numL q.num.toNat else numL q.num.toNat ++ 47 :: numL q.den
/-- small enough to be written -/
def SmT (q : Rat) : Prop := q.num.natAbs < 2 ^ 900 ∧ q.den < 2 ^ 900
theorem smT_len {n : Nat} (h : n < 2 ^ 900) : (numL n).length ≤ 300 := TL.numL_len (by decide) (Nat.lt_trans h (by decide +kernel))
theorem rat_self (q : Rat) : Rat.divInt q.num (q.den : Int) = q := by
  rw [Rat.divInt_ofNat, Rat.mkRat_self]
theorem lowQ_self {q : Rat} (h : 0 ≤ q) : lowQ q.num.toNat q.den = true := by
  have hn : 0 ≤ q.num := Rat.num_nonneg.mpr h
  have : ((q.num.toNat : Nat) : Int) = q.num := Int.toNat_of_nonneg hn
  unfold lowQ
  rw [this, rat_self]
  simp
theorem fracT_tx {q : Rat} (h : 0 ≤ q) (z : SmT q) : fracT (txF q) = some q := by
  have hn : 0 ≤ q.num := Rat.num_nonneg.mpr h
  have en : ((q.num.toNat : Nat) : Int) = q.num := Int.toNat_of_nonneg hn
  have l1 : (numL q.num.toNat).length ≤ 300 := smT_len (by have := z.1; omega)
  have l2 : (numL q.den).length ≤ 300 := smT_len z.2
  have f1 : (47 : Nat) ∉ numL q.num.toNat := TL.numL_free (by omega)
  unfold fracT txF
  by_cases c : q.den = 1
  · rw [if_pos c, par_no f1]
    dsimp only
    rw [if_pos rfl, numR_num l1]
    dsimp only
    have lo := lowQ_self h
    rw [c] at lo
    rw [if_neg (by rw [lo]; simp), en]
    have := rat_self q
    rw [c] at this
    exact congrArg some this
  · rw [if_neg c, par_yes f1]
    dsimp only
    rw [if_neg (by simp), numR_num l1, numR_num l2]
    dsimp only
    have := q.den_pos
    rw [if_neg (by rw [lowQ_self h]; simp; omega), en, rat_self]
theorem txF_chars {q : Rat} {c : Nat} (h : c ∈ txF q) : 47 ≤ c ∧ c ≤ 57 := by
  have d : ∀ n, c ∈ numL n → 47 ≤ c ∧ c ≤ 57 := fun n hc => by
    have := TL.numL_digits n c hc
    omega
  unfold txF at h
  split at h
  · exact d _ h
  · rcases List.mem_append.mp h with h | h
    · exact d _ h
    · rcases List.mem_cons.mp h with h | h
      · omega
      · exact d _ h
theorem txF_len {q : Rat} (z : SmT q) : (txF q).length ≤ 601 := by
  have l1 : (numL q.num.toNat).length ≤ 300 := smT_len (by have := z.1; omega)
  have l2 : (numL q.den).length ≤ 300 := smT_len z.2
  unfold txF
  split
  · omega
  · rw [List.length_append, List.length_cons]; omega
/-- spans, pieces -/
def txS (s : Rat × Rat) : List Nat := txF s.1 ++ 45 :: txF s.2
def txP (p : Piece) : List Nat := TL.joinL [32] (p.map txS)
def spanT (w : List Nat) : Option (Rat × Rat) :=
  if (parD 45 w).2.1 = [] then none else match fracT (parD 45 w).1, fracT (parD 45 w).2.2 with
  | some x, some y => some (x, y)
  | _, _ => none
def spansT : List (List Nat) → Option Piece
  | [] => some []
  | w :: ws => match spanT w, spansT ws with
    | some s, some p => some (s :: p)
    | _, _ => none
def wordsT (a : List Nat) : List (List Nat) := if a = [] then [] else TL.spl [32] 0 [] a
def pieceT (a : List Nat) : Option Piece := match spansT (wordsT a) with
  | some p => pieceOf (.lst (encP p))
  | none => none
theorem spanT_tx {s : Rat × Rat} (h1 : 0 ≤ s.1) (h2 : 0 ≤ s.2) (z1 : SmT s.1) (z2 : SmT s.2) : spanT (txS s) = some s := by
  have f : (45 : Nat) ∉ txF s.1 := fun h => by have := txF_chars h; omega
  unfold spanT txS
  rw [par_yes f]
  dsimp only
  rw [if_neg (by simp), fracT_tx h1 z1, fracT_tx h2 z2]
def SmP (p : Piece) : Prop := ∀ s ∈ p, SmT s.1 ∧ SmT s.2
theorem spansT_tx : ∀ {p : Piece}, (∀ s ∈ p, 0 ≤ s.1 ∧ s.1 < s.2 ∧ s.2 ≤ 1) → SmP p → spansT (p.map txS) = some p
  | [], _, _ => rfl
  | s :: p, h, z => by
    have h1 := h s List.mem_cons_self
    have z1 := z s List.mem_cons_self
    show (match spanT (txS s), spansT (p.map txS) with | some s, some p => some (s :: p) | _, _ => none) = _
    rw [spanT_tx h1.1 (by grind) z1.1 z1.2, spansT_tx (fun t ht => h t (List.mem_cons_of_mem _ ht)) fun t ht => z t (List.mem_cons_of_mem _ ht)]
theorem txS_ne (s : Rat × Rat) : txS s ≠ [] := by unfold txS; simp
theorem txS_free (s : Rat × Rat) : (32 : Nat) ∉ txS s := fun h => by
  unfold txS at h
  rcases List.mem_append.mp h with h | h
  · have := txF_chars h; omega
  · rcases List.mem_cons.mp h with h | h
    · omega
    · have := txF_chars h; omega
theorem joinT_ne : ∀ {l : List (List Nat)}, l ≠ [] → (∀ x ∈ l, x ≠ []) → TL.joinL [32] l ≠ []
  | [], h, _ => absurd rfl h
  | [x], _, h => by
    show x ≠ []
    exact h x List.mem_cons_self
  | x :: y :: r, _, h => by
    show x ++ ([32] ++ TL.joinL [32] (y :: r)) ≠ []
    simp
theorem wordsT_tx (p : Piece) : wordsT (txP p) = p.map txS := by
  unfold wordsT txP
  by_cases c : p = []
  · subst c
    exact if_pos rfl
  · have ne : p.map txS ≠ [] := by simpa using c
    rw [if_neg (joinT_ne ne fun x hx => by obtain ⟨s, _, rfl⟩ := List.mem_map.mp hx; exact txS_ne s)]
    exact TL.spl_join ne fun x hx => by obtain ⟨s, _, rfl⟩ := List.mem_map.mp hx; exact txS_free s
theorem pieceT_tx {p : Piece} (h : IsPiece p) (z : SmP p) : pieceT (txP p) = some p := by
  unfold pieceT
  rw [wordsT_tx, spansT_tx h.1 z]
  exact pieceOf_enc h
theorem joinL_len : ∀ (l : List (List Nat)), (TL.joinL [32] l).length ≤ (l.map List.length).sum + l.length
  | [] => Nat.zero_le _
  | [x] => by
    show x.length ≤ _
    simp
  | x :: y :: r => by
    show (x ++ ([32] ++ TL.joinL [32] (y :: r))).length ≤ _
    have := joinL_len (y :: r)
    simp only [List.length_append, List.map_cons, List.sum_cons, List.length_cons, List.length_nil] at *
    omega
theorem txS_len {s : Rat × Rat} (z1 : SmT s.1) (z2 : SmT s.2) : (txS s).length ≤ 1203 := by
  have := txF_len z1
  have := txF_len z2
  unfold txS
  rw [List.length_append, List.length_cons]
  omega
theorem sumT_le {l : List (List Nat)} {k : Nat} (h : ∀ x ∈ l, x.length ≤ k) : (l.map List.length).sum ≤ l.length * k := by
  induction l with
  | nil => simp
  | cons x l ih =>
    have := h x List.mem_cons_self
    have := ih fun y hy => h y (List.mem_cons_of_mem _ hy)
    rw [List.map_cons, List.sum_cons, List.length_cons, Nat.succ_mul]
    omega
theorem txP_sum {p : Piece} (z : SmP p) (hl : p.length ≤ 1000) : ((p.map txS).map List.length).sum + (p.map txS).length ≤ 1300000 := by
  have := sumT_le (l := p.map txS) (k := 1203) fun x hx => by obtain ⟨s, hs, rfl⟩ := List.mem_map.mp hx; exact txS_len (z s hs).1 (z s hs).2
  rw [List.length_map] at *
  have : p.length * 1203 ≤ 1000 * 1203 := Nat.mul_le_mul_right _ hl
  omega
theorem txP_len {p : Piece} (z : SmP p) (hl : p.length ≤ 1000) : (txP p).length ≤ 1300000 := Nat.le_trans (joinL_len _) (txP_sum z hl)
theorem eqD_lowQ (x y : Nat) : eqD (encF (Rat.divInt x y)) (.tup [.int x, .int y]) = lowQ x y := by
  show (eqD (.int (Rat.divInt x y).num) (.int x) && (eqD (.int ((Rat.divInt x y).den : Int)) (.int y) && true)) = _
  rw [Bool.and_true]
  unfold lowQ
  rw [Bool.eq_iff_iff, Bool.and_eq_true, eqD_int, eqD_int, decide_eq_true_iff, decide_eq_true_iff, decide_eq_true_iff]
theorem dz_small {y : Nat} (h : 0 < y) (h1 : y < 2 ^ 1000) : Dz (y : Int) := ⟨by omega, by rw [Int.natAbs_natCast]; exact Nat.lt_of_lt_of_le h1 (Nat.pow_le_pow_right (by decide) (by decide))⟩
theorem txP_len2 {p : Piece} (z : SmP p) (hl : p.length ≤ 600) : (txP p).length ≤ 800000 := by
  have a := joinL_len (p.map txS)
  have := sumT_le (l := p.map txS) (k := 1203) fun x hx => by obtain ⟨s, hs, rfl⟩ := List.mem_map.mp hx; exact txS_len (z s hs).1 (z s hs).2
  rw [List.length_map] at *
  have : p.length * 1203 ≤ 600 * 1203 := Nat.mul_le_mul_right _ hl
  show (TL.joinL [32] (p.map txS)).length ≤ _
  omega
theorem joinL_mem {c : Nat} : ∀ {l : List (List Nat)}, c ∈ TL.joinL [32] l → c = 32 ∨ ∃ x ∈ l, c ∈ x
  | [], h => by cases h
  | [x], h => .inr ⟨x, List.mem_cons_self, h⟩
  | x :: y :: r, h => by
    have h' : c ∈ x ++ ([32] ++ TL.joinL [32] (y :: r)) := h
    rcases List.mem_append.mp h' with h | h
    · exact .inr ⟨x, List.mem_cons_self, h⟩
    · rcases List.mem_append.mp h with h | h
      · exact .inl (List.mem_singleton.mp h)
      · rcases joinL_mem h with h | ⟨z, hz, hc⟩
        · exact .inl h
        · exact .inr ⟨z, List.mem_cons_of_mem _ hz, hc⟩
theorem txS_cps {s : Rat × Rat} {c : Nat} (h : c ∈ txS s) : c < 128 := by
  unfold txS at h
  rcases List.mem_append.mp h with h | h
  · have := txF_chars h; omega
  · rcases List.mem_cons.mp h with h | h
    · omega
    · have := txF_chars h; omega
theorem txP_cps (p : Piece) : Cps (txP p) := fun c hc => by
  rcases joinL_mem hc with h | ⟨x, hx, h⟩
  · omega
  · obtain ⟨s, _, rfl⟩ := List.mem_map.mp hx
    have := txS_cps h; omega
def txD (d : D) : D := match spanOf d with
  | some s => sd (txS s)
  | none => d
theorem txD_enc {s : Rat × Rat} (h : 0 ≤ s.1 ∧ s.1 < s.2 ∧ s.2 ≤ 1) : txD (encS s) = sd (txS s) := by
  unfold txD
  rw [spanOf_enc h.1 h.2.1 h.2.2]
theorem txD_map {p : Piece} (h : ∀ s ∈ p, 0 ≤ s.1 ∧ s.1 < s.2 ∧ s.2 ≤ 1) : (encP p).map txD = (p.map txS).map sd := by
  unfold encP
  rw [List.map_map, List.map_map]
  exact List.map_congr_left fun s hs => txD_enc (h s hs)
theorem spanTx_text (s : Rat × Rat) : txF s.1 ++ [45] ++ txF s.2 = txS s := by unfold txS; simp
theorem spansT_at : ∀ {ws : List (List Nat)} {p : Piece}, spansT ws = some p → ws.length = p.length ∧ ∀ (i : Nat) (w : List Nat), ws[i]? = some w → ∃ s, p[i]? = some s ∧ spanT w = some s
  | [], p, h => by
    have : p = [] := (Option.some.inj h).symm
    subst this
    exact ⟨rfl, fun i w hw => by simp at hw⟩
  | w :: ws, p, h => by
    unfold spansT at h
    split at h
    · rename_i s q hs hq
      cases h
      obtain ⟨l, ih⟩ := spansT_at hq
      refine ⟨by simp [l], fun i w' hw => ?_⟩
      cases i with
      | zero =>
        have : w = w' := Option.some.inj hw
        subst this
        exact ⟨s, rfl, hs⟩
      | succ i => exact ih i w' hw
    · cases h
theorem pieceT_at {a : List Nat} {p : Piece} (h : pieceT a = some p) : spansT (wordsT a) = some p ∧ IsPiece p := by
  unfold pieceT at h
  split at h
  · rename_i q hq
    obtain ⟨ip, e⟩ := piece_back h
    injection e with e
    have : q = p := eq_encPl.mp (by rw [e]; exact eq_encPl.mpr rfl)
    subst this
    exact ⟨hq, ip⟩
  · cases h
theorem fracT_sz {a : List Nat} {q : Rat} (h : fracT a = some q) : 0 ≤ q ∧ Sz q := by
  unfold fracT at h
  split at h
  · rename_i x y hx hy
    split at h
    · cases h
    · rename_i c
      have y1 : 0 < y := Nat.pos_of_ne_zero fun z => c (.inl (by omega))
      have lo : lowQ x y = true := by
        cases e : lowQ x y
        · exact absurd (.inr (.inr e)) c
        · rfl
      have z := of_decide_eq_true lo
      have hq : Rat.divInt x y = q := Option.some.inj h
      rw [hq] at z
      have xl := numR_lt hx
      have yl : y < 2 ^ 1000 := by
        split at hy
        · cases hy; exact Nat.one_lt_two_pow (by decide)
        · exact numR_lt hy
      have p9 : (2 : Nat) ^ 1000 ≤ 2 ^ 4400 := Nat.pow_le_pow_right (by decide) (by decide)
      refine ⟨by rw [← hq]; exact divInt_nn (by omega) (by omega), ?_, ?_⟩
      · rw [z.1, Int.natAbs_natCast]; omega
      · have := z.2; omega
  · cases h
theorem spanT_sz {w : List Nat} {s : Rat × Rat} (h : spanT w = some s) : Sz s.1 ∧ Sz s.2 := by
  unfold spanT at h
  split at h
  · cases h
  · split at h
    · rename_i x y hx hy
      cases h
      exact ⟨(fracT_sz hx).2, (fracT_sz hy).2⟩
    · cases h
theorem spl_mem (c : Nat) : ∀ (n : Nat) (a : List Nat), a.length = n → (TL.spl [c] 0 [] a).length ≤ a.length + 1 ∧ ∀ w ∈ TL.spl [c] 0 [] a, w.length ≤ a.length ∧ ∀ x ∈ w, x ∈ a := by
  intro n
  induction n using Nat.strongRecOn with
  | _ n ih =>
    intro a ha
    by_cases h : c ∈ a
    · obtain ⟨p, q, rfl, hp⟩ := first_of h
      have e : TL.spl [c] 0 [] (p ++ c :: q) = p :: TL.spl [c] 0 [] q := TL.spl_part1 (S := []) (acc := []) hp
      have ql : q.length < n := by rw [← ha]; simp; omega
      obtain ⟨l, i⟩ := ih q.length ql q rfl
      rw [e]
      refine ⟨by simp; omega, fun w hw => ?_⟩
      rcases List.mem_cons.mp hw with rfl | hw
      · exact ⟨by simp, fun x hx => List.mem_append_left _ hx⟩
      · have := i w hw
        exact ⟨by simp; omega, fun x hx => List.mem_append_right _ (List.mem_cons_of_mem _ (this.2 x hx))⟩
    · have e : TL.spl [c] 0 [] a = [a] := TL.spl_last1 (S := []) (acc := []) h
      rw [e]
      refine ⟨by simp, fun w hw => ?_⟩
      rw [List.mem_singleton.mp hw]
      exact ⟨Nat.le_refl _, fun x hx => hx⟩
/-! ### promises -/
def c_fraction_text : Ct Rat := ⟨fun q => [.d (encF q)], fun q => 0 ≤ q ∧ SmT q, fun q => .ret (.d (sd (txF q)))⟩
def c__law_text : Ct Rat := c_fraction_text
def c_piece_text : Ct Piece := ⟨fun p => [.l (encP p)], fun p => FitP p ∧ SmP p ∧ p.length ≤ 1000, fun p => .ret (.d (sd (txP p)))⟩
def c_number_of : Ct (List Nat) := ⟨fun a => [.d (sd a)], fun a => a.length ≤ 5000000 ∧ Cps a, fun a => match numR a with
  | some n => .ret (.d (.int n))
  | none => .exc 5⟩
def c_fraction_of : Ct (List Nat) := ⟨fun a => [.d (sd a)], fun a => a.length ≤ 5000000 ∧ Cps a, fun a => match fracT a with
  | some q => .ret (.d (encF q))
  | none => .exc 5⟩
/-- a text that writes a piece -/
def c_piece_of : Ct (List Nat × Piece) := ⟨fun a => [.d (sd a.1)], fun a => a.1.length ≤ 800000 ∧ Cps a.1 ∧ pieceT a.1 = some a.2, fun a => .ret (.own (encP a.2))⟩
section
variable {μ : Mu} {R : RE} {H0 : Hp} {X : Ex} {E : XK}
theorem ca_numR {a : List Nat} (hl : a.length ≤ 5000000) (hc : Cps a) (k : ∀ n, numR a = some n → R (.d (.int n)) μ) (kx : numR a = none → ∀ H', Same H0 H' → E (.ref (X 5)) none H') : Call [.d (sd a)] c_number_of R μ H0 X E := ⟨a, .cons (.d _) .nil, ⟨hl, hc⟩, by
  show Ends' R μ H0 X E (match numR a with | some n => .ret (.d (.int n)) | none => .exc 5)
  cases h : numR a with
  | none => exact kx h
  | some n => exact k n h⟩
theorem ca_ftext {q : Rat} (h : 0 ≤ q) (z : SmT q) (k : R (.d (sd (txF q))) μ) : Call [.d (encF q)] c_fraction_text R μ H0 X E := ⟨q, .cons (.d _) .nil, ⟨h, z⟩, k⟩
theorem ca_ptext {p : Piece} {u : U} (hu : IsL μ u (encP p)) (f : FitP p) (z : SmP p) (hl : p.length ≤ 1000) (k : R (.d (sd (txP p))) μ) : Call [u] c_piece_text R μ H0 X E := ⟨p, .cons (.l hu) .nil, ⟨f, z, hl⟩, k⟩
theorem ca_pof {a : List Nat} {p : Piece} (hl : a.length ≤ 800000) (hc : Cps a) (hp : pieceT a = some p) (k : R (.p μ.length) (μ ++ [.rw (encP p)])) : Call [.d (sd a)] c_piece_of R μ H0 X E := ⟨(a, p), .cons (.d _) .nil, ⟨hl, hc, hp⟩, k⟩
theorem ca_fracT {a : List Nat} (hl : a.length ≤ 5000000) (hc : Cps a) (k : ∀ q, fracT a = some q → R (.d (encF q)) μ) (kx : fracT a = none → ∀ H', Same H0 H' → E (.ref (X 5)) none H') : Call [.d (sd a)] c_fraction_of R μ H0 X E := ⟨a, .cons (.d _) .nil, ⟨hl, hc⟩, by
  show Ends' R μ H0 X E (match fracT a with | some n => .ret (.d (encF n)) | none => .exc 5)
  cases h : fracT a with
  | none => exact kx h
  | some n => exact k n h⟩
end
end L3

set_option Elab.async false
set_option linter.all false
set_option maxRecDepth 100000
set_option maxHeartbeats 4000000
set_option exponentiation.threshold 100
/-! Texts: tastes; the law's readers read the same. -/
namespace L3
open PySem PySem.Spec PyProof.Rows L2
open TL (numL)
instance (s : Rat × Int) : Decidable (StepOk s) := by unfold StepOk; exact inferInstance
def stepT (w : List Nat) : Option (Rat × Int) :=
  if (parD 64 w).2.1 = [] then none else match fracT (parD 64 w).2.2, numR (parD 64 w).1 with
  | some q, some n => some (q, (n : Int))
  | _, _ => none
def stepsT : List (List Nat) → Option Steps
  | [] => some []
  | w :: ws => match stepT w, stepsT ws with
    | some s, some p => some (s :: p)
    | _, _ => none
def tasteT (a : List Nat) : Option Steps := match stepsT (TL.spl [32] 0 [] a) with
  | some l => tasteOf (.lst (encSt l))
  | none => none
/-- the law's way -/
def lawGo : Rat → List (List Nat) → Option Steps
  | _, [] => some []
  | b, w :: ws => match stepT w with
    | some s => if StepOk s ∧ b < s.1 then (lawGo s.1 ws).map (s :: ·) else none
    | none => none
def endRT : Rat → Steps → Rat
  | b, [] => b
  | _, s :: r => endRT s.1 r
def RiseTo : Rat → Steps → Prop
  | _, [] => True
  | b, s :: r => b < s.1 ∧ RiseTo s.1 r
def lawStepsT (a : List Nat) : Option Steps := match lawGo 0 (TL.spl [32] 0 [] a) with
  | some l => if endRT 0 l = 1 ∧ l.length < 9 then some l else none
  | none => none
theorem stepT_nn {w : List Nat} {s : Rat × Int} (h : stepT w = some s) : 0 ≤ s.1 ∧ Sz s.1 := by
  unfold stepT at h
  split at h
  · cases h
  · split at h
    · rename_i q n hq hn
      cases h
      exact fracT_sz hq
    · cases h
theorem stepsT_nn : ∀ {ws : List (List Nat)} {l : Steps}, stepsT ws = some l → ∀ s ∈ l, 0 ≤ s.1 ∧ Sz s.1
  | [], l, h, s, hs => by cases h; cases hs
  | w :: ws, l, h, s, hs => by
    unfold stepsT at h
    split at h
    · rename_i s' q h1 h2
      cases h
      rcases List.mem_cons.mp hs with rfl | hs
      · exact stepT_nn h1
      · exact stepsT_nn h2 s hs
    · cases h
theorem lawGo_iff : ∀ {ws : List (List Nat)} {b : Rat} {l : Steps}, lawGo b ws = some l ↔ stepsT ws = some l ∧ (∀ s ∈ l, StepOk s) ∧ RiseTo b l
  | [], b, l => by
    constructor
    · intro h
      cases h
      exact ⟨rfl, (fun _ h => by cases h), trivial⟩
    · rintro ⟨h, _, _⟩
      cases h
      rfl
  | w :: ws, b, l => by
    unfold lawGo stepsT
    cases hw : stepT w with
    | none =>
      constructor
      · intro h; cases h
      · rintro ⟨h, _⟩; cases h
    | some s =>
      dsimp only
      constructor
      · intro h
        split at h
        · rename_i c
          cases hl : lawGo s.1 ws with
          | none => rw [hl] at h; cases h
          | some r =>
            rw [hl] at h
            have : s :: r = l := Option.some.inj h
            subst this
            obtain ⟨h1, h2, h3⟩ := lawGo_iff.mp hl
            rw [h1]
            refine ⟨rfl, fun x hx => ?_, c.2, h3⟩
            rcases List.mem_cons.mp hx with rfl | hx
            · exact c.1
            · exact h2 x hx
        · cases h
      · rintro ⟨h, h2, h3⟩
        cases hr : stepsT ws with
        | none => rw [hr] at h; cases h
        | some r =>
          rw [hr] at h
          have : s :: r = l := Option.some.inj h
          subst this
          rw [if_pos ⟨h2 s List.mem_cons_self, h3.1⟩, lawGo_iff.mpr ⟨hr, fun x hx => h2 x (List.mem_cons_of_mem _ hx), h3.2⟩]
          rfl
theorem riseTo_iff : ∀ {l : Steps} {b : Rat}, Rise b l ↔ RiseTo b l ∧ endRT b l = 1
  | [], b => by
    show b = 1 ↔ True ∧ b = 1
    simp
  | (e, w) :: r, b => by
    show (b < e ∧ Rise e r) ↔ (b < e ∧ RiseTo e r) ∧ endRT e r = 1
    rw [riseTo_iff (l := r) (b := e), and_assoc]
theorem stepsOf_nn : ∀ {l : Steps}, (∀ s ∈ l, 0 ≤ s.1) → stepsOf (encSt l) = if (∀ s ∈ l, StepOk s) then some l else none := by
  intro l h
  split
  · rename_i c
    obtain ⟨p, h1, h2, _⟩ := steps_some (ds := encSt l) fun d hd => by
      obtain ⟨s, hs, rfl⟩ := List.mem_map.mp hd
      rw [stepOf_enc (c s hs) (h s hs)]
      rfl
    rw [h1]
    congr 1
    exact (List.map_inj_right fun x y e => eq_encStep.mp (by rw [e]; exact eq_encStep.mpr rfl)).mp h2.symm
  · rename_i c
    refine steps_none ?_
    refine Classical.byContradiction fun z => c fun s hs => ?_
    refine Classical.byContradiction fun y => z ⟨encStep s, List.mem_map_of_mem hs, ?_⟩
    show (match fracOf (encF s.1) with | some e => if e.den ≤ 1000 ∧ 1 ≤ s.2 ∧ s.2 ≤ 1000 then some (e, s.2) else none | none => none) = none
    rw [fracOf_enc (h s hs)]
    exact if_neg y
theorem taste_same (a : List Nat) : tasteT a = lawStepsT a := by
  unfold tasteT lawStepsT
  cases hs : stepsT (TL.spl [32] 0 [] a) with
  | none =>
    cases hl : lawGo 0 (TL.spl [32] 0 [] a) with
    | none => rfl
    | some l =>
      have := (lawGo_iff.mp hl).1
      rw [hs] at this
      cases this
  | some l =>
    have nn := fun s hs' => (stepsT_nn hs s hs').1
    have et : tasteOf (.lst (encSt l)) = if 1 ≤ (encSt l).length ∧ (encSt l).length ≤ 8 then (match stepsOf (encSt l) with | some st => if Rise 0 st then some st else none | none => none) else none := rfl
    have el : (encSt l).length = l.length := List.length_map _
    dsimp only
    rw [et, el, stepsOf_nn nn]
    cases hl : lawGo 0 (TL.spl [32] 0 [] a) with
    | none =>
      dsimp only
      split
      · split
        · rename_i st he
          split
          · rename_i hr
            have c : ∀ s ∈ l, StepOk s := Classical.byContradiction fun z => by rw [if_neg z] at he; cases he
            rw [if_pos c] at he
            cases he
            have := lawGo_iff.mpr ⟨hs, c, (riseTo_iff.mp hr).1⟩
            rw [hl] at this
            cases this
          · rfl
        · rfl
      · rfl
    | some r =>
      obtain ⟨h1, h2, h3⟩ := lawGo_iff.mp hl
      rw [hs] at h1
      cases h1
      rw [if_pos h2]
      dsimp only
      by_cases c : endRT 0 l = 1 ∧ l.length < 9
      · have ne : 1 ≤ l.length := by
          cases l with
          | nil =>
            have : (0 : Rat) = 1 := c.1
            grind
          | cons => simp
        rw [if_pos c, if_pos ⟨ne, by omega⟩, if_pos (riseTo_iff.mpr ⟨h3, c.1⟩)]
      · rw [if_neg c]
        by_cases d : 1 ≤ l.length ∧ l.length ≤ 8
        · rw [if_pos d, if_neg fun z => c ⟨(riseTo_iff.mp z).2, by omega⟩]
        · rw [if_neg d]
/-! ### texts of tastes -/
def txW (s : Rat × Int) : List Nat := numL s.2.toNat ++ 64 :: txF s.1
def txT (st : Steps) : List Nat := TL.joinL [32] (st.map txW)
theorem numL_free {n c : Nat} (h : c < 48 ∨ 57 < c) : c ∉ numL n := TL.numL_free (by omega)
theorem den_sm {q : Rat} (h0 : 0 ≤ q) (h1 : q ≤ 1) (hd : q.den < 2 ^ 900) : SmT q := by
  have hn := nn_num h0
  refine ⟨?_, hd⟩
  have e : q.num ≤ (q.den : Int) := by
    have z : q ≤ ((1 : Int) : Rat) := h1
    have := Rat.le_iff (a := q) (b := 1)
    rw [this] at h1
    simpa using h1
  omega
theorem stepOk_sm {s : Rat × Int} (h : StepOk s) (h0 : 0 ≤ s.1) (h1 : s.1 ≤ 1) : SmT s.1 := den_sm h0 h1 (Nat.lt_of_le_of_lt h.1 (Nat.lt_of_lt_of_le (by decide : 1000 < 2 ^ 10) (Nat.pow_le_pow_right (by decide) (by decide))))
theorem rise_le : ∀ {st : Steps} {b : Rat}, Rise b st → b ≤ 1 ∧ ∀ s ∈ st, b < s.1 ∧ s.1 ≤ 1
  | [], b, h => by
    have e : b = 1 := h
    exact ⟨by grind, (fun _ h => by cases h)⟩
  | (e, w) :: r, b, ⟨h1, h2⟩ => by
    obtain ⟨a, i⟩ := rise_le h2
    refine ⟨by grind, fun s hs => ?_⟩
    rcases List.mem_cons.mp hs with rfl | hs
    · exact ⟨h1, a⟩
    · have := i s hs
      exact ⟨by grind, this.2⟩
theorem good_in {st : Steps} (g : Good st) {s : Rat × Int} (h : s ∈ st) : 0 < s.1 ∧ s.1 ≤ 1 ∧ SmT s.1 := by
  have z := (rise_le g.up).2 s h
  exact ⟨z.1, z.2, stepOk_sm (g.ok s h) (by grind) z.2⟩
theorem good_ne {st : Steps} (g : Good st) : st ≠ [] := fun e => by
  subst e
  have : (0 : Rat) = 1 := g.up
  grind
theorem w_len {w : Int} (h1 : 1 ≤ w) (h : w ≤ 1000) : (numL w.toNat).length ≤ 300 := smT_len (Nat.lt_of_le_of_lt (by omega : w.toNat ≤ 1000) (Nat.lt_of_lt_of_le (by decide : 1000 < 2 ^ 10) (Nat.pow_le_pow_right (by decide) (by decide))))
theorem stepT_tx {s : Rat × Int} (ok : StepOk s) (h0 : 0 ≤ s.1) (z : SmT s.1) : stepT (txW s) = some s := by
  have f : (64 : Nat) ∉ numL s.2.toNat := numL_free (by omega)
  unfold stepT txW
  rw [par_yes f]
  dsimp only
  rw [if_neg (by simp), fracT_tx h0 z, numR_num (w_len ok.2.1 ok.2.2)]
  dsimp only
  rw [Int.toNat_of_nonneg (by have := ok.2.1; omega)]
theorem stepsT_tx : ∀ {st : Steps}, (∀ s ∈ st, StepOk s ∧ 0 ≤ s.1 ∧ SmT s.1) → stepsT (st.map txW) = some st
  | [], _ => rfl
  | s :: st, h => by
    have a := h s List.mem_cons_self
    show (match stepT (txW s), stepsT (st.map txW) with | some s, some p => some (s :: p) | _, _ => none) = _
    rw [stepT_tx a.1 a.2.1 a.2.2, stepsT_tx fun t ht => h t (List.mem_cons_of_mem _ ht)]
theorem txW_free (s : Rat × Int) : (32 : Nat) ∉ txW s := fun h => by
  unfold txW at h
  rcases List.mem_append.mp h with h | h
  · exact numL_free (by omega) h
  · rcases List.mem_cons.mp h with h | h
    · omega
    · have := txF_chars h; omega
theorem tasteT_tx {st : Steps} (g : Good st) : tasteT (txT st) = some st := by
  have e : TL.spl [32] 0 [] (txT st) = st.map txW := TL.spl_join (by simpa using good_ne g) fun x hx => by obtain ⟨s, _, rfl⟩ := List.mem_map.mp hx; exact txW_free s
  unfold tasteT
  rw [e, stepsT_tx fun s hs => ⟨g.ok s hs, by have := (good_in g hs).1; grind, (good_in g hs).2.2⟩]
  exact tasteOf_enc g
theorem txW_len {s : Rat × Int} (ok : StepOk s) (z : SmT s.1) : (txW s).length ≤ 902 := by
  have := txF_len z
  have := w_len ok.2.1 ok.2.2
  unfold txW
  rw [List.length_append, List.length_cons]
  omega
theorem txT_sum {st : Steps} (g : Good st) : ((st.map txW).map List.length).sum + (st.map txW).length ≤ 10000 := by
  have := sumT_le (l := st.map txW) (k := 902) fun x hx => by obtain ⟨s, hs, rfl⟩ := List.mem_map.mp hx; exact txW_len (g.ok s hs) (good_in g hs).2.2
  rw [List.length_map] at *
  have := g.few
  have : st.length * 902 ≤ 8 * 902 := Nat.mul_le_mul_right _ this
  omega
theorem txT_len {st : Steps} (g : Good st) : (txT st).length ≤ 10000 := Nat.le_trans (joinL_len _) (txT_sum g)
theorem txW_cps {s : Rat × Int} {c : Nat} (h : c ∈ txW s) : c < 128 := by
  unfold txW at h
  rcases List.mem_append.mp h with h | h
  · have := TL.numL_digits _ c h; omega
  · rcases List.mem_cons.mp h with h | h
    · omega
    · have := txF_chars h; omega
theorem txT_cps (st : Steps) : Cps (txT st) := fun c hc => by
  rcases joinL_mem hc with h | ⟨x, hx, h⟩
  · omega
  · obtain ⟨s, _, rfl⟩ := List.mem_map.mp hx
    have := txW_cps h; omega
def c_taste_text : Ct Steps := ⟨fun st => [.d (encTaste st)], Good, fun st => .ret (.d (sd (txT st)))⟩
/-- a text that writes a taste -/
def c18_taste_of : Ct (List Nat × Steps) := ⟨fun a => [.d (sd a.1)], fun a => a.1.length ≤ 800000 ∧ Cps a.1 ∧ tasteT a.1 = some a.2, fun a => .ret (.d (encTaste a.2))⟩
theorem ca_ttext {H0 : Hp} {μ : Mu} {R : RE} {X : Ex} {E : XK} {st : Steps} (g : Good st) (k : R (.d (sd (txT st))) μ) : Call [.d (encTaste st)] c_taste_text R μ H0 X E := ⟨st, .cons (.d _) .nil, g, k⟩
theorem tasteT_at {a : List Nat} {st : Steps} (h : tasteT a = some st) : stepsT (TL.spl [32] 0 [] a) = some st ∧ Good st := by
  unfold tasteT at h
  split at h
  · rename_i l hl
    obtain ⟨g, e⟩ := tasteOf_good h
    injection e with e
    have : l = st := eq_encStl.mp (by rw [e]; exact eq_encStl.mpr rfl)
    subst this
    exact ⟨hl, g⟩
  · cases h
theorem stepsT_at : ∀ {ws : List (List Nat)} {p : Steps}, stepsT ws = some p → ws.length = p.length ∧ ∀ (i : Nat) (w : List Nat), ws[i]? = some w → ∃ s, p[i]? = some s ∧ stepT w = some s
  | [], p, h => by
    have : p = [] := (Option.some.inj h).symm
    subst this
    exact ⟨rfl, fun i w hw => by simp at hw⟩
  | w :: ws, p, h => by
    unfold stepsT at h
    split at h
    · rename_i s q hs hq
      cases h
      obtain ⟨l, ih⟩ := stepsT_at hq
      refine ⟨by simp [l], fun i w' hw => ?_⟩
      cases i with
      | zero =>
        have : w = w' := Option.some.inj hw
        subst this
        exact ⟨s, rfl, hs⟩
      | succ i => exact ih i w' hw
    · cases h
end L3
namespace L3
open PySem PySem.Spec PyProof.Rows L2
def txWD (d : D) : D := match d with
  | .tup [e, .int w] => match fracOf e with
    | some q => sd (txW (q, w))
    | none => .tup [e, .int w]
  | _ => d
theorem txWD_enc {s : Rat × Int} (h : 0 ≤ s.1) : txWD (encStep s) = sd (txW s) := by
  show (match fracOf (encF s.1) with | some q => sd (txW (q, s.2)) | none => .tup [encF s.1, .int s.2]) = _
  rw [fracOf_enc h]
theorem txWD_map {st : Steps} (g : Good st) : (encSt st).map txWD = (st.map txW).map sd := by
  unfold encSt
  rw [List.map_map, List.map_map]
  exact List.map_congr_left fun s hs => txWD_enc (by have := (good_in g hs).1; grind)
end L3

set_option Elab.async false
set_option linter.all false
set_option maxRecDepth 100000
set_option maxHeartbeats 4000000
set_option exponentiation.threshold 100
/-! Defs that let out any exception (their own raised where another is handled, too); try in them; caught errors asked for their classes. -/
namespace L3
open PySem PySem.Spec PyProof.Rows L2
theorem cx_wk {P : Program} {w : World} {outer : List Env} {H : Hp} {s : Shared} {E : XK} {u : Value} {s' : Shared} (h : L2N.CX P w outer H s E u s') : CX P w outer H s E u s' := by
  obtain ⟨a, B, H', cls, d, e, fl, r⟩ := h
  exact ⟨a, B, H', cls, d, e, L2H.flyingZ_imp (fun _ z => z.zc) fl, r⟩
theorem fn_wk {P : Program} {w : World} {K : PySem.W.Frag} {mg : Str → Option Value} {base : Heap} {k : Nat} {f : Addr} {fd : FuncData} {ps : List Str} {sp : Sp} (F : FnOk P w K mg base (L2N.CX P w) k f fd ps sp) : FnOk P w K mg base (CX P w) k f fd ps sp :=
  ⟨F.len, fun A outer s H args us vs Q E hr he hb hv hs => codeAny_mono (F.run A outer s H args us vs Q E hr he hb hv hs) fun r s' h => by
    cases r with
    | error e => exact cx_wk h
    | ok fl => cases fl <;> exact h⟩
/-- a def that lets out any exception -/
structure DefW (P : Program) (w : World) (K : PySem.W.Frag) (mg : Str → Option Value) (base : Heap) (x : Str) (k : Nat) (ps : List Str) (sp : Sp) : Prop where
  ex : ∃ (f : Addr) (fd : FuncData), FnOk P w K mg base (CX P w) k f fd ps sp ∧ mg x = some (.ref f) ∧ PySem.W.keepIn K (.ref f) = true ∧ Binds K fd ps []
theorem defW_of {P : Program} {w : World} {K : PySem.W.Frag} {mg : Str → Option Value} {base : Heap} {x : Str} {k : Nat} {ps : List Str} {sp : Sp} {st : Stmt} (T : Top K mg x st ps)
    (h : ∀ (f : Addr) (fd : FuncData), Fun K x x st f fd → FnOk P w K mg base (CX P w) k f fd ps sp) : DefW P w K mg base x k ps sp := by
  obtain ⟨f, fd, F, m, b⟩ := T.ex
  exact ⟨f, fd, h f fd F, m, F.kp, b⟩
theorem Def.wk {P : Program} {w : World} {K : PySem.W.Frag} {mg : Str → Option Value} {base : Heap} {x : Str} {k : Nat} {ps : List Str} {sp : Sp} (D : Def P w K mg base x k ps sp) : DefW P w K mg base x k ps sp := by
  obtain ⟨f, fd, F, m, k', b⟩ := D.ex
  exact ⟨f, fd, fn_wk F, m, k', b⟩
theorem passCW {X : Cx} {E : XK} {E₁ : Value → Shared → Prop} (hs : X.stack = X.env :: X.outer) (hf : X.env.frame = some X.env.locals) (hex : X.ex = []) (hx : X.xe = fun e s' => wpAny (model X.prog X.w) X.A (leaving X.env e) (fun _ s'' => CX X.prog X.w X.outer X.H_0 X.s_0 E e s'') E₁ s') : Passes (CX X.prog X.w) X E :=
  L2.passes_call (L2.takes_of hs hf hex hx) (fun _ _ _ _ h => h)
theorem passLW {X : Cx} : Passes (CX X.prog X.w) X E0 := fun _ _ _ _ _ _ _ h => by
  obtain ⟨_, _, _, _, _, _, _, _, _, _, _, _, z⟩ := h
  exact z.elim
theorem takesW0 {X : Cx} : L2.Takes X (fun _ _ _ _ => False) := fun _ _ x => by
  obtain ⟨_, _, _, _, _, _, _, _, _, _, _, _, _, _, _, _, z⟩ := x
  exact z.elim
theorem okXW {P : Program} {w : World} {K : PySem.W.Frag} {mg : Str → Option Value} {base : Heap} {x qual : Str} {st : Stmt} {f : Addr} {fd : FuncData} {N ps : List Str} {k : Nat} {sp : Sp} (F : Fun K x qual st f fd) (S : FnScope N ps (defScope st)) (len : ∀ vs H Q E, sp vs H Q E → vs.length = ps.length)
    (hbody : ∀ (cdv : Value) (A : Around) (outer : List Env) (s : Shared) (H : Hp) (vs : List V) (Q : VK) (E : XK), Room k (A.deeper (envOfC qual (defScope st) s.heap.objs.size f cdv)) → sp vs H Q E →
      ∃ t, PSs (cxOf (CX P w) P w K mg base N qual (defScope st) f cdv A outer s H E) (defBody st) t ∧ t { nx := fun _ H' => Q .non H', rt := Q } (L2.start N vs) H) : FnOk P w K mg base (CX P w) (k + 1) f fd ps sp := by
  obtain ⟨oc, od, kV, doc, pm, an, cdv, ct, osl, rfl, lk, hcd⟩ := F.ex
  exact fn_of lk hcd S len fun A outer s H vs Q E hr hsp => hbody cdv A outer s H vs Q E hr hsp
/-! ### try: what is raised within -/
section
variable {G : Gx} {F0 H0 : Hp} {ρ : Ro} {μ : Mu} {R : RE} {X : Ex} {D' : DE}
/-- what a wish at any slots is -/
abbrev EA (W : WX) : XK := fun cls d H' => ∀ σ', W cls d σ' H'
/-- try: body except C: suite, the suite ends alike from anywhere -/
theorem wS_tryX {tb : XK → TS} {ts : Addr → Value → Option Addr → TS} {Wout : WX} {cc : Value}
    (h : ∀ E : XK, (∀ (n : Nat) (H' : Hp), PySem.W.exmOne G.K (.ref (X n)) cc = some true → (∀ a D σ, ts a (.ref (X n)) none D σ H') → E (.ref (X n)) none H') → wS G F0 H0 (tb E) ρ μ D') :
    wS G F0 H0 (fun D σ H => tb (EA (wOnly G.K cc ts Wout D)) D σ H) ρ μ D' := fun F H as σ Xe e k =>
  h _ (fun n H' hx hs σ' => ⟨true, hx, fun _ a _ => hs a Xe σ', fun z => nomatch z⟩) F H as σ Xe e k
/-- isinstance of the caught error -/
theorem wE_isE {Dc a C : Addr} {b : Bool} {ta : TE} (kb : PySem.W.kitOne G.K (.ref Dc) (.ref C) = some b) (h : wE G F0 H0 ta ρ μ fun u μ1 => u = .d (.raw a) ∧ R (.d (.bl b)) μ1) : wE G F0 H0 (tCB (rIsE G.K Dc a) (tCons ta (tCons (tC (.ref C)) tNil))) ρ μ R := fun F H as σ Q e q => by
  refine h F H as σ _ e fun x μ1 v1 F1 H1 as1 h1 e1 s1 g1 r1 => ?_
  obtain ⟨rfl, k⟩ := h1
  cases r1
  exact ⟨.ref C, .ref C, b, rfl, fun u r => (show u = Value.ref C from r), kb, q _ _ _ _ _ _ k e1 s1 g1 (Rp.bl _)⟩
theorem wE_isEt {Dc a : Addr} {n : String} {b : Bool} {ta : TE} (kb : PySem.W.kitOne G.K (.ref Dc) (.type n) = some b) (h : wE G F0 H0 ta ρ μ fun u μ1 => u = .d (.raw a) ∧ R (.d (.bl b)) μ1) : wE G F0 H0 (tCB (rIsE G.K Dc a) (tCons ta (tCons (tC (.ty n)) tNil))) ρ μ R := fun F H as σ Q e q => by
  refine h F H as σ _ e fun x μ1 v1 F1 H1 as1 h1 e1 s1 g1 r1 => ?_
  obtain ⟨rfl, k⟩ := h1
  cases r1
  exact ⟨.ty n, .type n, b, rfl, fun u r => (show u = Value.type n from r), kb, q _ _ _ _ _ _ k e1 s1 g1 (Rp.bl _)⟩
theorem wE_raw {a : Addr} (k : R (.d (.raw a)) μ) : wE G F0 H0 (tC (.ref a)) ρ μ R := fun F H as σ Q e q => q _ _ _ _ _ _ k e (.refl _) .refl (Rp.raw a)
end
/-- isinstance(e, (c, ..)), e the exception that the suite holds -/
def rIsET (K : PySem.W.Frag) (D a : Addr) : List V → Hp → VK → Prop := fun xs H Q => ∃ (tp : Addr) (cs : List V) (ws : List Value) (b : Bool), xs = [.ref a, .ref tp] ∧ SqT K H tp cs ∧ Paired ClsV cs ws ∧ PySem.W.kitAny K (.ref D) ws = some b ∧ Q (.bl b) H
theorem tup_at {X : Cx} {pins : List (Addr × Obj)} {σ : L2.St} {H : Hp} {s : Shared} {tp : Addr} {cs : List V} {ws : List Value} (I : Inv X pins σ H s) (h : SqT X.K H tp cs) (k : Paired ClsV cs ws) : ∃ (dd : Option Addr) (n : Nat) (sl : Array (Option Value)), s.heap.get? tp = some ⟨.type "tuple", dd, .seq ws.toArray n, sl⟩ := by
  rcases h with h | ⟨o, its, n, h1, h2, h3, _, h5⟩
  · obtain ⟨_, its, rv, o, e1, e2, n, e3⟩ := (show ObjOk X.prog X.w H s.heap tp (.tup cs) from h.ok I.hok)
    have e4 := ClsV.all k rv
    subst e4
    obtain ⟨oc, od, dt, sl⟩ := o
    simp only at e2 e3
    subst e2 e3
    exact ⟨_, _, _, e1⟩
  · have e4 := ClsV.all k h5
    obtain ⟨oc, od, dt, sl⟩ := o
    simp only at h2 h3
    subst h2 h3
    refine ⟨od, n, sl, ?_⟩
    rw [← e4]
    exact I.kIn _ _ h1
theorem call_isET {X : Cx} {a D : Addr} {oe : Obj} {pn : List (Addr × Obj)} (C : ExcC X.K D) (hz : Zc (.ref D) none oe) (hf : ∃ vs, oe.data = .fields vs) : CallR (X.suite a ((a, oe) :: pn)) (.builtin "isinstance") (rIsET X.K D a) := by
  intro pins s σ H xs us Q I r h
  obtain ⟨tp, cs, ws, b, rfl, hT, hk, e, q⟩ := h
  obtain ⟨u1, u2, rfl, r1, r2⟩ := vals2 r
  cases (show u1 = Value.ref a from r1)
  cases (show u2 = Value.ref tp from r2)
  obtain ⟨dd, n, sl, htp⟩ := tup_at I hT hk
  obtain ⟨hget, _⟩ := I.pin (a, oe) (List.mem_append.mpr (.inl List.mem_cons_self))
  obtain ⟨vs, hv⟩ := hf
  have J : PySem.W.InstAt s.heap a oe D none := by
    obtain ⟨oc, od, oda, osl⟩ := oe
    obtain ⟨h1, h2⟩ := hz
    dsimp only at h1 h2 hv
    subst h1 h2 hv
    exact ⟨hget, rfl, rfl, trivial⟩
  exact PySem.W.kia_tup (PySem.W.handS_kitx_exc C.hg C.hk C.hs C.hd C.ha C.hn C.ht C.hm) I.kIn J htp e (fun z => nomatch z) fun tk => ⟨.bl b, H, I.kept (t' := tk) fun _ _ z => z, rfl, q⟩
section
variable {G : Gx} {F0 H0 : Hp} {ρ : Ro} {μ : Mu} {R : RE}
theorem cls_raws {F : Hp} : ∀ {cs : List Addr} {vs : List V}, RpAll G F vs (cs.map D.raw) → Paired ClsV vs (cs.map Value.ref)
  | [], _, h => by cases h; exact .nil
  | c :: cs, _, h => by
    cases h with
    | cons a b => cases a; exact .cons (.own c) (cls_raws b)
theorem wE_isET {Dc a : Addr} {cs : List Addr} {b : Bool} {ta tb : TE} (kb : PySem.W.kitAny G.K (.ref Dc) (cs.map Value.ref) = some b)
    (h : wE G F0 H0 ta ρ μ fun u μ1 => u = .d (.raw a) ∧ wE G F0 H0 tb ρ μ1 fun x μ2 => x = .d (.tup (cs.map D.raw)) ∧ R (.d (.bl b)) μ2) : wE G F0 H0 (tCB (rIsET G.K Dc a) (tCons ta (tCons tb tNil))) ρ μ R := fun F H as σ Q e q => by
  refine h F H as σ _ e fun x μ1 v1 F1 H1 as1 h1 e1 s1 g1 r1 => ?_
  obtain ⟨rfl, h2⟩ := h1
  cases r1
  refine h2 F1 H1 as1 σ _ e1 fun y μ2 v2 F2 H2 as2 h2 e2 s2 g2 r2 => ?_
  obtain ⟨rfl, k⟩ := h2
  obtain ⟨tp, vs, rfl, hs, ha⟩ := tup_seq e2 r2
  exact ⟨tp, vs, _, b, rfl, hs, cls_raws ha, kb, q _ _ _ _ _ _ k e2 (s1.trans s2) (g1.trans g2) (Rp.bl _)⟩
end
theorem kIsE {X : Cx} {K : PySem.W.Frag} {a D : Addr} {oe : Obj} {pn : List (Addr × Obj)} (h : X.K = K) (C : ExcC K D) (hz : Zc (.ref D) none oe) (hf : ∃ vs, oe.data = .fields vs) : CallR (X.suite a ((a, oe) :: pn)) (.builtin "isinstance") (rIsE K D a) := by
  subst h
  exact call_isE C hz hf
theorem kIsET {X : Cx} {K : PySem.W.Frag} {a D : Addr} {oe : Obj} {pn : List (Addr × Obj)} (h : X.K = K) (C : ExcC K D) (hz : Zc (.ref D) none oe) (hf : ∃ vs, oe.data = .fields vs) : CallR (X.suite a ((a, oe) :: pn)) (.builtin "isinstance") (rIsET K D a) := by
  subst h
  exact call_isET C hz hf
theorem kTryAs {X : Cx} {K : PySem.W.Frag} {x n : Str} {c : Value} {i : Nat} {body suite : List Stmt} {b₀ : Stmt} {np pos pos' : Pos} {tb : WX → TS} {ts : Addr → Value → Option Addr → TS} {Wout : WX} (hK : X.K = K) (hs : X.stack = X.env :: X.outer) (hf : X.env.frame = some X.env.locals) (hN : X.N.Nodup) (hi : X.N[i]? = some n) (hln : X.env.kindOf n = some .local) (hc : Names X x c) (tk : L2.Takes X Wout)
    (hb : ∀ (W : WX) (pn : List (Addr × Obj)) (xe : Value → Shared → Prop), L2.Takes (X.tr pn xe) W → PassesOwn (model X.prog X.w) X.A X.env xe → PSs (X.tr pn xe) body (tb W))
    (hsu : ∀ (a : Addr) (oe : Obj) (cls : Value) (d : Option Addr) (pn : List (Addr × Obj)), Zc cls d oe → (∃ vs, oe.data = .fields vs) → PSs (X.suite a ((a, oe) :: pn)) (b₀ :: suite) (ts a cls d)) :
    PS X (.Try body [.ExceptHandler (some (.Name x np)) (some n) (b₀ :: suite) pos'] [] [] pos) (fun D σ H => tb (wAs K c i ts Wout D) D σ H) := by
  subst hK
  exact L2.ps_try_as hs hf hN hi hln hc tk hb hsu
/-- a suite that is read for the classes it is meant for -/
theorem pss_when {Y : Cx} {K : PySem.W.Frag} {cls : Value} {d : Option Addr} {oe : Obj} {l : List Stmt} {t : Addr → TS} (hz : Zc cls d oe) (h : ∀ D, ExcC K D → Zc (.ref D) none oe → PSs Y l (t D)) : PSs Y l (fun Dn σ H => ∃ D, ExcC K D ∧ cls = .ref D ∧ d = none ∧ t D Dn σ H) :=
  ⟨fun pins s σ H Dn I hh => by
    obtain ⟨D, hc, rfl, rfl, hh⟩ := hh
    exact (h D hc hz).run pins s σ H Dn I hh⟩
/-! ### a call in a try, what is raised wished for at the slots -/
section
variable {G : Gx} {F0 H0 : Hp} {ρ : Ro} {μ : Mu} {R : RE} {α : Type} {X : Ex} {D' : DE}
/-- the program's errors, one class each, under one base -/
structure ExcKit (G : Gx) (X : Ex) (cc : Addr) : Prop where
  c : ∀ n, n < 6 → ExcC G.K (X n)
  m : ∀ n, n < 6 → PySem.W.exmOne G.K (.ref (X n)) (.ref cc) = some true
  k : ∀ n m, n < 6 → m < 6 → PySem.W.kitOne G.K (.ref (X n)) (.ref (X m)) = some (n == m)
  v : ∀ n, n < 6 → PySem.W.kitOne G.K (.ref (X n)) (.type "ValueError") = some true
theorem kitAny_of {K : PySem.W.Frag} {t : Value} : ∀ {cs : List (Value × Bool)}, (∀ p ∈ cs, PySem.W.kitOne K t p.1 = some p.2) → PySem.W.kitAny K t (cs.map (·.1)) = some (cs.any (·.2))
  | [], _ => rfl
  | (c, b) :: cs, h => by
    have h1 := h (c, b) List.mem_cons_self
    have h2 := kitAny_of (cs := cs) fun p hp => h p (List.mem_cons_of_mem _ hp)
    cases b with
    | true => exact kitAny_cons (r := true) h1 (fun z => nomatch z) (fun _ => rfl)
    | false => exact kitAny_cons h1 (fun _ => by rw [h2]; rfl) (fun z => nomatch z)
theorem ExcKit.any {cc : Addr} (E : ExcKit G X cc) {n : Nat} (hn : n < 6) {ms : List Nat} (hm : ∀ m ∈ ms, m < 6) : PySem.W.kitAny G.K (.ref (X n)) ((ms.map X).map Value.ref) = some (ms.any (n == ·)) := by
  have := kitAny_of (K := G.K) (t := .ref (X n)) (cs := ms.map fun m => (Value.ref (X m), n == m)) fun p hp => by
    obtain ⟨m, h1, rfl⟩ := List.mem_map.mp hp
    exact E.k n m hn (hm m h1)
  rw [List.map_map, List.any_map] at this
  rw [List.map_map]
  exact this
theorem wS_when {K : PySem.W.Frag} {x : Addr} {t : Addr → TS} (hc : ExcC K x) (h : wS G F0 H0 (t x) ρ μ D') : wS G F0 H0 (fun Dn σ H => ∃ D, ExcC K D ∧ Value.ref x = Value.ref D ∧ (none : Option Addr) = none ∧ t D Dn σ H) ρ μ D' := fun F H as σ Xe e k => ⟨x, hc, rfl, rfl, h F H as σ Xe e k⟩
/-- the slot of the caught error -/
theorem Ev.storeA {F H : Hp} {as : List Addr} {σ : L2.St} {i : Nat} {a : Addr} (e : Ev G F0 H0 F H as σ ρ μ) : Ev G F0 H0 F H as (σ.set i (some (.ref a))) (ρ.set i (some (.d (.raw a)))) μ := e.store (u := .d (.raw a)) (Rp.raw a)
theorem Ev.drop {F H : Hp} {as : List Addr} {σ : L2.St} {i : Nat} (e : Ev G F0 H0 F H as σ ρ μ) : Ev G F0 H0 F H as (σ.set i none) (ρ.set i none) μ := by
  refine ⟨e.bs, by rw [List.length_set, List.length_set]; exact e.len, fun j u h => ?_, e.al, e.nd, e.ce⟩
  by_cases ij : i = j
  · subst ij
    rw [List.getElem?_set] at h
    simp at h
  · rw [List.getElem?_set_ne ij] at h ⊢
    exact e.sl j u h
/-- where a try's suite ends -/
def DEas (i : Nat) (D : DE) : DE := { nx := fun ρ' μ' => D.nx (ρ'.set i none) μ', rt := D.rt, bk := fun ρ' μ' => D.bk (ρ'.set i none) μ', ct := fun ρ' μ' => D.ct (ρ'.set i none) μ' }
/-- what is raised goes on with the slots as they are -/
def KW (G : Gx) (F0 H0 : Hp) (X : Ex) (F : Hp) (as : List Addr) (XR : Nat → Ro → Mu → Prop) (W : WX) : Prop :=
  ∀ (n : Nat) (ρ' : Ro) (μ' : Mu) (σ' : L2.St) (F' H' : Hp) (as' : List Addr), XR n ρ' μ' → Ev G F0 H0 F' H' as' σ' ρ' μ' → Same F F' → Grw as as' → W (.ref (X n)) none σ' H'
theorem KW.on {F F1 : Hp} {as as1 : List Addr} {XR : Nat → Ro → Mu → Prop} {W : WX} (k : KW G F0 H0 X F as XR W) (hF : Same F F1) (ha : Grw as as1) : KW G F0 H0 X F1 as1 XR W := fun n ρ' μ' σ' F' H' as' h e s g => k n ρ' μ' σ' F' H' as' h e (hF.trans s) (ha.trans g)
def wEx (G : Gx) (F0 H0 : Hp) (X : Ex) (t : WX → TE) (ρ : Ro) (μ : Mu) (R : RE) (XR : Nat → Ro → Mu → Prop) : Prop := ∀ (F H : Hp) (as : List Addr) (σ : L2.St) (Q : VK) (W : WX), Ev G F0 H0 F H as σ ρ μ → KE G F0 H0 F as σ ρ R Q → KW G F0 H0 X F as XR W → t W σ H Q
def wSx (G : Gx) (F0 H0 : Hp) (X : Ex) (t : WX → TS) (ρ : Ro) (μ : Mu) (D : DE) (XR : Nat → Ro → Mu → Prop) : Prop := ∀ (F H : Hp) (as : List Addr) (σ : L2.St) (Xe : Ends) (W : WX), Ev G F0 H0 F H as σ ρ μ → KD G F0 H0 F as D Xe → KW G F0 H0 X F as XR W → t W Xe σ H
variable {XR : Nat → Ro → Mu → Prop}
theorem wSx_if {c : TT} {t u : WX → TS} (h : wT G F0 H0 c ρ μ fun b μ1 => if b = true then wSx G F0 H0 X t ρ μ1 D' XR else wSx G F0 H0 X u ρ μ1 D' XR) : wSx G F0 H0 X (fun W => tIfS c (t W) (u W)) ρ μ D' XR := fun F H as σ Xe W e q x => by
  refine h F H as σ _ e fun b μ1 F1 H1 as1 h1 e1 s1 g1 => ?_
  cases b with
  | true => exact iteT ((tt_of h1) F1 H1 as1 σ Xe W e1 (q.on s1 g1) (x.on s1 g1))
  | false => exact iteF ((ff_of h1) F1 H1 as1 σ Xe W e1 (q.on s1 g1) (x.on s1 g1))
theorem wSx_drop {te : WX → TE} (h : wEx G F0 H0 X te ρ μ (fun _ μ1 => D'.nx ρ μ1) XR) : wSx G F0 H0 X (fun W => tDrop (te W)) ρ μ D' XR := fun F H as σ Xe W e q x =>
  h F H as σ _ W e (fun x' μ1 v1 F1 H1 as1 h1 e1 s1 g1 r1 => q.nx _ _ _ _ _ _ h1 e1 s1 g1) x
theorem wSx_plain {t : TS} (h : wS G F0 H0 t ρ μ D') : wSx G F0 H0 X (fun _ => t) ρ μ D' XR := fun F H as σ Xe W e q x => h F H as σ Xe e q
/-- how a call in a try ends -/
def EndsX (R : RE) (XR : Nat → Ro → Mu → Prop) (ρ : Ro) (μ : Mu) : Out → Prop
  | .ret r => Got R μ r
  | .exc n => XR n ρ μ
theorem wEx_ct {c : Ct α} {t : TA} (h : wA G F0 H0 t ρ μ fun us μ1 => ∃ a, Paired (ArgOf μ1) us (c.args a) ∧ c.pre a ∧ EndsX R XR ρ μ1 (c.out a)) :
    wEx G F0 H0 X (fun W => tCallSD (spC G X c) [] (WE W) t) ρ μ R XR := fun F H as σ Q W e q x => by
  refine h F H as σ _ e fun us μ1 vs F1 H1 as1 h1 e1 s1 g1 r1 => ?_
  obtain ⟨a, ha, hp, hg⟩ := h1
  refine ⟨a, hp, F1, c.args a, e1.bs.fh, by rw [List.append_nil]; exact args_ok e1 r1 ha, rfl, fun r v F' H' hr sF sf sH sn ro => ?_, fun e' H' hx hs => ?_⟩
  · rw [hr] at hg
    exact got_ok e1 sF sf sH sn ro hg (q.on s1 g1)
  · obtain ⟨n, hn, rfl⟩ := hx
    rw [hn] at hg
    have e2 := e1.grow (.refl _) hs (e1.bs.fh.trans hs) fun _ _ => rfl
    exact x n _ _ _ _ _ _ hg e2 s1 g1
/-- try: .. except CakeError as e: suite -/
theorem wS_tryA {tb : WX → TS} {ts : Addr → Value → Option Addr → TS} {i : Nat} {cc : Value} {Wout : WX} (XR : Nat → Ro → Mu → Prop) (h : wSx G F0 H0 X tb ρ μ D' XR)
    (hs : ∀ n ρ' μ' a, XR n ρ' μ' → PySem.W.exmOne G.K (.ref (X n)) cc = some true ∧ wS G F0 H0 (ts a (.ref (X n)) none) (ρ'.set i (some (.d (.raw a)))) μ' (DEas i D')) : wS G F0 H0 (fun D σ H => tb (wAs G.K cc i ts Wout D) D σ H) ρ μ D' := fun F H as σ Xe e k =>
  h F H as σ Xe _ e k fun n ρ' μ' σ' F' H' as' hx e' s' g' => ⟨true, (hs n ρ' μ' 0 hx).1, fun _ a _ => by
    refine (hs n ρ' μ' a hx).2 F' H' as' _ _ e'.storeA ⟨?_, (k.rt.on s' g'), ?_, ?_⟩
    · exact fun ρ2 μ2 σ2 F2 H2 as2 h2 e2 s2 g2 => k.nx _ _ _ _ _ _ h2 e2.drop (s'.trans s2) (g'.trans g2)
    · exact fun ρ2 μ2 σ2 F2 H2 as2 h2 e2 s2 g2 => k.bk _ _ _ _ _ _ h2 e2.drop (s'.trans s2) (g'.trans g2)
    · exact fun ρ2 μ2 σ2 F2 H2 as2 h2 e2 s2 g2 => k.ct _ _ _ _ _ _ h2 e2.drop (s'.trans s2) (g'.trans g2), fun z => nomatch z⟩
end
end L3
namespace L3
open PySem PySem.Spec PyProof.Rows L2
/-! ### the program's errors at the end of a law -/
structure ExcAll (K : PySem.W.Frag) (mg : Str → Option Value) (x : Str) (C : Addr) : Prop where
  ok : ExcOk K mg x C
  ec : ExcC K C
  i : PySem.W.isClsIn K C = true
theorem excAll_mk {K : PySem.W.Frag} {h : Heap} {mg : Str → Option Value} {x : Str} {C : Addr} (X : K.In h) (G : h.Ns mainGlobals mg) (a : PySem.W.nsIn K mainGlobals x = some (some (.ref C)))
    (x1 : PySem.W.excIn K C [.type "ValueError", .type "Exception", .type "BaseException", .type "object"] "ValueError.__new__" = true) (k : PySem.W.keepIn K (.ref C) = true) (b : PySem.W.subIn K (.ref C) (.type "BaseException") = some true) (t : PySem.W.typeIn K (.ref C) = some (.type "type"))
    (i : PySem.W.isClsIn K C = true) (g1 : PySem.W.findIn K (.ref C) "__getattribute__" = some (some (.builtin "BaseException.__getattribute__"))) (g2 : PySem.W.findIn K (.ref C) "__getattr__" = some none)
    (d : PySem.W.hasDictIn K C = true) (ha : PySem.W.findIn K (.ref C) "__class__" = some (some (.builtin "object.__class__")))
    (hn : PySem.W.specialIn K (.builtin "object.__class__") "__get__" = some (some (.builtin "getset_descriptor.__get__"))) (ht : PySem.W.takesIn K (.builtin "object.__class__") = some true)
    (hm : PySem.W.mroIn K C (.type "object") = some true) : ExcAll K mg x C := ⟨⟨x1, PySem.W.mg_of X G a, k, b, t⟩, ⟨g1, g2, b, d, ha, hn, ht, hm⟩, i⟩
theorem exm_mk {K : PySem.W.Frag} {h : Heap} {mg : Str → Option Value} {x y : Str} {C D : Addr} {b : Bool} (_ : K.In h) (_ : ExcAll K mg x C) (E : ExcAll K mg y D) (s : PySem.W.subIn K (.ref C) (.ref D) = some b) : PySem.W.exmOne K (.ref C) (.ref D) = some b := PySem.W.exm_ref E.ok.bP E.ec.hd E.ok.tP s
theorem exk_mk {K : PySem.W.Frag} {h : Heap} {mg : Str → Option Value} {x y : Str} {C D : Addr} {b : Bool} (X : K.In h) (_ : ExcAll K mg x C) (E : ExcAll K mg y D) (s : PySem.W.subIn K (.ref C) (.ref D) = some b) (d : (Value.ref C == Value.ref D) = false ∨ b = true) : PySem.W.kitOne K (.ref C) (.ref D) = some b := by
  have i' : (PySem.W.clsIn K D).isSome = true := E.i
  unfold PySem.W.kitOne PySem.W.kitCls
  rcases d with d | d
  · rw [d]
    simp only [Bool.false_eq_true, if_false, E.ok.tP, i', Bool.and_self, beq_self_eq_true, if_true]
    exact s
  · split
    · rw [d]
    · simp only [E.ok.tP, i', Bool.and_self, beq_self_eq_true, if_true]
      exact s
theorem exv_mk {K : PySem.W.Frag} {h : Heap} {mg : Str → Option Value} {x : Str} {C : Addr} (_ : K.In h) (_ : ExcAll K mg x C) (m : PySem.W.kitMeta "ValueError" = true) (s : PySem.W.subIn K (.ref C) (.type "ValueError") = some true) : PySem.W.kitOne K (.ref C) (.type "ValueError") = some true := by
  unfold PySem.W.kitOne PySem.W.kitCls
  rw [if_neg (fun q => nomatch (beq_iff_eq.mp q : Value.ref C = .type "ValueError"))]
  show (if PySem.W.kitMeta "ValueError" = true then PySem.W.subIn K (.ref C) (.type "ValueError") else none) = some true
  rw [if_pos m]
  exact s
/-- the classes by their numbers -/
def exF (a b c d e f g : Addr) : Ex := fun n => match n with | 0 => a | 1 => b | 2 => c | 3 => d | 4 => e | 5 => f | 6 => g | _ => 0
end L3
namespace L3
open PySem PySem.Spec PyProof.Rows L2
theorem excKit_mk {G : Gx} {X : Ex} (c0 : ExcC G.K (X 0)) (c1 : ExcC G.K (X 1)) (c2 : ExcC G.K (X 2)) (c3 : ExcC G.K (X 3)) (c4 : ExcC G.K (X 4)) (c5 : ExcC G.K (X 5)) (m0 : PySem.W.exmOne G.K (.ref (X 0)) (.ref (X 6)) = some true) (m1 : PySem.W.exmOne G.K (.ref (X 1)) (.ref (X 6)) = some true) (m2 : PySem.W.exmOne G.K (.ref (X 2)) (.ref (X 6)) = some true) (m3 : PySem.W.exmOne G.K (.ref (X 3)) (.ref (X 6)) = some true) (m4 : PySem.W.exmOne G.K (.ref (X 4)) (.ref (X 6)) = some true) (m5 : PySem.W.exmOne G.K (.ref (X 5)) (.ref (X 6)) = some true) (v0 : PySem.W.kitOne G.K (.ref (X 0)) (.type "ValueError") = some true) (v1 : PySem.W.kitOne G.K (.ref (X 1)) (.type "ValueError") = some true) (v2 : PySem.W.kitOne G.K (.ref (X 2)) (.type "ValueError") = some true) (v3 : PySem.W.kitOne G.K (.ref (X 3)) (.type "ValueError") = some true) (v4 : PySem.W.kitOne G.K (.ref (X 4)) (.type "ValueError") = some true) (v5 : PySem.W.kitOne G.K (.ref (X 5)) (.type "ValueError") = some true) (k00 : PySem.W.kitOne G.K (.ref (X 0)) (.ref (X 0)) = some true) (k01 : PySem.W.kitOne G.K (.ref (X 0)) (.ref (X 1)) = some false) (k02 : PySem.W.kitOne G.K (.ref (X 0)) (.ref (X 2)) = some false) (k03 : PySem.W.kitOne G.K (.ref (X 0)) (.ref (X 3)) = some false) (k04 : PySem.W.kitOne G.K (.ref (X 0)) (.ref (X 4)) = some false) (k05 : PySem.W.kitOne G.K (.ref (X 0)) (.ref (X 5)) = some false) (k10 : PySem.W.kitOne G.K (.ref (X 1)) (.ref (X 0)) = some false) (k11 : PySem.W.kitOne G.K (.ref (X 1)) (.ref (X 1)) = some true) (k12 : PySem.W.kitOne G.K (.ref (X 1)) (.ref (X 2)) = some false) (k13 : PySem.W.kitOne G.K (.ref (X 1)) (.ref (X 3)) = some false) (k14 : PySem.W.kitOne G.K (.ref (X 1)) (.ref (X 4)) = some false) (k15 : PySem.W.kitOne G.K (.ref (X 1)) (.ref (X 5)) = some false) (k20 : PySem.W.kitOne G.K (.ref (X 2)) (.ref (X 0)) = some false) (k21 : PySem.W.kitOne G.K (.ref (X 2)) (.ref (X 1)) = some false) (k22 : PySem.W.kitOne G.K (.ref (X 2)) (.ref (X 2)) = some true) (k23 : PySem.W.kitOne G.K (.ref (X 2)) (.ref (X 3)) = some false) (k24 : PySem.W.kitOne G.K (.ref (X 2)) (.ref (X 4)) = some false) (k25 : PySem.W.kitOne G.K (.ref (X 2)) (.ref (X 5)) = some false) (k30 : PySem.W.kitOne G.K (.ref (X 3)) (.ref (X 0)) = some false) (k31 : PySem.W.kitOne G.K (.ref (X 3)) (.ref (X 1)) = some false) (k32 : PySem.W.kitOne G.K (.ref (X 3)) (.ref (X 2)) = some false) (k33 : PySem.W.kitOne G.K (.ref (X 3)) (.ref (X 3)) = some true) (k34 : PySem.W.kitOne G.K (.ref (X 3)) (.ref (X 4)) = some false) (k35 : PySem.W.kitOne G.K (.ref (X 3)) (.ref (X 5)) = some false) (k40 : PySem.W.kitOne G.K (.ref (X 4)) (.ref (X 0)) = some false) (k41 : PySem.W.kitOne G.K (.ref (X 4)) (.ref (X 1)) = some false) (k42 : PySem.W.kitOne G.K (.ref (X 4)) (.ref (X 2)) = some false) (k43 : PySem.W.kitOne G.K (.ref (X 4)) (.ref (X 3)) = some false) (k44 : PySem.W.kitOne G.K (.ref (X 4)) (.ref (X 4)) = some true) (k45 : PySem.W.kitOne G.K (.ref (X 4)) (.ref (X 5)) = some false) (k50 : PySem.W.kitOne G.K (.ref (X 5)) (.ref (X 0)) = some false) (k51 : PySem.W.kitOne G.K (.ref (X 5)) (.ref (X 1)) = some false) (k52 : PySem.W.kitOne G.K (.ref (X 5)) (.ref (X 2)) = some false) (k53 : PySem.W.kitOne G.K (.ref (X 5)) (.ref (X 3)) = some false) (k54 : PySem.W.kitOne G.K (.ref (X 5)) (.ref (X 4)) = some false) (k55 : PySem.W.kitOne G.K (.ref (X 5)) (.ref (X 5)) = some true) : ExcKit G X (X 6) := by
  have six : ∀ n : Nat, n < 6 → n = 0 ∨ n = 1 ∨ n = 2 ∨ n = 3 ∨ n = 4 ∨ n = 5 := fun n h => by omega
  refine ⟨fun n h => ?_, fun n h => ?_, fun n m h h' => ?_, fun n h => ?_⟩
  · rcases six n h with rfl | rfl | rfl | rfl | rfl | rfl <;> assumption
  · rcases six n h with rfl | rfl | rfl | rfl | rfl | rfl <;> assumption
  · rcases six n h with rfl | rfl | rfl | rfl | rfl | rfl <;> rcases six m h' with rfl | rfl | rfl | rfl | rfl | rfl <;> assumption
  · rcases six n h with rfl | rfl | rfl | rfl | rfl | rfl <;> assumption
end L3

set_option Elab.async false
set_option linter.all false
set_option maxRecDepth 100000
set_option maxHeartbeats 4000000
set_option exponentiation.threshold 100
/-! k14: readers, the program's and the law's; promises. -/
namespace L3
open PySem PySem.Spec PyProof.Rows L2
open TL (numL)
/-! ### pieces: the law's way -/
def SpanOk (s : Rat × Rat) : Prop := s.1 < s.2 ∧ s.2 ≤ 1
instance (s : Rat × Rat) : Decidable (SpanOk s) := by unfold SpanOk; exact inferInstance
def Behind (l : Option Rat) (s : Rat × Rat) : Prop := ∀ x, l = some x → x < s.1
instance (l : Option Rat) (s : Rat × Rat) : Decidable (Behind l s) := match l with
  | none => isTrue fun _ h => by cases h
  | some x => if h : x < s.1 then isTrue fun y e => by cases e; exact h else isFalse fun z => h (z x rfl)
def lawGoP : Option Rat → List (List Nat) → Option Piece
  | _, [] => some []
  | l, w :: ws => match spanT w with
    | some s => if SpanOk s ∧ Behind l s then (lawGoP (some s.2) ws).map (s :: ·) else none
    | none => none
def lawSpansT (a : List Nat) : Option Piece := lawGoP none (wordsT a)
def ApartF : Option Rat → Piece → Prop
  | _, [] => True
  | l, s :: r => Behind l s ∧ ApartF (some s.2) r
theorem lawGoP_iff : ∀ {ws : List (List Nat)} {b : Option Rat} {l : Piece}, lawGoP b ws = some l ↔ spansT ws = some l ∧ (∀ s ∈ l, SpanOk s) ∧ ApartF b l
  | [], b, l => by
    constructor
    · intro h
      cases h
      exact ⟨rfl, (fun _ h => by cases h), trivial⟩
    · rintro ⟨h, _, _⟩
      cases h
      rfl
  | w :: ws, b, l => by
    unfold lawGoP spansT
    cases hw : spanT w with
    | none =>
      constructor
      · intro h; cases h
      · rintro ⟨h, _⟩; cases h
    | some s =>
      dsimp only
      constructor
      · intro h
        split at h
        · rename_i c
          cases hl : lawGoP (some s.2) ws with
          | none => rw [hl] at h; cases h
          | some r =>
            rw [hl] at h
            have : s :: r = l := Option.some.inj h
            subst this
            obtain ⟨h1, h2, h3⟩ := lawGoP_iff.mp hl
            rw [h1]
            refine ⟨rfl, fun x hx => ?_, c.2, h3⟩
            rcases List.mem_cons.mp hx with rfl | hx
            · exact c.1
            · exact h2 x hx
        · cases h
      · rintro ⟨h, h2, h3⟩
        cases hr : spansT ws with
        | none => rw [hr] at h; cases h
        | some r =>
          rw [hr] at h
          have : s :: r = l := Option.some.inj h
          subst this
          rw [if_pos ⟨h2 s List.mem_cons_self, h3.1⟩, lawGoP_iff.mpr ⟨hr, fun x hx => h2 x (List.mem_cons_of_mem _ hx), h3.2⟩]
          rfl
theorem apartF_some : ∀ {p : Piece} {x : Rat}, ApartF (some x) p ↔ (∀ s, p.head? = some s → x < s.1) ∧ Apart p
  | [], x => ⟨fun _ => ⟨(fun _ h => by cases h), trivial⟩, fun _ => trivial⟩
  | [s], x => ⟨fun h => ⟨fun t e => by cases e; exact h.1 x rfl, trivial⟩, fun h => ⟨fun y e => by cases e; exact h.1 s rfl, trivial⟩⟩
  | s :: t :: r, x => by
    have ih := apartF_some (p := t :: r) (x := s.2)
    constructor
    · rintro ⟨h1, h2⟩
      obtain ⟨i1, i2⟩ := ih.mp h2
      exact ⟨fun y e => by cases e; exact h1 x rfl, i1 t rfl, i2⟩
    · rintro ⟨h1, h2, h3⟩
      exact ⟨fun y e => by cases e; exact h1 s rfl, ih.mpr ⟨fun y e => by cases e; exact h2, h3⟩⟩
theorem apartF_none : ∀ {p : Piece}, ApartF none p ↔ Apart p
  | [] => Iff.rfl
  | [s] => ⟨fun _ => trivial, fun _ => ⟨(fun _ h => by cases h), trivial⟩⟩
  | s :: t :: r => by
    have ih := apartF_some (p := t :: r) (x := s.2)
    constructor
    · rintro ⟨_, h2⟩
      obtain ⟨i1, i2⟩ := ih.mp h2
      exact ⟨i1 t rfl, i2⟩
    · rintro ⟨h2, h3⟩
      exact ⟨(fun _ h => by cases h), ih.mpr ⟨fun y e => by cases e; exact h2, h3⟩⟩
theorem spanT_nn {w : List Nat} {s : Rat × Rat} (h : spanT w = some s) : 0 ≤ s.1 ∧ 0 ≤ s.2 := by
  unfold spanT at h
  split at h
  · cases h
  · split at h
    · rename_i x y hx hy
      cases h
      exact ⟨(fracT_sz hx).1, (fracT_sz hy).1⟩
    · cases h
theorem spansT_nn : ∀ {ws : List (List Nat)} {l : Piece}, spansT ws = some l → ∀ s ∈ l, 0 ≤ s.1 ∧ 0 ≤ s.2
  | [], l, h, s, hs => by cases h; cases hs
  | w :: ws, l, h, s, hs => by
    unfold spansT at h
    split at h
    · rename_i s' q h1 h2
      cases h
      rcases List.mem_cons.mp hs with rfl | hs
      · exact spanT_nn h1
      · exact spansT_nn h2 s hs
    · cases h
theorem spanOf_nn {s : Rat × Rat} (h : 0 ≤ s.1 ∧ 0 ≤ s.2) : spanOf (encS s) = if SpanOk s then some s else none := by
  show (match fracOf (encF s.1), fracOf (encF s.2) with | some s, some e => if s < e ∧ e ≤ 1 then some (s, e) else none | _, _ => none) = _
  rw [fracOf_enc h.1, fracOf_enc h.2]
  rfl
theorem spansOf_nn {l : Piece} (h : ∀ s ∈ l, 0 ≤ s.1 ∧ 0 ≤ s.2) : spansOf (encP l) = if (∀ s ∈ l, SpanOk s) then some l else none := by
  split
  · rename_i c
    exact spansOf_enc fun s hs => ⟨(h s hs).1, (c s hs).1, (c s hs).2⟩
  · rename_i c
    refine spans_none ?_
    refine Classical.byContradiction fun z => c fun s hs => ?_
    refine Classical.byContradiction fun y => z ⟨encS s, List.mem_map_of_mem hs, ?_⟩
    rw [spanOf_nn (h s hs), if_neg y]
theorem piece_same (a : List Nat) : pieceT a = lawSpansT a := by
  unfold pieceT lawSpansT
  cases hs : spansT (wordsT a) with
  | none =>
    cases hl : lawGoP none (wordsT a) with
    | none => rfl
    | some l =>
      have := (lawGoP_iff.mp hl).1
      rw [hs] at this
      cases this
  | some l =>
    have nn := spansT_nn hs
    have et : pieceOf (.lst (encP l)) = (match spansOf (encP l) with | some p => if Apart p then some p else none | none => none) := rfl
    dsimp only
    rw [et, spansOf_nn nn]
    cases hl : lawGoP none (wordsT a) with
    | none =>
      split
      · rename_i p he
        split
        · rename_i ha
          have c : ∀ s ∈ l, SpanOk s := Classical.byContradiction fun z => by rw [if_neg z] at he; cases he
          rw [if_pos c] at he
          cases he
          have := lawGoP_iff.mpr ⟨hs, c, apartF_none.mpr ha⟩
          rw [hl] at this
          cases this
        · rfl
      · rfl
    | some r =>
      obtain ⟨h1, h2, h3⟩ := lawGoP_iff.mp hl
      rw [hs] at h1
      cases h1
      rw [if_pos h2]
      exact if_pos (apartF_none.mp h3)
/-! ### texts handed in -/
def textOf : D → Option (List Nat)
  | .str x => some x.cps.toList
  | _ => none
theorem textOf_sd (a : List Nat) : textOf (sd a) = some a := by
  show some (S a).cps.toList = some a
  simp
structure PreT (d : D) : Prop where
  ob : noOb d = true
  ok : ∀ a, textOf d = some a → a.length ≤ 800000 ∧ Cps a
theorem preT_sd {a : List Nat} (hl : a.length ≤ 800000) (hc : Cps a) : PreT (sd a) := ⟨rfl, fun b h => by rw [textOf_sd] at h; cases h; exact ⟨hl, hc⟩⟩
theorem str_or (d : D) : (∃ a, d = sd a ∧ textOf d = some a) ∨ textOf d = none := by
  cases d <;> first | exact .inr rfl | skip
  rename_i x
  refine .inl ⟨x.cps.toList, ?_, rfl⟩
  show D.str x = D.str ⟨x.cps.toList.toArray⟩
  simp
def tasteD' (d : D) : Option Steps := (textOf d).bind tasteT
def pieceD' (d : D) : Option Piece := (textOf d).bind pieceT
def c_taste_of : Ct D := ⟨fun d => [argOf d], PreT, fun d => match tasteD' d with
  | some st => .ret (.d (encTaste st))
  | none => .exc 5⟩
def c14_piece_of : Ct D := ⟨fun d => [argOf d], PreT, fun d => match pieceD' d with
  | some p => .ret (.own (encP p))
  | none => .exc 5⟩
/-! ### the law's own -/
def numO : Option Nat → D
  | some n => .int n
  | none => .non
def c__law_number : Ct (List Nat) := ⟨fun a => [.d (sd a)], fun a => a.length ≤ 5000000 ∧ Cps a, fun a => .ret (.d (numO (numR a)))⟩
def c__law_fraction_of : Ct (List Nat) := ⟨fun a => [.d (sd a)], fun a => a.length ≤ 5000000 ∧ Cps a, fun a => .ret (.d (encO (fracT a)))⟩
def c__law_steps_of : Ct (List Nat) := ⟨fun a => [.d (sd a)], fun a => a.length ≤ 800000 ∧ Cps a, fun a => match tasteT a with
  | some st => .ret (.own (encSt st))
  | none => .ret (.d .non)⟩
def c__law_spans_of : Ct (List Nat) := ⟨fun a => [.d (sd a)], fun a => a.length ≤ 800000 ∧ Cps a, fun a => match pieceT a with
  | some p => .ret (.own (encP p))
  | none => .ret (.d .non)⟩
def c__law_refused : Ct (Nat × D) := ⟨fun a => [.d (.int a.1), argOf a.2], fun a => PreT a.2, fun a => .ret (.d (.bl (if a.1 = 0 then (tasteD' a.2).isNone else (pieceD' a.2).isNone)))⟩
def c__law_read_right : Ct (List Nat) := ⟨fun a => [.d (sd a)], fun a => a.length ≤ 800000 ∧ Cps a, fun _ => .ret (.d (.bl true))⟩
def c__law_other : Cr (List Nat × Int × Nat) := ⟨fun a => [.d (sd a.1), .d (.int a.2.1), .d (.int a.2.2)], fun a => a.1.length ≤ 100000 ∧ Cps a.1 ∧ a.2.2 ≤ 10, fun a o => ∃ b, b.length ≤ 200001 ∧ Cps b ∧ o = .ret (.d (sd b))⟩
def FewOk (ts : List (List Nat)) : Prop := ts.length ≤ 100 ∧ ∀ t ∈ ts, t.length ≤ 200001 ∧ Cps t
def c__law_few : Cr Unit := ⟨fun _ => [], fun _ => True, fun _ o => ∃ ts, FewOk ts ∧ o = .ret (.own (ts.map sd))⟩
/-! ### rules for texts -/
def cutT (a : List Nat) (lo hi : Option Int) : List Nat := (a.drop (HT.sIx a.length 0 lo)).take (HT.sIx a.length a.length hi - HT.sIx a.length 0 lo)
theorem cutT_len (a : List Nat) (lo hi : Option Int) : (cutT a lo hi).length ≤ a.length := by
  unfold cutT
  rw [List.length_take, List.length_drop]
  omega
theorem cutT_cps {a : List Nat} (h : Cps a) (lo hi : Option Int) : Cps (cutT a lo hi) := fun c hc => h c (List.mem_of_mem_drop (List.mem_of_mem_take hc))
theorem cutS_S (a : List Nat) (lo hi : Option Int) : cutS (S a) lo hi = S (cutT a lo hi) := by
  unfold cutS cutT
  have e : (S a).length = a.length := SX.S_len a
  rw [e]
section
variable {G : Gx} {F0 H0 : Hp} {ρ : Ro} {μ : Mu} {R : RE}
theorem wE_sliceToS {te t : TE} (h : wE G F0 H0 te ρ μ fun u μ1 => wE G F0 H0 t ρ μ1 fun w μ2 => ∃ a i, u = .d (sd a) ∧ w = .d (.int i) ∧ a.length ≤ 10000000 ∧ R (.d (sd (cutT a none (some i)))) μ2) : wE G F0 H0 (tSl rSlS te tNoPart (tPart t)) ρ μ R := fun F H as σ Q e q => by
  refine h F H as σ _ e fun u μ1 v1 F1 H1 as1 h1 e1 s1 g1 r1 => ?_
  refine h1 F1 H1 as1 σ _ e1 fun w μ2 v2 F2 H2 as2 h2 e2 s2 g2 r2 => ?_
  obtain ⟨a, i, rfl, rfl, hl, k⟩ := h2
  cases r2
  cases r1
  refine ⟨i, rfl, S a, rfl, by rw [sizeLine_eq]; show a.toArray.size ≤ _; rw [List.size_toArray]; omega, ?_⟩
  rw [cutS_S]
  exact q _ _ _ _ _ _ k e2 (s1.trans s2) (g1.trans g2) (Rp.str _)
theorem wE_sliceFromS {te t : TE} (h : wE G F0 H0 te ρ μ fun u μ1 => wE G F0 H0 t ρ μ1 fun w μ2 => ∃ a i, u = .d (sd a) ∧ w = .d (.int i) ∧ a.length ≤ 10000000 ∧ R (.d (sd (cutT a (some i) none))) μ2) : wE G F0 H0 (tSl rSlS te (tPart t) tNoPart) ρ μ R := fun F H as σ Q e q => by
  refine h F H as σ _ e fun u μ1 v1 F1 H1 as1 h1 e1 s1 g1 r1 => ?_
  refine h1 F1 H1 as1 σ _ e1 fun w μ2 v2 F2 H2 as2 h2 e2 s2 g2 r2 => ?_
  obtain ⟨a, i, rfl, rfl, hl, k⟩ := h2
  cases r2
  cases r1
  refine ⟨i, rfl, S a, rfl, by rw [sizeLine_eq]; show a.toArray.size ≤ _; rw [List.size_toArray]; omega, ?_⟩
  rw [cutS_S]
  exact q _ _ _ _ _ _ k e2 (s1.trans s2) (g1.trans g2) (Rp.str _)
theorem mul_S {c n : Nat} (h : 1 < n) : Txt.mul (S [c]) (n : Int) = S (List.replicate n c) := by
  unfold Txt.mul
  rw [if_neg (by omega), if_neg (by have l1 : (S [c]).length = 1 := SX.S_len [c]; rw [l1]; simp; omega)]
  show (⟨(List.replicate (n : Int).toNat #[c]).foldl (· ++ ·) #[]⟩ : Str) = S _
  rw [Int.toNat_natCast]
  have go : ∀ (n : Nat) (acc : Array Nat), (List.replicate n #[c]).foldl (· ++ ·) acc = acc ++ (List.replicate n c).toArray := by
    intro n
    induction n with
    | zero => intro acc; simp
    | succ n ih =>
      intro acc
      rw [List.replicate_succ, List.foldl_cons, ih, List.replicate_succ]
      apply Array.ext'
      simp
  rw [go]
  simp
theorem w2_mulS {c n : Nat} (h1 : 1 < n) (h2 : n ≤ 1000000) (k : R (.d (sd (List.replicate n c))) μ) : w2 G F0 H0 rMulS (.d (sd [c])) (.d (.int n)) ρ μ R := fun F H as σ v1 v2 Q e r1 r2 q => by
  cases r1
  cases r2
  refine ⟨S [c], n, rfl, rfl, ?_, ?_⟩
  · have l1 : (S [c]).length = 1 := SX.S_len [c]
    refine ⟨by simp; omega, fun _ _ => ?_, fun _ _ => ?_⟩
    · rw [l1]
      have : (1 : Int) ≤ (2 ^ 63 - 1) / (n : Int) := by rw [Int.le_ediv_iff_mul_le (by omega)]; omega
      omega
    · rw [l1, Nat.one_mul, Int.toNat_natCast]
      exact decide_eq_false (by rw [sizeLine_eq]; omega)
  · rw [mul_S h1]
    exact q _ _ _ _ _ _ k e (.refl _) .refl (Rp.str _)
end
section
variable {μ : Mu} {R : RE} {H0 : Hp} {X : Ex} {E : XK}
theorem ca_lnum {a : List Nat} (hl : a.length ≤ 5000000) (hc : Cps a) (k : R (.d (numO (numR a))) μ) : Call [.d (sd a)] c__law_number R μ H0 X E := ⟨a, .cons (.d _) .nil, ⟨hl, hc⟩, k⟩
theorem ca_lfrac {a : List Nat} (hl : a.length ≤ 5000000) (hc : Cps a) (k : R (.d (encO (fracT a))) μ) : Call [.d (sd a)] c__law_fraction_of R μ H0 X E := ⟨a, .cons (.d _) .nil, ⟨hl, hc⟩, k⟩
end
theorem bt_ValueError : bootBuiltins "ValueError" = some (.type "ValueError") := by decide +kernel
theorem bt_set : bootBuiltins "set" = some (.type "set") := by decide +kernel
end L3
namespace L3
open PySem PySem.Spec PyProof.Rows L2
theorem stepsT_none : ∀ {ws : List (List Nat)} {w : List Nat}, w ∈ ws → stepT w = none → stepsT ws = none
  | w' :: ws, w, h, e => by
    unfold stepsT
    rcases List.mem_cons.mp h with rfl | h
    · rw [e]
    · rw [stepsT_none h e]
      cases stepT w' <;> rfl
theorem stepsT_snoc : ∀ {ws : List (List Nat)} {w : List Nat} {l : Steps} {s : Rat × Int}, stepsT ws = some l → stepT w = some s → stepsT (ws ++ [w]) = some (l ++ [s])
  | [], w, l, s, h, e => by
    cases h
    show (match stepT w, stepsT [] with | some s, some p => some (s :: p) | _, _ => none) = _
    rw [e]
    rfl
  | w' :: ws, w, l, s, h, e => by
    unfold stepsT at h
    split at h
    · rename_i s' q h1 h2
      cases h
      show (match stepT w', stepsT (ws ++ [w]) with | some s, some p => some (s :: p) | _, _ => none) = _
      rw [h1, stepsT_snoc h2 e]
      rfl
    · cases h
theorem spansT_none : ∀ {ws : List (List Nat)} {w : List Nat}, w ∈ ws → spanT w = none → spansT ws = none
  | w' :: ws, w, h, e => by
    unfold spansT
    rcases List.mem_cons.mp h with rfl | h
    · rw [e]
    · rw [spansT_none h e]
      cases spanT w' <;> rfl
theorem spansT_snoc : ∀ {ws : List (List Nat)} {w : List Nat} {l : Piece} {s : Rat × Rat}, spansT ws = some l → spanT w = some s → spansT (ws ++ [w]) = some (l ++ [s])
  | [], w, l, s, h, e => by
    cases h
    show (match spanT w, spansT [] with | some s, some p => some (s :: p) | _, _ => none) = _
    rw [e]
    rfl
  | w' :: ws, w, l, s, h, e => by
    unfold spansT at h
    split at h
    · rename_i s' q h1 h2
      cases h
      show (match spanT w', spansT (ws ++ [w]) with | some s, some p => some (s :: p) | _, _ => none) = _
      rw [h1, spansT_snoc h2 e]
      rfl
    · cases h
theorem stepsT_len {ws : List (List Nat)} {l : Steps} (h : stepsT ws = some l) : l.length = ws.length := by
  induction ws generalizing l with
  | nil => cases h; rfl
  | cons w ws ih =>
    unfold stepsT at h
    split at h
    · rename_i s q h1 h2
      cases h
      simp [ih h2]
    · cases h
theorem spansT_len {ws : List (List Nat)} {l : Piece} (h : spansT ws = some l) : l.length = ws.length := (spansT_at h).1.symm
theorem take_snoc {α : Type} {l : List α} {i : Nat} {x : α} (h : l[i]? = some x) : l.take (i + 1) = l.take i ++ [x] := by rw [List.take_add_one, h]; rfl
theorem okT_steps {l : Steps} (h : ∀ s ∈ l, Sz s.1) (hl : l.length ≤ 900000) : okT (.lst (encSt l)) := ⟨rfl, fun ds e => by
  injection e with e
  subst e
  refine ⟨by rw [show (encSt l).length = l.length from List.length_map _]; exact hl, fun x hx => ?_⟩
  obtain ⟨s, hs, rfl⟩ := List.mem_map.mp hx
  exact okS_enc (h s hs)⟩
end L3
namespace L3
theorem spansT_szs {ws : List (List Nat)} {l : Piece} (h : spansT ws = some l) : Szs l := fun s hs => by
  obtain ⟨hl, hat⟩ := spansT_at h
  obtain ⟨i, hi, rfl⟩ := List.getElem_of_mem hs
  obtain ⟨s', h1, h2⟩ := hat i _ (List.getElem?_eq_getElem (by omega))
  rw [List.getElem?_eq_getElem hi] at h1
  cases h1
  exact spanT_sz h2
end L3
namespace L3
open PySem PySem.Spec PyProof.Rows L2
theorem arg2 (x d : D) : ∃ (u : U) (μ0 : Mu), slotsFrom 0 [.d x, argOf d] = [some (.d x), some u] ∧ cellsOf [.d x, argOf d] = μ0 ∧ ArgOf μ0 u (argOf d) := by
  rcases lst_or d with ⟨ds, rfl⟩ | ho
  · exact ⟨.p 0, [.ro ds], rfl, rfl, .l (isL_ro rfl)⟩
  · rw [ho]
    exact ⟨.d d, [], rfl, rfl, .d d⟩
theorem val_lt {a : List Nat} (hd : digs a = true) (hl : a.length ≤ 300) : NumText.digitsVal a < 2 ^ 1900 := by
  have := digitsVal_lt a hd
  have l : 10 ^ a.length ≤ 10 ^ 300 := Nat.pow_le_pow_right (by decide) hl
  have h2 : (10 : Nat) ^ 300 < 2 ^ 1000 := by decide +kernel
  have h3 : (2 : Nat) ^ 1000 ≤ 2 ^ 1900 := Nat.pow_le_pow_right (by decide) (by decide)
  omega
theorem num_cps (n : Nat) : Cps (TL.numL n) := fun c hc => by have := TL.numL_digits n c hc; omega
end L3
namespace L3
open PySem PySem.Spec PyProof.Rows L2
theorem endRT_app : ∀ {l : Steps} {b : Rat} {s : Rat × Int}, endRT b (l ++ [s]) = s.1
  | [], _, _ => rfl
  | t :: l, b, s => endRT_app (l := l) (b := t.1) (s := s)
theorem lawGo_snoc : ∀ {ws : List (List Nat)} {w : List Nat} {b : Rat} {l : Steps}, lawGo b ws = some l → lawGo b (ws ++ [w]) = (match stepT w with | some s => if StepOk s ∧ endRT b l < s.1 then some (l ++ [s]) else none | none => none)
  | [], w, b, l, h => by
    cases h
    show (match stepT w with | some s => if StepOk s ∧ b < s.1 then (lawGo s.1 []).map (s :: ·) else none | none => none) = _
    cases stepT w with
    | none => rfl
    | some s => rfl
  | w' :: ws, w, b, l, h => by
    unfold lawGo at h
    cases hw : stepT w' with
    | none => rw [hw] at h; cases h
    | some s' =>
      rw [hw] at h
      dsimp only at h
      split at h
      · rename_i c
        cases hr : lawGo s'.1 ws with
        | none => rw [hr] at h; cases h
        | some r =>
          rw [hr] at h
          have : s' :: r = l := Option.some.inj h
          subst this
          show (match stepT w' with | some s => if StepOk s ∧ b < s.1 then (lawGo s.1 (ws ++ [w])).map (s :: ·) else none | none => none) = _
          rw [hw]
          dsimp only
          rw [if_pos c, lawGo_snoc hr]
          show _ = (match stepT w with | some s => if StepOk s ∧ endRT s'.1 r < s.1 then some (s' :: r ++ [s]) else none | none => none)
          cases stepT w with
          | none => rfl
          | some s =>
            dsimp only
            split <;> rfl
      · cases h
theorem lawGo_pre : ∀ {ws vs : List (List Nat)} {b : Rat} {l : Steps}, lawGo b (ws ++ vs) = some l → ∃ l', lawGo b ws = some l'
  | [], _, _, _, _ => ⟨[], rfl⟩
  | w :: ws, vs, b, l, h => by
    replace h : (match stepT w with | some s => if StepOk s ∧ b < s.1 then (lawGo s.1 (ws ++ vs)).map (s :: ·) else none | none => none) = some l := h
    show ∃ l', (match stepT w with | some s => if StepOk s ∧ b < s.1 then (lawGo s.1 ws).map (s :: ·) else none | none => none) = some l'
    cases hw : stepT w with
    | none => rw [hw] at h; cases h
    | some s =>
      rw [hw] at h
      dsimp only at h ⊢
      split at h
      · rename_i c
        cases hr : lawGo s.1 (ws ++ vs) with
        | none => rw [hr] at h; cases h
        | some r =>
          obtain ⟨r', e⟩ := lawGo_pre hr
          rw [if_pos c, e]
          exact ⟨_, rfl⟩
      · cases h
theorem lawGo_none {ws : List (List Nat)} {b : Rat} {i : Nat} (h : lawGo b (ws.take i) = none) : lawGo b ws = none := by
  cases hs : lawGo b ws with
  | none => rfl
  | some l =>
    rw [← List.take_append_drop i ws] at hs
    obtain ⟨l', e⟩ := lawGo_pre hs
    rw [h] at e
    cases e
theorem lawGo_len {ws : List (List Nat)} {b : Rat} {l : Steps} (h : lawGo b ws = some l) : l.length = ws.length := stepsT_len (lawGo_iff.mp h).1
theorem lawGo_nn {ws : List (List Nat)} {b : Rat} {l : Steps} (h : lawGo b ws = some l) (hb : 0 ≤ b ∧ Sz b) : 0 ≤ endRT b l ∧ Sz (endRT b l) := by
  have nn := stepsT_nn (lawGo_iff.mp h).1
  rcases List.eq_nil_or_concat l with rfl | ⟨l', s, rfl⟩
  · exact hb
  · rw [List.concat_eq_append] at *
    rw [endRT_app]
    exact nn s (by simp)
/-! the same for pieces -/
def lastP : Option Rat → Piece → Option Rat
  | b, [] => b
  | _, s :: r => lastP (some s.2) r
theorem lastP_app : ∀ {l : Piece} {b : Option Rat} {s : Rat × Rat}, lastP b (l ++ [s]) = some s.2
  | [], _, _ => rfl
  | t :: l, b, s => lastP_app (l := l) (b := some t.2) (s := s)
theorem lawGoP_snoc : ∀ {ws : List (List Nat)} {w : List Nat} {b : Option Rat} {l : Piece}, lawGoP b ws = some l → lawGoP b (ws ++ [w]) = (match spanT w with | some s => if SpanOk s ∧ Behind (lastP b l) s then some (l ++ [s]) else none | none => none)
  | [], w, b, l, h => by
    cases h
    show (match spanT w with | some s => if SpanOk s ∧ Behind b s then (lawGoP (some s.2) []).map (s :: ·) else none | none => none) = _
    cases spanT w with
    | none => rfl
    | some s => rfl
  | w' :: ws, w, b, l, h => by
    unfold lawGoP at h
    cases hw : spanT w' with
    | none => rw [hw] at h; cases h
    | some s' =>
      rw [hw] at h
      dsimp only at h
      split at h
      · rename_i c
        cases hr : lawGoP (some s'.2) ws with
        | none => rw [hr] at h; cases h
        | some r =>
          rw [hr] at h
          have : s' :: r = l := Option.some.inj h
          subst this
          show (match spanT w' with | some s => if SpanOk s ∧ Behind b s then (lawGoP (some s.2) (ws ++ [w])).map (s :: ·) else none | none => none) = _
          rw [hw]
          dsimp only
          rw [if_pos c, lawGoP_snoc hr]
          show _ = (match spanT w with | some s => if SpanOk s ∧ Behind (lastP (some s'.2) r) s then some (s' :: r ++ [s]) else none | none => none)
          cases spanT w with
          | none => rfl
          | some s =>
            dsimp only
            split <;> rfl
      · cases h
theorem lawGoP_pre : ∀ {ws vs : List (List Nat)} {b : Option Rat} {l : Piece}, lawGoP b (ws ++ vs) = some l → ∃ l', lawGoP b ws = some l'
  | [], _, _, _, _ => ⟨[], rfl⟩
  | w :: ws, vs, b, l, h => by
    replace h : (match spanT w with | some s => if SpanOk s ∧ Behind b s then (lawGoP (some s.2) (ws ++ vs)).map (s :: ·) else none | none => none) = some l := h
    show ∃ l', (match spanT w with | some s => if SpanOk s ∧ Behind b s then (lawGoP (some s.2) ws).map (s :: ·) else none | none => none) = some l'
    cases hw : spanT w with
    | none => rw [hw] at h; cases h
    | some s =>
      rw [hw] at h
      dsimp only at h ⊢
      split at h
      · rename_i c
        cases hr : lawGoP (some s.2) (ws ++ vs) with
        | none => rw [hr] at h; cases h
        | some r =>
          obtain ⟨r', e⟩ := lawGoP_pre hr
          rw [if_pos c, e]
          exact ⟨_, rfl⟩
      · cases h
theorem lawGoP_none {ws : List (List Nat)} {b : Option Rat} {i : Nat} (h : lawGoP b (ws.take i) = none) : lawGoP b ws = none := by
  cases hs : lawGoP b ws with
  | none => rfl
  | some l =>
    rw [← List.take_append_drop i ws] at hs
    obtain ⟨l', e⟩ := lawGoP_pre hs
    rw [h] at e
    cases e
theorem lawGoP_len {ws : List (List Nat)} {b : Option Rat} {l : Piece} (h : lawGoP b ws = some l) : l.length = ws.length := spansT_len (lawGoP_iff.mp h).1
theorem lawGoP_last {ws : List (List Nat)} {l : Piece} (h : lawGoP none ws = some l) : ∀ x, lastP none l = some x → 0 ≤ x ∧ Sz x := by
  have nn := spansT_nn (lawGoP_iff.mp h).1
  have sz := spansT_szs (lawGoP_iff.mp h).1
  rcases List.eq_nil_or_concat l with rfl | ⟨l', s, rfl⟩
  · intro x e; cases e
  · intro x e
    rw [List.concat_eq_append] at *
    rw [lastP_app] at e
    cases e
    exact ⟨(nn s (by simp)).2, (sz s (by simp)).2⟩
end L3
namespace L3
theorem sz_0' : Sz 0 := szM (D := 1) (by decide) (Nat.one_lt_two_pow (by decide)) Gr.zero (by grind) (by grind)
end L3
namespace L3
theorem sz_1' : Sz 1 := szM (D := 1) (by decide) (Nat.one_lt_two_pow (by decide)) (Gr.one _) (by grind) (by grind)
end L3
namespace L3
open PySem PySem.Spec PyProof.Rows L2
section
variable {G : Gx} {F0 H0 : Hp} {ρ : Ro} {μ : Mu} {R : RE}
theorem wE_lcR2 {ta : TA} {g : TG} {tt : TT} {te : TE} {vs : List Nat} (hw : Within g vs) (h : wA G F0 H0 ta ρ μ fun us μ1 => ∃ i j : Int, us = [.d (.int i), .d (.int j)] ∧ (-(2 ^ 62) ≤ i ∧ i < 2 ^ 62 ∧ -(2 ^ 62) ≤ j ∧ j < 2 ^ 62) ∧ ∃ I : Nat → Mu → Prop, I 0 (μ1 ++ [.rw []]) ∧
      (∀ n μ', n < (j - i).toNat → I n μ' → wG G F0 H0 g (.d (.int (i + n))) (wipeR ρ vs) μ' fun ρ2 μ2 => LcTurn G F0 H0 tt te μ1.length ρ2 (I n) (I (n + 1)) μ2) ∧ ∀ μ', I (j - i).toNat μ' → R (.p μ1.length) μ') :
    wE G F0 H0 (tLc (iRng2 ta) g tt te vs) ρ μ R := fun F H as σ Q e q => by
  refine h F H as σ _ e fun us μ1 v F1 H1 as1 h1 e1 s1 g1 r1 => ?_
  obtain ⟨i, j, rfl, b1, I, i0, is, ie⟩ := h1
  obtain ⟨v, w, rfl, r8, r9⟩ := p2 r1
  cases (show Rp G F1 v (.int i) from r8)
  cases (show Rp G F1 w (.int j) from r9)
  refine ⟨i, j, rfl, b1, lc_any (nn := (j - i).toNat) (itd := fun n d => d = .int (i + n)) hw e1 (q.on s1 g1) I (fun n F2 H2 as2 μ2 e2 s2 g2 i2 => ⟨fun hi => ⟨hi, fun x H' y => ?_⟩, fun hi => Nat.le_of_eq hi.symm⟩) i0 (fun n d μ' hi hd hI => by subst hd; exact is n μ' hi hI) ie⟩
  obtain ⟨rfl, rfl⟩ := y
  exact ⟨rfl, _, rfl, Rp.int _⟩
end
theorem fewOk_of {ts : List (List Nat)} (h : (decide (ts.length ≤ 100) && ts.all fun t => decide (t.length ≤ 200001) && t.all fun c => decide (c < 1114112)) = true) : FewOk ts := by
  rw [Bool.and_eq_true, List.all_eq_true] at h
  refine ⟨of_decide_eq_true h.1, fun t ht => ?_⟩
  have := h.2 t ht
  rw [Bool.and_eq_true, List.all_eq_true] at this
  exact ⟨of_decide_eq_true this.1, fun c hc => of_decide_eq_true (this.2 c hc)⟩
theorem FewOk.app {a b : List (List Nat)} (h : FewOk a) (h' : FewOk b) (hl : a.length + b.length ≤ 100) : FewOk (a ++ b) := ⟨by simpa using hl, fun t ht => (List.mem_append.mp ht).elim (h.2 t) (h'.2 t)⟩
theorem cps_rep (n : Nat) {c : Nat} (h : c < 1114112) : Cps (List.replicate n c) := fun x hx => by rw [List.eq_of_mem_replicate hx]; exact h
theorem cps_app {a b : List Nat} (h : Cps a) (h' : Cps b) : Cps (a ++ b) := fun x hx => (List.mem_append.mp hx).elim (h x) (h' x)
/-- the words of the law's long texts -/
def wordK (k : Nat) : List Nat := [49, 64] ++ TL.numL k ++ [47, 49, 49]
theorem wordK_ok (k : Nat) (h : k < 10) : (wordK k).length ≤ 6 ∧ Cps (wordK k) := by
  unfold wordK
  rw [TL.numL_lt h]
  exact ⟨by simp, fun c hc => by simp at hc; omega⟩
theorem joinL_cps : ∀ {l : List (List Nat)}, (∀ x ∈ l, Cps x) → Cps (TL.joinL [32] l) := fun {l} h c hc => by
  rcases joinL_mem hc with e | ⟨x, hx, hc⟩
  · omega
  · exact h x hx c hc
end L3
namespace L3
theorem grid1_sm {p : Piece} (hp : IsPiece p) (h : Grid1 p) : SmP p := fun s hs => by
  obtain ⟨D, d0, d1, g⟩ := h
  have z := hp.1 s hs
  have y := g s hs
  have l : D < 2 ^ 900 := Nat.lt_of_le_of_lt d1 (Nat.lt_of_lt_of_le (by decide : 1000 < 2 ^ 10) (Nat.pow_le_pow_right (by decide) (by decide)))
  exact ⟨den_sm z.1 (by grind) (Nat.lt_of_le_of_lt (y.1.den_le d0) l), den_sm (by grind) z.2.2 (Nat.lt_of_le_of_lt (y.2.den_le d0) l)⟩
end L3
namespace L3
theorem txP_len8 {p : Piece} (z : SmP p) (hl : p.length ≤ 8) : (txP p).length ≤ 10000 := by
  have a := joinL_len (p.map txS)
  have := sumT_le (l := p.map txS) (k := 1203) fun x hx => by obtain ⟨s, hs, rfl⟩ := List.mem_map.mp hx; exact txS_len (z s hs).1 (z s hs).2
  rw [List.length_map] at *
  have : p.length * 1203 ≤ 8 * 1203 := Nat.mul_le_mul_right _ hl
  show (TL.joinL [32] (p.map txS)).length ≤ _
  omega
end L3

set_option Elab.async false
set_option linter.all false
set_option maxRecDepth 100000
set_option maxHeartbeats 4000000
/-! printed by emit.py -/
namespace L3
open PySem PySem.Spec PyProof.Rows L2
local macro_rules | `(tactic| walk_at "v") => `(tactic| (with_reducible (refine' wE_var ?h9 ?k9)); (case h9 => exact rfl))
local macro_rules | `(tactic| walk_at "m") => `(tactic| first
  | exact wm_nd (by assumption) (by assumption) | exact wm_dd (by assumption) (by assumption) | exact wm_nn (by assumption) (by assumption) | exact wm_dn (by assumption) (by assumption) | assumption | (refine (?_ : (0:Int) < _); first | decide | omega) | exact .inl ⟨by decide, by decide⟩ | exact .inr ⟨by decide, by decide⟩ | exact ⟨by decide, by decide⟩ | exact ⟨by decide, by decide, by decide⟩ | exact ⟨by omega, by omega⟩)
local macro_rules | `(tactic| walk_at "e") => `(tactic| first
  | walk_at "v"
  | (with_reducible first
    | refine wE_op ?_ | refine wE_int ?_ | refine wE_ct ?_ | refine wE_tup ?_ | refine wE_lst ?_
    | refine wE_isOwn (by assumption) ?_ | refine wE_isInt ?_ | refine wE_isBool ?_ | refine wE_isTup ?_ | refine wE_isLst ?_ | refine wE_isStr ?_ | refine wE_cb ?_
    | refine wE_cst (by assumption) ?_ | refine wE_bl ?_ | refine wE_and ?_ | refine wE_or ?_ | refine wE_not ?_ | refine wE_str ?_ | refine wE_non ?_ | refine wE_un ?_ | refine wE_chain ?_ | refine wE_ifE ?_ | refine wE_append ?_ | refine wE_clear ?_ | refine wE_remD ?_ | refine wE_mk0 rfl ?_ | refine wE_rev ?_ | refine wE_m ?_ | refine wE_insert ?_ | refine wE_count ?_ | refine wE_mk init_or ?_ | refine wE_cr ?_))
local macro_rules | `(tactic| walk_at "s") => `(tactic| with_reducible first
    | refine wS_asg ?_ | refine wS_if ?_ | refine wS_ret ?_ | refine wS_par ?_ | refine wS_next ?_ | refine wS_drop ?_ | refine wS_retN ?_ | refine wS_brk ?_ | refine wS_cont ?_ | refine wS_aug ?_)
local macro_rules | `(tactic| walk_at "q1") => `(tactic| first
  | ((with_reducible (show wE _ _ _ _ _ _ _)); walk_at "e")
  | ((with_reducible (show wS _ _ _ _ _ _ _)); walk_at "s")
  | ((with_reducible (show w2 _ _ _ _ _ _ _ _ _)); with_reducible first
      | refine w2_f0 ?_ | refine w2_f1 ?_ | refine w2_s0 ?_ | refine w2_s1 ?_ | refine w2_eqI ?_ | refine w2_neI ?_ | refine w2_eqF ?_ | refine w2_neF ?_ | refine w2_eqB ?_ | refine w2_neB ?_ | refine w2_I0 ?_ | refine w2_B0 ?_)
  | ((with_reducible (refine w2_I ?c9 ?_)); (case c9 => walk_at "m"))
  | (with_reducible first
    | refine wA_cons ?_ | refine wA_nil ?_ | refine wG_name ?_ | refine wT_test ?_ | refine wT_b ?_ | refine wT_not ?_ | refine wT_or ?_ | refine wT_and ?_ | refine wT_yes ?_ | refine wG_sub ?_ | refine wG_row ?_ | refine wG_span ?_ | refine wG_step ?_ | refine wG_tup rfl ?_ | refine wGs_cons ?_ | refine wGs_nil ?_)
  | ((with_reducible (show ite _ _ _)); first | refine iteT ?_ | refine iteF ?_)
  | ((with_reducible (show Ends' _ _ _ _ _ _)); refine end_d ?_))
local macro_rules | `(tactic| walk_at "b") => `(tactic| (refine ⟨_, rfl, ?_⟩))
local macro_rules | `(tactic| walk_at "q") => `(tactic| repeat (first | walk_at "q1" | walk_at "b"))
local macro_rules | `(tactic| walk_at "r") => `(tactic| repeat (first | (with_reducible refine wS_seq ?_) | walk_at "q1" | walk_at "b"))
local macro_rules | `(tactic| walk_at "c1") => `(tactic| refine ⟨_, .cons (.d _) .nil, ?_, ?_⟩)
local macro_rules | `(tactic| walk_at "c2") => `(tactic| refine ⟨(_, _), .cons (.d _) (.cons (.d _) .nil), ?_, ?_⟩)
local macro_rules | `(tactic| walk_at "c3") => `(tactic| refine ⟨(_, _, _), .cons (.d _) (.cons (.d _) (.cons (.d _) .nil)), ?_, ?_⟩)
local macro_rules | `(tactic| walk_at "cell") => `(tactic| (refine ca_cell (isL_ro rfl) (by decide) ?_; walk_at "r"))
local macro_rules | `(tactic| walk_at "tm") => `(tactic| ((refine wE_tm ?h7 ?_); (case h7 => decide +kernel); walk_at "r"))

local macro_rules | `(tactic| walk_at "hd") => `(tactic| (set_option pp.deepTerms false in set_option pp.deepTerms.threshold 4 in trace_state))
def topS (i : Nat) : Stmt := PySem.Challenge.pw_fairknife_k14_written.main.body.getD i (.Pass ⟨0, 0, 0, 0⟩)
section
variable {P : Program} {w : World} {mg : Str → Option Value} {base : Heap} {G : Gx} {X : Ex}
abbrev s_is_whole : Stmt := topS 12
theorem sc_is_whole : FnScope ["number"] ["number"] (defScope s_is_whole) := ⟨rfl, rfl, rfl, by decide +kernel, rfl, by decide +kernel, by decide +kernel⟩
local macro_rules | `(tactic| walk_at "st") => `(tactic| simp only [c_is_whole, L2.cxOf, slotsFrom, cellsOf, argOf, List.length_cons, List.length_nil, List.replicate, List.cons_append, List.nil_append, List.map_cons, List.map_nil, Nat.reduceAdd, Nat.reduceSub, Nat.zero_add, Nat.sub_self] at *)
theorem fn_is_whole {f : Addr} {fd : FuncData} (F : Fun G.K "is_whole" "is_whole" s_is_whole f fd) (z_isinstance : mg "isinstance" = none) (z_bool : mg "bool" = none) (z_int : mg "int" = none) : FnOk P w G.K mg base (L2N.CX P w) 1 f fd ["number"] (spC G X c_is_whole) := by
  refine okXN F sc_is_whole (fun vs H Q E h => spC_len (fun _ => rfl) h) (fun cdv A outer s H vs Q E hr hsp => ?_)
  refine ⟨_, (pss_one (ps_ret (pe_and (pe_callB (kIsi (K := G.K) rfl) (by rfl) z_isinstance bt_isinstance (pa_cons (pv 0) (pa_cons (pe_bltn (v := .ty "int") (by rfl) z_int bt_int rfl) pa_nil))) (pe_one (pe_not (pe_callB (kIsi (K := G.K) rfl) (by rfl) z_isinstance bt_isinstance (pa_cons (pv 0) (pa_cons (pe_bltn (v := .ty "bool") (by rfl) z_bool bt_bool rfl) pa_nil)))))))), body_ct hsp (fun _ => by simp [c_is_whole]) (fun a F0 hp hE => ?_)⟩
  cases a with
  | ob n ds => cases hp
  | raw x => cases hp
  | fn x => cases hp
  | _ =>
    walk_at "st"
    clear hsp hE hp
    walk_at "r"
    exact .d _
theorem ok_is_whole (T : Top G.K mg "is_whole" s_is_whole ["number"]) (z_isinstance : mg "isinstance" = none) (z_bool : mg "bool" = none) (z_int : mg "int" = none) : Def P w G.K mg base "is_whole" 1 ["number"] (spC G X c_is_whole) := def_of T fun f fd F => fn_is_whole F z_isinstance z_bool z_int
abbrev s_lowest : Stmt := topS 13
theorem sc_lowest : FnScope ["a", "b", "one", "other"] ["a", "b"] (defScope s_lowest) := ⟨rfl, rfl, rfl, by decide +kernel, rfl, by decide +kernel, by decide +kernel⟩
local macro_rules | `(tactic| walk_at "st") => `(tactic| simp only [c_lowest, L2.cxOf, slotsFrom, cellsOf, argOf, List.length_cons, List.length_nil, List.replicate, List.cons_append, List.nil_append, List.map_cons, List.map_nil, Nat.reduceAdd, Nat.reduceSub, Nat.zero_add, Nat.sub_self] at *)
theorem fn_lowest {f : Addr} {fd : FuncData} (F : Fun G.K "lowest" "lowest" s_lowest f fd) : FnOk P w G.K mg base (L2N.CX P w) 1 f fd ["a", "b"] (spC G X c_lowest) := by
  refine okXN F sc_lowest (fun vs H Q E h => spC_len (fun _ => rfl) h) (fun cdv A outer s H vs Q E hr hsp => ?_)
  refine ⟨_, (pss_cons (ps_set (i := 2) sc_lowest.nd rfl (Or.inl rfl) (pv 0))
    (pss_cons (ps_set (i := 3) sc_lowest.nd rfl (Or.inl rfl) (pv 1))
    (pss_cons (ps_while (passes_of rfl) (pt_cmpR op_gt (pv 3) pe_int (nomark _)) (pss_one (ps_par (i := 2) (j := 3) rfl sc_lowest.nd rfl rfl (by decide) rfl rfl (pa_cons (pv 3) (pa_cons (pe_op op_mod (pv 2) (pv 3)) pa_nil)) (by rfl))))
    (pss_one (ps_ret (pe_tup (pa_cons (pe_op op_fdivW (pv 0) (pv 2)) (pa_cons (pe_op op_fdivW (pv 1) (pv 2)) pa_nil)))))))), body_ct hsp (fun _ => by simp [c_lowest]) (fun a F0 hp hE => ?_)⟩
  obtain ⟨x, y⟩ := a
  obtain ⟨h0, hd⟩ := hp
  walk_at "st"
  clear hsp hE
  walk_at "r"
  have hy : 0 < y := hd.1
  refine wS_while (fun ρ' μ' => ∃ o t : Int, ρ' = [some (.d (.int x)), some (.d (.int y)), some (.d (.int o)), some (.d (.int t))] ∧ μ' = [] ∧ 0 ≤ o ∧ 0 ≤ t ∧ Int.gcd o t = Int.gcd x y) (fun ρ' _ => (getI ρ' 3).toNat) ⟨x, y, rfl, rfl, h0, by omega, rfl⟩ ?_
  rintro ρ' μ' ⟨o, t, rfl, rfl, ho, ht, hg⟩
  walk_at "r"
  refine ite2 (fun c => ?_) (fun c => ?_)
  · have c' : 0 < t := of_decide_eq_true c
    walk_at "r"
    refine ⟨_, _, rfl, ⟨t, o % t, rfl, rfl, ht, Int.emod_nonneg _ (by omega), (gcd_step ho c').trans hg⟩, ?_⟩
    show (o % t).toNat < t.toNat
    have := Int.emod_lt_of_pos o c'
    omega
  · have c' : t = 0 := by
      have : ¬ 0 < t := fun z => c (decide_eq_true z)
      omega
    subst c'
    have eo : o = (Int.gcd x y : Int) := by rw [← hg, Int.gcd_zero_right]; omega
    walk_at "r"
    refine w2_I (eo ▸ gcd_dz hd) ?_
    walk_at "r"
    refine w2_I (eo ▸ gcd_dz' hd) ?_
    walk_at "r"
    refine ⟨[.int (x / o), .int (y / o)], rfl, by simp, ret_d ?_⟩
    rw [eo, low_num hy, low_den hy]
    rfl
theorem ok_lowest (T : Top G.K mg "lowest" s_lowest ["a", "b"]) : Def P w G.K mg base "lowest" 1 ["a", "b"] (spC G X c_lowest) := def_of T fun f fd F => fn_lowest F 
abbrev s_is_fraction : Stmt := topS 14
theorem sc_is_fraction : FnScope ["thing"] ["thing"] (defScope s_is_fraction) := ⟨rfl, rfl, rfl, by decide +kernel, rfl, by decide +kernel, by decide +kernel⟩
local macro_rules | `(tactic| walk_at "st") => `(tactic| simp only [c_is_fraction, L2.cxOf, slotsFrom, cellsOf, argOf, List.length_cons, List.length_nil, List.replicate, List.cons_append, List.nil_append, List.map_cons, List.map_nil, Nat.reduceAdd, Nat.reduceSub, Nat.zero_add, Nat.sub_self] at *)
theorem fn_is_fraction {f : Addr} {fd : FuncData} (F : Fun G.K "is_fraction" "is_fraction" s_is_fraction f fd) (D_is_whole : Def P w G.K mg base "is_whole" 1 ["number"] (spC G X c_is_whole)) (D_lowest : Def P w G.K mg base "lowest" 1 ["a", "b"] (spC G X c_lowest)) (z_len : mg "len" = none) (z_isinstance : mg "isinstance" = none) (z_tuple : mg "tuple" = none) : FnOk P w G.K mg base (L2N.CX P w) 2 f fd ["thing"] (spC G X c_is_fraction) := by
  obtain ⟨f_is_whole, d_is_whole, G_is_whole, m_is_whole, k_is_whole, b_is_whole⟩ := D_is_whole.ex
  obtain ⟨f_lowest, d_lowest, G_lowest, m_lowest, k_lowest, b_lowest⟩ := D_lowest.ex
  refine okXN F sc_is_fraction (fun vs H Q E h => spC_len (fun _ => rfl) h) (fun cdv A outer s H vs Q E hr hsp => ?_)
  refine ⟨_, (pss_cons (ps_if (PW.pt (pw_or (pt_not (pt_val (pe_callB (kIsi (K := G.K) rfl) (by rfl) z_isinstance bt_isinstance (pa_cons (pv 0) (pa_cons (pe_bltn (v := .ty "tuple") (by rfl) z_tuple bt_tuple rfl) pa_nil))))) (pw_or (pt_cmpR (kNe (K := G.K) rfl hr.units) (pe_callB (kLen (K := G.K) rfl) (by rfl) z_len bt_len (pa_cons (pv 0) pa_nil)) pe_int (nomark _)) (pw_or (pt_not (pt_val (pe_call G_is_whole (hr.mono (by decide)) (by rfl) m_is_whole k_is_whole b_is_whole .nil passLN (pa_cons (pe_ix (kIx (K := G.K) rfl) (pv 0) pe_int (fun _ _ => rfl)) pa_nil)))) (pw_or1 (pt_not (pt_val (pe_call G_is_whole (hr.mono (by decide)) (by rfl) m_is_whole k_is_whole b_is_whole .nil passLN (pa_cons (pe_ix (kIx (K := G.K) rfl) (pv 0) pe_int (fun _ _ => rfl)) pa_nil))))))))) (pss_one (ps_ret pe_bl)) pss_nil)
    (pss_one (ps_ret (pe_and (pe_cmpR op_ge (pe_ix (kIx (K := G.K) rfl) (pv 0) pe_int (fun _ _ => rfl)) pe_int (nomark _)) (pe_and (pe_cmpR op_gt (pe_ix (kIx (K := G.K) rfl) (pv 0) pe_int (fun _ _ => rfl)) pe_int (nomark _)) (pe_one (pe_cmpR (kEq (K := G.K) rfl hr.units) (pe_call G_lowest (hr.mono (by decide)) (by rfl) m_lowest k_lowest b_lowest .nil passLN (pa_cons (pe_ix (kIx (K := G.K) rfl) (pv 0) pe_int (fun _ _ => rfl)) (pa_cons (pe_ix (kIx (K := G.K) rfl) (pv 0) pe_int (fun _ _ => rfl)) pa_nil))) (pv 0) (nomark _)))))))), body_ct hsp (fun _ => by simp [c_is_fraction]) (fun a F0 hp hE => ?_)⟩
  have hp' := hp
  obtain ⟨hn, h2⟩ := hp
  rcases lst_or a with ⟨ds, rfl⟩ | ha
  · walk_at "st"
    clear hsp hE
    walk_at "r"
    exact .d _
  simp only [L2.cxOf, c_is_fraction, ha, slotsFrom, cellsOf, List.length_cons, List.length_nil, Nat.reduceAdd, Nat.reduceSub, List.replicate, List.cons_append, List.nil_append, List.append_nil]
  clear hsp hE
  cases a with
  | ob n ds => cases hn
  | raw x => cases hn
  | fn x => cases hn
  | tup ds =>
    walk_at "r"
    refine wC_lenT ?_
    walk_at "r"
    by_cases hl : ds.length = 2
    · obtain ⟨x, y, rfl⟩ := tup_len hl
      obtain ⟨nx, ny, hs⟩ := h2 x y rfl
      walk_at "r"
      refine w2_ix (.inr rfl) rfl ?_
      walk_at "r"
      refine ca_is_whole (arg_in x) nx ?_
      rcases whole_or x with ⟨i, rfl⟩ | hw
      · walk_at "r"
        refine w2_ix (.inr rfl) rfl ?_
        walk_at "r"
        refine ca_is_whole (arg_in y) ny ?_
        rcases whole_or y with ⟨j, rfl⟩ | hw
        · walk_at "r"
          refine w2_ix (.inr rfl) rfl ?_
          walk_at "r"
          rw [fracOf_ii]
          refine ite2 (fun c => ?_) (fun c => ?_)
          · have c' : 0 ≤ i := of_decide_eq_true c
            walk_at "r"
            refine w2_ix (.inr rfl) rfl ?_
            walk_at "r"
            refine ite2 (fun d => ?_) (fun d => ?_)
            · have d' : 0 < j := of_decide_eq_true d
              walk_at "r"
              refine w2_ix (.inr rfl) rfl ?_
              walk_at "r"
              refine w2_ix (.inr rfl) rfl ?_
              walk_at "r"
              refine ca_lowest c' ⟨d', ?_⟩ ?_
              · exact Nat.lt_of_lt_of_le (hs i j rfl rfl).2 (Nat.pow_le_pow_right (by decide) (by decide))
              walk_at "r"
              refine w2_eqD (.d _) (.d _) 1 1 (by decide) (by decide) rfl rfl ?_
              rw [eqD_low d']
              by_cases hg : Int.gcd i j = 1
              · rw [decide_eq_true hg, if_pos ⟨c', d', hg⟩]
                exact ⟨_, rfl, .d _⟩
              · rw [decide_eq_false hg, if_neg fun z => hg z.2.2]
                exact ⟨_, rfl, .d _⟩
            · have d' : ¬ 0 < j := fun z => d (decide_eq_true z)
              walk_at "r"
              rw [if_neg fun z => d' z.2.1]
              exact .d _
          · have c' : ¬ 0 ≤ i := fun z => c (decide_eq_true z)
            walk_at "r"
            rw [if_neg fun z => c' z.1]
            exact .d _
        · rw [hw, fracOf_w2 hw]
          walk_at "r"
          exact .d _
      · rw [hw, fracOf_w1 hw]
        walk_at "r"
        exact .d _
    · rw [fracOf_len hl]
      rw [decide_eq_false (by omega)]
      walk_at "r"
      exact .d _
  | _ =>
    walk_at "r"
    exact .d _
theorem ok_is_fraction (T : Top G.K mg "is_fraction" s_is_fraction ["thing"]) (D_is_whole : Def P w G.K mg base "is_whole" 1 ["number"] (spC G X c_is_whole)) (D_lowest : Def P w G.K mg base "lowest" 1 ["a", "b"] (spC G X c_lowest)) (z_len : mg "len" = none) (z_isinstance : mg "isinstance" = none) (z_tuple : mg "tuple" = none) : Def P w G.K mg base "is_fraction" 2 ["thing"] (spC G X c_is_fraction) := def_of T fun f fd F => fn_is_fraction F D_is_whole D_lowest z_len z_isinstance z_tuple
abbrev s_plus : Stmt := topS 15
theorem sc_plus : FnScope ["one", "other"] ["one", "other"] (defScope s_plus) := ⟨rfl, rfl, rfl, by decide +kernel, rfl, by decide +kernel, by decide +kernel⟩
local macro_rules | `(tactic| walk_at "st") => `(tactic| simp only [c_plus, L2.cxOf, slotsFrom, cellsOf, argOf, List.length_cons, List.length_nil, List.replicate, List.cons_append, List.nil_append, List.map_cons, List.map_nil, Nat.reduceAdd, Nat.reduceSub, Nat.zero_add, Nat.sub_self] at *)
theorem fn_plus {f : Addr} {fd : FuncData} (F : Fun G.K "plus" "plus" s_plus f fd) (D_lowest : Def P w G.K mg base "lowest" 1 ["a", "b"] (spC G X c_lowest)) : FnOk P w G.K mg base (L2N.CX P w) 2 f fd ["one", "other"] (spC G X c_plus) := by
  obtain ⟨f_lowest, d_lowest, G_lowest, m_lowest, k_lowest, b_lowest⟩ := D_lowest.ex
  refine okXN F sc_plus (fun vs H Q E h => spC_len (fun _ => rfl) h) (fun cdv A outer s H vs Q E hr hsp => ?_)
  refine ⟨_, (pss_one (ps_ret (pe_call G_lowest (hr.mono (by decide)) (by rfl) m_lowest k_lowest b_lowest .nil passLN (pa_cons (pe_op op_add (pe_op op_mulW (pe_ix (kIx (K := G.K) rfl) (pv 0) pe_int (fun _ _ => rfl)) (pe_ix (kIx (K := G.K) rfl) (pv 1) pe_int (fun _ _ => rfl))) (pe_op op_mulW (pe_ix (kIx (K := G.K) rfl) (pv 1) pe_int (fun _ _ => rfl)) (pe_ix (kIx (K := G.K) rfl) (pv 0) pe_int (fun _ _ => rfl)))) (pa_cons (pe_op op_mulW (pe_ix (kIx (K := G.K) rfl) (pv 0) pe_int (fun _ _ => rfl)) (pe_ix (kIx (K := G.K) rfl) (pv 1) pe_int (fun _ _ => rfl))) pa_nil))))), body_ct hsp (fun _ => by simp [c_plus]) (fun a F0 hp hE => ?_)⟩
  obtain ⟨q, r⟩ := a
  obtain ⟨h1, h2, s1, s2⟩ := hp
  walk_at "st"
  clear hsp hE
  walk_at "r"
  walk_at "c2"
  · exact ⟨plus_nn h1 h2, dz_mul s1 s2⟩
  · refine end_d ?_
    rw [plus_law q r]
    exact ⟨_, rfl, .d _⟩
theorem ok_plus (T : Top G.K mg "plus" s_plus ["one", "other"]) (D_lowest : Def P w G.K mg base "lowest" 1 ["a", "b"] (spC G X c_lowest)) : Def P w G.K mg base "plus" 2 ["one", "other"] (spC G X c_plus) := def_of T fun f fd F => fn_plus F D_lowest
abbrev s_minus : Stmt := topS 16
theorem sc_minus : FnScope ["one", "other"] ["one", "other"] (defScope s_minus) := ⟨rfl, rfl, rfl, by decide +kernel, rfl, by decide +kernel, by decide +kernel⟩
local macro_rules | `(tactic| walk_at "st") => `(tactic| simp only [c_minus, L2.cxOf, slotsFrom, cellsOf, argOf, List.length_cons, List.length_nil, List.replicate, List.cons_append, List.nil_append, List.map_cons, List.map_nil, Nat.reduceAdd, Nat.reduceSub, Nat.zero_add, Nat.sub_self] at *)
theorem fn_minus {f : Addr} {fd : FuncData} (F : Fun G.K "minus" "minus" s_minus f fd) (D_lowest : Def P w G.K mg base "lowest" 1 ["a", "b"] (spC G X c_lowest)) : FnOk P w G.K mg base (L2N.CX P w) 2 f fd ["one", "other"] (spC G X c_minus) := by
  obtain ⟨f_lowest, d_lowest, G_lowest, m_lowest, k_lowest, b_lowest⟩ := D_lowest.ex
  refine okXN F sc_minus (fun vs H Q E h => spC_len (fun _ => rfl) h) (fun cdv A outer s H vs Q E hr hsp => ?_)
  refine ⟨_, (pss_one (ps_ret (pe_call G_lowest (hr.mono (by decide)) (by rfl) m_lowest k_lowest b_lowest .nil passLN (pa_cons (pe_op op_sub (pe_op op_mulW (pe_ix (kIx (K := G.K) rfl) (pv 0) pe_int (fun _ _ => rfl)) (pe_ix (kIx (K := G.K) rfl) (pv 1) pe_int (fun _ _ => rfl))) (pe_op op_mulW (pe_ix (kIx (K := G.K) rfl) (pv 1) pe_int (fun _ _ => rfl)) (pe_ix (kIx (K := G.K) rfl) (pv 0) pe_int (fun _ _ => rfl)))) (pa_cons (pe_op op_mulW (pe_ix (kIx (K := G.K) rfl) (pv 0) pe_int (fun _ _ => rfl)) (pe_ix (kIx (K := G.K) rfl) (pv 1) pe_int (fun _ _ => rfl))) pa_nil))))), body_ct hsp (fun _ => by simp [c_minus]) (fun a F0 hp hE => ?_)⟩
  obtain ⟨q, r⟩ := a
  obtain ⟨h1, h2, s1, s2⟩ := hp
  walk_at "st"
  clear hsp hE
  walk_at "r"
  walk_at "c2"
  · exact ⟨minus_nn h1 h2, dz_mul s1 s2⟩
  · refine end_d ?_
    rw [minus_law q r]
    exact ⟨_, rfl, .d _⟩
theorem ok_minus (T : Top G.K mg "minus" s_minus ["one", "other"]) (D_lowest : Def P w G.K mg base "lowest" 1 ["a", "b"] (spC G X c_lowest)) : Def P w G.K mg base "minus" 2 ["one", "other"] (spC G X c_minus) := def_of T fun f fd F => fn_minus F D_lowest
abbrev s_times : Stmt := topS 17
theorem sc_times : FnScope ["one", "other"] ["one", "other"] (defScope s_times) := ⟨rfl, rfl, rfl, by decide +kernel, rfl, by decide +kernel, by decide +kernel⟩
local macro_rules | `(tactic| walk_at "st") => `(tactic| simp only [c_times, L2.cxOf, slotsFrom, cellsOf, argOf, List.length_cons, List.length_nil, List.replicate, List.cons_append, List.nil_append, List.map_cons, List.map_nil, Nat.reduceAdd, Nat.reduceSub, Nat.zero_add, Nat.sub_self] at *)
theorem fn_times {f : Addr} {fd : FuncData} (F : Fun G.K "times" "times" s_times f fd) (D_lowest : Def P w G.K mg base "lowest" 1 ["a", "b"] (spC G X c_lowest)) : FnOk P w G.K mg base (L2N.CX P w) 2 f fd ["one", "other"] (spC G X c_times) := by
  obtain ⟨f_lowest, d_lowest, G_lowest, m_lowest, k_lowest, b_lowest⟩ := D_lowest.ex
  refine okXN F sc_times (fun vs H Q E h => spC_len (fun _ => rfl) h) (fun cdv A outer s H vs Q E hr hsp => ?_)
  refine ⟨_, (pss_one (ps_ret (pe_call G_lowest (hr.mono (by decide)) (by rfl) m_lowest k_lowest b_lowest .nil passLN (pa_cons (pe_op op_mulW (pe_ix (kIx (K := G.K) rfl) (pv 0) pe_int (fun _ _ => rfl)) (pe_ix (kIx (K := G.K) rfl) (pv 1) pe_int (fun _ _ => rfl))) (pa_cons (pe_op op_mulW (pe_ix (kIx (K := G.K) rfl) (pv 0) pe_int (fun _ _ => rfl)) (pe_ix (kIx (K := G.K) rfl) (pv 1) pe_int (fun _ _ => rfl))) pa_nil))))), body_ct hsp (fun _ => by simp [c_times]) (fun a F0 hp hE => ?_)⟩
  obtain ⟨⟨x, y⟩, r⟩ := a
  obtain ⟨x0, y0, x1, y1, r0, s⟩ := hp
  replace x0 : 0 ≤ x := x0
  replace y0 : 0 < y := y0
  have m1 : CMulW x r.num := wm x1 s.1
  have m2 : CMulW y r.den := wm y1 (by rw [Int.natAbs_natCast]; exact s.2)
  walk_at "st"
  clear hsp hE
  repeat (first | walk_at "q1" | walk_at "b" | (refine w2_ix (.inr rfl) rfl ?_))
  walk_at "c2"
  · refine ⟨Int.mul_nonneg x0 (nn_num r0), Int.mul_pos y0 (den_pos' r), ?_⟩
    show (y * (r.den : Int)).natAbs < 2 ^ 8990
    rw [Int.natAbs_mul, Int.natAbs_natCast]
    have : y.natAbs * r.den < 2 ^ 4400 * 2 ^ 4400 := Nat.mul_lt_mul'' y1 s.2
    rw [← Nat.pow_add] at this
    exact Nat.lt_of_lt_of_le this (Nat.pow_le_pow_right (by decide) (by decide))
  · refine end_d ?_
    rw [times_law' x y r (by omega)]
    exact ⟨_, rfl, .d _⟩
theorem ok_times (T : Top G.K mg "times" s_times ["one", "other"]) (D_lowest : Def P w G.K mg base "lowest" 1 ["a", "b"] (spC G X c_lowest)) : Def P w G.K mg base "times" 2 ["one", "other"] (spC G X c_times) := def_of T fun f fd F => fn_times F D_lowest
abbrev s_below : Stmt := topS 19
theorem sc_below : FnScope ["one", "other"] ["one", "other"] (defScope s_below) := ⟨rfl, rfl, rfl, by decide +kernel, rfl, by decide +kernel, by decide +kernel⟩
local macro_rules | `(tactic| walk_at "st") => `(tactic| simp only [c_below, L2.cxOf, slotsFrom, cellsOf, argOf, List.length_cons, List.length_nil, List.replicate, List.cons_append, List.nil_append, List.map_cons, List.map_nil, Nat.reduceAdd, Nat.reduceSub, Nat.zero_add, Nat.sub_self] at *)
theorem fn_below {f : Addr} {fd : FuncData} (F : Fun G.K "below" "below" s_below f fd) : FnOk P w G.K mg base (L2N.CX P w) 1 f fd ["one", "other"] (spC G X c_below) := by
  refine okXN F sc_below (fun vs H Q E h => spC_len (fun _ => rfl) h) (fun cdv A outer s H vs Q E hr hsp => ?_)
  refine ⟨_, (pss_one (ps_ret (pe_cmpR op_lt (pe_op op_mulW (pe_ix (kIx (K := G.K) rfl) (pv 0) pe_int (fun _ _ => rfl)) (pe_ix (kIx (K := G.K) rfl) (pv 1) pe_int (fun _ _ => rfl))) (pe_op op_mulW (pe_ix (kIx (K := G.K) rfl) (pv 1) pe_int (fun _ _ => rfl)) (pe_ix (kIx (K := G.K) rfl) (pv 0) pe_int (fun _ _ => rfl))) (nomark _)))), body_ct hsp (fun _ => by simp [c_below]) (fun a F0 hp hE => ?_)⟩
  obtain ⟨q, r⟩ := a
  obtain ⟨s1, s2⟩ := hp
  walk_at "st"
  clear hsp hE
  walk_at "r"
  rw [below_law]
  exact .d _
theorem ok_below (T : Top G.K mg "below" s_below ["one", "other"]) : Def P w G.K mg base "below" 1 ["one", "other"] (spC G X c_below) := def_of T fun f fd F => fn_below F 
abbrev s_lesser : Stmt := topS 20
theorem sc_lesser : FnScope ["one", "other"] ["one", "other"] (defScope s_lesser) := ⟨rfl, rfl, rfl, by decide +kernel, rfl, by decide +kernel, by decide +kernel⟩
local macro_rules | `(tactic| walk_at "st") => `(tactic| simp only [c_lesser, L2.cxOf, slotsFrom, cellsOf, argOf, List.length_cons, List.length_nil, List.replicate, List.cons_append, List.nil_append, List.map_cons, List.map_nil, Nat.reduceAdd, Nat.reduceSub, Nat.zero_add, Nat.sub_self] at *)
theorem fn_lesser {f : Addr} {fd : FuncData} (F : Fun G.K "lesser" "lesser" s_lesser f fd) (D_below : Def P w G.K mg base "below" 1 ["one", "other"] (spC G X c_below)) : FnOk P w G.K mg base (L2N.CX P w) 2 f fd ["one", "other"] (spC G X c_lesser) := by
  obtain ⟨f_below, d_below, G_below, m_below, k_below, b_below⟩ := D_below.ex
  refine okXN F sc_lesser (fun vs H Q E h => spC_len (fun _ => rfl) h) (fun cdv A outer s H vs Q E hr hsp => ?_)
  refine ⟨_, (pss_cons (ps_if (pt_val (pe_call G_below (hr.mono (by decide)) (by rfl) m_below k_below b_below .nil passLN (pa_cons (pv 1) (pa_cons (pv 0) pa_nil)))) (pss_one (ps_ret (pv 1))) pss_nil)
    (pss_one (ps_ret (pv 0)))), body_ct hsp (fun _ => by simp [c_lesser]) (fun a F0 hp hE => ?_)⟩
  obtain ⟨q, r⟩ := a
  obtain ⟨s1, s2⟩ := hp
  walk_at "st"
  clear hsp hE
  walk_at "r"
  refine ca_below s2 s1 ?_
  walk_at "r"
  unfold minR
  by_cases c : r < q
  · rw [decide_eq_true c, if_pos c]
    walk_at "r"
    exact .d _
  · rw [decide_eq_false c, if_neg c]
    walk_at "r"
    exact .d _
theorem ok_lesser (T : Top G.K mg "lesser" s_lesser ["one", "other"]) (D_below : Def P w G.K mg base "below" 1 ["one", "other"] (spC G X c_below)) : Def P w G.K mg base "lesser" 2 ["one", "other"] (spC G X c_lesser) := def_of T fun f fd F => fn_lesser F D_below
abbrev s_greater : Stmt := topS 21
theorem sc_greater : FnScope ["one", "other"] ["one", "other"] (defScope s_greater) := ⟨rfl, rfl, rfl, by decide +kernel, rfl, by decide +kernel, by decide +kernel⟩
local macro_rules | `(tactic| walk_at "st") => `(tactic| simp only [c_greater, L2.cxOf, slotsFrom, cellsOf, argOf, List.length_cons, List.length_nil, List.replicate, List.cons_append, List.nil_append, List.map_cons, List.map_nil, Nat.reduceAdd, Nat.reduceSub, Nat.zero_add, Nat.sub_self] at *)
theorem fn_greater {f : Addr} {fd : FuncData} (F : Fun G.K "greater" "greater" s_greater f fd) (D_below : Def P w G.K mg base "below" 1 ["one", "other"] (spC G X c_below)) : FnOk P w G.K mg base (L2N.CX P w) 2 f fd ["one", "other"] (spC G X c_greater) := by
  obtain ⟨f_below, d_below, G_below, m_below, k_below, b_below⟩ := D_below.ex
  refine okXN F sc_greater (fun vs H Q E h => spC_len (fun _ => rfl) h) (fun cdv A outer s H vs Q E hr hsp => ?_)
  refine ⟨_, (pss_cons (ps_if (pt_val (pe_call G_below (hr.mono (by decide)) (by rfl) m_below k_below b_below .nil passLN (pa_cons (pv 0) (pa_cons (pv 1) pa_nil)))) (pss_one (ps_ret (pv 1))) pss_nil)
    (pss_one (ps_ret (pv 0)))), body_ct hsp (fun _ => by simp [c_greater]) (fun a F0 hp hE => ?_)⟩
  obtain ⟨q, r⟩ := a
  obtain ⟨s1, s2⟩ := hp
  walk_at "st"
  clear hsp hE
  walk_at "r"
  refine ca_below s1 s2 ?_
  walk_at "r"
  unfold maxR
  by_cases c : q < r
  · rw [decide_eq_true c, if_pos c]
    walk_at "r"
    exact .d _
  · rw [decide_eq_false c, if_neg c]
    walk_at "r"
    exact .d _
theorem ok_greater (T : Top G.K mg "greater" s_greater ["one", "other"]) (D_below : Def P w G.K mg base "below" 1 ["one", "other"] (spC G X c_below)) : Def P w G.K mg base "greater" 2 ["one", "other"] (spC G X c_greater) := def_of T fun f fd F => fn_greater F D_below
abbrev s_is_span : Stmt := topS 23
theorem sc_is_span : FnScope ["thing"] ["thing"] (defScope s_is_span) := ⟨rfl, rfl, rfl, by decide +kernel, rfl, by decide +kernel, by decide +kernel⟩
local macro_rules | `(tactic| walk_at "st") => `(tactic| simp only [c_is_span, L2.cxOf, slotsFrom, cellsOf, argOf, List.length_cons, List.length_nil, List.replicate, List.cons_append, List.nil_append, List.map_cons, List.map_nil, Nat.reduceAdd, Nat.reduceSub, Nat.zero_add, Nat.sub_self] at *)
theorem fn_is_span {f : Addr} {fd : FuncData} (F : Fun G.K "is_span" "is_span" s_is_span f fd) (D_is_fraction : Def P w G.K mg base "is_fraction" 2 ["thing"] (spC G X c_is_fraction)) (D_below : Def P w G.K mg base "below" 1 ["one", "other"] (spC G X c_below)) (z_len : mg "len" = none) (z_isinstance : mg "isinstance" = none) (z_tuple : mg "tuple" = none) (Mc_ONE : CstT G mg "ONE" (encF 1)) : FnOk P w G.K mg base (L2N.CX P w) 3 f fd ["thing"] (spC G X c_is_span) := by
  obtain ⟨f_is_fraction, d_is_fraction, G_is_fraction, m_is_fraction, k_is_fraction, b_is_fraction⟩ := D_is_fraction.ex
  obtain ⟨f_below, d_below, G_below, m_below, k_below, b_below⟩ := D_below.ex
  obtain ⟨A_ONE, mc_ONE, cs_ONE⟩ := Mc_ONE
  refine okXN F sc_is_span (fun vs H Q E h => spC_len (fun _ => rfl) h) (fun cdv A outer s H vs Q E hr hsp => ?_)
  refine ⟨_, (pss_cons (ps_if (PW.pt (pw_or (pt_not (pt_val (pe_callB (kIsi (K := G.K) rfl) (by rfl) z_isinstance bt_isinstance (pa_cons (pv 0) (pa_cons (pe_bltn (v := .ty "tuple") (by rfl) z_tuple bt_tuple rfl) pa_nil))))) (pw_or (pt_cmpR (kNe (K := G.K) rfl hr.units) (pe_callB (kLen (K := G.K) rfl) (by rfl) z_len bt_len (pa_cons (pv 0) pa_nil)) pe_int (nomark _)) (pw_or (pt_not (pt_val (pe_call G_is_fraction (hr.mono (by decide)) (by rfl) m_is_fraction k_is_fraction b_is_fraction .nil passLN (pa_cons (pe_ix (kIx (K := G.K) rfl) (pv 0) pe_int (fun _ _ => rfl)) pa_nil)))) (pw_or1 (pt_not (pt_val (pe_call G_is_fraction (hr.mono (by decide)) (by rfl) m_is_fraction k_is_fraction b_is_fraction .nil passLN (pa_cons (pe_ix (kIx (K := G.K) rfl) (pv 0) pe_int (fun _ _ => rfl)) pa_nil))))))))) (pss_one (ps_ret pe_bl)) pss_nil)
    (pss_one (ps_ret (pe_and (pe_call G_below (hr.mono (by decide)) (by rfl) m_below k_below b_below .nil passLN (pa_cons (pe_ix (kIx (K := G.K) rfl) (pv 0) pe_int (fun _ _ => rfl)) (pa_cons (pe_ix (kIx (K := G.K) rfl) (pv 0) pe_int (fun _ _ => rfl)) pa_nil))) (pe_one (pe_not (pe_call G_below (hr.mono (by decide)) (by rfl) m_below k_below b_below .nil passLN (pa_cons (pe_glob (v := .ref A_ONE) (by rfl) mc_ONE rfl) (pa_cons (pe_ix (kIx (K := G.K) rfl) (pv 0) pe_int (fun _ _ => rfl)) pa_nil))))))))), body_ct hsp (fun _ => by simp [c_is_span]) (fun a F0 hp hE => ?_)⟩
  obtain ⟨hn, h2⟩ := hp
  have s1 : Sz 1 := ⟨by decide, by decide⟩
  rcases lst_or a with ⟨ds, rfl⟩ | ha
  · walk_at "st"
    clear hsp hE
    walk_at "r"
    exact .d _
  simp only [L2.cxOf, c_is_span, ha, slotsFrom, cellsOf, List.length_cons, List.length_nil, Nat.reduceAdd, Nat.reduceSub, List.replicate, List.cons_append, List.nil_append, List.append_nil]
  clear hsp hE
  cases a with
  | ob n ds => cases hn
  | raw x => cases hn
  | fn x => cases hn
  | tup ds =>
    walk_at "r"
    refine wC_lenT ?_
    walk_at "r"
    by_cases hl : ds.length = 2
    · obtain ⟨x, y, rfl⟩ := tup_len hl
      obtain ⟨ox, oy⟩ := h2 x y rfl
      walk_at "r"
      refine w2_ix (.inr rfl) rfl ?_
      walk_at "r"
      refine ca_is_fraction (arg_in x) ox ?_
      cases hx : fracOf x with
      | none =>
        walk_at "r"
        have : spanOf (.tup [x, y]) = none := by simp [spanOf, hx]
        rw [this]
        exact .d _
      | some q =>
        walk_at "r"
        refine w2_ix (.inr rfl) rfl ?_
        walk_at "r"
        refine ca_is_fraction (arg_in y) oy ?_
        cases hy : fracOf y with
        | none =>
          walk_at "r"
          have : spanOf (.tup [x, y]) = none := by simp [spanOf, hx, hy]
          rw [this]
          exact .d _
        | some r =>
          have ex := frac_back hx
          have ey := frac_back hy
          have sx := frac_sz ox hx
          have sy := frac_sz oy hy
          rw [ex, ey]
          walk_at "r"
          refine w2_ix (.inr rfl) rfl ?_
          walk_at "r"
          refine w2_ix (.inr rfl) rfl ?_
          walk_at "r"
          refine ca_below sx sy ?_
          walk_at "r"
          have e : spanOf (.tup [encF q, encF r]) = if q < r ∧ r ≤ 1 then some (q, r) else none := by
            rw [← ex, ← ey]
            simp [spanOf, hx, hy]
          rw [e]
          refine ite2 (fun c => ?_) (fun c => ?_)
          · have c' : q < r := of_decide_eq_true c
            walk_at "r"
            refine w2_ix (.inr rfl) rfl ?_
            walk_at "r"
            refine ca_below s1 sy ?_
            walk_at "r"
            by_cases d : r ≤ 1
            · rw [decide_eq_false (by grind), if_pos ⟨c', d⟩]
              exact .d _
            · rw [decide_eq_true (by grind), if_neg fun z => d z.2]
              exact .d _
          · have c' : ¬ q < r := fun z => c (decide_eq_true z)
            walk_at "r"
            rw [if_neg fun z => c' z.1]
            exact .d _
    · rw [spanOf_len hl]
      rw [decide_eq_false (by omega)]
      walk_at "r"
      exact .d _
  | _ =>
    walk_at "r"
    exact .d _
theorem ok_is_span (T : Top G.K mg "is_span" s_is_span ["thing"]) (D_is_fraction : Def P w G.K mg base "is_fraction" 2 ["thing"] (spC G X c_is_fraction)) (D_below : Def P w G.K mg base "below" 1 ["one", "other"] (spC G X c_below)) (z_len : mg "len" = none) (z_isinstance : mg "isinstance" = none) (z_tuple : mg "tuple" = none) (Mc_ONE : CstT G mg "ONE" (encF 1)) : Def P w G.K mg base "is_span" 3 ["thing"] (spC G X c_is_span) := def_of T fun f fd F => fn_is_span F D_is_fraction D_below z_len z_isinstance z_tuple Mc_ONE
abbrev s_check_piece : Stmt := topS 24
theorem sc_check_piece : FnScope ["piece", "k", "span"] ["piece"] (defScope s_check_piece) := ⟨rfl, rfl, rfl, by decide +kernel, rfl, by decide +kernel, by decide +kernel⟩
local macro_rules | `(tactic| walk_at "st") => `(tactic| simp only [c_check_piece, L2.cxOf, slotsFrom, cellsOf, argOf, List.length_cons, List.length_nil, List.replicate, List.cons_append, List.nil_append, List.map_cons, List.map_nil, Nat.reduceAdd, Nat.reduceSub, Nat.zero_add, Nat.sub_self] at *)
theorem fn_check_piece {f : Addr} {fd : FuncData} (F : Fun G.K "check_piece" "check_piece" s_check_piece f fd) (D_is_span : Def P w G.K mg base "is_span" 3 ["thing"] (spC G X c_is_span)) (D_below : Def P w G.K mg base "below" 1 ["one", "other"] (spC G X c_below)) (z_all : mg "all" = none) (z_isinstance : mg "isinstance" = none) (z_list : mg "list" = none) (z_range : mg "range" = none) (z_len : mg "len" = none) (X_BadPiece : ExcOk G.K mg "BadPiece" (X 2)) : FnOk P w G.K mg base (L2N.CX P w) 4 f fd ["piece"] (spC G X c_check_piece) := by
  obtain ⟨f_is_span, d_is_span, G_is_span, m_is_span, k_is_span, b_is_span⟩ := D_is_span.ex
  obtain ⟨f_below, d_below, G_below, m_below, k_below, b_below⟩ := D_below.ex
  obtain ⟨xP_BadPiece, gP_BadPiece, kP_BadPiece, bP_BadPiece, tP_BadPiece⟩ := X_BadPiece
  refine okXN F sc_check_piece (fun vs H Q E h => spC_len (fun _ => rfl) h) (fun cdv A outer s H vs Q E hr hsp => ?_)
  refine ⟨_, (pss_cons (ps_if (PW.pt (pw_or (pt_not (pt_val (pe_callB (kIsi (K := G.K) rfl) (by rfl) z_isinstance bt_isinstance (pa_cons (pv 0) (pa_cons (pe_bltn (v := .ty "list") (by rfl) z_list bt_list rfl) pa_nil))))) (pw_or1 (pt_not (pt_val (pe_callB (kAll (K := G.K) rfl rfl) (by rfl) z_all bt_all (pa_cons (pe_lc (own := ([("span", 2)] : List (Str × Nat))) (g := (gName 2)) (tt := tYes) rfl sc_check_piece.nd (kpi_list (K := G.K) rfl (pv 0)) (blkOk_by (N := (["piece", "k", "span"] : List Str)) (sc := defScope s_check_piece) (by decide +kernel)) (fun _ _ _ _ _ => (pg_name (i := 2) sc_check_piece.nd rfl (Or.inl rfl))) (fun _ _ _ _ _ => pts_nil) (fun _ _ _ _ _ => (pe_call G_is_span (hr.mono (by decide)) (by rfl) m_is_span k_is_span b_is_span .nil passLN (pa_cons (pv 2) pa_nil)))) pa_nil))))))) (pss_one (L2N.ps_raise rfl (L2N.takes_of rfl rfl rfl rfl) (L2N.pmk_own PySem.F.excBase_ValueError xP_BadPiece gP_BadPiece kP_BadPiece (raises_own bP_BadPiece tP_BadPiece) (by rfl)))) pss_nil)
    (pss_one (ps_for (passes_of rfl) rfl (pi_range2 (by rfl) z_range (pa_cons pe_int (pa_cons (pe_callB (kLen (K := G.K) rfl) (by rfl) z_len bt_len (pa_cons (pv 0) pa_nil)) pa_nil))) (pg_name (i := 1) sc_check_piece.nd rfl (Or.inl rfl)) (pss_one (ps_if (pt_not (pt_val (pe_call G_below (hr.mono (by decide)) (by rfl) m_below k_below b_below .nil passLN (pa_cons (pe_ix (kIx (K := G.K) rfl) (pe_ix (kIx (K := G.K) rfl) (pv 0) (pe_op op_sub (pv 1) pe_int) (fun _ _ => rfl)) pe_int (fun _ _ => rfl)) (pa_cons (pe_ix (kIx (K := G.K) rfl) (pe_ix (kIx (K := G.K) rfl) (pv 0) (pv 1) (fun _ _ => rfl)) pe_int (fun _ _ => rfl)) pa_nil))))) (pss_one (L2N.ps_raise rfl (L2N.takes_of rfl rfl rfl rfl) (L2N.pmk_own PySem.F.excBase_ValueError xP_BadPiece gP_BadPiece kP_BadPiece (raises_own bP_BadPiece tP_BadPiece) (by rfl)))) pss_nil))))), body_ct hsp (fun _ => by simp [c_check_piece]) (fun a F0 hp hE => ?_)⟩
  obtain ⟨hn, h3⟩ := hp
  have rz : pieceOf a = none → ∀ H', Same H H' → E (.ref (X 2)) none H' := fun h => hE 2 (by simp [c_check_piece, h])
  rcases lst_or a with ⟨ds, rfl⟩ | ha
  · obtain ⟨hl, h4⟩ := h3 ds rfl
    walk_at "st"
    clear hsp hE
    walk_at "r"
    refine wE_mapL (fun d => .bl (spanOf d).isSome) (within_name (by decide)) ?_
    walk_at "r"
    refine ⟨_, isL_ro rfl, hl, ?_, ?_⟩
    · intro d hd acc
      walk_at "r"
      refine ca_is_span (arg_in d) (h4 d hd) ?_
      exact ⟨rfl, rfl⟩
    walk_at "r"
    refine wC_all (bs := ds.map fun d => (spanOf d).isSome) ?_ ?_
    · rw [List.map_map]
      exact isL_app
    walk_at "r"
    by_cases hall : ∀ d ∈ ds, (spanOf d).isSome = true
    · obtain ⟨p, e1, rfl, e3⟩ := spans_some hall
      rw [all_map.mpr hall]
      have epo : pieceOf (.lst (encP p)) = if Apart p then some p else none := by
        show (match spansOf (encP p) with | some p => if Apart p then some p else none | none => none) = _
        rw [e1]
      have sz : ∀ s ∈ p, Sz s.1 ∧ Sz s.2 := fun s hs => by
        have := e3 s hs
        exact span_sz (h4 _ (List.mem_map_of_mem hs)) this.1 (by grind)
      walk_at "r"
      refine wS_rng2 ?_
      walk_at "r"
      refine wC_lenL (isL_ro rfl) ?_
      walk_at "r"
      rw [encP_len] at hl ⊢
      refine ⟨1, p.length, rfl, ⟨by decide, by decide, by omega, by omega⟩, fun n ρ' μ' => (∀ k, (h : k + 1 < p.length) → k < n → p[k].2 < p[k + 1].1) ∧ (∃ u w, ρ' = [some (.p 0), u, w]) ∧ ∃ c, μ' = [.ro (encP p), c], ⟨fun k h hk => by omega, ⟨_, _, rfl⟩, _, rfl⟩, ?_, ?_⟩
      · rintro n ρ' μ' hn' ⟨hI, ⟨u, w, rfl⟩, c, rfl⟩
        have h1 : n < p.length := by omega
        have h2 : n + 1 < p.length := by omega
        walk_at "r"
        refine w2_ix (i := 1 + (n : Int) - 1) (.inl (isL_ro rfl)) (by rw [show 1 + (n : Int) - 1 = (n : Int) by omega]; exact atI_encP h1) ?_
        walk_at "r"
        refine w2_ix (i := 1 + (n : Int)) (.inl (isL_ro rfl)) (by rw [show 1 + (n : Int) = ((n + 1 : Nat) : Int) by omega]; exact atI_encP h2) ?_
        walk_at "r"
        refine ca_below (sz _ (List.getElem_mem _)).2 (sz _ (List.getElem_mem _)).1 ?_
        walk_at "r"
        by_cases c : p[n].2 < p[n + 1].1
        · rw [decide_eq_true c]
          walk_at "r"
          refine ⟨fun k h hk => ?_, ⟨_, _, rfl⟩, _, rfl⟩
          by_cases e : k = n
          · subst e; exact c
          · exact hI k h (by omega)
        · rw [decide_eq_false c]
          walk_at "r"
          refine wS_raise' (rz ?_)
          rw [epo, if_neg fun z => c (apart_iff.mp z n h2)]
      · rintro ρ' μ' ⟨hI, _⟩
        have ap : Apart p := apart_iff.mpr fun k h => hI k h (by omega)
        refine ⟨_, ?_, .d _⟩
        rw [epo, if_pos ap]
        rfl
    · have hf : (ds.map fun d => (spanOf d).isSome).all id = false := by
        rw [← Bool.not_eq_true]
        exact fun z => hall (all_map.mp z)
      rw [hf]
      walk_at "r"
      refine wS_raise' (rz ?_)
      have : ∃ d ∈ ds, spanOf d = none := by
        false_or_by_contra
        rename_i hne
        refine hall fun d hd => ?_
        cases e : spanOf d with
        | none => exact absurd ⟨d, hd, e⟩ hne
        | some s => rfl
      show (match spansOf ds with | some p => if Apart p then some p else none | none => none) = none
      rw [spans_none this]
  simp only [L2.cxOf, c_check_piece, ha, slotsFrom, cellsOf, List.length_cons, List.length_nil, Nat.reduceAdd, Nat.reduceSub, List.replicate, List.cons_append, List.nil_append, List.append_nil]
  clear hsp hE
  cases a with
  | ob n ds => cases hn
  | raw x => cases hn
  | fn x => cases hn
  | lst ds => cases ha
  | _ =>
    walk_at "r"
    exact wS_raise' (rz rfl)
theorem ok_check_piece (T : Top G.K mg "check_piece" s_check_piece ["piece"]) (D_is_span : Def P w G.K mg base "is_span" 3 ["thing"] (spC G X c_is_span)) (D_below : Def P w G.K mg base "below" 1 ["one", "other"] (spC G X c_below)) (z_all : mg "all" = none) (z_isinstance : mg "isinstance" = none) (z_list : mg "list" = none) (z_range : mg "range" = none) (z_len : mg "len" = none) (X_BadPiece : ExcOk G.K mg "BadPiece" (X 2)) : Def P w G.K mg base "check_piece" 4 ["piece"] (spC G X c_check_piece) := def_of T fun f fd F => fn_check_piece F D_is_span D_below z_all z_isinstance z_list z_range z_len X_BadPiece
abbrev s_is_step : Stmt := topS 28
theorem sc_is_step : FnScope ["thing"] ["thing"] (defScope s_is_step) := ⟨rfl, rfl, rfl, by decide +kernel, rfl, by decide +kernel, by decide +kernel⟩
local macro_rules | `(tactic| walk_at "st") => `(tactic| simp only [c_is_step, L2.cxOf, slotsFrom, cellsOf, argOf, List.length_cons, List.length_nil, List.replicate, List.cons_append, List.nil_append, List.map_cons, List.map_nil, Nat.reduceAdd, Nat.reduceSub, Nat.zero_add, Nat.sub_self] at *)
theorem fn_is_step {f : Addr} {fd : FuncData} (F : Fun G.K "is_step" "is_step" s_is_step f fd) (D_is_whole : Def P w G.K mg base "is_whole" 1 ["number"] (spC G X c_is_whole)) (D_is_fraction : Def P w G.K mg base "is_fraction" 2 ["thing"] (spC G X c_is_fraction)) (z_len : mg "len" = none) (z_isinstance : mg "isinstance" = none) (z_tuple : mg "tuple" = none) (Mc_HEAVIEST : CstI mg "HEAVIEST" 1000) : FnOk P w G.K mg base (L2N.CX P w) 3 f fd ["thing"] (spC G X c_is_step) := by
  obtain ⟨f_is_whole, d_is_whole, G_is_whole, m_is_whole, k_is_whole, b_is_whole⟩ := D_is_whole.ex
  obtain ⟨f_is_fraction, d_is_fraction, G_is_fraction, m_is_fraction, k_is_fraction, b_is_fraction⟩ := D_is_fraction.ex
  obtain ⟨t_HEAVIEST, mc_HEAVIEST⟩ := Mc_HEAVIEST
  refine okXN F sc_is_step (fun vs H Q E h => spC_len (fun _ => rfl) h) (fun cdv A outer s H vs Q E hr hsp => ?_)
  refine ⟨_, (pss_cons (ps_if (PW.pt (pw_or (pt_not (pt_val (pe_callB (kIsi (K := G.K) rfl) (by rfl) z_isinstance bt_isinstance (pa_cons (pv 0) (pa_cons (pe_bltn (v := .ty "tuple") (by rfl) z_tuple bt_tuple rfl) pa_nil))))) (pw_or (pt_cmpR (kNe (K := G.K) rfl hr.units) (pe_callB (kLen (K := G.K) rfl) (by rfl) z_len bt_len (pa_cons (pv 0) pa_nil)) pe_int (nomark _)) (pw_or (pt_not (pt_val (pe_call G_is_fraction (hr.mono (by decide)) (by rfl) m_is_fraction k_is_fraction b_is_fraction .nil passLN (pa_cons (pe_ix (kIx (K := G.K) rfl) (pv 0) pe_int (fun _ _ => rfl)) pa_nil)))) (pw_or1 (pt_not (pt_val (pe_call G_is_whole (hr.mono (by decide)) (by rfl) m_is_whole k_is_whole b_is_whole .nil passLN (pa_cons (pe_ix (kIx (K := G.K) rfl) (pv 0) pe_int (fun _ _ => rfl)) pa_nil))))))))) (pss_one (ps_ret pe_bl)) pss_nil)
    (pss_one (ps_ret (pe_and (pe_chain op_le op_le pe_int (pe_ix (kIx (K := G.K) rfl) (pe_ix (kIx (K := G.K) rfl) (pv 0) pe_int (fun _ _ => rfl)) pe_int (fun _ _ => rfl)) (pe_glob (v := .int 1000) (by rfl) mc_HEAVIEST ⟨_, rfl⟩)) (pe_one (pe_chain op_le op_le pe_int (pe_ix (kIx (K := G.K) rfl) (pv 0) pe_int (fun _ _ => rfl)) (pe_glob (v := .int 1000) (by rfl) mc_HEAVIEST ⟨_, rfl⟩))))))), body_ct hsp (fun _ => by simp [c_is_step]) (fun a F0 hp hE => ?_)⟩
  obtain ⟨hn, h2⟩ := hp
  rcases lst_or a with ⟨ds, rfl⟩ | ha
  · walk_at "st"
    clear hsp hE
    walk_at "r"
    exact .d _
  simp only [L2.cxOf, c_is_step, ha, slotsFrom, cellsOf, List.length_cons, List.length_nil, Nat.reduceAdd, Nat.reduceSub, List.replicate, List.cons_append, List.nil_append, List.append_nil]
  clear hsp hE
  cases a with
  | ob n ds => cases hn
  | raw x => cases hn
  | fn x => cases hn
  | tup ds =>
    walk_at "r"
    refine wC_lenT ?_
    walk_at "r"
    by_cases hl : ds.length = 2
    · obtain ⟨x, y, rfl⟩ := tup_len hl
      obtain ⟨ox, ny⟩ := h2 x y rfl
      walk_at "r"
      refine w2_ix (.inr rfl) rfl ?_
      walk_at "r"
      refine ca_is_fraction (arg_in x) ox ?_
      cases hx : fracOf x with
      | none =>
        walk_at "r"
        rw [stepOf_f hx]
        exact .d _
      | some e =>
        walk_at "r"
        refine w2_ix (.inr rfl) rfl ?_
        walk_at "r"
        refine ca_is_whole (arg_in y) ny ?_
        rcases whole_or y with ⟨w, rfl⟩ | hw
        · rw [stepOf_fi hx]
          have ex := frac_back hx
          rw [ex]
          have dp := den_pos' e
          walk_at "r"
  
          refine w2_ix (.inr rfl) rfl ?_
          walk_at "r"
          rw [decide_eq_true (by omega : (1 : Int) ≤ (e.den : Int))]
          walk_at "r"
          by_cases c : e.den ≤ 1000
          · rw [decide_eq_true (by omega : (e.den : Int) ≤ 1000)]
            walk_at "r"
  
            refine w2_ix (.inr rfl) rfl ?_
            walk_at "r"
            by_cases c1 : 1 ≤ w
            · rw [decide_eq_true c1]
              walk_at "r"
              by_cases c2 : w ≤ 1000
              · rw [decide_eq_true c2, if_pos ⟨c, c1, c2⟩]
                exact .d _
              · rw [decide_eq_false c2, show (if e.den ≤ 1000 ∧ 1 ≤ w ∧ w ≤ 1000 then some (e, w) else none) = (none : Option (Rat × Int)) from if_neg fun z => c2 z.2.2]
                exact .d _
            · rw [decide_eq_false c1, show (if e.den ≤ 1000 ∧ 1 ≤ w ∧ w ≤ 1000 then some (e, w) else none) = (none : Option (Rat × Int)) from if_neg fun z => c1 z.2.1]
              walk_at "r"
              exact .d _
          · rw [decide_eq_false (by omega : ¬ (e.den : Int) ≤ 1000), show (if e.den ≤ 1000 ∧ 1 ≤ w ∧ w ≤ 1000 then some (e, w) else none) = (none : Option (Rat × Int)) from if_neg fun z => c z.1]
            walk_at "r"
            exact .d _
        · rw [hw, stepOf_w hw]
          walk_at "r"
          exact .d _
    · rw [stepOf_len hl]
      rw [decide_eq_false (by omega)]
      walk_at "r"
      exact .d _
  | _ =>
    walk_at "r"
    exact .d _
theorem ok_is_step (T : Top G.K mg "is_step" s_is_step ["thing"]) (D_is_whole : Def P w G.K mg base "is_whole" 1 ["number"] (spC G X c_is_whole)) (D_is_fraction : Def P w G.K mg base "is_fraction" 2 ["thing"] (spC G X c_is_fraction)) (z_len : mg "len" = none) (z_isinstance : mg "isinstance" = none) (z_tuple : mg "tuple" = none) (Mc_HEAVIEST : CstI mg "HEAVIEST" 1000) : Def P w G.K mg base "is_step" 3 ["thing"] (spC G X c_is_step) := def_of T fun f fd F => fn_is_step F D_is_whole D_is_fraction z_len z_isinstance z_tuple Mc_HEAVIEST
abbrev s_check_steps : Stmt := topS 29
theorem sc_check_steps : FnScope ["steps", "last", "end", "weight", "one"] ["steps"] (defScope s_check_steps) := ⟨rfl, rfl, rfl, by decide +kernel, rfl, by decide +kernel, by decide +kernel⟩
local macro_rules | `(tactic| walk_at "st") => `(tactic| simp only [c_check_steps, L2.cxOf, slotsFrom, cellsOf, argOf, List.length_cons, List.length_nil, List.replicate, List.cons_append, List.nil_append, List.map_cons, List.map_nil, Nat.reduceAdd, Nat.reduceSub, Nat.zero_add, Nat.sub_self] at *)
theorem fn_check_steps {f : Addr} {fd : FuncData} (F : Fun G.K "check_steps" "check_steps" s_check_steps f fd) (D_is_step : Def P w G.K mg base "is_step" 3 ["thing"] (spC G X c_is_step)) (D_below : Def P w G.K mg base "below" 1 ["one", "other"] (spC G X c_below)) (z_all : mg "all" = none) (z_len : mg "len" = none) (z_isinstance : mg "isinstance" = none) (z_list : mg "list" = none) (Mc_MOST : CstI mg "MOST" 8) (Mc_NOUGHT : CstT G mg "NOUGHT" (encF 0)) (Mc_ONE : CstT G mg "ONE" (encF 1)) (X_BadTaste : ExcOk G.K mg "BadTaste" (X 1)) : FnOk P w G.K mg base (L2N.CX P w) 4 f fd ["steps"] (spC G X c_check_steps) := by
  obtain ⟨f_is_step, d_is_step, G_is_step, m_is_step, k_is_step, b_is_step⟩ := D_is_step.ex
  obtain ⟨f_below, d_below, G_below, m_below, k_below, b_below⟩ := D_below.ex
  obtain ⟨t_MOST, mc_MOST⟩ := Mc_MOST
  obtain ⟨A_NOUGHT, mc_NOUGHT, cs_NOUGHT⟩ := Mc_NOUGHT
  obtain ⟨A_ONE, mc_ONE, cs_ONE⟩ := Mc_ONE
  obtain ⟨xP_BadTaste, gP_BadTaste, kP_BadTaste, bP_BadTaste, tP_BadTaste⟩ := X_BadTaste
  refine okXN F sc_check_steps (fun vs H Q E h => spC_len (fun _ => rfl) h) (fun cdv A outer s H vs Q E hr hsp => ?_)
  refine ⟨_, (pss_cons (ps_if (PW.pt (pw_or (pt_not (pt_val (pe_callB (kIsi (K := G.K) rfl) (by rfl) z_isinstance bt_isinstance (pa_cons (pv 0) (pa_cons (pe_bltn (v := .ty "list") (by rfl) z_list bt_list rfl) pa_nil))))) (pw_or (pt_not (pt_chain op_le op_le pe_int (pe_callB (kLen (K := G.K) rfl) (by rfl) z_len bt_len (pa_cons (pv 0) pa_nil)) (pe_glob (v := .int 8) (by rfl) mc_MOST ⟨_, rfl⟩))) (pw_or1 (pt_not (pt_val (pe_callB (kAll (K := G.K) rfl rfl) (by rfl) z_all bt_all (pa_cons (pe_lc (own := ([("one", 4)] : List (Str × Nat))) (g := (gName 4)) (tt := tYes) rfl sc_check_steps.nd (kpi_list (K := G.K) rfl (pv 0)) (blkOk_by (N := (["steps", "last", "end", "weight", "one"] : List Str)) (sc := defScope s_check_steps) (by decide +kernel)) (fun _ _ _ _ _ => (pg_name (i := 4) sc_check_steps.nd rfl (Or.inl rfl))) (fun _ _ _ _ _ => pts_nil) (fun _ _ _ _ _ => (pe_call G_is_step (hr.mono (by decide)) (by rfl) m_is_step k_is_step b_is_step .nil passLN (pa_cons (pv 4) pa_nil)))) pa_nil)))))))) (pss_one (L2N.ps_raise rfl (L2N.takes_of rfl rfl rfl rfl) (L2N.pmk_own PySem.F.excBase_ValueError xP_BadTaste gP_BadTaste kP_BadTaste (raises_own bP_BadTaste tP_BadTaste) (by rfl)))) pss_nil)
    (pss_cons (ps_set (i := 1) sc_check_steps.nd rfl (Or.inl rfl) (pe_glob (v := .ref A_NOUGHT) (by rfl) mc_NOUGHT rfl))
    (pss_cons (ps_for (passes_of rfl) rfl (kpi_list (K := G.K) rfl (pv 0)) (kpg_tup (K := G.K) (n := 2) rfl rfl (pgs_cons (pg_name (i := 2) sc_check_steps.nd rfl (Or.inl rfl)) (pgs_cons (pg_name (i := 3) sc_check_steps.nd rfl (Or.inl rfl)) pgs_nil))) (pss_cons (ps_if (pt_not (pt_val (pe_call G_below (hr.mono (by decide)) (by rfl) m_below k_below b_below .nil passLN (pa_cons (pv 1) (pa_cons (pv 2) pa_nil))))) (pss_one (L2N.ps_raise rfl (L2N.takes_of rfl rfl rfl rfl) (L2N.pmk_own PySem.F.excBase_ValueError xP_BadTaste gP_BadTaste kP_BadTaste (raises_own bP_BadTaste tP_BadTaste) (by rfl)))) pss_nil)
    (pss_one (ps_set (i := 1) sc_check_steps.nd rfl (Or.inl rfl) (pv 2)))))
    (pss_one (ps_if (pt_cmpR (kNe (K := G.K) rfl hr.units) (pv 1) (pe_glob (v := .ref A_ONE) (by rfl) mc_ONE rfl) (nomark _)) (pss_one (L2N.ps_raise rfl (L2N.takes_of rfl rfl rfl rfl) (L2N.pmk_own PySem.F.excBase_ValueError xP_BadTaste gP_BadTaste kP_BadTaste (raises_own bP_BadTaste tP_BadTaste) (by rfl)))) pss_nil))))), body_ct hsp (fun _ => by simp [c_check_steps]) (fun a F0 hp hE => ?_)⟩
  obtain ⟨hn, h3⟩ := hp
  have rz : tasteOf a = none → ∀ H', Same H H' → E (.ref (X 1)) none H' := fun h => hE 1 (by simp [c_check_steps, h])
  rcases lst_or a with ⟨ds, rfl⟩ | ha
  · obtain ⟨hl, h4⟩ := h3 ds rfl
    walk_at "st"
    clear hsp hE
    have eto : tasteOf (.lst ds) = if 1 ≤ ds.length ∧ ds.length ≤ 8 then (match stepsOf ds with | some st => if Rise 0 st then some st else none | none => none) else none := rfl
    walk_at "r"
    refine wC_lenL (isL_ro rfl) ?_
    walk_at "r"
    by_cases c1 : 1 ≤ ds.length
    · rw [decide_eq_true (by omega : (1 : Int) ≤ (ds.length : Int))]
      walk_at "r"
      by_cases c2 : ds.length ≤ 8
      · rw [decide_eq_true (by omega : (ds.length : Int) ≤ 8)]
        rw [if_pos ⟨c1, c2⟩] at eto
        walk_at "r"
        refine wE_mapL (fun d => .bl (stepOf d).isSome) (within_name (by decide)) ?_
        walk_at "r"
        refine ⟨_, isL_ro rfl, hl, ?_, ?_⟩
        · intro d hd acc
          walk_at "r"
          refine ca_is_step (arg_in d) (h4 d hd) ?_
          exact ⟨rfl, rfl⟩
        walk_at "r"
        refine wC_all (bs := ds.map fun d => (stepOf d).isSome) ?_ ?_
        · rw [List.map_map]
          exact isL_app
        walk_at "r"
        by_cases hall : ∀ d ∈ ds, (stepOf d).isSome = true
        · obtain ⟨st, e1, rfl, e3⟩ := steps_some hall
          rw [all_map.mpr hall]
          rw [e1] at eto
          have sz : ∀ s ∈ st, Sz s.1 := fun s hs => by
            have o := h4 _ (List.mem_map_of_mem hs)
            obtain ⟨_, o2⟩ := o
            exact frac_sz (o2 _ _ rfl).1 (fracOf_enc (e3 s hs).2)
          have s0 : Sz 0 := pt0.sz
          walk_at "q"
          refine wS_seq ?_
          walk_at "q"
          refine wS_seqJ (fun ρ' μ' => ∃ q b c, riseTo 0 st = some q ∧ Sz q ∧ ρ' = [some (.p 0), some (.d (encF q)), b, c, none]) ?_ ?_
          · refine wS_for ?_
            walk_at "q"
            refine ⟨_, isL_ro rfl, fun i ρ' μ' => ∃ q b c bs, riseTo 0 (st.take i) = some q ∧ Sz q ∧ ρ' = [some (.p 0), some (.d (encF q)), b, c, none] ∧ μ' = [.ro (encSt st), .rw bs], ⟨0, _, _, _, rfl, s0, rfl, rfl⟩, ?_, ?_, ?_⟩
            · rintro i ρ' μ' ⟨q, b, c, bs, _, _, rfl, rfl⟩
              exact isL_ro rfl
            · rintro i d ρ' μ' hd ⟨q, b, c, bs, hq, sq, rfl, rfl⟩
              obtain ⟨s, hs, rfl⟩ := map_at hd
              have hmem := List.mem_of_getElem? hs
              have nx := rise_next hs hq
              walk_at "r"
              refine ca_below sq (sz s hmem) ?_
              walk_at "r"
              by_cases c : q < s.1
              · rw [decide_eq_true c]
                rw [if_pos c] at nx
                walk_at "r"
                exact ⟨s.1, _, _, _, nx, sz s hmem, rfl, rfl⟩
              · rw [decide_eq_false c]
                rw [if_neg c] at nx
                walk_at "r"
                refine wS_raise' (rz ?_)
                rw [eto]
                exact if_neg fun z => by rw [rise_iff, rise_stop nx] at z; cases z
            · rintro ρ' μ' ⟨q, b, c, bs, hq, sq, rfl, rfl⟩
              have el : (encSt st).length = st.length := by simp [encSt]
              rw [el, List.take_length] at hq
              exact ⟨q, _, _, hq, sq, rfl⟩
          · rintro ρ' μ' ⟨q, b, c, hq, sq, rfl⟩
            walk_at "r"
            by_cases c : q = 1
            · rw [decide_eq_true c]
              subst c
              walk_at "r"
              refine ⟨_, ?_, .d _⟩
              rw [eto]
              show (if (if Rise 0 st then some st else none).isSome = true then Out.ret (Res.d D.non) else Out.exc 1) = _
              rw [if_pos (rise_iff.mpr hq)]
              rfl
            · rw [decide_eq_false c]
              walk_at "r"
              refine wS_raise' (rz ?_)
              rw [eto]
              exact if_neg fun z => by rw [rise_iff, hq] at z; exact c (Option.some.inj z)
        · have hf : (ds.map fun d => (stepOf d).isSome).all id = false := by
            rw [← Bool.not_eq_true]
            exact fun z => hall (all_map.mp z)
          rw [hf]
          walk_at "r"
          refine wS_raise' (rz ?_)
          have : ∃ d ∈ ds, stepOf d = none := by
            false_or_by_contra
            rename_i hne
            refine hall fun d hd => ?_
            cases e : stepOf d with
            | none => exact absurd ⟨d, hd, e⟩ hne
            | some s => rfl
          rw [eto, steps_none this]
      · rw [decide_eq_false (by omega : ¬ (ds.length : Int) ≤ 8)]
        rw [if_neg fun z => c2 z.2] at eto
        walk_at "r"
        exact wS_raise' (rz eto)
    · rw [decide_eq_false (by omega : ¬ (1 : Int) ≤ (ds.length : Int))]
      rw [if_neg fun z => c1 z.1] at eto
      walk_at "r"
      exact wS_raise' (rz eto)
  simp only [L2.cxOf, c_check_steps, ha, slotsFrom, cellsOf, List.length_cons, List.length_nil, Nat.reduceAdd, Nat.reduceSub, List.replicate, List.cons_append, List.nil_append, List.append_nil]
  clear hsp hE
  cases a with
  | ob n ds => cases hn
  | raw x => cases hn
  | fn x => cases hn
  | lst ds => cases ha
  | _ =>
    walk_at "r"
    exact wS_raise' (rz rfl)
theorem ok_check_steps (T : Top G.K mg "check_steps" s_check_steps ["steps"]) (D_is_step : Def P w G.K mg base "is_step" 3 ["thing"] (spC G X c_is_step)) (D_below : Def P w G.K mg base "below" 1 ["one", "other"] (spC G X c_below)) (z_all : mg "all" = none) (z_len : mg "len" = none) (z_isinstance : mg "isinstance" = none) (z_list : mg "list" = none) (Mc_MOST : CstI mg "MOST" 8) (Mc_NOUGHT : CstT G mg "NOUGHT" (encF 0)) (Mc_ONE : CstT G mg "ONE" (encF 1)) (X_BadTaste : ExcOk G.K mg "BadTaste" (X 1)) : Def P w G.K mg base "check_steps" 4 ["steps"] (spC G X c_check_steps) := def_of T fun f fd F => fn_check_steps F D_is_step D_below z_all z_len z_isinstance z_list Mc_MOST Mc_NOUGHT Mc_ONE X_BadTaste
abbrev s_Taste___init__ : Stmt := inClass (topS 30) 0
theorem sc_Taste___init__ : FnScope ["self", "steps", "last", "end", "weight"] ["self", "steps"] (defScope s_Taste___init__) := ⟨rfl, rfl, rfl, by decide +kernel, rfl, by decide +kernel, by decide +kernel⟩
local macro_rules | `(tactic| walk_at "st") => `(tactic| simp only [c_Taste___init__, L2.cxOf, slotsFrom, cellsOf, argOf, List.length_cons, List.length_nil, List.replicate, List.cons_append, List.nil_append, List.map_cons, List.map_nil, Nat.reduceAdd, Nat.reduceSub, Nat.zero_add, Nat.sub_self] at *)
theorem fn_Taste___init__ {f : Addr} {fd : FuncData} (F : Fun G.K "__init__" "Taste.__init__" s_Taste___init__ f fd) (D_check_steps : Def P w G.K mg base "check_steps" 4 ["steps"] (spC G X c_check_steps)) (D_Taste_area : Met P w G mg base 0 "area" 3 ["self", "start", "end"] (spC G X c_Taste_area)) (Mc_NOUGHT : CstT G mg "NOUGHT" (encF 0)) (Mc_ONE : CstT G mg "ONE" (encF 1)) (Na_rows : NoAttr G.K (G.cl 0) "rows") (Na_total : NoAttr G.K (G.cl 0) "total") (Cl_Taste : Cls G.K (G.cl 0)) (h8 : G.cl 8 = G.cl 0) : FnOk P w G.K mg base (L2N.CX P w) 5 f fd ["self", "steps"] (spI G X (G.cl 0) c_Taste___init__) := by
  obtain ⟨f_check_steps, d_check_steps, G_check_steps, m_check_steps, k_check_steps, b_check_steps⟩ := D_check_steps.ex
  obtain ⟨f_Taste_area, d_Taste_area, G_Taste_area, Me_Taste_area, b_Taste_area⟩ := D_Taste_area.ex
  obtain ⟨A_NOUGHT, mc_NOUGHT, cs_NOUGHT⟩ := Mc_NOUGHT
  obtain ⟨A_ONE, mc_ONE, cs_ONE⟩ := Mc_ONE
  refine okXN F sc_Taste___init__ (fun vs H Q E h => spI_len (fun _ => rfl) h) (fun cdv A outer s H vs Q E hr hsp => ?_)
  refine ⟨_, (pss_cons (ps_expr (pe_call G_check_steps (hr.mono (by decide)) (by rfl) m_check_steps k_check_steps b_check_steps .nil (passC rfl rfl rfl rfl) (pa_cons (pv 1) pa_nil)))
    (pss_cons (ps_fld (pv 0) (pe_lst pa_nil) rfl)
    (pss_cons (ps_set (i := 2) sc_Taste___init__.nd rfl (Or.inl rfl) (pe_glob (v := .ref A_NOUGHT) (by rfl) mc_NOUGHT rfl))
    (pss_cons (ps_for (passes_of rfl) rfl (kpi_list (K := G.K) rfl (pv 1)) (kpg_tup (K := G.K) (n := 2) rfl rfl (pgs_cons (pg_name (i := 3) sc_Taste___init__.nd rfl (Or.inl rfl)) (pgs_cons (pg_name (i := 4) sc_Taste___init__.nd rfl (Or.inl rfl)) pgs_nil))) (pss_cons (ps_expr (kbm (K := G.K) rfl PySem.F.plainAttrs_list PySem.F.slot_list_append PySem.F.type_list_append mt_append (kFld (K := G.K) rfl (pv 0) rfl) (pa_cons (pe_tup (pa_cons (pv 2) (pa_cons (pv 3) (pa_cons (pe_tup (pa_cons (pv 4) (pa_cons pe_int pa_nil))) pa_nil)))) pa_nil)))
    (pss_one (ps_set (i := 2) sc_Taste___init__.nd rfl (Or.inl rfl) (pv 3)))))
    (pss_one (ps_fld (pv 0) (pe_meth (pv 0) Cl_Taste Me_Taste_area G_Taste_area (hr.mono (by decide)) b_Taste_area .nil passLN (pa_cons (pe_glob (v := .ref A_NOUGHT) (by rfl) mc_NOUGHT rfl) (pa_cons (pe_glob (v := .ref A_ONE) (by rfl) mc_ONE rfl) pa_nil))) rfl)))))), body_init hsp rfl (fun _ => by simp [c_Taste___init__]) (fun a F0 H0 hp hE => ?_)⟩
  have hp' := hp
  obtain ⟨hn, h3⟩ := hp
  cases hto : tasteOf a with
  | none =>
    have rz : ∀ H', Same H0 H' → E (.ref (X 1)) none H' := hE 1 (by simp [c_Taste___init__, hto])
    simp only [L2.cxOf, c_Taste___init__, slotsFrom, cellsOf, List.length_cons, List.length_nil, Nat.reduceAdd, Nat.reduceSub, List.replicate, List.cons_append, List.nil_append, List.append_nil, hto]
    clear hsp hE
    have hx : c_check_steps.out a = .exc 1 := by simp [c_check_steps, hto]
    rcases lst_or a with ⟨ds, rfl⟩ | ha
    · walk_at "r"
      refine ⟨.lst ds, .cons (.l (isL_ro rfl)) .nil, hp', ?_⟩
      rw [hx]
      exact rz
    · rw [ha]
      walk_at "r"
      refine ⟨a, .cons (by rw [ha]; exact .d a) .nil, hp', ?_⟩
      rw [hx]
      exact rz
  | some st =>
    obtain ⟨g, rfl⟩ := tasteOf_good hto
    have hx : c_check_steps.out (.lst (encSt st)) = .ret (.d .non) := by simp [c_check_steps, hto]
    simp only [L2.cxOf, c_Taste___init__, argOf, slotsFrom, cellsOf, List.length_cons, List.length_nil, Nat.reduceAdd, Nat.reduceSub, List.replicate, List.cons_append, List.nil_append, List.append_nil, hto]
    clear hsp hE
    walk_at "q"
    refine wS_seq ?_
    walk_at "q"
    refine ⟨.lst (encSt st), .cons (.l (isL_ro rfl)) .nil, hp', ?_⟩
    rw [hx]
    refine end_d ?_
    refine wS_seq ?_
    refine wS_setFld ?_
    walk_at "q"
    refine ⟨[], rfl, by simp, ?_⟩
    walk_at "q"
    refine ⟨_, _, _, rfl, rfl, by simp, by assumption, by assumption, ?_⟩
    refine wS_seq ?_
    walk_at "q"
    refine wS_seqJ (fun ρ' μ' => ∃ l b c, ρ' = [some (.p 0), some (.p 1), l, b, c] ∧ μ' = [.ins 0 [("rows", .p 2)], .ro (encSt st), .rw ((rowsOf 0 st).map encRow)]) ?_ ?_
    · refine wS_for ?_
      walk_at "q"
      refine ⟨_, isL_ro rfl, fun i ρ' μ' => ∃ b c, ρ' = [some (.p 0), some (.p 1), some (.d (encF (lastAt 0 (st.take i)))), b, c] ∧ μ' = [.ins 0 [("rows", .p 2)], .ro (encSt st), .rw (((rowsOf 0 st).take i).map encRow)], ⟨_, _, rfl, rfl⟩, ?_, ?_, ?_⟩
      · rintro i ρ' μ' ⟨b, c, rfl, rfl⟩
        exact isL_ro rfl
      · rintro i d ρ' μ' hd ⟨b, c, rfl, rfl⟩
        obtain ⟨s, hs, rfl⟩ := map_at hd
        have hr := rows_at (b := 0) hs
        have hil : i < st.length := (List.getElem?_eq_some_iff.mp hs).1
        walk_at "r"
        refine wE_fldP ?_
        walk_at "r"
        refine ⟨_, _, _, _, rfl, rfl, look_rows, by assumption, by assumption, ?_⟩
        refine ⟨_, _, rfl, rfl, ?_⟩
        walk_at "r"
        refine ⟨[.int s.2, .int 1], rfl, by simp, ?_⟩
        walk_at "r"
        refine ⟨[encF (lastAt 0 (st.take i)), encF s.1, .tup [.int s.2, .int 1]], rfl, by simp, ?_⟩
        walk_at "r"
        refine ⟨_, _, rfl, rfl, ?_, ?_⟩
        · have := g.few
          rw [List.length_map, List.length_take]
          omega
        walk_at "r"
        dsimp only
        rw [last_next hs, take_succ_map hr]
        exact ⟨_, _, rfl, rfl⟩
      · rintro ρ' μ' ⟨b, c, rfl, rfl⟩
        have el : (encSt st).length = (rowsOf 0 st).length := by simp [encSt, rows_len]
        rw [el, List.take_length]
        exact ⟨_, _, _, rfl, rfl⟩
    rintro ρ' μ' ⟨l, b, c, rfl, rfl⟩
    refine wS_frzFld (k := 0) (j := 2) rfl rfl ?_
    refine wS_setFld ?_
    refine wE_cmP ?_
    walk_at "r"
    refine ⟨0, 0, 8, [("rows", .lst ((rowsOf 0 st).map encRow))], rfl, rfl, rfl, h8, rfl, by decide +kernel, ?_⟩
    walk_at "r"
    refine ⟨rfl, (st, none, 0, 1), _, .cons (.d _) (.cons (.d _) (.cons (.d _) .nil)), ⟨g, pt0, pt1⟩, rfl, rfl, ?_⟩
    walk_at "r"
    refine ⟨_, _, _, rfl, rfl, by simp, by assumption, by assumption, ?_⟩
    refine ⟨0, [("rows", .lst ((rowsOf 0 st).map encRow)), ("total", encF (total st))], ?_, rfl, rfl, rfl⟩
    rw [put_total]
    rfl
theorem ok_Taste___init__ (T : TopI G 0 "Taste.__init__" s_Taste___init__ ["self", "steps"]) (D_check_steps : Def P w G.K mg base "check_steps" 4 ["steps"] (spC G X c_check_steps)) (D_Taste_area : Met P w G mg base 0 "area" 3 ["self", "start", "end"] (spC G X c_Taste_area)) (Mc_NOUGHT : CstT G mg "NOUGHT" (encF 0)) (Mc_ONE : CstT G mg "ONE" (encF 1)) (Na_rows : NoAttr G.K (G.cl 0) "rows") (Na_total : NoAttr G.K (G.cl 0) "total") (Cl_Taste : Cls G.K (G.cl 0)) (h8 : G.cl 8 = G.cl 0) : Ini P w G mg base 0 5 ["self", "steps"] (spI G X (G.cl 0) c_Taste___init__) := ini_of T fun f fd F => fn_Taste___init__ F D_check_steps D_Taste_area Mc_NOUGHT Mc_ONE Na_rows Na_total Cl_Taste h8
abbrev s_Taste_steps : Stmt := inClass (topS 30) 1
theorem sc_Taste_steps : FnScope ["self", "row"] ["self"] (defScope s_Taste_steps) := ⟨rfl, rfl, rfl, by decide +kernel, rfl, by decide +kernel, by decide +kernel⟩
local macro_rules | `(tactic| walk_at "st") => `(tactic| simp only [c_Taste_steps, L2.cxOf, slotsFrom, cellsOf, argOf, List.length_cons, List.length_nil, List.replicate, List.cons_append, List.nil_append, List.map_cons, List.map_nil, Nat.reduceAdd, Nat.reduceSub, Nat.zero_add, Nat.sub_self] at *)
theorem fn_Taste_steps {f : Addr} {fd : FuncData} (F : Fun G.K "steps" "Taste.steps" s_Taste_steps f fd) (Na_rows : NoAttr G.K (G.cl 0) "rows") (Cl_Taste : Cls G.K (G.cl 0)) (h8 : G.cl 8 = G.cl 0) : FnOk P w G.K mg base (L2N.CX P w) 1 f fd ["self"] (spC G X c_Taste_steps) := by
  refine okXN F sc_Taste_steps (fun vs H Q E h => spC_len (fun _ => rfl) h) (fun cdv A outer s H vs Q E hr hsp => ?_)
  refine ⟨_, (pss_one (ps_ret (pe_lc (own := ([("row", 1)] : List (Str × Nat))) (g := (gName 1)) (tt := tYes) rfl sc_Taste_steps.nd (kpi_list (K := G.K) rfl (kFld (K := G.K) rfl (pv 0) rfl)) (blkOk_by (N := (["self", "row"] : List Str)) (sc := defScope s_Taste_steps) (by decide +kernel)) (fun _ _ _ _ _ => (pg_name (i := 1) sc_Taste_steps.nd rfl (Or.inl rfl))) (fun _ _ _ _ _ => pts_nil) (fun _ _ _ _ _ => (pe_tup (pa_cons (pe_ix (kIx (K := G.K) rfl) (pv 1) pe_int (fun _ _ => rfl)) (pa_cons (pe_ix (kIx (K := G.K) rfl) (pe_ix (kIx (K := G.K) rfl) (pv 1) pe_int (fun _ _ => rfl)) pe_int (fun _ _ => rfl)) pa_nil))))))), body_ct hsp (fun _ => by simp [c_Taste_steps]) (fun a F0 hp hE => ?_)⟩
  walk_at "st"
  clear hsp hE
  walk_at "r"
  refine wE_mapL (fun d => match d with | .tup [_, e, .tup [w, _]] => .tup [e, w] | _ => .non) (within_name (by decide)) ?_
  refine wE_rows (by assumption) (by assumption) (by assumption) ?_
  walk_at "r"
  refine ⟨a, some (total a), rfl, _, .inl rfl, ?_, ?_, ?_⟩
  · rw [List.length_map, rows_len]; have := hp.few; omega
  · intro d hd acc
    obtain ⟨r, _, rfl⟩ := List.mem_map.mp hd
    walk_at "r"
    refine w2_ix (.inr rfl) rfl ?_
    walk_at "r"
    refine w2_ix (d := encF (r.2.2 : Rat)) (.inr rfl) rfl ?_
    walk_at "r"
    refine ⟨[encF r.2.1, .int r.2.2], rfl, by simp, ?_⟩
    exact ⟨rfl, rfl⟩
  · refine ⟨_, rfl, ?_⟩
    have e : List.map (fun d => match d with | .tup [_, e, .tup [w, _]] => D.tup [e, w] | _ => .non) ((rowsOf 0 a).map encRow) = encSt a := by
      have : ∀ (st : Steps) (b : Rat), List.map (fun d => match d with | .tup [_, e, .tup [w, _]] => D.tup [e, w] | _ => .non) ((rowsOf b st).map encRow) = encSt st := by
        intro st
        induction st with
        | nil => intro b; rfl
        | cons s st ih =>
          intro b
          show _ :: List.map _ ((rowsOf s.1 st).map encRow) = encStep s :: encSt st
          rw [ih s.1]
          rfl
      exact this a 0
    rw [e]
    exact .own rfl
theorem ok_Taste_steps (T : TopM G 0 "steps" "Taste.steps" s_Taste_steps ["self"]) (Na_rows : NoAttr G.K (G.cl 0) "rows") (Cl_Taste : Cls G.K (G.cl 0)) (h8 : G.cl 8 = G.cl 0) : Met P w G mg base 0 "steps" 1 ["self"] (spC G X c_Taste_steps) := met_of T fun f fd F => fn_Taste_steps F Na_rows Cl_Taste h8
abbrev s_Taste_area : Stmt := inClass (topS 30) 2
theorem sc_Taste_area : FnScope ["self", "start", "end", "found", "begin", "last", "weight", "low", "high"] ["self", "start", "end"] (defScope s_Taste_area) := ⟨rfl, rfl, rfl, by decide +kernel, rfl, by decide +kernel, by decide +kernel⟩
local macro_rules | `(tactic| walk_at "st") => `(tactic| simp only [c_Taste_area, L2.cxOf, slotsFrom, cellsOf, argOf, List.length_cons, List.length_nil, List.replicate, List.cons_append, List.nil_append, List.map_cons, List.map_nil, Nat.reduceAdd, Nat.reduceSub, Nat.zero_add, Nat.sub_self] at *)
theorem fn_Taste_area {f : Addr} {fd : FuncData} (F : Fun G.K "area" "Taste.area" s_Taste_area f fd) (D_greater : Def P w G.K mg base "greater" 2 ["one", "other"] (spC G X c_greater)) (D_lesser : Def P w G.K mg base "lesser" 2 ["one", "other"] (spC G X c_lesser)) (D_below : Def P w G.K mg base "below" 1 ["one", "other"] (spC G X c_below)) (D_plus : Def P w G.K mg base "plus" 2 ["one", "other"] (spC G X c_plus)) (D_times : Def P w G.K mg base "times" 2 ["one", "other"] (spC G X c_times)) (D_minus : Def P w G.K mg base "minus" 2 ["one", "other"] (spC G X c_minus)) (Mc_NOUGHT : CstT G mg "NOUGHT" (encF 0)) (Na_rows : NoAttr G.K (G.cl 0) "rows") (Cl_Taste : Cls G.K (G.cl 0)) (h8 : G.cl 8 = G.cl 0) : FnOk P w G.K mg base (L2N.CX P w) 3 f fd ["self", "start", "end"] (spC G X c_Taste_area) := by
  obtain ⟨f_greater, d_greater, G_greater, m_greater, k_greater, b_greater⟩ := D_greater.ex
  obtain ⟨f_lesser, d_lesser, G_lesser, m_lesser, k_lesser, b_lesser⟩ := D_lesser.ex
  obtain ⟨f_below, d_below, G_below, m_below, k_below, b_below⟩ := D_below.ex
  obtain ⟨f_plus, d_plus, G_plus, m_plus, k_plus, b_plus⟩ := D_plus.ex
  obtain ⟨f_times, d_times, G_times, m_times, k_times, b_times⟩ := D_times.ex
  obtain ⟨f_minus, d_minus, G_minus, m_minus, k_minus, b_minus⟩ := D_minus.ex
  obtain ⟨A_NOUGHT, mc_NOUGHT, cs_NOUGHT⟩ := Mc_NOUGHT
  refine okXN F sc_Taste_area (fun vs H Q E h => spC_len (fun _ => rfl) h) (fun cdv A outer s H vs Q E hr hsp => ?_)
  refine ⟨_, (pss_cons (ps_set (i := 3) sc_Taste_area.nd rfl (Or.inl rfl) (pe_glob (v := .ref A_NOUGHT) (by rfl) mc_NOUGHT rfl))
    (pss_cons (ps_for (passes_of rfl) rfl (kpi_list (K := G.K) rfl (kFld (K := G.K) rfl (pv 0) rfl)) (kpg_tup (K := G.K) (n := 3) rfl rfl (pgs_cons (pg_name (i := 4) sc_Taste_area.nd rfl (Or.inl rfl)) (pgs_cons (pg_name (i := 5) sc_Taste_area.nd rfl (Or.inl rfl)) (pgs_cons (pg_name (i := 6) sc_Taste_area.nd rfl (Or.inl rfl)) pgs_nil)))) (pss_cons (ps_set (i := 7) sc_Taste_area.nd rfl (Or.inl rfl) (pe_call G_greater (hr.mono (by decide)) (by rfl) m_greater k_greater b_greater .nil passLN (pa_cons (pv 4) (pa_cons (pv 1) pa_nil))))
    (pss_cons (ps_set (i := 8) sc_Taste_area.nd rfl (Or.inl rfl) (pe_call G_lesser (hr.mono (by decide)) (by rfl) m_lesser k_lesser b_lesser .nil passLN (pa_cons (pv 5) (pa_cons (pv 2) pa_nil))))
    (pss_one (ps_if (pt_val (pe_call G_below (hr.mono (by decide)) (by rfl) m_below k_below b_below .nil passLN (pa_cons (pv 7) (pa_cons (pv 8) pa_nil)))) (pss_one (ps_set (i := 3) sc_Taste_area.nd rfl (Or.inl rfl) (pe_call G_plus (hr.mono (by decide)) (by rfl) m_plus k_plus b_plus .nil passLN (pa_cons (pv 3) (pa_cons (pe_call G_times (hr.mono (by decide)) (by rfl) m_times k_times b_times .nil passLN (pa_cons (pv 6) (pa_cons (pe_call G_minus (hr.mono (by decide)) (by rfl) m_minus k_minus b_minus .nil passLN (pa_cons (pv 8) (pa_cons (pv 7) pa_nil))) pa_nil))) pa_nil))))) pss_nil)))))
    (pss_one (ps_ret (pv 3))))), body_ct hsp (fun _ => by simp [c_Taste_area]) (fun a F0 hp hE => ?_)⟩
  obtain ⟨st, tot, s, e⟩ := a
  obtain ⟨g, hs, he⟩ := hp
  walk_at "st"
  clear hsp hE
  refine wS_seq ?_
  walk_at "q"
  refine wS_seqJ (fun ρ' μ' => ∃ b l w lo hi, ρ' = [some (.d (tasteD st tot)), some (.d (encF s)), some (.d (encF e)), some (.d (encF (areaR (rowsOf 0 st) s e))), b, l, w, lo, hi] ∧ μ' = []) ?_ ?_
  · refine wS_for ?_
    refine wE_rows (by assumption) (by assumption) (by assumption) ?_
    walk_at "q"
    refine ⟨st, tot, rfl, _, .inl rfl, fun i ρ' μ' => ∃ b l w lo hi, ρ' = [some (.d (tasteD st tot)), some (.d (encF s)), some (.d (encF e)), some (.d (encF (((rowsOf 0 st).take i).foldl (areaStep s e) 0))), b, l, w, lo, hi] ∧ μ' = [], ⟨_, _, _, _, _, rfl, rfl⟩, fun _ _ _ _ => .inl rfl, ?_, ?_⟩
    · rintro i d ρ' μ' hd ⟨b, l, w, lo, hi, rfl, rfl⟩
      obtain ⟨r, hr, rfl⟩ := map_at hd
      have hmem := List.mem_of_getElem? hr
      obtain ⟨D, d0, db, gq, gs, ge⟩ := pt_grid g hs he
      have ok := g.row hmem
      have gb := gq _ ok.gb
      have gl := gq _ ok.gl
      have hb := ok.b0
      have hl := ok.l1
      have hbl := ok.bl
      have hs0 := hs.1
      have hs1 := hs.2.1
      have he0 := he.1
      have he1 := he.2.1
      have sb : Sz r.1 := sz1000 d0 db gb hb (by grind)
      have sl : Sz r.2.1 := sz1000 d0 db gl (by grind) (by grind)
      have m0 : 0 ≤ maxR r.1 s ∧ maxR r.1 s ≤ 1 := by unfold maxR; split <;> grind
      have n0 : 0 ≤ minR r.2.1 e ∧ minR r.2.1 e ≤ 1 := by unfold minR; split <;> grind
      have sm : Sz (maxR r.1 s) := sz1000 d0 db (gb.max gs) m0.1 (by grind)
      have sn : Sz (minR r.2.1 e) := sz1000 d0 db (gl.min ge) n0.1 (by grind)
      walk_at "r"
      refine ca_greater sb hs.sz ?_
      walk_at "r"
      refine ca_lesser sl he.sz ?_
      walk_at "r"
      refine ca_below sm sn ?_
      walk_at "r"
      have hstep := foldl_take (areaStep s e) 0 hr
      by_cases c : maxR r.1 s < minR r.2.1 e
      · rw [decide_eq_true c]
        walk_at "r"
        refine ca_minus m0.1 (by grind) sn sm ?_
        walk_at "r"
        have w0 : (0 : Rat) ≤ (r.2.2 : Rat) := by exact_mod_cast (by have := ok.w1; omega : (0 : Int) ≤ r.2.2)
        have w2 : (r.2.2 : Rat) ≤ 1000 := by exact_mod_cast ok.w2
        have sd : Sz (minR r.2.1 e - maxR r.1 s) := sz1000 d0 db ((gl.min ge).sub (gb.max gs)) (by grind) (by grind)
        have h3 : (r.2.2 : Rat) * (minR r.2.1 e - maxR r.1 s) ≤ 1000 * (minR r.2.1 e - maxR r.1 s) := Rat.mul_le_mul_of_nonneg_right w2 (by grind)
        have h4 : 0 ≤ (r.2.2 : Rat) * (minR r.2.1 e - maxR r.1 s) := Rat.mul_nonneg w0 (by grind)
        refine ca_times w0 (by grind) (sz_int (by have := ok.w1; omega) ok.w2) sd ?_
        walk_at "r"
        obtain ⟨a0, a1⟩ := g.areaSz hs he i
        refine ca_plus a0 h4 a1 (sz1000 d0 db (((gl.min ge).sub (gb.max gs)).mulI _) h4 (by grind)) ?_
        walk_at "r"
        dsimp only
        rw [hstep, show areaStep s e (((rowsOf 0 st).take i).foldl (areaStep s e) 0) r = _ from if_pos c]
        exact ⟨_, _, _, _, _, rfl, rfl⟩
      · rw [decide_eq_false c]
        walk_at "r"
        dsimp only
        rw [hstep, show areaStep s e (((rowsOf 0 st).take i).foldl (areaStep s e) 0) r = _ from if_neg c]
        exact ⟨_, _, _, _, _, rfl, rfl⟩
    · rintro ρ' μ' ⟨b, l, w, lo, hi, rfl, rfl⟩
      rw [List.length_map, ← area_eq]
      exact ⟨_, _, _, _, _, rfl, rfl⟩
  rintro ρ' μ' ⟨b, l, w, lo, hi, rfl, rfl⟩
  walk_at "r"
  exact .d _
theorem ok_Taste_area (T : TopM G 0 "area" "Taste.area" s_Taste_area ["self", "start", "end"]) (D_greater : Def P w G.K mg base "greater" 2 ["one", "other"] (spC G X c_greater)) (D_lesser : Def P w G.K mg base "lesser" 2 ["one", "other"] (spC G X c_lesser)) (D_below : Def P w G.K mg base "below" 1 ["one", "other"] (spC G X c_below)) (D_plus : Def P w G.K mg base "plus" 2 ["one", "other"] (spC G X c_plus)) (D_times : Def P w G.K mg base "times" 2 ["one", "other"] (spC G X c_times)) (D_minus : Def P w G.K mg base "minus" 2 ["one", "other"] (spC G X c_minus)) (Mc_NOUGHT : CstT G mg "NOUGHT" (encF 0)) (Na_rows : NoAttr G.K (G.cl 0) "rows") (Cl_Taste : Cls G.K (G.cl 0)) (h8 : G.cl 8 = G.cl 0) : Met P w G mg base 0 "area" 3 ["self", "start", "end"] (spC G X c_Taste_area) := met_of T fun f fd F => fn_Taste_area F D_greater D_lesser D_below D_plus D_times D_minus Mc_NOUGHT Na_rows Cl_Taste h8
abbrev s_fraction_text : Stmt := topS 34
theorem sc_fraction_text : FnScope ["one"] ["one"] (defScope s_fraction_text) := ⟨rfl, rfl, rfl, by decide +kernel, rfl, by decide +kernel, by decide +kernel⟩
local macro_rules | `(tactic| walk_at "st") => `(tactic| simp only [c_fraction_text, L2.cxOf, slotsFrom, cellsOf, argOf, List.length_cons, List.length_nil, List.replicate, List.cons_append, List.nil_append, List.map_cons, List.map_nil, Nat.reduceAdd, Nat.reduceSub, Nat.zero_add, Nat.sub_self] at *)
theorem fn_fraction_text {f : Addr} {fd : FuncData} (F : Fun G.K "fraction_text" "fraction_text" s_fraction_text f fd) (z_str : mg "str" = none) : FnOk P w G.K mg base (L2N.CX P w) 1 f fd ["one"] (spC G X c_fraction_text) := by
  refine okXN F sc_fraction_text (fun vs H Q E h => spC_len (fun _ => rfl) h) (fun cdv A outer s H vs Q E hr hsp => ?_)
  refine ⟨_, (pss_cons (ps_if (pt_cmpR (kEq (K := G.K) rfl hr.units) (pe_ix (kIx (K := G.K) rfl) (pv 0) pe_int (fun _ _ => rfl)) pe_int (nomark _)) (pss_one (ps_ret (pe_callTy kStrI (by rfl) z_str bt_str (pa_cons (pe_ix (kIx (K := G.K) rfl) (pv 0) pe_int (fun _ _ => rfl)) pa_nil)))) pss_nil)
    (pss_one (ps_ret (pe_op kAddS (pe_op kAddS (pe_callTy kStrI (by rfl) z_str bt_str (pa_cons (pe_ix (kIx (K := G.K) rfl) (pv 0) pe_int (fun _ _ => rfl)) pa_nil)) pe_str) (pe_callTy kStrI (by rfl) z_str bt_str (pa_cons (pe_ix (kIx (K := G.K) rfl) (pv 0) pe_int (fun _ _ => rfl)) pa_nil)))))), body_ct hsp (fun _ => by simp [c_fraction_text]) (fun a F0 hp hE => ?_)⟩
  obtain ⟨a0, z1, z2⟩ : 0 ≤ a ∧ a.num.natAbs < 2 ^ 900 ∧ a.den < 2 ^ 900 := hp
  walk_at "st"
  clear hsp hE
  have hn : 0 ≤ a.num := Rat.num_nonneg.mpr a0
  have en : a.num = ((a.num.toNat : Nat) : Int) := (Int.toNat_of_nonneg hn).symm
  have l1 : (TL.numL a.num.toNat).length ≤ 300 := smT_len (by omega)
  have l2 : (TL.numL a.den).length ≤ 300 := smT_len z2
  have p9 : (2 : Nat) ^ 900 ≤ 2 ^ 1900 := Nat.pow_le_pow_right (by decide) (by decide)
  walk_at "r"
  by_cases c : (a.den : Int) = 1
  · have c' : a.den = 1 := by omega
    have et : txF a = TL.numL a.num.toNat := if_pos c'
    rw [decide_eq_true c, et]
    walk_at "r"
    rw [en]
    refine wC_strI (by omega) ?_
    exact ⟨_, rfl, .d _⟩
  · have c' : ¬ a.den = 1 := by omega
    have et : txF a = TL.numL a.num.toNat ++ 47 :: TL.numL a.den := if_neg c'
    rw [decide_eq_false c, et]
    walk_at "r"
    rw [en]
    refine wC_strI (by omega) ?_
    walk_at "r"
    refine w2_addS (b := [47]) (by simp; omega) ?_
    walk_at "r"
    refine wC_strI (n := a.den) (by omega) ?_
    refine w2_addS (by simp; omega) ?_
    rw [List.append_assoc]
    exact ⟨_, rfl, .d _⟩
theorem ok_fraction_text (T : Top G.K mg "fraction_text" s_fraction_text ["one"]) (z_str : mg "str" = none) : Def P w G.K mg base "fraction_text" 1 ["one"] (spC G X c_fraction_text) := def_of T fun f fd F => fn_fraction_text F z_str
abbrev s_number_of : Stmt := topS 35
theorem sc_number_of : FnScope ["text", "sign"] ["text"] (defScope s_number_of) := ⟨rfl, rfl, rfl, by decide +kernel, rfl, by decide +kernel, by decide +kernel⟩
local macro_rules | `(tactic| walk_at "st") => `(tactic| simp only [c_number_of, L2.cxOf, slotsFrom, cellsOf, argOf, List.length_cons, List.length_nil, List.replicate, List.cons_append, List.nil_append, List.map_cons, List.map_nil, Nat.reduceAdd, Nat.reduceSub, Nat.zero_add, Nat.sub_self] at *)
theorem fn_number_of {f : Addr} {fd : FuncData} (F : Fun G.K "number_of" "number_of" s_number_of f fd) (z_all : mg "all" = none) (z_len : mg "len" = none) (z_int : mg "int" = none) (Mc_FIGURES : CstS mg "FIGURES" "0123456789") (Mc_LONGEST : CstI mg "LONGEST" 300) (X_BadText : ExcOk G.K mg "BadText" (X 5)) : FnOk P w G.K mg base (L2N.CX P w) 1 f fd ["text"] (spC G X c_number_of) := by
  obtain ⟨t_FIGURES, mc_FIGURES⟩ := Mc_FIGURES
  obtain ⟨t_LONGEST, mc_LONGEST⟩ := Mc_LONGEST
  obtain ⟨xP_BadText, gP_BadText, kP_BadText, bP_BadText, tP_BadText⟩ := X_BadText
  refine okXN F sc_number_of (fun vs H Q E h => spC_len (fun _ => rfl) h) (fun cdv A outer s H vs Q E hr hsp => ?_)
  refine ⟨_, (pss_cons (ps_if (PW.pt (pw_or (pt_not (pt_chain op_le op_le pe_int (pe_callB kLenS (by rfl) z_len bt_len (pa_cons (pv 0) pa_nil)) (pe_glob (v := .int 300) (by rfl) mc_LONGEST ⟨_, rfl⟩))) (pw_or1 (pt_not (pt_val (pe_callB (kAll (K := G.K) rfl rfl) (by rfl) z_all bt_all (pa_cons (pe_lc (own := ([("sign", 1)] : List (Str × Nat))) (g := (gName 1)) (tt := tYes) rfl sc_number_of.nd (pi_str (pv 0)) (blkOk_by (N := (["text", "sign"] : List Str)) (sc := defScope s_number_of) (by decide +kernel)) (fun _ _ _ _ _ => (pg_name (i := 1) sc_number_of.nd rfl (Or.inl rfl))) (fun _ _ _ _ _ => pts_nil) (fun _ _ _ _ _ => (pe_cmpR kInS (pv 1) (pe_glob (v := .str "0123456789") (by rfl) mc_FIGURES ⟨_, rfl⟩) (by rfl)))) pa_nil))))))) (pss_one (L2N.ps_raise rfl (L2N.takes_of rfl rfl rfl rfl) (L2N.pmk_own PySem.F.excBase_ValueError xP_BadText gP_BadText kP_BadText (raises_own bP_BadText tP_BadText) (by rfl)))) pss_nil)
    (pss_cons (ps_if (PW.pt (pw_and (pt_cmpR (kEq (K := G.K) rfl hr.units) (kItemS (pv 0) pe_int (fun _ _ => rfl)) pe_str (nomark _)) (pw_and1 (pt_cmpR op_gt (pe_callB kLenS (by rfl) z_len bt_len (pa_cons (pv 0) pa_nil)) pe_int (nomark _))))) (pss_one (L2N.ps_raise rfl (L2N.takes_of rfl rfl rfl rfl) (L2N.pmk_own PySem.F.excBase_ValueError xP_BadText gP_BadText kP_BadText (raises_own bP_BadText tP_BadText) (by rfl)))) pss_nil)
    (pss_one (ps_ret (pe_callTy kIntS (by rfl) z_int bt_int (pa_cons (pv 0) pa_nil)))))), body_ct hsp (fun _ => by simp [c_number_of]) (fun a F0 hp hE => ?_)⟩
  obtain ⟨hp, hcp⟩ : a.length ≤ 5000000 ∧ Cps a := hp
  have rz : numR a = none → ∀ H', Same H H' → E (.ref (X 5)) none H' := fun h => hE 5 (by simp [c_number_of, h])
  walk_at "st"
  clear hsp hE
  walk_at "r"
  refine wC_lenS (by omega) ?_
  walk_at "r"
  by_cases c1 : (1 : Int) ≤ a.length
  · rw [decide_eq_true c1]
    walk_at "r"
    by_cases c2 : (a.length : Int) ≤ 300
    · rw [decide_eq_true c2]
      walk_at "r"
      refine wE_lcS (within_name (by decide)) ?_
      walk_at "r"
      refine ⟨fun i μ' => μ' = [.rw ((a.take i).map fun c => D.bl (decide (48 ≤ c) && decide (c ≤ 57)))], rfl, ?_, ?_⟩
      · rintro i c μ' hi rfl
        have := (List.getElem?_eq_some_iff.mp hi).1
        have this_at := hi
        walk_at "r"
        refine wT_yes (iteT ?_)
        walk_at "r"
        refine w2_inS (a := [48, 49, 50, 51, 52, 53, 54, 55, 56, 57]) ?_
        refine ⟨_, _, rfl, rfl, by simp; omega, ?_⟩
        have e : decide (c ∈ [48, 49, 50, 51, 52, 53, 54, 55, 56, 57]) = (decide (48 ≤ c) && decide (c ≤ 57)) := by
          rw [← Bool.decide_and, decide_eq_decide]
          simp
          omega
        rw [e]
        show [Cell.rw _] = [Cell.rw (List.map _ (List.take (i + 1) a))]
        rw [take_succ_map this_at]
      · rintro μ' rfl
        refine wA_nil ?_
        refine wC_all (bs := a.map fun c => decide (48 ≤ c) && decide (c ≤ 57)) ?_ ?_
        · rw [List.map_map, List.take_length]
          exact isL_rw rfl
        have ea : (a.map fun c => decide (48 ≤ c) && decide (c ≤ 57)).all id = digs a := by rw [List.all_map]; rfl
        rw [ea]
        refine ⟨_, rfl, ?_⟩
        by_cases c3 : digs a = true
        · rw [c3]
          have ne : a ≠ [] := fun z => by rw [z] at c1; exact absurd c1 (by decide)
          obtain ⟨h0, hh⟩ : ∃ h0, a[0]? = some h0 := ⟨_, List.getElem?_eq_getElem (by omega)⟩
          have hh2 : a.head? = some h0 := by rw [List.head?_eq_getElem?]; exact hh
          walk_at "r"
          refine w2_ixS (by decide) (by decide) hh ?_
          walk_at "r"
          refine w2_eqS (b := [48]) (cps_one (hcp _ (List.mem_of_getElem? hh))) (cps_one (by decide)) ?_
          walk_at "r"
          by_cases c4 : [h0] = [48]
          · rw [decide_eq_true c4]
            walk_at "r"
            refine wC_lenS (by omega) ?_
            walk_at "r"
            by_cases c5 : (1 : Int) < a.length
            · rw [decide_eq_true c5]
              walk_at "r"
              refine wS_raise' (rz ?_)
              exact if_neg fun z => z.2.2.2 ⟨by rw [hh2]; injection c4 with c4 _; rw [c4], by omega⟩
            · rw [decide_eq_false c5]
              have en : numR a = some (NumText.digitsVal a) := if_pos ⟨ne, by omega, c3, fun z => c5 (by have := z.2; omega)⟩
              walk_at "r"
              refine wC_intS c3 ne (by omega) ?_
              refine ⟨_, by simp [c_number_of, en], .d _⟩
          · rw [decide_eq_false c4]
            have en : numR a = some (NumText.digitsVal a) := if_pos ⟨ne, by omega, c3, fun z => c4 (by rw [hh2] at z; rw [Option.some.inj z.1])⟩
            walk_at "r"
            refine wC_intS c3 ne (by omega) ?_
            refine ⟨_, by simp [c_number_of, en], .d _⟩
        · rw [Bool.eq_false_iff.mpr c3]
          walk_at "r"
          refine wS_raise' (rz ?_)
          exact if_neg fun z => c3 z.2.2.1
    · rw [decide_eq_false c2]
      walk_at "r"
      refine wS_raise' (rz ?_)
      exact if_neg fun z => by omega
  · rw [decide_eq_false c1]
    walk_at "r"
    refine wS_raise' (rz ?_)
    exact if_neg fun z => by have := List.length_pos_iff.mpr z.1; omega
theorem ok_number_of (T : Top G.K mg "number_of" s_number_of ["text"]) (z_all : mg "all" = none) (z_len : mg "len" = none) (z_int : mg "int" = none) (Mc_FIGURES : CstS mg "FIGURES" "0123456789") (Mc_LONGEST : CstI mg "LONGEST" 300) (X_BadText : ExcOk G.K mg "BadText" (X 5)) : Def P w G.K mg base "number_of" 1 ["text"] (spC G X c_number_of) := def_of T fun f fd F => fn_number_of F z_all z_len z_int Mc_FIGURES Mc_LONGEST X_BadText
abbrev s_fraction_of : Stmt := topS 36
theorem sc_fraction_of : FnScope ["text", "above", "mark", "under", "a", "b"] ["text"] (defScope s_fraction_of) := ⟨rfl, rfl, rfl, by decide +kernel, rfl, by decide +kernel, by decide +kernel⟩
local macro_rules | `(tactic| walk_at "st") => `(tactic| simp only [c_fraction_of, L2.cxOf, slotsFrom, cellsOf, argOf, List.length_cons, List.length_nil, List.replicate, List.cons_append, List.nil_append, List.map_cons, List.map_nil, Nat.reduceAdd, Nat.reduceSub, Nat.zero_add, Nat.sub_self] at *)
theorem fn_fraction_of {f : Addr} {fd : FuncData} (F : Fun G.K "fraction_of" "fraction_of" s_fraction_of f fd) (D_number_of : Def P w G.K mg base "number_of" 1 ["text"] (spC G X c_number_of)) (D_lowest : Def P w G.K mg base "lowest" 1 ["a", "b"] (spC G X c_lowest)) (X_BadText : ExcOk G.K mg "BadText" (X 5)) : FnOk P w G.K mg base (L2N.CX P w) 2 f fd ["text"] (spC G X c_fraction_of) := by
  obtain ⟨f_number_of, d_number_of, G_number_of, m_number_of, k_number_of, b_number_of⟩ := D_number_of.ex
  obtain ⟨f_lowest, d_lowest, G_lowest, m_lowest, k_lowest, b_lowest⟩ := D_lowest.ex
  obtain ⟨xP_BadText, gP_BadText, kP_BadText, bP_BadText, tP_BadText⟩ := X_BadText
  refine okXN F sc_fraction_of (fun vs H Q E h => spC_len (fun _ => rfl) h) (fun cdv A outer s H vs Q E hr hsp => ?_)
  refine ⟨_, (pss_cons (ps_asg (kPart (pv 0) pe_str) (kpg_tup (K := G.K) (n := 3) rfl rfl (pgs_cons (pg_name (i := 1) sc_fraction_of.nd rfl (Or.inl rfl)) (pgs_cons (pg_name (i := 2) sc_fraction_of.nd rfl (Or.inl rfl)) (pgs_cons (pg_name (i := 3) sc_fraction_of.nd rfl (Or.inl rfl)) pgs_nil)))))
    (pss_cons (ps_set (i := 4) sc_fraction_of.nd rfl (Or.inl rfl) (pe_call G_number_of (hr.mono (by decide)) (by rfl) m_number_of k_number_of b_number_of .nil (passC rfl rfl rfl rfl) (pa_cons (pv 1) pa_nil)))
    (pss_cons (ps_set (i := 5) sc_fraction_of.nd rfl (Or.inl rfl) pe_int)
    (pss_cons (ps_if (pt_cmpR (kNe (K := G.K) rfl hr.units) (pv 2) pe_str (nomark _)) (pss_one (ps_set (i := 5) sc_fraction_of.nd rfl (Or.inl rfl) (pe_call G_number_of (hr.mono (by decide)) (by rfl) m_number_of k_number_of b_number_of .nil (passC rfl rfl rfl rfl) (pa_cons (pv 3) pa_nil)))) pss_nil)
    (pss_cons (ps_if (PW.pt (pw_or (pt_cmpR op_lt (pv 5) pe_int (nomark _)) (pw_or (PW.pt (pw_and (pt_cmpR (kNe (K := G.K) rfl hr.units) (pv 2) pe_str (nomark _)) (pw_and1 (pt_cmpR (kEq (K := G.K) rfl hr.units) (pv 5) pe_int (nomark _))))) (pw_or1 (pt_cmpR (kNe (K := G.K) rfl hr.units) (pe_call G_lowest (hr.mono (by decide)) (by rfl) m_lowest k_lowest b_lowest .nil passLN (pa_cons (pv 4) (pa_cons (pv 5) pa_nil))) (pe_tup (pa_cons (pv 4) (pa_cons (pv 5) pa_nil))) (nomark _)))))) (pss_one (L2N.ps_raise rfl (L2N.takes_of rfl rfl rfl rfl) (L2N.pmk_own PySem.F.excBase_ValueError xP_BadText gP_BadText kP_BadText (raises_own bP_BadText tP_BadText) (by rfl)))) pss_nil)
    (pss_one (ps_ret (pe_tup (pa_cons (pv 4) (pa_cons (pv 5) pa_nil)))))))))), body_ct hsp (fun _ => by simp [c_fraction_of]) (fun a F0 hp hE => ?_)⟩
  obtain ⟨hp, hcp⟩ : a.length ≤ 5000000 ∧ Cps a := hp
  have rz : fracT a = none → ∀ H', Same H H' → E (.ref (X 5)) none H' := fun h => hE 5 (by simp [c_fraction_of, h])
  walk_at "st"
  clear hsp hE
  refine wS_seq (wS_asg (wE_part ?_))
  walk_at "e"
  refine ⟨a, rfl, ?_⟩
  walk_at "e"
  refine ⟨47, rfl, by omega, ?_⟩
  have pl := par_len 47 a
  have pm := par_mark 47 a
  obtain ⟨cpx, lm, cpy⟩ := par_cps (c := 47) hcp
  have eo : c_fraction_of.out a = (match (match numR (parD 47 a).1, (if (parD 47 a).2.1 = [] then some 1 else numR (parD 47 a).2.2) with
    | some x, some y => if y < 1 ∨ (parD 47 a).2.1 ≠ [] ∧ y = 1 ∨ lowQ x y = false then none else some (Rat.divInt x y)
    | _, _ => none) with
    | some q => .ret (.d (encF q))
    | none => .exc 5) := rfl
  unfold fracT at *
  generalize parD 47 a = pd at *
  obtain ⟨x, m, y⟩ := pd
  dsimp only at *
  walk_at "q"
  refine wS_asgJ (fun u μ' => ∃ n : Nat, u = .d (.int n) ∧ numR x = some n ∧ μ' = []) ?_ ?_
  · walk_at "q"
    refine ca_numR (by omega) cpx (fun n hn => ⟨n, rfl, hn, rfl⟩) fun hn => ?_
    refine rz ?_
    rw [hn]
  rintro u μ' ⟨n, rfl, hn, rfl⟩
  rw [hn] at rz
  simp only [hn]
  walk_at "q"
  refine wS_seq ?_
  walk_at "q"
  refine wS_seqJ (fun ρ' μ' => ∃ k : Nat, ρ' = [some (.d (sd a)), some (.d (sd x)), some (.d (sd m)), some (.d (sd y)), some (.d (.int n)), some (.d (.int k))] ∧ μ' = [] ∧ (if m = [] then some 1 else numR y) = some k) ?_ ?_
  · walk_at "r"
    refine w2_neS (b := []) lm cps_nil ?_
    walk_at "r"
    by_cases c1 : m = []
    · rw [decide_eq_true c1]
      walk_at "r"
      exact ⟨rfl, if_pos c1⟩
    · rw [decide_eq_false c1]
      walk_at "r"
      refine ca_numR (by omega) cpy (fun k hk => ?_) fun hk => ?_
      · walk_at "r"
        exact ⟨rfl, by rw [if_neg c1]; exact hk⟩
      · refine rz ?_
        rw [if_neg c1, hk]
  rintro ρ' μ' ⟨k, rfl, rfl, hk⟩
  rw [hk] at rz
  simp only [hk]
  have nl := numR_lt hn
  have kl : k < 2 ^ 1000 := by
    by_cases c1 : m = []
    · rw [if_pos c1] at hk
      have : 1 = k := Option.some.inj hk
      rw [← this]; exact Nat.one_lt_two_pow (by decide)
    · rw [if_neg c1] at hk
      exact numR_lt hk
  walk_at "r"
  by_cases c1 : (k : Int) < 1
  · rw [decide_eq_true c1]
    walk_at "r"
    exact wS_raise' (rz (if_pos (.inl (by omega))))
  · rw [decide_eq_false c1]
    walk_at "r"
    refine w2_neS (b := []) lm cps_nil ?_
    walk_at "r"
    by_cases c2 : m = []
    · rw [decide_eq_true c2]
      walk_at "r"
      walk_at "c2"
      · exact ⟨by show (0 : Int) ≤ n; omega, dz_small (by omega) kl⟩
      refine end_d ?_
      walk_at "r"
      refine ⟨[.int n, .int k], rfl, by simp, ?_⟩
      refine w2_neD (.d _) (.d _) 1 1 (by decide) (by decide) rfl rfl ?_
      rw [eqD_lowQ]
      by_cases c4 : lowQ n k = true
      · rw [c4]
        walk_at "r"
        refine ⟨[.int n, .int k], rfl, by simp, ?_⟩
        rw [show D.tup [.int n, .int k] = encF (Rat.divInt n k) by
          have z := of_decide_eq_true c4
          unfold encF
          rw [z.1, z.2], if_neg (by simp [c2]; omega)]
        exact ⟨_, rfl, .d _⟩
      · rw [Bool.eq_false_iff.mpr c4]
        walk_at "r"
        exact wS_raise' (rz (if_pos (.inr (.inr (Bool.eq_false_iff.mpr c4)))))
    · rw [decide_eq_false c2]
      walk_at "r"
      by_cases c3 : (k : Int) = 1
      · rw [decide_eq_true c3]
        walk_at "r"
        exact wS_raise' (rz (if_pos (.inr (.inl ⟨c2, by omega⟩))))
      · rw [decide_eq_false c3]
        walk_at "r"
        walk_at "c2"
        · exact ⟨by show (0 : Int) ≤ n; omega, dz_small (by omega) kl⟩
        refine end_d ?_
        walk_at "r"
        refine ⟨[.int n, .int k], rfl, by simp, ?_⟩
        refine w2_neD (.d _) (.d _) 1 1 (by decide) (by decide) rfl rfl ?_
        rw [eqD_lowQ]
        by_cases c4 : lowQ n k = true
        · rw [c4]
          walk_at "r"
          refine ⟨[.int n, .int k], rfl, by simp, ?_⟩
          rw [show D.tup [.int n, .int k] = encF (Rat.divInt n k) by
            have z := of_decide_eq_true c4
            unfold encF
            rw [z.1, z.2], if_neg (by simp [c2]; omega)]
          exact ⟨_, rfl, .d _⟩
        · rw [Bool.eq_false_iff.mpr c4]
          walk_at "r"
          exact wS_raise' (rz (if_pos (.inr (.inr (Bool.eq_false_iff.mpr c4)))))
theorem ok_fraction_of (T : Top G.K mg "fraction_of" s_fraction_of ["text"]) (D_number_of : Def P w G.K mg base "number_of" 1 ["text"] (spC G X c_number_of)) (D_lowest : Def P w G.K mg base "lowest" 1 ["a", "b"] (spC G X c_lowest)) (X_BadText : ExcOk G.K mg "BadText" (X 5)) : Def P w G.K mg base "fraction_of" 2 ["text"] (spC G X c_fraction_of) := def_of T fun f fd F => fn_fraction_of F D_number_of D_lowest X_BadText
abbrev s_taste_text : Stmt := topS 37
theorem sc_taste_text : FnScope ["taste", "end", "weight"] ["taste"] (defScope s_taste_text) := ⟨rfl, rfl, rfl, by decide +kernel, rfl, by decide +kernel, by decide +kernel⟩
local macro_rules | `(tactic| walk_at "st") => `(tactic| simp only [c_taste_text, L2.cxOf, slotsFrom, cellsOf, argOf, List.length_cons, List.length_nil, List.replicate, List.cons_append, List.nil_append, List.map_cons, List.map_nil, Nat.reduceAdd, Nat.reduceSub, Nat.zero_add, Nat.sub_self] at *)
theorem fn_taste_text {f : Addr} {fd : FuncData} (F : Fun G.K "taste_text" "taste_text" s_taste_text f fd) (D_fraction_text : Def P w G.K mg base "fraction_text" 1 ["one"] (spC G X c_fraction_text)) (D_Taste_steps : Met P w G mg base 0 "steps" 1 ["self"] (spC G X c_Taste_steps)) (z_str : mg "str" = none) (Cl_Taste : Cls G.K (G.cl 0)) : FnOk P w G.K mg base (L2N.CX P w) 2 f fd ["taste"] (spC G X c_taste_text) := by
  obtain ⟨f_fraction_text, d_fraction_text, G_fraction_text, m_fraction_text, k_fraction_text, b_fraction_text⟩ := D_fraction_text.ex
  obtain ⟨f_Taste_steps, d_Taste_steps, G_Taste_steps, Me_Taste_steps, b_Taste_steps⟩ := D_Taste_steps.ex
  refine okXN F sc_taste_text (fun vs H Q E h => spC_len (fun _ => rfl) h) (fun cdv A outer s H vs Q E hr hsp => ?_)
  refine ⟨_, (pss_one (ps_ret (kJoin (K := G.K) rfl pe_str (pe_lc (own := ([("end", 1), ("weight", 2)] : List (Str × Nat))) (g := (gTup G.K 2 (gCons (gName 1) (gCons (gName 2) gNil)))) (tt := tYes) rfl sc_taste_text.nd (kpi_list (K := G.K) rfl (pe_meth0 (pv 0) Cl_Taste Me_Taste_steps G_Taste_steps (hr.mono (by decide)) b_Taste_steps .nil passLN)) (blkOk_by (N := (["taste", "end", "weight"] : List Str)) (sc := defScope s_taste_text) (by decide +kernel)) (fun _ _ _ _ _ => (kpg_tup (K := G.K) (n := 2) rfl rfl (pgs_cons (pg_name (i := 1) sc_taste_text.nd rfl (Or.inl rfl)) (pgs_cons (pg_name (i := 2) sc_taste_text.nd rfl (Or.inl rfl)) pgs_nil)))) (fun _ _ _ _ _ => pts_nil) (fun _ _ _ _ _ => (pe_op kAddS (pe_op kAddS (pe_callTy kStrI (by rfl) z_str bt_str (pa_cons (pv 2) pa_nil)) pe_str) (pe_call G_fraction_text (hr.mono (by decide)) (by rfl) m_fraction_text k_fraction_text b_fraction_text .nil passLN (pa_cons (pv 1) pa_nil)))))))), body_ct hsp (fun _ => by simp [c_taste_text]) (fun a F0 hp hE => ?_)⟩
  replace hp : Good a := hp
  walk_at "st"
  clear hsp hE
  refine wS_ret (wE_join ?_)
  walk_at "e"
  refine ⟨32, rfl, ?_⟩
  refine wE_mapL txWD (within_tup (withins_cons (within_name (by decide)) (withins_cons (within_name (by decide)) withins_nil))) ?_
  walk_at "tm"
  refine ca_tsteps hp ?_
  refine ⟨encSt a, isL_app, by rw [show (encSt a).length = a.length from List.length_map _]; have := hp.few; omega, ?_, ?_⟩
  · intro d hd acc
    obtain ⟨s, hs, rfl⟩ := List.mem_map.mp hd
    obtain ⟨h0, h1, sm⟩ := good_in hp hs
    have ok := hp.ok s hs
    have l1 := w_len ok.2.1 ok.2.2
    have l2 := txF_len sm
    obtain ⟨w, ew⟩ : ∃ w : Nat, s.2 = (w : Int) := ⟨s.2.toNat, by have := ok.2.1; omega⟩
    rw [txWD_enc (by grind)]
    unfold encStep
    rw [ew]
    walk_at "r"
    refine wC_strI (n := w) (Nat.lt_of_le_of_lt (by have := ok.2.2; omega : w ≤ 1000) (Nat.lt_of_lt_of_le (by decide : 1000 < 2 ^ 10) (Nat.pow_le_pow_right (by decide) (by decide)))) ?_
    walk_at "r"
    refine w2_addS (b := [64]) (by rw [ew] at l1; simp at l1 ⊢; omega) ?_
    walk_at "r"
    refine ca_ftext (by grind) sm ?_
    refine w2_addS (by rw [ew] at l1; simp at l1 ⊢; omega) ?_
    refine ⟨?_, rfl⟩
    unfold txW
    rw [ew]
    simp
  rw [txWD_map hp]
  refine ⟨a.map txW, isL_app, Nat.le_trans (txT_sum hp) (by decide), ?_⟩
  exact ⟨_, rfl, .d _⟩
theorem ok_taste_text (T : Top G.K mg "taste_text" s_taste_text ["taste"]) (D_fraction_text : Def P w G.K mg base "fraction_text" 1 ["one"] (spC G X c_fraction_text)) (D_Taste_steps : Met P w G mg base 0 "steps" 1 ["self"] (spC G X c_Taste_steps)) (z_str : mg "str" = none) (Cl_Taste : Cls G.K (G.cl 0)) : Def P w G.K mg base "taste_text" 2 ["taste"] (spC G X c_taste_text) := def_of T fun f fd F => fn_taste_text F D_fraction_text D_Taste_steps z_str Cl_Taste
abbrev s_piece_text : Stmt := topS 38
theorem sc_piece_text : FnScope ["piece", "start", "end"] ["piece"] (defScope s_piece_text) := ⟨rfl, rfl, rfl, by decide +kernel, rfl, by decide +kernel, by decide +kernel⟩
local macro_rules | `(tactic| walk_at "st") => `(tactic| simp only [c_piece_text, L2.cxOf, slotsFrom, cellsOf, argOf, List.length_cons, List.length_nil, List.replicate, List.cons_append, List.nil_append, List.map_cons, List.map_nil, Nat.reduceAdd, Nat.reduceSub, Nat.zero_add, Nat.sub_self] at *)
theorem fn_piece_text {f : Addr} {fd : FuncData} (F : Fun G.K "piece_text" "piece_text" s_piece_text f fd) (D_check_piece : Def P w G.K mg base "check_piece" 4 ["piece"] (spC G X c_check_piece)) (D_fraction_text : Def P w G.K mg base "fraction_text" 1 ["one"] (spC G X c_fraction_text)) : FnOk P w G.K mg base (L2N.CX P w) 5 f fd ["piece"] (spC G X c_piece_text) := by
  obtain ⟨f_check_piece, d_check_piece, G_check_piece, m_check_piece, k_check_piece, b_check_piece⟩ := D_check_piece.ex
  obtain ⟨f_fraction_text, d_fraction_text, G_fraction_text, m_fraction_text, k_fraction_text, b_fraction_text⟩ := D_fraction_text.ex
  refine okXN F sc_piece_text (fun vs H Q E h => spC_len (fun _ => rfl) h) (fun cdv A outer s H vs Q E hr hsp => ?_)
  refine ⟨_, (pss_cons (ps_expr (pe_call G_check_piece (hr.mono (by decide)) (by rfl) m_check_piece k_check_piece b_check_piece .nil (passC rfl rfl rfl rfl) (pa_cons (pv 0) pa_nil)))
    (pss_one (ps_ret (kJoin (K := G.K) rfl pe_str (pe_lc (own := ([("start", 1), ("end", 2)] : List (Str × Nat))) (g := (gTup G.K 2 (gCons (gName 1) (gCons (gName 2) gNil)))) (tt := tYes) rfl sc_piece_text.nd (kpi_list (K := G.K) rfl (pv 0)) (blkOk_by (N := (["piece", "start", "end"] : List Str)) (sc := defScope s_piece_text) (by decide +kernel)) (fun _ _ _ _ _ => (kpg_tup (K := G.K) (n := 2) rfl rfl (pgs_cons (pg_name (i := 1) sc_piece_text.nd rfl (Or.inl rfl)) (pgs_cons (pg_name (i := 2) sc_piece_text.nd rfl (Or.inl rfl)) pgs_nil)))) (fun _ _ _ _ _ => pts_nil) (fun _ _ _ _ _ => (pe_op kAddS (pe_op kAddS (pe_call G_fraction_text (hr.mono (by decide)) (by rfl) m_fraction_text k_fraction_text b_fraction_text .nil passLN (pa_cons (pv 1) pa_nil)) pe_str) (pe_call G_fraction_text (hr.mono (by decide)) (by rfl) m_fraction_text k_fraction_text b_fraction_text .nil passLN (pa_cons (pv 2) pa_nil))))))))), body_ct hsp (fun _ => by simp [c_piece_text]) (fun a F0 hp hE => ?_)⟩
  obtain ⟨f, z, hl⟩ : FitP a ∧ SmP a ∧ a.length ≤ 1000 := hp
  walk_at "st"
  clear hsp hE
  walk_at "r"
  refine ca_check_fit (isL_ro rfl) f ?_
  refine wS_ret (wE_join ?_)
  walk_at "e"
  refine ⟨32, rfl, ?_⟩
  refine wE_mapL txD (within_tup (withins_cons (within_name (by decide)) (withins_cons (within_name (by decide)) withins_nil))) ?_
  walk_at "q"
  refine ⟨encP a, isL_ro rfl, by rw [encP_len]; omega, ?_, ?_⟩
  · intro d hd acc
    obtain ⟨s, hs, rfl⟩ := List.mem_map.mp hd
    have hi := f.is.1 s hs
    have sm := z s hs
    have := txF_len sm.1
    have := txF_len sm.2
    rw [txD_enc hi]
    walk_at "r"
    refine ca_ftext hi.1 sm.1 ?_
    walk_at "r"
    refine w2_addS (b := [45]) (by simp; omega) ?_
    walk_at "r"
    refine ca_ftext (by have := hi.1; have := hi.2.1; grind) sm.2 ?_
    refine w2_addS (by simp; omega) ?_
    refine ⟨?_, rfl⟩
    rw [spanTx_text]
  rw [txD_map f.is.1]
  refine ⟨a.map txS, isL_app, Nat.le_trans (txP_sum z hl) (by decide), ?_⟩
  exact ⟨_, rfl, .d _⟩
theorem ok_piece_text (T : Top G.K mg "piece_text" s_piece_text ["piece"]) (D_check_piece : Def P w G.K mg base "check_piece" 4 ["piece"] (spC G X c_check_piece)) (D_fraction_text : Def P w G.K mg base "fraction_text" 1 ["one"] (spC G X c_fraction_text)) : Def P w G.K mg base "piece_text" 5 ["piece"] (spC G X c_piece_text) := def_of T fun f fd F => fn_piece_text F D_check_piece D_fraction_text
abbrev s_taste_of : Stmt := topS 39
theorem sc_taste_of : FnScope ["text", "steps", "word", "weight", "mark", "end"] ["text"] (defScope s_taste_of) := ⟨rfl, rfl, rfl, by decide +kernel, rfl, by decide +kernel, by decide +kernel⟩
local macro_rules | `(tactic| walk_at "st") => `(tactic| simp only [c_taste_of, L2.cxOf, slotsFrom, cellsOf, argOf, List.length_cons, List.length_nil, List.replicate, List.cons_append, List.nil_append, List.map_cons, List.map_nil, Nat.reduceAdd, Nat.reduceSub, Nat.zero_add, Nat.sub_self] at *)
theorem fn_taste_of {f : Addr} {fd : FuncData} (F : Fun G.K "taste_of" "taste_of" s_taste_of f fd) (D_number_of : Def P w G.K mg base "number_of" 1 ["text"] (spC G X c_number_of)) (D_fraction_of : Def P w G.K mg base "fraction_of" 2 ["text"] (spC G X c_fraction_of)) (D_Taste___init__ : Ini P w G mg base 0 5 ["self", "steps"] (spI G X (G.cl 0) c_Taste___init__)) (z_isinstance : mg "isinstance" = none) (z_str : mg "str" = none) (Mk_Taste : ClsG mg "Taste" (G.cl 0)) (XM_BadTaste : PySem.W.exmOne G.K (.ref (X 1)) (.ref (X 1)) = some true) (X_BadText : ExcOk G.K mg "BadText" (X 5)) (X_BadTaste : ExcOk G.K mg "BadTaste" (X 1)) : FnOk P w G.K mg base (CX P w) 7 f fd ["text"] (spC G X c_taste_of) := by
  obtain ⟨f_number_of, d_number_of, G_number_of, m_number_of, k_number_of, b_number_of⟩ := D_number_of.ex
  obtain ⟨f_fraction_of, d_fraction_of, G_fraction_of, m_fraction_of, k_fraction_of, b_fraction_of⟩ := D_fraction_of.ex
  obtain ⟨f_Taste___init__, d_Taste___init__, G_Taste___init__, M_Taste, b_Taste___init__⟩ := D_Taste___init__.ex
  have mk_Taste := Mk_Taste.at_
  obtain ⟨xP_BadText, gP_BadText, kP_BadText, bP_BadText, tP_BadText⟩ := X_BadText
  obtain ⟨xP_BadTaste, gP_BadTaste, kP_BadTaste, bP_BadTaste, tP_BadTaste⟩ := X_BadTaste
  refine okXW F sc_taste_of (fun vs H Q E h => spC_len (fun _ => rfl) h) (fun cdv A outer s H vs Q E hr hsp => ?_)
  refine ⟨_, (pss_cons (ps_if (pt_not (pt_val (pe_callB (kIsi (K := G.K) rfl) (by rfl) z_isinstance bt_isinstance (pa_cons (pv 0) (pa_cons (pe_bltn (v := .ty "str") (by rfl) z_str bt_str rfl) pa_nil))))) (pss_one (L2.ps_raise rfl (L2.takes_of rfl rfl rfl rfl) (L2.pmk_own PySem.F.excBase_ValueError xP_BadText gP_BadText kP_BadText (raises_own bP_BadText tP_BadText) (by rfl)))) pss_nil)
    (pss_cons (ps_set (i := 1) sc_taste_of.nd rfl (Or.inl rfl) (pe_lst pa_nil))
    (pss_cons (ps_for (passes_of rfl) rfl (kpi_list (K := G.K) rfl (kSplit (pv 0) pe_str)) (pg_name (i := 2) sc_taste_of.nd rfl (Or.inl rfl)) (pss_cons (ps_asg (kPart (pv 2) pe_str) (kpg_tup (K := G.K) (n := 3) rfl rfl (pgs_cons (pg_name (i := 3) sc_taste_of.nd rfl (Or.inl rfl)) (pgs_cons (pg_name (i := 4) sc_taste_of.nd rfl (Or.inl rfl)) (pgs_cons (pg_name (i := 5) sc_taste_of.nd rfl (Or.inl rfl)) pgs_nil)))))
    (pss_cons (ps_if (pt_cmpR (kEq (K := G.K) rfl hr.units) (pv 4) pe_str (nomark _)) (pss_one (L2.ps_raise rfl (L2.takes_of rfl rfl rfl rfl) (L2.pmk_own PySem.F.excBase_ValueError xP_BadText gP_BadText kP_BadText (raises_own bP_BadText tP_BadText) (by rfl)))) pss_nil)
    (pss_one (ps_expr (kbm (K := G.K) rfl PySem.F.plainAttrs_list PySem.F.slot_list_append PySem.F.type_list_append mt_append (pv 1) (pa_cons (pe_tup (pa_cons (pe_call (fn_wk G_fraction_of) (hr.mono (by decide)) (by rfl) m_fraction_of k_fraction_of b_fraction_of .nil (passCW rfl rfl rfl rfl) (pa_cons (pv 5) pa_nil)) (pa_cons (pe_call (fn_wk G_number_of) (hr.mono (by decide)) (by rfl) m_number_of k_number_of b_number_of .nil (passCW rfl rfl rfl rfl) (pa_cons (pv 3) pa_nil)) pa_nil))) pa_nil)))))))
    (pss_one (L2H.ps_try_onlyX rfl rfl ⟨rfl, by decide, .inl gP_BadTaste⟩ (fun hd => L2H.passesAt_of rfl hd) (L2.takes_of rfl rfl rfl rfl) (fun W pn xe tk _ _ => (pss_one (ps_ret (pe_make M_Taste G_Taste___init__ (hr.mono (by decide)) (by rfl) mk_Taste b_Taste___init__ .nil (L2N.passes_call (E := EA W) tk (fun _ _ σ _ h => h σ)) (pa_cons (pv 1) pa_nil))))) (fun a oe cls d pn _ _ tk9 hot => (pss_one (L2H.ps_raiseH hot tk9 (L2N.pmk_own PySem.F.excBase_ValueError xP_BadText gP_BadText kP_BadText (raises_own bP_BadText tP_BadText) (by rfl)))))))))), body_ct hsp (fun _ => by simp [c_taste_of]) (fun a F0 hp hE => ?_)⟩
  replace hp : PreT a := hp
  have rz : tasteD' a = none → ∀ H', Same H H' → E (.ref (X 5)) none H' := fun h => hE 5 (by simp [c_taste_of, h])
  have rt : ∀ st, tasteD' a = some st → c_taste_of.out a = .ret (.d (encTaste st)) := fun st h => by simp [c_taste_of, h]
  rcases str_or a with ⟨ta, rfl, hta⟩ | hno
  · obtain ⟨hl, hcp⟩ := hp.ok _ hta
    have eT : tasteD' (sd ta) = tasteT ta := by unfold tasteD'; rw [hta]; rfl
    rw [eT] at rz rt
    generalize c_taste_of.out (sd ta) = oo at *
    have sp := spl_mem 32 _ ta rfl
    walk_at "st"
    clear hsp hE
    walk_at "q"
    refine wS_seq (wS_if ?_)
    walk_at "r"
    refine ⟨[], rfl, by simp, ?_⟩
    refine wG_name ?_
    refine wS_seqJ (fun ρ' μ' => ∃ w s m e l, stepsT (TL.spl [32] 0 [] ta) = some l ∧ ρ' = [some (.d (sd ta)), some (.p 0), w, s, m, e] ∧ μ'[0]? = some (.rw (encSt l))) ?_ ?_
    · refine wS_for ?_
      refine wE_split ?_
      walk_at "e"
      refine ⟨ta, rfl, ?_⟩
      walk_at "e"
      refine ⟨32, rfl, by decide, by omega, ?_⟩
      refine ⟨(TL.spl [32] 0 [] ta).map sd, isL_app, fun i ρ' μ' => ∃ w s m e l, stepsT ((TL.spl [32] 0 [] ta).take i) = some l ∧ ρ' = [some (.d (sd ta)), some (.p 0), w, s, m, e] ∧ μ' = [.rw (encSt l), .rw ((TL.spl [32] 0 [] ta).map sd)], ⟨_, _, _, _, [], rfl, rfl, rfl⟩, fun i ρ' μ' h => ?_, ?_, ?_⟩
      · obtain ⟨_, _, _, _, _, _, _, h⟩ := h
        rw [h]
        exact isL_rw rfl
      · rintro i d ρ' μ' hd ⟨w, s, m, e, l, hsl, rfl, rfl⟩
        obtain ⟨wd, hw, rfl⟩ := map_at hd
        have wmem := List.mem_of_getElem? hw
        have wm := sp.2 wd wmem
        have wi := (List.getElem?_eq_some_iff.mp hw).1
        have ll := stepsT_len hsl
        rw [List.length_take] at ll
        have hcw : Cps wd := fun x hx => hcp x (wm.2 x hx)
        have bad : stepT wd = none → ∀ H', Same H H' → E (.ref (X 5)) none H' := fun h => rz (by unfold tasteT; rw [stepsT_none wmem h])
        have good : ∀ s, stepT wd = some s → stepsT ((TL.spl [32] 0 [] ta).take (i + 1)) = some (l ++ [s]) := fun s h => by rw [take_snoc hw]; exact stepsT_snoc hsl h
        obtain ⟨cpx, lm, cpy⟩ := par_cps (c := 64) hcw
        have pl := par_len 64 wd
        walk_at "q"
        refine wS_seq (wS_asg (wE_part ?_))
        walk_at "e"
        refine ⟨wd, rfl, ?_⟩
        walk_at "e"
        refine ⟨64, rfl, by omega, ?_⟩
        unfold stepT at bad good
        generalize parD 64 wd = pd at *
        obtain ⟨x, m, y⟩ := pd
        dsimp only at *
        walk_at "q"
        refine wS_seq (wS_if ?_)
        walk_at "r"
        refine w2_eqS (b := []) lm cps_nil ?_
        by_cases c1 : m = []
        · rw [decide_eq_true c1]
          walk_at "r"
          exact wS_raise' (bad (if_pos c1))
        rw [decide_eq_false c1]
        rw [if_neg c1] at bad good
        walk_at "r"
        refine ⟨0, _, rfl, rfl, ?_⟩
        walk_at "r"
        refine ca_fracT (by omega) cpy (fun q hq => ?_) fun hq => bad (by rw [hq])
        walk_at "r"
        refine ca_numR (by omega) cpx (fun n hn => ?_) fun hn => bad (by rw [hq, hn])
        rw [hq, hn] at good
        walk_at "r"
        refine ⟨[encF q, .int n], rfl, by simp, ?_⟩
        refine wA_nil ?_
        refine ⟨_, _, rfl, rfl, by rw [show (encSt l).length = l.length from List.length_map _]; omega, ?_⟩
        refine ⟨_, _, _, _, _, good _ rfl, rfl, ?_⟩
        unfold encSt
        rw [List.map_append]
        rfl
      · rintro ρ' μ' ⟨w, s, m, e, l, hsl, rfl, rfl⟩
        rw [List.length_map, List.take_length] at hsl
        exact ⟨_, _, _, _, l, hsl, rfl, rfl⟩
    rintro ρ' μ' ⟨w, s, m, e, l, hsl, rfl, h0⟩
    have eT2 : tasteT ta = tasteOf (.lst (encSt l)) := by unfold tasteT; rw [hsl]
    refine wS_tryX (X := X) (tb := fun E => tRet (tMake _ _ _ E _)) fun E' hE' => ?_
    refine wS_ret (wE_mk init_or ?_)
    walk_at "r"
    have szl : ∀ s ∈ l, Sz s.1 := fun s hs => (stepsT_nn hsl s hs).2
    have ll := stepsT_len hsl
    refine ⟨.lst (encSt l), .cons (.l (isL_rw h0)) .nil, okT_steps szl (by omega), ?_⟩
    cases ht : tasteOf (.lst (encSt l)) with
    | some st =>
      have : c_Taste___init__.out (.lst (encSt l)) = .ret (.d (encTaste st)) := by simp [c_Taste___init__, ht]
      rw [this]
      exact ⟨_, rt st (by rw [eT2, ht]), .d _⟩
    | none =>
      have : c_Taste___init__.out (.lst (encSt l)) = .exc 1 := by simp [c_Taste___init__, ht]
      rw [this]
      exact fun H' hs => hE' 1 H' XM_BadTaste fun a D σ => rz (by rw [eT2, ht]) H' hs
  · have eT : tasteD' a = none := by unfold tasteD'; rw [hno]; rfl
    have rz' := rz eT
    clear rt rz
    cases a with
    | str x => cases hno
    | ob n ds => cases hp.ob
    | raw x => cases hp.ob
    | fn φ => cases hp.ob
    | _ =>
      walk_at "st"
      clear hsp hE hp
      walk_at "r"
      exact wS_raise' rz'
theorem ok_taste_of (T : Top G.K mg "taste_of" s_taste_of ["text"]) (D_number_of : Def P w G.K mg base "number_of" 1 ["text"] (spC G X c_number_of)) (D_fraction_of : Def P w G.K mg base "fraction_of" 2 ["text"] (spC G X c_fraction_of)) (D_Taste___init__ : Ini P w G mg base 0 5 ["self", "steps"] (spI G X (G.cl 0) c_Taste___init__)) (z_isinstance : mg "isinstance" = none) (z_str : mg "str" = none) (Mk_Taste : ClsG mg "Taste" (G.cl 0)) (XM_BadTaste : PySem.W.exmOne G.K (.ref (X 1)) (.ref (X 1)) = some true) (X_BadText : ExcOk G.K mg "BadText" (X 5)) (X_BadTaste : ExcOk G.K mg "BadTaste" (X 1)) : DefW P w G.K mg base "taste_of" 7 ["text"] (spC G X c_taste_of) := defW_of T fun f fd F => fn_taste_of F D_number_of D_fraction_of D_Taste___init__ z_isinstance z_str Mk_Taste XM_BadTaste X_BadText X_BadTaste
abbrev s_piece_of : Stmt := topS 40
theorem sc_piece_of : FnScope ["text", "piece", "word", "start", "mark", "end"] ["text"] (defScope s_piece_of) := ⟨rfl, rfl, rfl, by decide +kernel, rfl, by decide +kernel, by decide +kernel⟩
local macro_rules | `(tactic| walk_at "st") => `(tactic| simp only [c14_piece_of, L2.cxOf, slotsFrom, cellsOf, argOf, List.length_cons, List.length_nil, List.replicate, List.cons_append, List.nil_append, List.map_cons, List.map_nil, Nat.reduceAdd, Nat.reduceSub, Nat.zero_add, Nat.sub_self] at *)
theorem fn_piece_of {f : Addr} {fd : FuncData} (F : Fun G.K "piece_of" "piece_of" s_piece_of f fd) (D_fraction_of : Def P w G.K mg base "fraction_of" 2 ["text"] (spC G X c_fraction_of)) (D_check_piece : Def P w G.K mg base "check_piece" 4 ["piece"] (spC G X c_check_piece)) (z_isinstance : mg "isinstance" = none) (z_str : mg "str" = none) (XM_BadPiece : PySem.W.exmOne G.K (.ref (X 2)) (.ref (X 2)) = some true) (X_BadText : ExcOk G.K mg "BadText" (X 5)) (X_BadPiece : ExcOk G.K mg "BadPiece" (X 2)) : FnOk P w G.K mg base (CX P w) 5 f fd ["text"] (spC G X c14_piece_of) := by
  obtain ⟨f_fraction_of, d_fraction_of, G_fraction_of, m_fraction_of, k_fraction_of, b_fraction_of⟩ := D_fraction_of.ex
  obtain ⟨f_check_piece, d_check_piece, G_check_piece, m_check_piece, k_check_piece, b_check_piece⟩ := D_check_piece.ex
  obtain ⟨xP_BadText, gP_BadText, kP_BadText, bP_BadText, tP_BadText⟩ := X_BadText
  obtain ⟨xP_BadPiece, gP_BadPiece, kP_BadPiece, bP_BadPiece, tP_BadPiece⟩ := X_BadPiece
  refine okXW F sc_piece_of (fun vs H Q E h => spC_len (fun _ => rfl) h) (fun cdv A outer s H vs Q E hr hsp => ?_)
  refine ⟨_, (pss_cons (ps_if (pt_not (pt_val (pe_callB (kIsi (K := G.K) rfl) (by rfl) z_isinstance bt_isinstance (pa_cons (pv 0) (pa_cons (pe_bltn (v := .ty "str") (by rfl) z_str bt_str rfl) pa_nil))))) (pss_one (L2.ps_raise rfl (L2.takes_of rfl rfl rfl rfl) (L2.pmk_own PySem.F.excBase_ValueError xP_BadText gP_BadText kP_BadText (raises_own bP_BadText tP_BadText) (by rfl)))) pss_nil)
    (pss_cons (ps_set (i := 1) sc_piece_of.nd rfl (Or.inl rfl) (pe_lst pa_nil))
    (pss_cons (ps_if (pt_cmpR (kNe (K := G.K) rfl hr.units) (pv 0) pe_str (nomark _)) (pss_one (ps_for (passes_of rfl) rfl (kpi_list (K := G.K) rfl (kSplit (pv 0) pe_str)) (pg_name (i := 2) sc_piece_of.nd rfl (Or.inl rfl)) (pss_cons (ps_asg (kPart (pv 2) pe_str) (kpg_tup (K := G.K) (n := 3) rfl rfl (pgs_cons (pg_name (i := 3) sc_piece_of.nd rfl (Or.inl rfl)) (pgs_cons (pg_name (i := 4) sc_piece_of.nd rfl (Or.inl rfl)) (pgs_cons (pg_name (i := 5) sc_piece_of.nd rfl (Or.inl rfl)) pgs_nil)))))
    (pss_cons (ps_if (pt_cmpR (kEq (K := G.K) rfl hr.units) (pv 4) pe_str (nomark _)) (pss_one (L2.ps_raise rfl (L2.takes_of rfl rfl rfl rfl) (L2.pmk_own PySem.F.excBase_ValueError xP_BadText gP_BadText kP_BadText (raises_own bP_BadText tP_BadText) (by rfl)))) pss_nil)
    (pss_one (ps_expr (kbm (K := G.K) rfl PySem.F.plainAttrs_list PySem.F.slot_list_append PySem.F.type_list_append mt_append (pv 1) (pa_cons (pe_tup (pa_cons (pe_call (fn_wk G_fraction_of) (hr.mono (by decide)) (by rfl) m_fraction_of k_fraction_of b_fraction_of .nil (passCW rfl rfl rfl rfl) (pa_cons (pv 3) pa_nil)) (pa_cons (pe_call (fn_wk G_fraction_of) (hr.mono (by decide)) (by rfl) m_fraction_of k_fraction_of b_fraction_of .nil (passCW rfl rfl rfl rfl) (pa_cons (pv 5) pa_nil)) pa_nil))) pa_nil)))))))) pss_nil)
    (pss_cons (L2H.ps_try_onlyX rfl rfl ⟨rfl, by decide, .inl gP_BadPiece⟩ (fun hd => L2H.passesAt_of rfl hd) (L2.takes_of rfl rfl rfl rfl) (fun W pn xe tk _ _ => (pss_one (ps_expr (pe_call G_check_piece (hr.mono (by decide)) (by rfl) m_check_piece k_check_piece b_check_piece .nil (L2N.passes_call (E := EA W) tk (fun _ _ σ _ h => h σ)) (pa_cons (pv 1) pa_nil))))) (fun a oe cls d pn _ _ tk9 hot => (pss_one (L2H.ps_raiseH hot tk9 (L2N.pmk_own PySem.F.excBase_ValueError xP_BadText gP_BadText kP_BadText (raises_own bP_BadText tP_BadText) (by rfl))))))
    (pss_one (ps_ret (pv 1))))))), body_ct hsp (fun _ => by simp [c14_piece_of]) (fun a F0 hp hE => ?_)⟩
  replace hp : PreT a := hp
  have rz : pieceD' a = none → ∀ H', Same H H' → E (.ref (X 5)) none H' := fun h => hE 5 (by simp [c14_piece_of, h])
  have rt : ∀ p, pieceD' a = some p → c14_piece_of.out a = .ret (.own (encP p)) := fun st h => by simp [c14_piece_of, h]
  rcases str_or a with ⟨ta, rfl, hta⟩ | hno
  · obtain ⟨hl, hcp⟩ := hp.ok _ hta
    have eT : pieceD' (sd ta) = pieceT ta := by unfold pieceD'; rw [hta]; rfl
    rw [eT] at rz rt
    generalize c14_piece_of.out (sd ta) = oo at *
    have sp := spl_mem 32 _ ta rfl
    walk_at "st"
    clear hsp hE
    walk_at "q"
    refine wS_seq (wS_if ?_)
    walk_at "r"
    refine ⟨[], rfl, by simp, ?_⟩
    refine wG_name ?_
    refine wS_seqJ (fun ρ' μ' => ∃ w s m e l, spansT (wordsT ta) = some l ∧ ρ' = [some (.d (sd ta)), some (.p 0), w, s, m, e] ∧ μ'[0]? = some (.rw (encP l))) ?_ ?_
    · walk_at "r"
      refine w2_neS (b := []) hcp cps_nil ?_
      walk_at "r"
      by_cases c : ta = []
      · rw [decide_eq_true c]
        have e0 : wordsT ta = [] := if_pos c
        rw [e0]
        walk_at "r"
        exact ⟨_, _, _, _, [], rfl, rfl, rfl⟩
      · rw [decide_eq_false c]
        have e0 : wordsT ta = TL.spl [32] 0 [] ta := if_neg c
        refine iteT ?_
        refine wS_for ?_
        refine wE_split ?_
        walk_at "e"
        refine ⟨ta, rfl, ?_⟩
        walk_at "e"
        refine ⟨32, rfl, by decide, by omega, ?_⟩
        refine ⟨(TL.spl [32] 0 [] ta).map sd, isL_app, fun i ρ' μ' => ∃ w s m e l, spansT ((TL.spl [32] 0 [] ta).take i) = some l ∧ ρ' = [some (.d (sd ta)), some (.p 0), w, s, m, e] ∧ μ' = [.rw (encP l), .rw ((TL.spl [32] 0 [] ta).map sd)], ⟨_, _, _, _, [], rfl, rfl, rfl⟩, fun i ρ' μ' h => ?_, ?_, ?_⟩
        · obtain ⟨_, _, _, _, _, _, _, h⟩ := h
          rw [h]
          exact isL_rw rfl
        · rintro i d ρ' μ' hd ⟨w, s, m, e, l, hsl, rfl, rfl⟩
          obtain ⟨wd, hw, rfl⟩ := map_at hd
          have wmem := List.mem_of_getElem? hw
          have wm := sp.2 wd wmem
          have wi := (List.getElem?_eq_some_iff.mp hw).1
          have ll := spansT_len hsl
          rw [List.length_take] at ll
          have hcw : Cps wd := fun x hx => hcp x (wm.2 x hx)
          have bad : spanT wd = none → ∀ H', Same H H' → E (.ref (X 5)) none H' := fun h => rz (by unfold pieceT; rw [e0, spansT_none wmem h])
          have good : ∀ s, spanT wd = some s → spansT ((TL.spl [32] 0 [] ta).take (i + 1)) = some (l ++ [s]) := fun s h => by rw [take_snoc hw]; exact spansT_snoc hsl h
          obtain ⟨cpx, lm, cpy⟩ := par_cps (c := 45) hcw
          have pl := par_len 45 wd
          walk_at "q"
          refine wS_seq (wS_asg (wE_part ?_))
          walk_at "e"
          refine ⟨wd, rfl, ?_⟩
          walk_at "e"
          refine ⟨45, rfl, by omega, ?_⟩
          unfold spanT at bad good
          generalize parD 45 wd = pd at *
          obtain ⟨x, m, y⟩ := pd
          dsimp only at *
          walk_at "q"
          refine wS_seq (wS_if ?_)
          walk_at "r"
          refine w2_eqS (b := []) lm cps_nil ?_
          by_cases c1 : m = []
          · rw [decide_eq_true c1]
            walk_at "r"
            exact wS_raise' (bad (if_pos c1))
          rw [decide_eq_false c1]
          rw [if_neg c1] at bad good
          walk_at "r"
          refine ⟨0, _, rfl, rfl, ?_⟩
          walk_at "r"
          refine ca_fracT (by omega) cpx (fun q1 h1 => ?_) fun hq => bad (by rw [hq])
          walk_at "r"
          refine ca_fracT (by omega) cpy (fun q2 h2 => ?_) fun hq => bad (by rw [h1, hq])
          rw [h1, h2] at good
          walk_at "r"
          refine ⟨[encF q1, encF q2], rfl, by simp, ?_⟩
          refine wA_nil ?_
          refine ⟨_, _, rfl, rfl, by rw [encP_len]; omega, ?_⟩
          refine ⟨_, _, _, _, _, good _ rfl, rfl, ?_⟩
          unfold encP
          rw [List.map_append]
          rfl
        · rintro ρ' μ' ⟨w, s, m, e, l, hsl, rfl, rfl⟩
          rw [List.length_map, List.take_length] at hsl
          exact ⟨_, _, _, _, l, by rw [e0]; exact hsl, rfl, rfl⟩
    rintro ρ' μ' ⟨w, s, m, e, l, hsl, rfl, h0⟩
    have eT2 : pieceT ta = pieceOf (.lst (encP l)) := by unfold pieceT; rw [hsl]
    have szs := spansT_szs hsl
    have ll := spansT_len hsl
    have wl : (wordsT ta).length ≤ 900000 := by
      unfold wordsT
      split
      · simp
      · have := sp.1; omega
    refine wS_seqJ (fun ρ2 μ2 => ∃ p, pieceT ta = some p ∧ ρ2 = [some (.d (sd ta)), some (.p 0), w, s, m, e] ∧ μ2[0]? = some (.rw (encP p))) ?_ ?_
    · refine wS_tryX (X := X) (tb := fun E => tDrop (tCall _ _ E _)) fun E' hE' => ?_
      walk_at "r"
      refine ⟨.lst (encP l), .cons (.l (isL_rw h0)) .nil, ok3_enc szs (by omega), ?_⟩
      cases hq : pieceOf (.lst (encP l)) with
      | some p =>
        have : c_check_piece.out (.lst (encP l)) = .ret (.d .non) := by simp [c_check_piece, hq]
        rw [this]
        refine end_d ?_
        obtain ⟨_, e⟩ := piece_back hq
        injection e with e
        exact ⟨p, by rw [eT2, hq], rfl, by rw [← e]; exact h0⟩
      | none =>
        have : c_check_piece.out (.lst (encP l)) = .exc 2 := by simp [c_check_piece, hq]
        rw [this]
        exact fun H' hs => hE' 2 H' XM_BadPiece fun a D σ => rz (by rw [eT2, hq]) H' hs
    rintro ρ2 μ2 ⟨p, hq, rfl, h0⟩
    walk_at "r"
    exact ⟨_, rt p hq, .own h0⟩
  · have eT : pieceD' a = none := by unfold pieceD'; rw [hno]; rfl
    have rz' := rz eT
    clear rt rz
    cases a with
    | str x => cases hno
    | ob n ds => cases hp.ob
    | raw x => cases hp.ob
    | fn φ => cases hp.ob
    | _ =>
      walk_at "st"
      clear hsp hE hp
      walk_at "r"
      exact wS_raise' rz'
theorem ok_piece_of (T : Top G.K mg "piece_of" s_piece_of ["text"]) (D_fraction_of : Def P w G.K mg base "fraction_of" 2 ["text"] (spC G X c_fraction_of)) (D_check_piece : Def P w G.K mg base "check_piece" 4 ["piece"] (spC G X c_check_piece)) (z_isinstance : mg "isinstance" = none) (z_str : mg "str" = none) (XM_BadPiece : PySem.W.exmOne G.K (.ref (X 2)) (.ref (X 2)) = some true) (X_BadText : ExcOk G.K mg "BadText" (X 5)) (X_BadPiece : ExcOk G.K mg "BadPiece" (X 2)) : DefW P w G.K mg base "piece_of" 5 ["text"] (spC G X c14_piece_of) := defW_of T fun f fd F => fn_piece_of F D_fraction_of D_check_piece z_isinstance z_str XM_BadPiece X_BadText X_BadPiece
abbrev s__law_cell_at : Stmt := topS 42
theorem sc__law_cell_at : FnScope ["_law_script", "_law_k"] ["_law_script", "_law_k"] (defScope s__law_cell_at) := ⟨rfl, rfl, rfl, by decide +kernel, rfl, by decide +kernel, by decide +kernel⟩
local macro_rules | `(tactic| walk_at "st") => `(tactic| simp only [c__law_cell_at, L2.cxOf, slotsFrom, cellsOf, argOf, List.length_cons, List.length_nil, List.replicate, List.cons_append, List.nil_append, List.map_cons, List.map_nil, Nat.reduceAdd, Nat.reduceSub, Nat.zero_add, Nat.sub_self] at *)
theorem fn__law_cell_at {f : Addr} {fd : FuncData} (F : Fun G.K "_law_cell_at" "_law_cell_at" s__law_cell_at f fd) (z_len : mg "len" = none) : FnOk P w G.K mg base (L2N.CX P w) 1 f fd ["_law_script", "_law_k"] (spC G X c__law_cell_at) := by
  refine okXN F sc__law_cell_at (fun vs H Q E h => spC_len (fun _ => rfl) h) (fun cdv A outer s H vs Q E hr hsp => ?_)
  refine ⟨_, (pss_cons (ps_if (pt_cmpR op_lt (pv 1) (pe_callB (kLen (K := G.K) rfl) (by rfl) z_len bt_len (pa_cons (pv 0) pa_nil)) (nomark _)) (pss_one (ps_ret (pe_ix (kIx (K := G.K) rfl) (pv 0) (pv 1) (fun _ _ => rfl)))) pss_nil)
    (pss_one (ps_ret pe_int))), body_ct hsp (fun _ => by simp [c__law_cell_at]) (fun a F0 hp hE => ?_)⟩
  obtain ⟨ns, k⟩ := a
  walk_at "st"
  clear hsp hE
  walk_at "r"
  refine wC_lenL (isL_ro rfl) ?_
  walk_at "r"
  rw [List.length_map]
  refine ite2 (fun c => ?_) (fun c => ?_)
  · have c' := of_decide_eq_true c
    walk_at "r"
    refine w2_ix (.inl (isL_ro rfl)) (atI_cell hp c') ?_
    exact ⟨_, rfl, .d _⟩
  · have c' : ¬ k < (ns.length : Int) := fun z => c (decide_eq_true z)
    walk_at "r"
    rw [cell_out c']
    exact .d _
theorem ok__law_cell_at (T : Top G.K mg "_law_cell_at" s__law_cell_at ["_law_script", "_law_k"]) (z_len : mg "len" = none) : Def P w G.K mg base "_law_cell_at" 1 ["_law_script", "_law_k"] (spC G X c__law_cell_at) := def_of T fun f fd F => fn__law_cell_at F z_len
abbrev s__law_mixed : Stmt := topS 43
theorem sc__law_mixed : FnScope ["_law_cell", "_law_k", "_law_found"] ["_law_cell", "_law_k"] (defScope s__law_mixed) := ⟨rfl, rfl, rfl, by decide +kernel, rfl, by decide +kernel, by decide +kernel⟩
local macro_rules | `(tactic| walk_at "st") => `(tactic| simp only [c__law_mixed, L2.cxOf, slotsFrom, cellsOf, argOf, List.length_cons, List.length_nil, List.replicate, List.cons_append, List.nil_append, List.map_cons, List.map_nil, Nat.reduceAdd, Nat.reduceSub, Nat.zero_add, Nat.sub_self] at *)
theorem fn__law_mixed {f : Addr} {fd : FuncData} (F : Fun G.K "_law_mixed" "_law_mixed" s__law_mixed f fd) : FnOk P w G.K mg base (L2N.CX P w) 1 f fd ["_law_cell", "_law_k"] (spC G X c__law_mixed) := by
  refine okXN F sc__law_mixed (fun vs H Q E h => spC_len (fun _ => rfl) h) (fun cdv A outer s H vs Q E hr hsp => ?_)
  refine ⟨_, (pss_cons (ps_set (i := 2) sc__law_mixed.nd rfl (Or.inl rfl) (pe_op op_mod (pe_op op_mul (pe_op op_add (pe_op op_add (pv 0) (pe_op op_mul pe_int (pv 1))) pe_int) pe_int) pe_int))
    (pss_one (ps_ret (pe_op op_mod (pe_op op_mulW (pv 2) (pv 2)) pe_int)))), body_ct hsp (fun _ => by simp [c__law_mixed]) (fun a F0 hp hE => ?_)⟩
  obtain ⟨c, k⟩ := a
  walk_at "st"
  clear hsp hE
  have h0 := Int.emod_nonneg ((c + 977 * k + 31) * 48271) (by decide : (2147483647 : Int) ≠ 0)
  have h1 := Int.emod_lt_of_pos ((c + 977 * k + 31) * 48271) (by decide : (0 : Int) < 2147483647)
  have e31 : (2 : Int) ^ 31 = 2147483648 := by decide
  have hm : CMulW ((c + 977 * k + 31) * 48271 % 2147483647) ((c + 977 * k + 31) * 48271 % 2147483647) := cm_of (a := 31) (b := 31) h0 h0 (by omega) (by omega) (by decide) (by decide) (by decide)
  walk_at "r"
  exact .d _
theorem ok__law_mixed (T : Top G.K mg "_law_mixed" s__law_mixed ["_law_cell", "_law_k"]) : Def P w G.K mg base "_law_mixed" 1 ["_law_cell", "_law_k"] (spC G X c__law_mixed) := def_of T fun f fd F => fn__law_mixed F 
abbrev s__law_low : Stmt := topS 44
theorem sc__law_low : FnScope ["_law_a", "_law_b", "_law_one", "_law_other_here"] ["_law_a", "_law_b"] (defScope s__law_low) := ⟨rfl, rfl, rfl, by decide +kernel, rfl, by decide +kernel, by decide +kernel⟩
local macro_rules | `(tactic| walk_at "st") => `(tactic| simp only [c_lowest, L2.cxOf, slotsFrom, cellsOf, argOf, List.length_cons, List.length_nil, List.replicate, List.cons_append, List.nil_append, List.map_cons, List.map_nil, Nat.reduceAdd, Nat.reduceSub, Nat.zero_add, Nat.sub_self] at *)
theorem fn__law_low {f : Addr} {fd : FuncData} (F : Fun G.K "_law_low" "_law_low" s__law_low f fd) : FnOk P w G.K mg base (L2N.CX P w) 1 f fd ["_law_a", "_law_b"] (spC G X c_lowest) := by
  refine okXN F sc__law_low (fun vs H Q E h => spC_len (fun _ => rfl) h) (fun cdv A outer s H vs Q E hr hsp => ?_)
  refine ⟨_, (pss_cons (ps_set (i := 2) sc__law_low.nd rfl (Or.inl rfl) (pv 0))
    (pss_cons (ps_set (i := 3) sc__law_low.nd rfl (Or.inl rfl) (pv 1))
    (pss_cons (ps_while (passes_of rfl) (pt_cmpR op_gt (pv 3) pe_int (nomark _)) (pss_one (ps_par (i := 2) (j := 3) rfl sc__law_low.nd rfl rfl (by decide) rfl rfl (pa_cons (pv 3) (pa_cons (pe_op op_mod (pv 2) (pv 3)) pa_nil)) (by rfl))))
    (pss_one (ps_ret (pe_tup (pa_cons (pe_op op_fdivW (pv 0) (pv 2)) (pa_cons (pe_op op_fdivW (pv 1) (pv 2)) pa_nil)))))))), body_ct hsp (fun _ => by simp [c_lowest]) (fun a F0 hp hE => ?_)⟩
  obtain ⟨x, y⟩ := a
  obtain ⟨h0, hd⟩ := hp
  walk_at "st"
  clear hsp hE
  walk_at "r"
  have hy : 0 < y := hd.1
  refine wS_while (fun ρ' μ' => ∃ o t : Int, ρ' = [some (.d (.int x)), some (.d (.int y)), some (.d (.int o)), some (.d (.int t))] ∧ μ' = [] ∧ 0 ≤ o ∧ 0 ≤ t ∧ Int.gcd o t = Int.gcd x y) (fun ρ' _ => (getI ρ' 3).toNat) ⟨x, y, rfl, rfl, h0, by omega, rfl⟩ ?_
  rintro ρ' μ' ⟨o, t, rfl, rfl, ho, ht, hg⟩
  walk_at "r"
  refine ite2 (fun c => ?_) (fun c => ?_)
  · have c' : 0 < t := of_decide_eq_true c
    walk_at "r"
    refine ⟨_, _, rfl, ⟨t, o % t, rfl, rfl, ht, Int.emod_nonneg _ (by omega), (gcd_step ho c').trans hg⟩, ?_⟩
    show (o % t).toNat < t.toNat
    have := Int.emod_lt_of_pos o c'
    omega
  · have c' : t = 0 := by
      have : ¬ 0 < t := fun z => c (decide_eq_true z)
      omega
    subst c'
    have eo : o = (Int.gcd x y : Int) := by rw [← hg, Int.gcd_zero_right]; omega
    walk_at "r"
    refine w2_I (eo ▸ gcd_dz hd) ?_
    walk_at "r"
    refine w2_I (eo ▸ gcd_dz' hd) ?_
    walk_at "r"
    refine ⟨[.int (x / o), .int (y / o)], rfl, by simp, ret_d ?_⟩
    rw [eo, low_num hy, low_den hy]
    rfl
theorem ok__law_low (T : Top G.K mg "_law_low" s__law_low ["_law_a", "_law_b"]) : Def P w G.K mg base "_law_low" 1 ["_law_a", "_law_b"] (spC G X c_lowest) := def_of T fun f fd F => fn__law_low F 
abbrev s__law_less : Stmt := topS 45
theorem sc__law_less : FnScope ["_law_one", "_law_other_here"] ["_law_one", "_law_other_here"] (defScope s__law_less) := ⟨rfl, rfl, rfl, by decide +kernel, rfl, by decide +kernel, by decide +kernel⟩
local macro_rules | `(tactic| walk_at "st") => `(tactic| simp only [c_below, L2.cxOf, slotsFrom, cellsOf, argOf, List.length_cons, List.length_nil, List.replicate, List.cons_append, List.nil_append, List.map_cons, List.map_nil, Nat.reduceAdd, Nat.reduceSub, Nat.zero_add, Nat.sub_self] at *)
theorem fn__law_less {f : Addr} {fd : FuncData} (F : Fun G.K "_law_less" "_law_less" s__law_less f fd) : FnOk P w G.K mg base (L2N.CX P w) 1 f fd ["_law_one", "_law_other_here"] (spC G X c_below) := by
  refine okXN F sc__law_less (fun vs H Q E h => spC_len (fun _ => rfl) h) (fun cdv A outer s H vs Q E hr hsp => ?_)
  refine ⟨_, (pss_one (ps_ret (pe_cmpR op_lt (pe_op op_mulW (pe_ix (kIx (K := G.K) rfl) (pv 0) pe_int (fun _ _ => rfl)) (pe_ix (kIx (K := G.K) rfl) (pv 1) pe_int (fun _ _ => rfl))) (pe_op op_mulW (pe_ix (kIx (K := G.K) rfl) (pv 1) pe_int (fun _ _ => rfl)) (pe_ix (kIx (K := G.K) rfl) (pv 0) pe_int (fun _ _ => rfl))) (nomark _)))), body_ct hsp (fun _ => by simp [c_below]) (fun a F0 hp hE => ?_)⟩
  obtain ⟨q, r⟩ := a
  obtain ⟨s1, s2⟩ := hp
  walk_at "st"
  clear hsp hE
  walk_at "r"
  rw [below_law]
  exact .d _
theorem ok__law_less (T : Top G.K mg "_law_less" s__law_less ["_law_one", "_law_other_here"]) : Def P w G.K mg base "_law_less" 1 ["_law_one", "_law_other_here"] (spC G X c_below) := def_of T fun f fd F => fn__law_less F 
abbrev s__law_steps_by : Stmt := topS 48
theorem sc__law_steps_by : FnScope ["_law_cell", "_law_parts", "_law_ends", "_law_many", "_law_k", "_law_end", "_law_steps", "_law_weight"] ["_law_cell"] (defScope s__law_steps_by) := ⟨rfl, rfl, rfl, by decide +kernel, rfl, by decide +kernel, by decide +kernel⟩
local macro_rules | `(tactic| walk_at "st") => `(tactic| simp only [c__law_steps_by, L2.cxOf, slotsFrom, cellsOf, argOf, List.length_cons, List.length_nil, List.replicate, List.cons_append, List.nil_append, List.map_cons, List.map_nil, Nat.reduceAdd, Nat.reduceSub, Nat.zero_add, Nat.sub_self] at *)
theorem fn__law_steps_by {f : Addr} {fd : FuncData} (F : Fun G.K "_law_steps_by" "_law_steps_by" s__law_steps_by f fd) (D__law_mixed : Def P w G.K mg base "_law_mixed" 1 ["_law_cell", "_law_k"] (spC G X c__law_mixed)) (D__law_low : Def P w G.K mg base "_law_low" 1 ["_law_a", "_law_b"] (spC G X c_lowest)) (z_range : mg "range" = none) (z_sorted : mg "sorted" = none) (z_len : mg "len" = none) : FnOk P w G.K mg base (L2N.CX P w) 2 f fd ["_law_cell"] (spC G X c__law_steps_by) := by
  obtain ⟨f__law_mixed, d__law_mixed, G__law_mixed, m__law_mixed, k__law_mixed, b__law_mixed⟩ := D__law_mixed.ex
  obtain ⟨f__law_low, d__law_low, G__law_low, m__law_low, k__law_low, b__law_low⟩ := D__law_low.ex
  refine okXN F sc__law_steps_by (fun vs H Q E h => spC_len (fun _ => rfl) h) (fun cdv A outer s H vs Q E hr hsp => ?_)
  refine ⟨_, (pss_cons (ps_set (i := 1) sc__law_steps_by.nd rfl (Or.inl rfl) pe_int)
    (pss_cons (ps_if (pt_cmpR (kEq (K := G.K) rfl hr.units) (pe_op op_mod (pv 0) pe_int) pe_int (nomark _)) (pss_one (ps_set (i := 1) sc__law_steps_by.nd rfl (Or.inl rfl) (pe_op op_add pe_int (pe_op op_mod (pe_op op_fdiv (pv 0) pe_int) pe_int)))) pss_nil)
    (pss_cons (ps_set (i := 2) sc__law_steps_by.nd rfl (Or.inl rfl) (pe_lst pa_nil))
    (pss_cons (ps_set (i := 3) sc__law_steps_by.nd rfl (Or.inl rfl) (pe_op op_mod (pe_op op_fdiv (pv 0) pe_int) pe_int))
    (pss_cons (ps_if (pt_cmpR (kEq (K := G.K) rfl hr.units) (pe_op op_mod (pe_op op_fdiv (pv 0) pe_int) pe_int) pe_int (nomark _)) (pss_one (ps_set (i := 3) sc__law_steps_by.nd rfl (Or.inl rfl) (pe_op op_mod (pe_op op_fdiv (pv 0) pe_int) pe_int))) pss_nil)
    (pss_cons (ps_for (passes_of rfl) rfl (pi_range1 (by rfl) z_range (pa_cons (pv 3) pa_nil)) (pg_name (i := 4) sc__law_steps_by.nd rfl (Or.inl rfl)) (pss_cons (ps_set (i := 5) sc__law_steps_by.nd rfl (Or.inl rfl) (pe_op op_add pe_int (pe_op op_mod (pe_call G__law_mixed (hr.mono (by decide)) (by rfl) m__law_mixed k__law_mixed b__law_mixed .nil passLN (pa_cons (pv 0) (pa_cons (pv 4) pa_nil))) (pv 1))))
    (pss_one (ps_if (PW.pt (pw_and (pt_cmpR op_lt (pv 5) (pv 1) (nomark _)) (pw_and1 (pt_cmpR (kNotIn (K := G.K) rfl) (pv 5) (pv 2) (by rfl))))) (pss_one (ps_expr (kbm (K := G.K) rfl PySem.F.plainAttrs_list PySem.F.slot_list_append PySem.F.type_list_append mt_append (pv 2) (pa_cons (pv 5) pa_nil)))) pss_nil))))
    (pss_cons (ps_set (i := 6) sc__law_steps_by.nd rfl (Or.inl rfl) (pe_lst pa_nil))
    (pss_cons (ps_for (passes_of rfl) rfl (kpi_list (K := G.K) rfl (pe_op op_cat (pe_slice (kSl (K := G.K) rfl) (pe_callB (kSorted (K := G.K) rfl) (by rfl) z_sorted bt_sorted (pa_cons (pv 2) pa_nil)) po_none (po_some pe_int)) (pe_lst (pa_cons (pv 1) pa_nil)))) (pg_name (i := 5) sc__law_steps_by.nd rfl (Or.inl rfl)) (pss_cons (ps_set (i := 7) sc__law_steps_by.nd rfl (Or.inl rfl) (pe_op op_add pe_int (pe_op op_mod (pe_call G__law_mixed (hr.mono (by decide)) (by rfl) m__law_mixed k__law_mixed b__law_mixed .nil passLN (pa_cons (pv 0) (pa_cons (pe_op op_add pe_int (pe_callB (kLen (K := G.K) rfl) (by rfl) z_len bt_len (pa_cons (pv 6) pa_nil))) pa_nil))) pe_int)))
    (pss_cons (ps_if (pt_cmpR (kEq (K := G.K) rfl hr.units) (pe_op op_mod (pe_op op_fdiv (pv 0) pe_int) pe_int) pe_int (nomark _)) (pss_one (ps_set (i := 7) sc__law_steps_by.nd rfl (Or.inl rfl) (pe_op op_add pe_int (pe_op op_mod (pe_call G__law_mixed (hr.mono (by decide)) (by rfl) m__law_mixed k__law_mixed b__law_mixed .nil passLN (pa_cons (pv 0) (pa_cons (pe_op op_add pe_int (pe_callB (kLen (K := G.K) rfl) (by rfl) z_len bt_len (pa_cons (pv 6) pa_nil))) pa_nil))) pe_int)))) pss_nil)
    (pss_one (ps_expr (kbm (K := G.K) rfl PySem.F.plainAttrs_list PySem.F.slot_list_append PySem.F.type_list_append mt_append (pv 6) (pa_cons (pe_tup (pa_cons (pe_call G__law_low (hr.mono (by decide)) (by rfl) m__law_low k__law_low b__law_low .nil passLN (pa_cons (pv 5) (pa_cons (pv 1) pa_nil))) (pa_cons (pv 7) pa_nil))) pa_nil)))))))
    (pss_one (ps_ret (pv 6))))))))))), body_ct hsp (fun _ => by simp [c__law_steps_by]) (fun a F0 hp hE => ?_)⟩
  walk_at "st"
  clear hsp hE hp
  have hpb := partsN_b a
  have hmb := manyN_b a
  refine wS_seq ?_
  walk_at "q"
  refine wS_seqJ (fun ρ' μ' => ρ' = [some (.d (.int a)), some (.d (.int (partsN a))), none, none, none, none, none, none] ∧ μ' = []) ?_ ?_
  · walk_at "r"
    by_cases c : a % 7 = 1
    · rw [decide_eq_true c]
      walk_at "r"
      rw [show partsN a = _ from if_pos c]
      exact ⟨rfl, rfl⟩
    · rw [decide_eq_false c]
      walk_at "r"
      rw [show partsN a = _ from if_neg c]
      exact ⟨rfl, rfl⟩
  rintro ρ' μ' ⟨rfl, rfl⟩
  refine wS_seq ?_
  walk_at "q"
  refine ⟨[], rfl, by simp, ?_⟩
  walk_at "q"
  refine wS_seq ?_
  walk_at "q"
  refine wS_seqJ (fun ρ' μ' => ρ' = [some (.d (.int a)), some (.d (.int (partsN a))), some (.p 0), some (.d (.int (manyN a))), none, none, none, none] ∧ μ' = [.rw []]) ?_ ?_
  · walk_at "r"
    by_cases c : a / 20 % 4 = 1
    · rw [decide_eq_true c]
      walk_at "r"
      rw [show manyN a = _ from if_pos c]
      exact ⟨rfl, rfl⟩
    · rw [decide_eq_false c]
      walk_at "r"
      rw [show manyN a = _ from if_neg c]
      exact ⟨rfl, rfl⟩
  rintro ρ' μ' ⟨rfl, rfl⟩
  refine wS_seqJ (fun ρ' μ' => ∃ k e, ρ' = [some (.d (.int a)), some (.d (.int (partsN a))), some (.p 0), some (.d (.int (manyN a))), k, e, none, none] ∧ μ' = [.rw ((drawS a (manyN a).toNat).map D.int)]) ?_ ?_
  · refine wS_rng1 ?_
    walk_at "q"
    refine ⟨by omega, by omega, fun i ρ' μ' => ∃ k e, ρ' = [some (.d (.int a)), some (.d (.int (partsN a))), some (.p 0), some (.d (.int (manyN a))), k, e, none, none] ∧ μ' = [.rw ((drawS a i).map D.int)], ⟨_, _, rfl, rfl⟩, ?_, ?_⟩
    · rintro i ρ' μ' hi ⟨k, e, rfl, rfl⟩
      have hok := drawS_ok a i
      walk_at "r"
      refine ca_mixed ?_
      walk_at "r"
      rw [show 1 + mixN a (i : Int) % partsN a = endN a i from rfl]
      by_cases c0 : endN a i < partsN a
      · rw [decide_eq_true c0]
        walk_at "r"
        refine w2_notIn (isL_rw rfl) ?_
        walk_at "r"
        by_cases c : endN a i ∈ drawS a i
        · rw [decide_eq_true c]
          walk_at "r"
          have e : drawS a (i + 1) = drawS a i := if_neg fun z => z.2 c
          dsimp only
          rw [e]
          exact ⟨_, _, rfl, rfl⟩
        · rw [decide_eq_false c]
          walk_at "r"
          refine ⟨_, _, rfl, rfl, ?_⟩
          walk_at "r"
          refine ⟨_, _, rfl, rfl, ?_, ?_⟩
          · have := hok.few
            rw [List.length_map]
            omega
          walk_at "r"
          have e : drawS a (i + 1) = drawS a i ++ [endN a i] := if_pos ⟨decide_eq_true c0, c⟩
          dsimp only
          rw [e, List.map_append]
          exact ⟨_, _, rfl, rfl⟩
      · rw [decide_eq_false c0]
        walk_at "r"
        have e : drawS a (i + 1) = drawS a i := if_neg fun z => c0 (of_decide_eq_true z.1)
        dsimp only
        rw [e]
        exact ⟨_, _, rfl, rfl⟩
    · rintro ρ' μ' ⟨k, e, rfl, rfl⟩
      exact ⟨_, _, rfl, rfl⟩
  rintro ρ' μ' ⟨k, e, rfl, rfl⟩
  have hfew := (drawS_ok a (manyN a).toNat).few
  have hgood := stepsBy_good a
  refine wS_seq ?_
  walk_at "q"
  refine ⟨[], rfl, by simp, ?_⟩
  walk_at "q"
  refine wS_seqJ (fun ρ' μ' => ∃ k e w c1 cs, ρ' = [some (.d (.int a)), some (.d (.int (partsN a))), some (.p 0), some (.d (.int (manyN a))), k, e, some (.p 1), w] ∧ μ' = c1 :: .rw (encSt (stepsBy a)) :: cs) ?_ ?_
  · refine wS_for ?_
    refine wE_op ?_
    refine wE_sliceTo ?_
    walk_at "q"
    refine wC_sorted (isL_rw rfl) (by omega) ?_
    intro ns' hpm hpw
    have en : ns' = sortN (drawS a (manyN a).toNat) := sort_is hpm hpw
    subst en
    walk_at "q"
    refine ⟨_, _, isL_rw rfl, rfl, ?_⟩
    walk_at "q"
    refine ⟨[.int (partsN a)], rfl, by simp, ?_⟩
    walk_at "q"
    have e7 : cutD ((sortN (drawS a (manyN a).toNat)).map D.int) none (some 7) = ((sortN (drawS a (manyN a).toNat)).take 7).map D.int := by
      rw [show (7 : Int) = ((7 : Nat) : Int) from rfl, cutD_to, List.map_take]
    have hall : ((sortN (drawS a (manyN a).toNat)).take 7).map D.int ++ [D.int (partsN a)] = (endsS a).map D.int := by
      unfold endsS
      rw [List.map_append]
      rfl
    have hlen : (endsS a).length ≤ 8 := by
      unfold endsS
      rw [List.length_append, List.length_take]
      simp
      omega
    refine w2_cat rfl rfl ?_ ?_
    · rw [e7, List.length_map, List.length_take]
      simp
      omega
    rw [e7, hall]
    refine ⟨_, isL_rw rfl, fun i ρ' μ' => ∃ k e w, ρ' = [some (.d (.int a)), some (.d (.int (partsN a))), some (.p 0), some (.d (.int (manyN a))), k, e, some (.p 1), w] ∧ μ' = [.rw ((drawS a (manyN a).toNat).map D.int), .rw (encSt ((stepsBy a).take i)), .rw ((sortN (drawS a (manyN a).toNat)).map D.int), .rw (((sortN (drawS a (manyN a).toNat)).take 7).map D.int), .rw [.int (partsN a)], .rw ((endsS a).map D.int)], ⟨_, _, _, rfl, rfl⟩, ?_, ?_, ?_⟩
    · rintro i ρ' μ' ⟨k, e, w, rfl, rfl⟩
      exact isL_rw rfl
    · rintro i d ρ' μ' hd ⟨k, e, w, rfl, rfl⟩
      obtain ⟨x, hx, rfl⟩ := map_at hd
      have hil : i < (endsS a).length := (List.getElem?_eq_some_iff.mp hx).1
      have hs := toSteps_at (c := a) (parts := partsN a) (i := 0) hx
      rw [Nat.zero_add] at hs
      have hsl : (encSt ((stepsBy a).take i)).length = i := by
        rw [encSt_len, List.length_take, show (stepsBy a).length = _ from toSteps_len _ _ _ _]
        omega
      have x0 : 0 ≤ x := by
        have z : x ∈ endsS a := List.mem_of_getElem? hx
        rcases List.mem_append.mp z with z | z
        · have := (sort7 a).2 x z
          omega
        · simp at z
          omega
      have dz : Dz (partsN a) := dz_of (n := 10) (by omega) (by have : (2:Int)^10 = 1024 := by decide
                                                                omega) (by decide)
      walk_at "q"
      refine wS_seq ?_
      walk_at "q"
      refine wC_lenL (isL_rw rfl) ?_
      rw [hsl]
      walk_at "q"
      refine ca_mixed ?_
      walk_at "q"
      refine wS_seqJ (fun ρ' μ' => ∃ k, ρ' = [some (.d (.int a)), some (.d (.int (partsN a))), some (.p 0), some (.d (.int (manyN a))), k, some (.d (.int x)), some (.p 1), some (.d (.int (weightN a i)))] ∧ μ' = [.rw ((drawS a (manyN a).toNat).map D.int), .rw (encSt ((stepsBy a).take i)), .rw ((sortN (drawS a (manyN a).toNat)).map D.int), .rw (((sortN (drawS a (manyN a).toNat)).take 7).map D.int), .rw [.int (partsN a)], .rw ((endsS a).map D.int)]) ?_ ?_
      · walk_at "r"
        by_cases c : a / 11 % 8 = 1
        · rw [decide_eq_true c]
          walk_at "r"
          refine wC_lenL (isL_rw rfl) ?_
          rw [hsl]
          walk_at "r"
          refine ca_mixed ?_
          walk_at "r"
          rw [show weightN a i = _ from if_pos c]
          exact ⟨_, rfl, rfl⟩
        · rw [decide_eq_false c]
          walk_at "r"
          rw [show weightN a i = _ from if_neg c]
          exact ⟨_, rfl, rfl⟩
      rintro ρ' μ' ⟨k, rfl, rfl⟩
      walk_at "r"
      refine ⟨_, _, rfl, rfl, ?_⟩
      walk_at "r"
      refine ca_lowest x0 dz ?_
      walk_at "r"
      refine ⟨[encF (Rat.divInt x (partsN a)), .int (weightN a i)], rfl, by simp, ?_⟩
      walk_at "r"
      refine ⟨_, _, rfl, rfl, by omega, ?_⟩
      walk_at "r"
      dsimp only
      rw [show encSt ((stepsBy a).take (i + 1)) = _ from take_succ_map hs]
      exact ⟨_, _, _, rfl, rfl⟩
    · rintro ρ' μ' ⟨k, e, w, rfl, rfl⟩
      rw [List.length_map, ← toSteps_len a (partsN a) (endsS a) 0, show toSteps a (partsN a) 0 (endsS a) = stepsBy a from rfl, List.take_length]
      exact ⟨_, _, _, _, _, rfl, rfl⟩
  rintro ρ' μ' ⟨k, e, w, c1, cs, rfl, rfl⟩
  walk_at "r"
  exact .own rfl
theorem ok__law_steps_by (T : Top G.K mg "_law_steps_by" s__law_steps_by ["_law_cell"]) (D__law_mixed : Def P w G.K mg base "_law_mixed" 1 ["_law_cell", "_law_k"] (spC G X c__law_mixed)) (D__law_low : Def P w G.K mg base "_law_low" 1 ["_law_a", "_law_b"] (spC G X c_lowest)) (z_range : mg "range" = none) (z_sorted : mg "sorted" = none) (z_len : mg "len" = none) : Def P w G.K mg base "_law_steps_by" 2 ["_law_cell"] (spC G X c__law_steps_by) := def_of T fun f fd F => fn__law_steps_by F D__law_mixed D__law_low z_range z_sorted z_len
abbrev s__law_piece_by : Stmt := topS 51
theorem sc__law_piece_by : FnScope ["_law_cell", "_law_ends", "_law_k", "_law_end", "_law_piece"] ["_law_cell"] (defScope s__law_piece_by) := ⟨rfl, rfl, rfl, by decide +kernel, rfl, by decide +kernel, by decide +kernel⟩
local macro_rules | `(tactic| walk_at "st") => `(tactic| simp only [c5_piece_by, L2.cxOf, slotsFrom, cellsOf, argOf, List.length_cons, List.length_nil, List.replicate, List.cons_append, List.nil_append, List.map_cons, List.map_nil, Nat.reduceAdd, Nat.reduceSub, Nat.zero_add, Nat.sub_self] at *)
theorem fn__law_piece_by {f : Addr} {fd : FuncData} (F : Fun G.K "_law_piece_by" "_law_piece_by" s__law_piece_by f fd) (D__law_mixed : Def P w G.K mg base "_law_mixed" 1 ["_law_cell", "_law_k"] (spC G X c__law_mixed)) (D__law_low : Def P w G.K mg base "_law_low" 1 ["_law_a", "_law_b"] (spC G X c_lowest)) (z_range : mg "range" = none) (z_sorted : mg "sorted" = none) (z_len : mg "len" = none) : FnOk P w G.K mg base (L2N.CX P w) 2 f fd ["_law_cell"] (spC G X c5_piece_by) := by
  obtain ⟨f__law_mixed, d__law_mixed, G__law_mixed, m__law_mixed, k__law_mixed, b__law_mixed⟩ := D__law_mixed.ex
  obtain ⟨f__law_low, d__law_low, G__law_low, m__law_low, k__law_low, b__law_low⟩ := D__law_low.ex
  refine okXN F sc__law_piece_by (fun vs H Q E h => spC_len (fun _ => rfl) h) (fun cdv A outer s H vs Q E hr hsp => ?_)
  refine ⟨_, (pss_cons (ps_set (i := 1) sc__law_piece_by.nd rfl (Or.inl rfl) (pe_lst pa_nil))
    (pss_cons (ps_for (passes_of rfl) rfl (pi_range1 (by rfl) z_range (pa_cons (pe_op op_mul pe_int (pe_op op_mod (pe_op op_fdiv (pv 0) pe_int) pe_int)) pa_nil)) (pg_name (i := 2) sc__law_piece_by.nd rfl (Or.inl rfl)) (pss_cons (ps_set (i := 3) sc__law_piece_by.nd rfl (Or.inl rfl) (pe_op op_mod (pe_call G__law_mixed (hr.mono (by decide)) (by rfl) m__law_mixed k__law_mixed b__law_mixed .nil passLN (pa_cons (pv 0) (pa_cons (pe_op op_add pe_int (pv 2)) pa_nil))) pe_int))
    (pss_one (ps_if (pt_cmpR (kNotIn (K := G.K) rfl) (pv 3) (pv 1) (by rfl)) (pss_one (ps_expr (kbm (K := G.K) rfl PySem.F.plainAttrs_list PySem.F.slot_list_append PySem.F.type_list_append mt_append (pv 1) (pa_cons (pv 3) pa_nil)))) pss_nil))))
    (pss_cons (ps_set (i := 1) sc__law_piece_by.nd rfl (Or.inl rfl) (pe_callB (kSorted (K := G.K) rfl) (by rfl) z_sorted bt_sorted (pa_cons (pv 1) pa_nil)))
    (pss_cons (ps_set (i := 4) sc__law_piece_by.nd rfl (Or.inl rfl) (pe_lst pa_nil))
    (pss_cons (ps_for (passes_of rfl) rfl (pi_range3 (by rfl) z_range (pa_cons pe_int (pa_cons (pe_op op_sub (pe_callB (kLen (K := G.K) rfl) (by rfl) z_len bt_len (pa_cons (pv 1) pa_nil)) pe_int) (pa_cons pe_int pa_nil)))) (pg_name (i := 2) sc__law_piece_by.nd rfl (Or.inl rfl)) (pss_one (ps_expr (kbm (K := G.K) rfl PySem.F.plainAttrs_list PySem.F.slot_list_append PySem.F.type_list_append mt_append (pv 4) (pa_cons (pe_tup (pa_cons (pe_call G__law_low (hr.mono (by decide)) (by rfl) m__law_low k__law_low b__law_low .nil passLN (pa_cons (pe_ix (kIx (K := G.K) rfl) (pv 1) (pv 2) (fun _ _ => rfl)) (pa_cons pe_int pa_nil))) (pa_cons (pe_call G__law_low (hr.mono (by decide)) (by rfl) m__law_low k__law_low b__law_low .nil passLN (pa_cons (pe_ix (kIx (K := G.K) rfl) (pv 1) (pe_op op_add (pv 2) pe_int) (fun _ _ => rfl)) (pa_cons pe_int pa_nil))) pa_nil))) pa_nil)))))
    (pss_one (ps_ret (pv 4)))))))), body_ct hsp (fun _ => by simp [c5_piece_by]) (fun a F0 hp hE => ?_)⟩
  walk_at "st"
  clear hsp hE hp
  walk_at "q"
  refine wS_seq ?_
  walk_at "q"
  refine ⟨[], rfl, by simp, ?_⟩
  walk_at "q"
  refine wS_seqJ (fun ρ' μ' => ∃ k e, ρ' = [some (.d (.int a)), some (.p 0), k, e, none] ∧ μ' = [.rw ((drawQ a (2 * (a / 3 % 9)).toNat).map D.int)]) ?_ ?_
  · refine wS_rng1 ?_
    walk_at "q"
    refine ⟨by omega, by omega, fun i ρ' μ' => ∃ k e, ρ' = [some (.d (.int a)), some (.p 0), k, e, none] ∧ μ' = [.rw ((drawQ a i).map D.int)], ⟨_, _, rfl, rfl⟩, ?_, ?_⟩
    · rintro i ρ' μ' hi ⟨k, e, rfl, rfl⟩
      have hok := drawQ_ok a i
      walk_at "r"
      refine ca_mixed ?_
      walk_at "r"
      rw [show mixN a (30 + (i : Int)) % 49 = endQ a i from rfl]
      refine w2_notIn (isL_rw rfl) ?_
      walk_at "r"
      by_cases c : endQ a i ∈ drawQ a i
      · rw [decide_eq_true c]
        walk_at "r"
        have e : drawQ a (i + 1) = drawQ a i := if_neg fun z => z.2 c
        dsimp only
        rw [e]
        exact ⟨_, _, rfl, rfl⟩
      · rw [decide_eq_false c]
        walk_at "r"
        refine ⟨_, _, rfl, rfl, ?_⟩
        walk_at "r"
        refine ⟨_, _, rfl, rfl, ?_, ?_⟩
        · have := hok.few
          rw [List.length_map]
          omega
        walk_at "r"
        have e : drawQ a (i + 1) = drawQ a i ++ [endQ a i] := if_pos ⟨rfl, c⟩
        dsimp only
        rw [e, List.map_append]
        exact ⟨_, _, rfl, rfl⟩
    · rintro ρ' μ' ⟨k, e, rfl, rfl⟩
      exact ⟨_, _, rfl, rfl⟩
  rintro ρ' μ' ⟨k, e, rfl, rfl⟩
  have hfew := (drawQ_ok a (2 * (a / 3 % 9)).toNat).few
  have hends := endsQ_ok a
  refine wS_seq ?_
  walk_at "q"
  refine wC_sorted (isL_rw rfl) (by omega) ?_
  intro ns' hpm hpw
  have en : ns' = endsQ a := sort_is hpm hpw
  subst en
  walk_at "q"
  refine wS_seq ?_
  walk_at "q"
  refine ⟨[], rfl, by simp, ?_⟩
  walk_at "q"
  refine wS_seqJ (fun ρ' μ' => ∃ k e, ρ' = [some (.d (.int a)), some (.p 1), k, e, some (.p 2)] ∧ μ' = [.rw ((drawQ a (2 * (a / 3 % 9)).toNat).map D.int), .rw ((endsQ a).map D.int), .rw (encP (pieceQ a))]) ?_ ?_
  · refine wS_rng3 ?_
    walk_at "q"
    refine wC_lenL (isL_rw rfl) ?_
    walk_at "q"
    rw [List.length_map]
    refine ⟨_, _, _, (endsQ a).length / 2, rfl, ?_, fun i ρ' μ' => ∃ k e, ρ' = [some (.d (.int a)), some (.p 1), k, e, some (.p 2)] ∧ μ' = [.rw ((drawQ a (2 * (a / 3 % 9)).toNat).map D.int), .rw ((endsQ a).map D.int), .rw (encP ((pieceQ a).take i))], ⟨_, _, rfl, rfl⟩, ?_, ?_⟩
    · have all : ∀ n : Nat, n < 17 → RgC 0 ((n : Int) - 1) 2 (n / 2) := by unfold RgC; decide +kernel
      exact all _ (by have := hends.2.2; omega)
    · rintro i ρ' μ' hi ⟨k, e, rfl, rfl⟩
      have hl := hends.2.2
      obtain ⟨x, hx⟩ : ∃ x, (endsQ a)[2 * i]? = some x := ⟨_, List.getElem?_eq_getElem (by omega)⟩
      obtain ⟨y, hy⟩ : ∃ y, (endsQ a)[2 * i + 1]? = some y := ⟨_, List.getElem?_eq_getElem (by omega)⟩
      have hp := toPiece_at (parts := 48) hx hy
      have x0 := hends.2.1 x (List.mem_of_getElem? hx)
      have y0 := hends.2.1 y (List.mem_of_getElem? hy)
      have dz : Dz 48 := dz1000 (by decide) (by decide)
      have ax : atI ((endsQ a).map D.int) (0 + (i : Int) * 2) = some (.int x) := by
        rw [show (0 + (i : Int) * 2) = ((2 * i : Nat) : Int) by omega]
        exact atI_nat (by rw [List.getElem?_map, hx]; rfl)
      have ay : atI ((endsQ a).map D.int) (0 + (i : Int) * 2 + 1) = some (.int y) := by
        rw [show (0 + (i : Int) * 2 + 1) = ((2 * i + 1 : Nat) : Int) by omega]
        exact atI_nat (by rw [List.getElem?_map, hy]; rfl)
      walk_at "r"
      refine ⟨_, _, rfl, rfl, ?_⟩
      walk_at "r"
      refine w2_ix (.inl (isL_rw rfl)) ax ?_
      walk_at "r"
      refine ca_lowest x0.1 dz ?_
      walk_at "r"
      refine w2_ix (.inl (isL_rw rfl)) ay ?_
      walk_at "r"
      refine ca_lowest y0.1 dz ?_
      walk_at "r"
      refine ⟨[encF (Rat.divInt x (48)), encF (Rat.divInt y (48))], rfl, by simp, ?_⟩
      walk_at "r"
      refine ⟨_, _, rfl, rfl, ?_, ?_⟩
      · have := pieceQ_len a
        rw [encP_len, List.length_take]
        omega
      walk_at "r"
      dsimp only
      rw [show encP ((pieceQ a).take (i + 1)) = _ from take_succ_map hp]
      exact ⟨_, _, rfl, rfl⟩
    · rintro ρ' μ' ⟨k, e, rfl, rfl⟩
      rw [← toPiece_len (48) (endsQ a), show toPiece (48) (endsQ a) = pieceQ a from rfl, List.take_length]
      exact ⟨_, _, rfl, rfl⟩
  rintro ρ' μ' ⟨k, e, rfl, rfl⟩
  walk_at "r"
  exact .own rfl
theorem ok__law_piece_by (T : Top G.K mg "_law_piece_by" s__law_piece_by ["_law_cell"]) (D__law_mixed : Def P w G.K mg base "_law_mixed" 1 ["_law_cell", "_law_k"] (spC G X c__law_mixed)) (D__law_low : Def P w G.K mg base "_law_low" 1 ["_law_a", "_law_b"] (spC G X c_lowest)) (z_range : mg "range" = none) (z_sorted : mg "sorted" = none) (z_len : mg "len" = none) : Def P w G.K mg base "_law_piece_by" 2 ["_law_cell"] (spC G X c5_piece_by) := def_of T fun f fd F => fn__law_piece_by F D__law_mixed D__law_low z_range z_sorted z_len
abbrev s__law_text : Stmt := topS 52
theorem sc__law_text : FnScope ["_law_one"] ["_law_one"] (defScope s__law_text) := ⟨rfl, rfl, rfl, by decide +kernel, rfl, by decide +kernel, by decide +kernel⟩
local macro_rules | `(tactic| walk_at "st") => `(tactic| simp only [c_fraction_text, L2.cxOf, slotsFrom, cellsOf, argOf, List.length_cons, List.length_nil, List.replicate, List.cons_append, List.nil_append, List.map_cons, List.map_nil, Nat.reduceAdd, Nat.reduceSub, Nat.zero_add, Nat.sub_self] at *)
theorem fn__law_text {f : Addr} {fd : FuncData} (F : Fun G.K "_law_text" "_law_text" s__law_text f fd) (z_str : mg "str" = none) : FnOk P w G.K mg base (L2N.CX P w) 1 f fd ["_law_one"] (spC G X c_fraction_text) := by
  refine okXN F sc__law_text (fun vs H Q E h => spC_len (fun _ => rfl) h) (fun cdv A outer s H vs Q E hr hsp => ?_)
  refine ⟨_, (pss_one (ps_ret (pe_ifExp (pt_cmpR (kEq (K := G.K) rfl hr.units) (pe_ix (kIx (K := G.K) rfl) (pv 0) pe_int (fun _ _ => rfl)) pe_int (nomark _)) (pe_callTy kStrI (by rfl) z_str bt_str (pa_cons (pe_ix (kIx (K := G.K) rfl) (pv 0) pe_int (fun _ _ => rfl)) pa_nil)) (pe_op kAddS (pe_op kAddS (pe_callTy kStrI (by rfl) z_str bt_str (pa_cons (pe_ix (kIx (K := G.K) rfl) (pv 0) pe_int (fun _ _ => rfl)) pa_nil)) pe_str) (pe_callTy kStrI (by rfl) z_str bt_str (pa_cons (pe_ix (kIx (K := G.K) rfl) (pv 0) pe_int (fun _ _ => rfl)) pa_nil)))))), body_ct hsp (fun _ => by simp [c_fraction_text]) (fun a F0 hp hE => ?_)⟩
  obtain ⟨a0, z1, z2⟩ : 0 ≤ a ∧ a.num.natAbs < 2 ^ 900 ∧ a.den < 2 ^ 900 := hp
  walk_at "st"
  clear hsp hE
  have hn : 0 ≤ a.num := Rat.num_nonneg.mpr a0
  have en : a.num = ((a.num.toNat : Nat) : Int) := (Int.toNat_of_nonneg hn).symm
  have l1 : (TL.numL a.num.toNat).length ≤ 300 := smT_len (by omega)
  have l2 : (TL.numL a.den).length ≤ 300 := smT_len z2
  have p9 : (2 : Nat) ^ 900 ≤ 2 ^ 1900 := Nat.pow_le_pow_right (by decide) (by decide)
  walk_at "r"
  by_cases c : (a.den : Int) = 1
  · have c' : a.den = 1 := by omega
    have et : txF a = TL.numL a.num.toNat := if_pos c'
    rw [decide_eq_true c, et]
    walk_at "r"
    rw [en]
    refine wC_strI (by omega) ?_
    exact ⟨_, rfl, .d _⟩
  · have c' : ¬ a.den = 1 := by omega
    have et : txF a = TL.numL a.num.toNat ++ 47 :: TL.numL a.den := if_neg c'
    rw [decide_eq_false c, et]
    walk_at "r"
    rw [en]
    refine wC_strI (by omega) ?_
    walk_at "r"
    refine w2_addS (b := [47]) (by simp; omega) ?_
    walk_at "r"
    refine wC_strI (n := a.den) (by omega) ?_
    refine w2_addS (by simp; omega) ?_
    rw [List.append_assoc]
    exact ⟨_, rfl, .d _⟩
theorem ok__law_text (T : Top G.K mg "_law_text" s__law_text ["_law_one"]) (z_str : mg "str" = none) : Def P w G.K mg base "_law_text" 1 ["_law_one"] (spC G X c_fraction_text) := def_of T fun f fd F => fn__law_text F z_str
abbrev s__law_number : Stmt := topS 53
theorem sc__law_number : FnScope ["_law_text_here", "_law_sign"] ["_law_text_here"] (defScope s__law_number) := ⟨rfl, rfl, rfl, by decide +kernel, rfl, by decide +kernel, by decide +kernel⟩
local macro_rules | `(tactic| walk_at "st") => `(tactic| simp only [c__law_number, L2.cxOf, slotsFrom, cellsOf, argOf, List.length_cons, List.length_nil, List.replicate, List.cons_append, List.nil_append, List.map_cons, List.map_nil, Nat.reduceAdd, Nat.reduceSub, Nat.zero_add, Nat.sub_self] at *)
theorem fn__law_number {f : Addr} {fd : FuncData} (F : Fun G.K "_law_number" "_law_number" s__law_number f fd) (z_any : mg "any" = none) (z_len : mg "len" = none) (z_str : mg "str" = none) (z_int : mg "int" = none) : FnOk P w G.K mg base (L2N.CX P w) 1 f fd ["_law_text_here"] (spC G X c__law_number) := by
  refine okXN F sc__law_number (fun vs H Q E h => spC_len (fun _ => rfl) h) (fun cdv A outer s H vs Q E hr hsp => ?_)
  refine ⟨_, (pss_cons (ps_if (PW.pt (pw_or (pt_cmpR (kEq (K := G.K) rfl hr.units) (pv 0) pe_str (nomark _)) (pw_or (pt_cmpR op_gt (pe_callB kLenS (by rfl) z_len bt_len (pa_cons (pv 0) pa_nil)) pe_int (nomark _)) (pw_or1 (pt_val (pe_callB (kAny (K := G.K) rfl rfl) (by rfl) z_any bt_any (pa_cons (pe_lc (own := ([("_law_sign", 1)] : List (Str × Nat))) (g := (gName 1)) (tt := tYes) rfl sc__law_number.nd (pi_str (pv 0)) (blkOk_by (N := (["_law_text_here", "_law_sign"] : List Str)) (sc := defScope s__law_number) (by decide +kernel)) (fun _ _ _ _ _ => (pg_name (i := 1) sc__law_number.nd rfl (Or.inl rfl))) (fun _ _ _ _ _ => pts_nil) (fun _ _ _ _ _ => (pe_cmpR kNotInS (pv 1) pe_str (by rfl)))) pa_nil))))))) (pss_one (ps_ret pe_non)) pss_nil)
    (pss_one (ps_ret (pe_ifExp (pt_cmpR (kNe (K := G.K) rfl hr.units) (pe_callTy kStrI (by rfl) z_str bt_str (pa_cons (pe_callTy kIntS (by rfl) z_int bt_int (pa_cons (pv 0) pa_nil)) pa_nil)) (pv 0) (nomark _)) pe_non (pe_callTy kIntS (by rfl) z_int bt_int (pa_cons (pv 0) pa_nil)))))), body_ct hsp (fun _ => by simp [c__law_number]) (fun a F0 hp hE => ?_)⟩
  obtain ⟨hp, hcp⟩ : a.length ≤ 5000000 ∧ Cps a := hp
  walk_at "st"
  clear hsp hE
  walk_at "r"
  refine w2_eqS (b := []) hcp cps_nil ?_
  by_cases c0 : a = []
  · rw [decide_eq_true c0]
    have en : numR a = none := if_neg fun z => z.1 c0
    walk_at "r"
    rw [en]
    exact .d _
  rw [decide_eq_false c0]
  walk_at "r"
  refine wC_lenS (by omega) ?_
  walk_at "r"
  by_cases c2 : (a.length : Int) > 300
  · have en : numR a = none := if_neg fun z => by omega
    rw [decide_eq_true c2]
    walk_at "r"
    rw [en]
    exact .d _
  rw [decide_eq_false c2]
  walk_at "r"
  refine wE_lcS (within_name (by decide)) ?_
  walk_at "r"
  refine ⟨fun i μ' => μ' = [.rw ((a.take i).map fun c => D.bl (!(decide (48 ≤ c) && decide (c ≤ 57))))], rfl, ?_, ?_⟩
  · rintro i c μ' hi rfl
    have := (List.getElem?_eq_some_iff.mp hi).1
    have this_at := hi
    walk_at "r"
    refine wT_yes (iteT ?_)
    walk_at "r"
    refine w2_notInS (a := [48, 49, 50, 51, 52, 53, 54, 55, 56, 57]) ?_
    refine ⟨_, _, rfl, rfl, by simp; omega, ?_⟩
    have e : decide (c ∈ [48, 49, 50, 51, 52, 53, 54, 55, 56, 57]) = (decide (48 ≤ c) && decide (c ≤ 57)) := by
      rw [← Bool.decide_and, decide_eq_decide]
      simp
      omega
    rw [e]
    show [Cell.rw _] = [Cell.rw (List.map _ (List.take (i + 1) a))]
    rw [take_succ_map this_at]
  rintro μ' rfl
  refine wA_nil ?_
  refine wC_any (bs := a.map fun c => !(decide (48 ≤ c) && decide (c ≤ 57))) ?_ ?_
  · rw [List.map_map, List.take_length]
    exact isL_rw rfl
  have ea : (a.map fun c => !(decide (48 ≤ c) && decide (c ≤ 57))).any id = !digs a := by
    unfold digs
    rw [List.any_map, List.not_all_eq_any_not]
    rfl
  rw [ea]
  by_cases c3 : digs a = true
  · rw [c3]
    walk_at "r"
    refine wC_intS c3 c0 (by omega) ?_
    walk_at "r"
    refine wC_strI (val_lt c3 (by omega)) ?_
    walk_at "r"
    refine w2_neS (num_cps _) hcp ?_
    by_cases c4 : TL.numL (NumText.digitsVal a) = a
    · have en : numR a = some (NumText.digitsVal a) := if_pos ⟨c0, by omega, c3, (num_iff c0 c3).mp c4⟩
      rw [decide_eq_true c4]
      walk_at "r"
      refine wC_intS c3 c0 (by omega) ?_
      rw [en]
      exact ⟨_, rfl, .d _⟩
    · have en : numR a = none := if_neg fun z => c4 ((num_iff c0 c3).mpr z.2.2.2)
      rw [decide_eq_false c4]
      walk_at "r"
      rw [en]
      exact .d _
  · have en : numR a = none := if_neg fun z => c3 z.2.2.1
    rw [Bool.eq_false_iff.mpr c3]
    walk_at "r"
    rw [en]
    exact .d _
theorem ok__law_number (T : Top G.K mg "_law_number" s__law_number ["_law_text_here"]) (z_any : mg "any" = none) (z_len : mg "len" = none) (z_str : mg "str" = none) (z_int : mg "int" = none) : Def P w G.K mg base "_law_number" 1 ["_law_text_here"] (spC G X c__law_number) := def_of T fun f fd F => fn__law_number F z_any z_len z_str z_int
abbrev s__law_fraction_of : Stmt := topS 54
theorem sc__law_fraction_of : FnScope ["_law_text_here", "_law_above", "_law_mark", "_law_under", "_law_a", "_law_b"] ["_law_text_here"] (defScope s__law_fraction_of) := ⟨rfl, rfl, rfl, by decide +kernel, rfl, by decide +kernel, by decide +kernel⟩
local macro_rules | `(tactic| walk_at "st") => `(tactic| simp only [c__law_fraction_of, L2.cxOf, slotsFrom, cellsOf, argOf, List.length_cons, List.length_nil, List.replicate, List.cons_append, List.nil_append, List.map_cons, List.map_nil, Nat.reduceAdd, Nat.reduceSub, Nat.zero_add, Nat.sub_self] at *)
theorem fn__law_fraction_of {f : Addr} {fd : FuncData} (F : Fun G.K "_law_fraction_of" "_law_fraction_of" s__law_fraction_of f fd) (D__law_number : Def P w G.K mg base "_law_number" 1 ["_law_text_here"] (spC G X c__law_number)) (D__law_low : Def P w G.K mg base "_law_low" 1 ["_law_a", "_law_b"] (spC G X c_lowest)) : FnOk P w G.K mg base (L2N.CX P w) 2 f fd ["_law_text_here"] (spC G X c__law_fraction_of) := by
  obtain ⟨f__law_number, d__law_number, G__law_number, m__law_number, k__law_number, b__law_number⟩ := D__law_number.ex
  obtain ⟨f__law_low, d__law_low, G__law_low, m__law_low, k__law_low, b__law_low⟩ := D__law_low.ex
  refine okXN F sc__law_fraction_of (fun vs H Q E h => spC_len (fun _ => rfl) h) (fun cdv A outer s H vs Q E hr hsp => ?_)
  refine ⟨_, (pss_cons (ps_asg (kPart (pv 0) pe_str) (kpg_tup (K := G.K) (n := 3) rfl rfl (pgs_cons (pg_name (i := 1) sc__law_fraction_of.nd rfl (Or.inl rfl)) (pgs_cons (pg_name (i := 2) sc__law_fraction_of.nd rfl (Or.inl rfl)) (pgs_cons (pg_name (i := 3) sc__law_fraction_of.nd rfl (Or.inl rfl)) pgs_nil)))))
    (pss_cons (ps_set (i := 4) sc__law_fraction_of.nd rfl (Or.inl rfl) (pe_call G__law_number (hr.mono (by decide)) (by rfl) m__law_number k__law_number b__law_number .nil passLN (pa_cons (pv 1) pa_nil)))
    (pss_cons (ps_set (i := 5) sc__law_fraction_of.nd rfl (Or.inl rfl) pe_int)
    (pss_cons (ps_if (pt_cmpR (kEq (K := G.K) rfl hr.units) (pv 2) pe_str (nomark _)) (pss_one (ps_set (i := 5) sc__law_fraction_of.nd rfl (Or.inl rfl) (pe_call G__law_number (hr.mono (by decide)) (by rfl) m__law_number k__law_number b__law_number .nil passLN (pa_cons (pv 3) pa_nil)))) pss_nil)
    (pss_cons (ps_if (PW.pt (pw_or (pt_cmpR kIsN (pv 4) pe_non (nomark _)) (pw_or (pt_cmpR kIsN (pv 5) pe_non (nomark _)) (pw_or (pt_cmpR op_lt (pv 5) pe_int (nomark _)) (pw_or (PW.pt (pw_and (pt_cmpR (kEq (K := G.K) rfl hr.units) (pv 2) pe_str (nomark _)) (pw_and1 (pt_cmpR (kEq (K := G.K) rfl hr.units) (pv 5) pe_int (nomark _))))) (pw_or1 (pt_cmpR (kNe (K := G.K) rfl hr.units) (pe_call G__law_low (hr.mono (by decide)) (by rfl) m__law_low k__law_low b__law_low .nil passLN (pa_cons (pv 4) (pa_cons (pv 5) pa_nil))) (pe_tup (pa_cons (pv 4) (pa_cons (pv 5) pa_nil))) (nomark _)))))))) (pss_one (ps_ret pe_non)) pss_nil)
    (pss_one (ps_ret (pe_tup (pa_cons (pv 4) (pa_cons (pv 5) pa_nil)))))))))), body_ct hsp (fun _ => by simp [c__law_fraction_of]) (fun a F0 hp hE => ?_)⟩
  obtain ⟨hp, hcp⟩ : a.length ≤ 5000000 ∧ Cps a := hp
  walk_at "st"
  clear hsp hE
  refine wS_seq (wS_asg (wE_part ?_))
  walk_at "e"
  refine ⟨a, rfl, ?_⟩
  walk_at "e"
  refine ⟨47, rfl, by omega, ?_⟩
  have pl := par_len 47 a
  have pm := par_mark 47 a
  obtain ⟨cpx, lm, cpy⟩ := par_cps (c := 47) hcp
  have eo : fracT a = (match numR (parD 47 a).1, (if (parD 47 a).2.1 = [] then some 1 else numR (parD 47 a).2.2) with
    | some x, some y => if y < 1 ∨ (parD 47 a).2.1 ≠ [] ∧ y = 1 ∨ lowQ x y = false then none else some (Rat.divInt x y)
    | _, _ => none) := rfl
  generalize hfr : fracT a = fr at *
  generalize parD 47 a = pd at *
  obtain ⟨x, m, y⟩ := pd
  dsimp only at *
  walk_at "q"
  refine wS_asgJ (fun u μ' => u = .d (numO (numR x)) ∧ μ' = []) ?_ ?_
  · walk_at "q"
    refine ca_lnum (by omega) cpx ?_
    exact ⟨rfl, rfl⟩
  rintro u μ' ⟨rfl, rfl⟩
  walk_at "q"
  refine wS_seq ?_
  walk_at "q"
  refine wS_seqJ (fun ρ' μ' => ρ' = [some (.d (sd a)), some (.d (sd x)), some (.d (sd m)), some (.d (sd y)), some (.d (numO (numR x))), some (.d (numO (if m = [] then some 1 else numR y)))] ∧ μ' = []) ?_ ?_
  · walk_at "r"
    refine w2_eqS (b := [47]) lm (cps_one (by decide)) ?_
    walk_at "r"
    rcases pm with c1 | c1
    · rw [decide_eq_false (by rw [c1]; decide)]
      walk_at "r"
      exact ⟨by rw [if_pos c1]; rfl, rfl⟩
    · rw [decide_eq_true c1]
      walk_at "r"
      refine ca_lnum (by omega) cpy ?_
      walk_at "r"
      exact ⟨by rw [if_neg (by rw [c1]; simp)]; rfl, rfl⟩
  rintro ρ' μ' ⟨rfl, rfl⟩
  cases h1 : numR x with
  | none =>
    rw [h1] at eo
    have eo : fr = none := eo
    subst eo
    walk_at "r"
    refine w2_isN ?_
    walk_at "r"
    exact .d _
  | some n =>
    cases h2 : (if m = [] then some 1 else numR y) with
    | none =>
      rw [h1, h2] at eo
      have eo : fr = none := eo
      subst eo
      walk_at "r"
      refine w2_isN ?_
      walk_at "r"
      refine w2_isN ?_
      walk_at "r"
      exact .d _
    | some k =>
      rw [h1, h2] at eo
      dsimp only at eo
      have nl := numR_lt h1
      have kl : k < 2 ^ 1000 := by
        by_cases c1 : m = []
        · rw [if_pos c1] at h2
          have : 1 = k := Option.some.inj h2
          rw [← this]; exact Nat.one_lt_two_pow (by decide)
        · rw [if_neg c1] at h2
          exact numR_lt h2
      simp only [numO]
      have eb : (m = [47]) = (m ≠ []) := propext ⟨fun h => by rw [h]; simp, fun h => pm.resolve_left h⟩
      walk_at "r"
      refine w2_isN ?_
      walk_at "r"
      refine w2_isN ?_
      walk_at "r"
      have fin : lowQ n k = true → (¬ ((k : Int) < 1)) → ¬ (m ≠ [] ∧ k = 1) → fr = some (Rat.divInt n k) ∧ D.tup [.int n, .int k] = encF (Rat.divInt n k) := fun c1 c2 c3 => by
        refine ⟨?_, ?_⟩
        · rw [eo, if_neg]
          rintro (z | z | z)
          · omega
          · exact c3 z
          · rw [c1] at z; cases z
        · have z := of_decide_eq_true c1
          unfold encF
          rw [z.1, z.2]
      by_cases c1 : (k : Int) < 1
      · rw [if_pos (.inl (by omega))] at eo
        rw [decide_eq_true c1]
        subst eo
        walk_at "r"
        exact .d _
      rw [decide_eq_false c1]
      walk_at "r"
      refine w2_eqS (b := [47]) lm (cps_one (by decide)) ?_
      walk_at "r"
      have low : ∀ (hne : ¬ (m ≠ [] ∧ k = 1)) (R' : RE), (lowQ n k = false → R' (.d (.bl true)) []) → (lowQ n k = true → R' (.d (.bl false)) []) → w2 G F0 H (rNeD G.K) (.d (encF (Rat.divInt n k))) (.d (.tup [.int n, .int k])) [some (.d (sd a)), some (.d (sd x)), some (.d (sd m)), some (.d (sd y)), some (.d (.int n)), some (.d (.int k))] [] R' := fun hne R' k1 k2 => by
        refine w2_neD (.d _) (.d _) 1 1 (by decide) (by decide) rfl rfl ?_
        rw [eqD_lowQ]
        cases e : lowQ n k with
        | true => exact k2 e
        | false => exact k1 e
      by_cases c2 : m = [47]
      · rw [decide_eq_true c2]
        walk_at "r"
        by_cases c3 : (k : Int) = 1
        · rw [if_pos (.inr (.inl ⟨by rw [← eb]; exact c2, by omega⟩))] at eo
          rw [decide_eq_true c3]
          subst eo
          walk_at "r"
          exact .d _
        rw [decide_eq_false c3]
        have hne : ¬ (m ≠ [] ∧ k = 1) := fun z => c3 (by omega)
        walk_at "r"
        walk_at "c2"
        · exact ⟨by show (0 : Int) ≤ n; omega, dz_small (by omega) kl⟩
        refine end_d ?_
        walk_at "r"
        refine ⟨[.int n, .int k], rfl, by simp, ?_⟩
        refine low hne _ (fun c4 => ?_) fun c4 => ?_
        · rw [if_pos (.inr (.inr c4))] at eo
          subst eo
          walk_at "r"
          exact .d _
        · obtain ⟨e1, e2⟩ := fin c4 c1 hne
          subst e1
          walk_at "r"
          refine ⟨[.int n, .int k], rfl, by simp, ?_⟩
          rw [e2]
          exact ret_d rfl
      · rw [decide_eq_false c2]
        have hne : ¬ (m ≠ [] ∧ k = 1) := fun z => c2 (by rw [eb]; exact z.1)
        walk_at "r"
        walk_at "c2"
        · exact ⟨by show (0 : Int) ≤ n; omega, dz_small (by omega) kl⟩
        refine end_d ?_
        walk_at "r"
        refine ⟨[.int n, .int k], rfl, by simp, ?_⟩
        refine low hne _ (fun c4 => ?_) fun c4 => ?_
        · rw [if_pos (.inr (.inr c4))] at eo
          subst eo
          walk_at "r"
          exact .d _
        · obtain ⟨e1, e2⟩ := fin c4 c1 hne
          subst e1
          walk_at "r"
          refine ⟨[.int n, .int k], rfl, by simp, ?_⟩
          rw [e2]
          exact ret_d rfl
theorem ok__law_fraction_of (T : Top G.K mg "_law_fraction_of" s__law_fraction_of ["_law_text_here"]) (D__law_number : Def P w G.K mg base "_law_number" 1 ["_law_text_here"] (spC G X c__law_number)) (D__law_low : Def P w G.K mg base "_law_low" 1 ["_law_a", "_law_b"] (spC G X c_lowest)) : Def P w G.K mg base "_law_fraction_of" 2 ["_law_text_here"] (spC G X c__law_fraction_of) := def_of T fun f fd F => fn__law_fraction_of F D__law_number D__law_low
abbrev s__law_steps_of : Stmt := topS 55
theorem sc__law_steps_of : FnScope ["_law_text_here", "_law_steps", "_law_last", "_law_word", "_law_weight", "_law_mark", "_law_end", "_law_spot"] ["_law_text_here"] (defScope s__law_steps_of) := ⟨rfl, rfl, rfl, by decide +kernel, rfl, by decide +kernel, by decide +kernel⟩
local macro_rules | `(tactic| walk_at "st") => `(tactic| simp only [c__law_steps_of, L2.cxOf, slotsFrom, cellsOf, argOf, List.length_cons, List.length_nil, List.replicate, List.cons_append, List.nil_append, List.map_cons, List.map_nil, Nat.reduceAdd, Nat.reduceSub, Nat.zero_add, Nat.sub_self] at *)
theorem fn__law_steps_of {f : Addr} {fd : FuncData} (F : Fun G.K "_law_steps_of" "_law_steps_of" s__law_steps_of f fd) (D__law_fraction_of : Def P w G.K mg base "_law_fraction_of" 2 ["_law_text_here"] (spC G X c__law_fraction_of)) (D__law_number : Def P w G.K mg base "_law_number" 1 ["_law_text_here"] (spC G X c__law_number)) (D__law_less : Def P w G.K mg base "_law_less" 1 ["_law_one", "_law_other_here"] (spC G X c_below)) (z_len : mg "len" = none) : FnOk P w G.K mg base (L2N.CX P w) 3 f fd ["_law_text_here"] (spC G X c__law_steps_of) := by
  obtain ⟨f__law_fraction_of, d__law_fraction_of, G__law_fraction_of, m__law_fraction_of, k__law_fraction_of, b__law_fraction_of⟩ := D__law_fraction_of.ex
  obtain ⟨f__law_number, d__law_number, G__law_number, m__law_number, k__law_number, b__law_number⟩ := D__law_number.ex
  obtain ⟨f__law_less, d__law_less, G__law_less, m__law_less, k__law_less, b__law_less⟩ := D__law_less.ex
  refine okXN F sc__law_steps_of (fun vs H Q E h => spC_len (fun _ => rfl) h) (fun cdv A outer s H vs Q E hr hsp => ?_)
  refine ⟨_, (pss_cons (ps_set (i := 1) sc__law_steps_of.nd rfl (Or.inl rfl) (pe_lst pa_nil))
    (pss_cons (ps_set (i := 2) sc__law_steps_of.nd rfl (Or.inl rfl) (pe_tup (pa_cons pe_int (pa_cons pe_int pa_nil))))
    (pss_cons (ps_for (passes_of rfl) rfl (kpi_list (K := G.K) rfl (kSplit (pv 0) pe_str)) (pg_name (i := 3) sc__law_steps_of.nd rfl (Or.inl rfl)) (pss_cons (ps_asg (kPart (pv 3) pe_str) (kpg_tup (K := G.K) (n := 3) rfl rfl (pgs_cons (pg_name (i := 4) sc__law_steps_of.nd rfl (Or.inl rfl)) (pgs_cons (pg_name (i := 5) sc__law_steps_of.nd rfl (Or.inl rfl)) (pgs_cons (pg_name (i := 6) sc__law_steps_of.nd rfl (Or.inl rfl)) pgs_nil)))))
    (pss_cons (ps_set (i := 7) sc__law_steps_of.nd rfl (Or.inl rfl) (pe_call G__law_fraction_of (hr.mono (by decide)) (by rfl) m__law_fraction_of k__law_fraction_of b__law_fraction_of .nil passLN (pa_cons (pv 6) pa_nil)))
    (pss_cons (ps_if (PW.pt (pw_or (pt_cmpR (kEq (K := G.K) rfl hr.units) (pv 5) pe_str (nomark _)) (pw_or (pt_cmpR kIsN (pe_call G__law_number (hr.mono (by decide)) (by rfl) m__law_number k__law_number b__law_number .nil passLN (pa_cons (pv 4) pa_nil)) pe_non (nomark _)) (pw_or (pt_not (pt_chain op_le op_le pe_int (pe_call G__law_number (hr.mono (by decide)) (by rfl) m__law_number k__law_number b__law_number .nil passLN (pa_cons (pv 4) pa_nil)) pe_int)) (pw_or1 (pt_cmpR kIsN (pv 7) pe_non (nomark _))))))) (pss_one (ps_ret pe_non)) pss_nil)
    (pss_cons (ps_if (PW.pt (pw_or (pt_cmpR op_gt (pe_ix (kIx (K := G.K) rfl) (pv 7) pe_int (fun _ _ => rfl)) pe_int (nomark _)) (pw_or1 (pt_not (pt_val (pe_call G__law_less (hr.mono (by decide)) (by rfl) m__law_less k__law_less b__law_less .nil passLN (pa_cons (pv 2) (pa_cons (pv 7) pa_nil)))))))) (pss_one (ps_ret pe_non)) pss_nil)
    (pss_cons (ps_expr (kbm (K := G.K) rfl PySem.F.plainAttrs_list PySem.F.slot_list_append PySem.F.type_list_append mt_append (pv 1) (pa_cons (pe_tup (pa_cons (pv 7) (pa_cons (pe_call G__law_number (hr.mono (by decide)) (by rfl) m__law_number k__law_number b__law_number .nil passLN (pa_cons (pv 4) pa_nil)) pa_nil))) pa_nil)))
    (pss_one (ps_set (i := 2) sc__law_steps_of.nd rfl (Or.inl rfl) (pv 7)))))))))
    (pss_one (ps_ret (pe_ifExp (PW.pt (pw_and (pt_cmpR (kEq (K := G.K) rfl hr.units) (pv 2) (pe_tup (pa_cons pe_int (pa_cons pe_int pa_nil))) (nomark _)) (pw_and1 (pt_cmpR op_lt (pe_callB (kLen (K := G.K) rfl) (by rfl) z_len bt_len (pa_cons (pv 1) pa_nil)) pe_int (nomark _))))) (pv 1) pe_non)))))), body_ct hsp (fun _ => by simp [c__law_steps_of]) (fun a F0 hp hE => ?_)⟩
  obtain ⟨hl, hcp⟩ : a.length ≤ 800000 ∧ Cps a := hp
  have rz : tasteT a = none → c__law_steps_of.out a = .ret (.d .non) := fun h => by simp [c__law_steps_of, h]
  have rt : ∀ st, tasteT a = some st → c__law_steps_of.out a = .ret (.own (encSt st)) := fun st h => by simp [c__law_steps_of, h]
  rw [taste_same] at rz rt
  generalize c__law_steps_of.out a = oo at *
  have sp := spl_mem 32 _ a rfl
  walk_at "st"
  clear hsp hE
  refine wS_asgJ (fun u μ' => u = .p 0 ∧ μ' = [.rw []]) ?_ ?_
  · walk_at "r"
    exact ⟨[], rfl, by simp, rfl, rfl⟩
  rintro u μ' ⟨rfl, rfl⟩
  refine wS_asgJ (fun u μ' => u = .d (encF 0) ∧ μ' = [.rw []]) ?_ ?_
  · walk_at "r"
    exact ⟨[.int 0, .int 1], rfl, by simp, rfl, rfl⟩
  rintro u μ' ⟨rfl, rfl⟩
  refine wS_seqJ (fun ρ' μ' => ∃ w we m e s l, lawGo 0 (TL.spl [32] 0 [] a) = some l ∧ ρ' = [some (.d (sd a)), some (.p 0), some (.d (encF (endRT 0 l))), w, we, m, e, s] ∧ μ'[0]? = some (.rw (encSt l))) ?_ ?_
  · refine wS_for ?_
    refine wE_split ?_
    walk_at "e"
    refine ⟨a, rfl, ?_⟩
    walk_at "e"
    refine ⟨32, rfl, by decide, by omega, ?_⟩
    refine ⟨(TL.spl [32] 0 [] a).map sd, isL_app, fun i ρ' μ' => ∃ w we m e s l, lawGo 0 ((TL.spl [32] 0 [] a).take i) = some l ∧ ρ' = [some (.d (sd a)), some (.p 0), some (.d (encF (endRT 0 l))), w, we, m, e, s] ∧ μ' = [.rw (encSt l), .rw ((TL.spl [32] 0 [] a).map sd)], ⟨_, _, _, _, _, [], rfl, rfl, rfl⟩, fun i ρ' μ' h => ?_, ?_, ?_⟩
    · obtain ⟨_, _, _, _, _, _, _, _, h⟩ := h
      rw [h]
      exact isL_rw rfl
    · rintro i d ρ' μ' hd ⟨w, we, m, e, s, l, hsl, rfl, rfl⟩
      obtain ⟨wd, hw, rfl⟩ := map_at hd
      have wmem := List.mem_of_getElem? hw
      have wm := sp.2 wd wmem
      have wi := (List.getElem?_eq_some_iff.mp hw).1
      have ll := lawGo_len hsl
      rw [List.length_take] at ll
      have hcw : Cps wd := fun x hx => hcp x (wm.2 x hx)
      have bad : lawGo 0 ((TL.spl [32] 0 [] a).take (i + 1)) = none → oo = .ret (.d .non) := fun h => rz (by unfold lawStepsT; rw [lawGo_none h])
      have step := lawGo_snoc (w := wd) hsl
      rw [← take_snoc hw] at step
      obtain ⟨cpx, lm, cpy⟩ := par_cps (c := 64) hcw
      have pl := par_len 64 wd
      walk_at "q"
      refine wS_seq (wS_asg (wE_part ?_))
      walk_at "e"
      refine ⟨wd, rfl, ?_⟩
      walk_at "e"
      refine ⟨64, rfl, by omega, ?_⟩
      unfold stepT at step
      generalize parD 64 wd = pd at *
      obtain ⟨x, m, y⟩ := pd
      dsimp only at *
      have lnn := lawGo_nn hsl ⟨Rat.le_refl, sz_0'⟩
      walk_at "q"
      refine wS_asgJ (fun u μ' => u = .d (encO (fracT y)) ∧ μ' = [.rw (encSt l), .rw ((TL.spl [32] 0 [] a).map sd)]) ?_ ?_
      · walk_at "q"
        refine ca_lfrac (by omega) cpy ?_
        exact ⟨rfl, rfl⟩
      rintro u μ' ⟨rfl, rfl⟩
      refine wS_seqJ (fun ρ' μ' => ∃ n q, numR x = some n ∧ fracT y = some q ∧ m ≠ [] ∧ 1 ≤ n ∧ n ≤ 1000 ∧ ρ' = [some (.d (sd a)), some (.p 0), some (.d (encF (endRT 0 l))), some (.d (sd wd)), some (.d (sd x)), some (.d (sd m)), some (.d (sd y)), some (.d (encF q))] ∧ μ' = [.rw (encSt l), .rw ((TL.spl [32] 0 [] a).map sd)]) ?_ ?_
      · refine wS_if ?_
        walk_at "r"
        refine w2_eqS (b := []) lm cps_nil ?_
        by_cases c1 : m = []
        · rw [decide_eq_true c1]
          walk_at "r"
          rw [bad (by rw [step, if_pos c1])]
          exact ret_d rfl
        rw [decide_eq_false c1]
        rw [if_neg c1] at step
        walk_at "r"
        refine ca_lnum (by omega) cpx ?_
        walk_at "r"
        refine w2_isN ?_
        cases h1 : numR x with
        | none =>
          rw [h1] at step
          walk_at "r"
          rw [bad (by rw [step]; cases fracT y <;> rfl)]
          exact ret_d rfl
        | some n =>
          rw [h1] at step
          simp only [numO]
          walk_at "r"
          refine ca_lnum (by omega) cpx ?_
          rw [h1]
          simp only [numO]
          walk_at "r"
          by_cases r1 : (1 : Int) ≤ n
          case neg =>
            rw [decide_eq_false r1]
            walk_at "r"
            rw [if_pos trivial]
            walk_at "r"
            rw [bad (by rw [step]; cases fracT y with
              | none => rfl
              | some q => exact if_neg fun z => r1 z.1.2.1)]
            exact ret_d rfl
          rw [decide_eq_true r1]
          walk_at "r"
          by_cases r2 : (n : Int) ≤ 1000
          case neg =>
            rw [decide_eq_false r2]
            walk_at "r"
            rw [if_pos trivial]
            walk_at "r"
            rw [bad (by rw [step]; cases fracT y with
              | none => rfl
              | some q => exact if_neg fun z => r2 z.1.2.2)]
            exact ret_d rfl
          rw [decide_eq_true r2]
          walk_at "r"
          refine w2_isN ?_
          cases h2 : fracT y with
          | none =>
            rw [h2] at step
            walk_at "r"
            rw [bad (by rw [step])]
            exact ret_d rfl
          | some q =>
            walk_at "r"
            exact ⟨n, q, rfl, rfl, c1, by omega, by omega, rfl, rfl⟩
      rintro ρ' μ' ⟨n, q, h1, h2, c1, n1, n2, rfl, rfl⟩
      rw [h1, h2, if_neg c1] at step
      dsimp only at step
      obtain ⟨q0, qs⟩ := fracT_sz h2
      refine wS_seqJ (fun ρ' μ' => q.den ≤ 1000 ∧ endRT 0 l < q ∧ ρ' = [some (.d (sd a)), some (.p 0), some (.d (encF (endRT 0 l))), some (.d (sd wd)), some (.d (sd x)), some (.d (sd m)), some (.d (sd y)), some (.d (encF q))] ∧ μ' = [.rw (encSt l), .rw ((TL.spl [32] 0 [] a).map sd)]) ?_ ?_
      · walk_at "r"
        by_cases r1 : (q.den : Int) > 1000
        · rw [decide_eq_true r1]
          walk_at "r"
          rw [bad (by rw [step]; exact if_neg fun z => by have := z.1.1; dsimp only at this; omega)]
          exact ret_d rfl
        rw [decide_eq_false r1]
        walk_at "r"
        refine ca_below lnn.2 qs ?_
        by_cases r2 : endRT 0 l < q
        · rw [decide_eq_true r2]
          walk_at "r"
          exact ⟨by omega, r2, rfl, rfl⟩
        · rw [decide_eq_false r2]
          walk_at "r"
          rw [bad (by rw [step]; exact if_neg fun z => r2 z.2)]
          exact ret_d rfl
      rintro ρ' μ' ⟨qd, ql, rfl, rfl⟩
      rw [if_pos ⟨⟨qd, by show (1 : Int) ≤ n; omega, by show (n : Int) ≤ 1000; omega⟩, ql⟩] at step
      walk_at "r"
      refine ⟨0, _, rfl, rfl, ?_⟩
      walk_at "r"
      refine ca_lnum (by omega) cpx ?_
      rw [h1]
      simp only [numO]
      walk_at "r"
      refine ⟨[encF q, .int n], rfl, by simp, ?_⟩
      refine wA_nil ?_
      refine ⟨_, _, rfl, rfl, by rw [show (encSt l).length = l.length from List.length_map _]; omega, ?_⟩
      walk_at "r"
      refine ⟨some (.d (sd wd)), some (.d (sd x)), some (.d (sd m)), some (.d (sd y)), some (.d (encF q)), l ++ [(q, (n : Int))], step, ?_, ?_⟩
      · rw [endRT_app]
        rfl
      · unfold encSt
        rw [List.map_append]
        rfl
    · rintro ρ' μ' ⟨w, we, m, e, s, l, hsl, rfl, rfl⟩
      rw [List.length_map, List.take_length] at hsl
      exact ⟨_, _, _, _, _, l, hsl, rfl, rfl⟩
  rintro ρ' μ' ⟨w, we, m, e, s, l, hsl, rfl, h0⟩
  have eT : lawStepsT a = if endRT 0 l = 1 ∧ l.length < 9 then some l else none := by unfold lawStepsT; rw [hsl]
  have lnn := lawGo_nn hsl ⟨Rat.le_refl, sz_0'⟩
  have ll := lawGo_len hsl
  walk_at "r"
  refine ⟨[.int 1, .int 1], rfl, by simp, ?_⟩
  refine w2_eqF (r := 1) ?_
  rw [eT] at rz rt
  by_cases c1 : endRT 0 l = 1
  · rw [decide_eq_true c1]
    walk_at "r"
    refine wC_lenL (isL_rw h0) ?_
    have el : (encSt l).length = l.length := List.length_map _
    walk_at "r"
    by_cases c2 : l.length < 9
    · rw [decide_eq_true (by omega)]
      walk_at "r"
      rw [rt l (if_pos ⟨c1, c2⟩)]
      exact ⟨_, rfl, .own h0⟩
    · rw [decide_eq_false (by omega)]
      walk_at "r"
      rw [rz (if_neg fun z => c2 z.2)]
      exact ret_d rfl
  · rw [decide_eq_false c1]
    walk_at "r"
    rw [rz (if_neg fun z => c1 z.1)]
    exact ret_d rfl
theorem ok__law_steps_of (T : Top G.K mg "_law_steps_of" s__law_steps_of ["_law_text_here"]) (D__law_fraction_of : Def P w G.K mg base "_law_fraction_of" 2 ["_law_text_here"] (spC G X c__law_fraction_of)) (D__law_number : Def P w G.K mg base "_law_number" 1 ["_law_text_here"] (spC G X c__law_number)) (D__law_less : Def P w G.K mg base "_law_less" 1 ["_law_one", "_law_other_here"] (spC G X c_below)) (z_len : mg "len" = none) : Def P w G.K mg base "_law_steps_of" 3 ["_law_text_here"] (spC G X c__law_steps_of) := def_of T fun f fd F => fn__law_steps_of F D__law_fraction_of D__law_number D__law_less z_len
abbrev s__law_spans_of : Stmt := topS 56
theorem sc__law_spans_of : FnScope ["_law_text_here", "_law_piece", "_law_last", "_law_word", "_law_start", "_law_mark", "_law_end", "_law_one", "_law_other_here"] ["_law_text_here"] (defScope s__law_spans_of) := ⟨rfl, rfl, rfl, by decide +kernel, rfl, by decide +kernel, by decide +kernel⟩
local macro_rules | `(tactic| walk_at "st") => `(tactic| simp only [c__law_spans_of, L2.cxOf, slotsFrom, cellsOf, argOf, List.length_cons, List.length_nil, List.replicate, List.cons_append, List.nil_append, List.map_cons, List.map_nil, Nat.reduceAdd, Nat.reduceSub, Nat.zero_add, Nat.sub_self] at *)
theorem fn__law_spans_of {f : Addr} {fd : FuncData} (F : Fun G.K "_law_spans_of" "_law_spans_of" s__law_spans_of f fd) (D__law_fraction_of : Def P w G.K mg base "_law_fraction_of" 2 ["_law_text_here"] (spC G X c__law_fraction_of)) (D__law_less : Def P w G.K mg base "_law_less" 1 ["_law_one", "_law_other_here"] (spC G X c_below)) : FnOk P w G.K mg base (L2N.CX P w) 3 f fd ["_law_text_here"] (spC G X c__law_spans_of) := by
  obtain ⟨f__law_fraction_of, d__law_fraction_of, G__law_fraction_of, m__law_fraction_of, k__law_fraction_of, b__law_fraction_of⟩ := D__law_fraction_of.ex
  obtain ⟨f__law_less, d__law_less, G__law_less, m__law_less, k__law_less, b__law_less⟩ := D__law_less.ex
  refine okXN F sc__law_spans_of (fun vs H Q E h => spC_len (fun _ => rfl) h) (fun cdv A outer s H vs Q E hr hsp => ?_)
  refine ⟨_, (pss_cons (ps_set (i := 1) sc__law_spans_of.nd rfl (Or.inl rfl) (pe_lst pa_nil))
    (pss_cons (ps_set (i := 2) sc__law_spans_of.nd rfl (Or.inl rfl) pe_non)
    (pss_cons (ps_for (passes_of rfl) rfl (kpi_list (K := G.K) rfl (pe_ifExp (pt_cmpR (kNe (K := G.K) rfl hr.units) (pv 0) pe_str (nomark _)) (kSplit (pv 0) pe_str) (pe_lst pa_nil))) (pg_name (i := 3) sc__law_spans_of.nd rfl (Or.inl rfl)) (pss_cons (ps_asg (kPart (pv 3) pe_str) (kpg_tup (K := G.K) (n := 3) rfl rfl (pgs_cons (pg_name (i := 4) sc__law_spans_of.nd rfl (Or.inl rfl)) (pgs_cons (pg_name (i := 5) sc__law_spans_of.nd rfl (Or.inl rfl)) (pgs_cons (pg_name (i := 6) sc__law_spans_of.nd rfl (Or.inl rfl)) pgs_nil)))))
    (pss_cons (ps_set (i := 7) sc__law_spans_of.nd rfl (Or.inl rfl) (pe_call G__law_fraction_of (hr.mono (by decide)) (by rfl) m__law_fraction_of k__law_fraction_of b__law_fraction_of .nil passLN (pa_cons (pv 4) pa_nil)))
    (pss_cons (ps_set (i := 8) sc__law_spans_of.nd rfl (Or.inl rfl) (pe_call G__law_fraction_of (hr.mono (by decide)) (by rfl) m__law_fraction_of k__law_fraction_of b__law_fraction_of .nil passLN (pa_cons (pv 6) pa_nil)))
    (pss_cons (ps_if (PW.pt (pw_or (pt_cmpR (kEq (K := G.K) rfl hr.units) (pv 5) pe_str (nomark _)) (pw_or (pt_cmpR kIsN (pv 7) pe_non (nomark _)) (pw_or (pt_cmpR kIsN (pv 8) pe_non (nomark _)) (pw_or (pt_not (pt_val (pe_call G__law_less (hr.mono (by decide)) (by rfl) m__law_less k__law_less b__law_less .nil passLN (pa_cons (pv 7) (pa_cons (pv 8) pa_nil))))) (pw_or1 (pt_val (pe_call G__law_less (hr.mono (by decide)) (by rfl) m__law_less k__law_less b__law_less .nil passLN (pa_cons (pe_tup (pa_cons pe_int (pa_cons pe_int pa_nil))) (pa_cons (pv 8) pa_nil)))))))))) (pss_one (ps_ret pe_non)) pss_nil)
    (pss_cons (ps_if (PW.pt (pw_and (pt_cmpR kNotN (pv 2) pe_non (nomark _)) (pw_and1 (pt_not (pt_val (pe_call G__law_less (hr.mono (by decide)) (by rfl) m__law_less k__law_less b__law_less .nil passLN (pa_cons (pv 2) (pa_cons (pv 7) pa_nil)))))))) (pss_one (ps_ret pe_non)) pss_nil)
    (pss_cons (ps_expr (kbm (K := G.K) rfl PySem.F.plainAttrs_list PySem.F.slot_list_append PySem.F.type_list_append mt_append (pv 1) (pa_cons (pe_tup (pa_cons (pv 7) (pa_cons (pv 8) pa_nil))) pa_nil)))
    (pss_one (ps_set (i := 2) sc__law_spans_of.nd rfl (Or.inl rfl) (pv 8))))))))))
    (pss_one (ps_ret (pv 1)))))), body_ct hsp (fun _ => by simp [c__law_spans_of]) (fun a F0 hp hE => ?_)⟩
  obtain ⟨hl, hcp⟩ : a.length ≤ 800000 ∧ Cps a := hp
  have rz : pieceT a = none → c__law_spans_of.out a = .ret (.d .non) := fun h => by simp [c__law_spans_of, h]
  have rt : ∀ p, pieceT a = some p → c__law_spans_of.out a = .ret (.own (encP p)) := fun st h => by simp [c__law_spans_of, h]
  rw [piece_same] at rz rt
  generalize c__law_spans_of.out a = oo at *
  have sp := spl_mem 32 _ a rfl
  have wok : (wordsT a).length ≤ 800001 ∧ ∀ w ∈ wordsT a, w.length ≤ a.length ∧ ∀ x ∈ w, x ∈ a := by
    unfold wordsT
    split
    · exact ⟨by simp, (fun _ h => by cases h)⟩
    · exact ⟨by have := sp.1; omega, sp.2⟩
  walk_at "st"
  clear hsp hE
  refine wS_asgJ (fun u μ' => u = .p 0 ∧ μ' = [.rw []]) ?_ ?_
  · walk_at "r"
    exact ⟨[], rfl, by simp, rfl, rfl⟩
  rintro u μ' ⟨rfl, rfl⟩
  refine wS_asgJ (fun u μ' => u = .d .non ∧ μ' = [.rw []]) ?_ ?_
  · walk_at "q"
    exact ⟨rfl, rfl⟩
  rintro u μ' ⟨rfl, rfl⟩
  refine wS_seqJ (fun ρ' μ' => ∃ w we m e s o l, lawGoP none (wordsT a) = some l ∧ ρ' = [some (.d (sd a)), some (.p 0), some (.d (encO (lastP none l))), w, we, m, e, s, o] ∧ μ'[0]? = some (.rw (encP l))) ?_ ?_
  · refine wS_for (wE_imp (R' := fun u μ' => u = .p 1 ∧ μ' = [.rw [], .rw ((wordsT a).map sd)]) ?_ ?_)
    · refine wE_ifE ?_
      walk_at "r"
      refine w2_neS (b := []) hcp cps_nil ?_
      by_cases c : a = []
      · rw [decide_eq_true c]
        walk_at "r"
        exact ⟨[], rfl, by simp, rfl, by rw [show wordsT a = [] from if_pos c]; rfl⟩
      · rw [decide_eq_false c]
        refine ⟨_, rfl, iteT (wE_split ?_)⟩
        walk_at "e"
        refine ⟨a, rfl, ?_⟩
        walk_at "e"
        exact ⟨32, rfl, by decide, by omega, rfl, by rw [show wordsT a = TL.spl [32] 0 [] a from if_neg c]; rfl⟩
    rintro u μ' ⟨rfl, rfl⟩
    refine ⟨(wordsT a).map sd, isL_rw rfl, fun i ρ' μ' => ∃ w we m e s o l, lawGoP none ((wordsT a).take i) = some l ∧ ρ' = [some (.d (sd a)), some (.p 0), some (.d (encO (lastP none l))), w, we, m, e, s, o] ∧ μ' = [.rw (encP l), .rw ((wordsT a).map sd)], ⟨_, _, _, _, _, _, [], rfl, rfl, rfl⟩, fun i ρ' μ' h => ?_, ?_, ?_⟩
    · obtain ⟨_, _, _, _, _, _, _, _, _, h⟩ := h
      rw [h]
      exact isL_rw rfl
    · rintro i d ρ' μ' hd ⟨w, we, m, e, s, o, l, hsl, rfl, rfl⟩
      obtain ⟨wd, hw, rfl⟩ := map_at hd
      have wmem := List.mem_of_getElem? hw
      have wm := wok.2 wd wmem
      have wi := (List.getElem?_eq_some_iff.mp hw).1
      have ll := lawGoP_len hsl
      rw [List.length_take] at ll
      have lnn := lawGoP_last hsl
      have hcw : Cps wd := fun x hx => hcp x (wm.2 x hx)
      have bad : lawGoP none ((wordsT a).take (i + 1)) = none → oo = .ret (.d .non) := fun h => rz (lawGoP_none h)
      have step := lawGoP_snoc (w := wd) hsl
      rw [← take_snoc hw] at step
      obtain ⟨cpx, lm, cpy⟩ := par_cps (c := 45) hcw
      have pl := par_len 45 wd
      walk_at "q"
      refine wS_seq (wS_asg (wE_part ?_))
      walk_at "e"
      refine ⟨wd, rfl, ?_⟩
      walk_at "e"
      refine ⟨45, rfl, by omega, ?_⟩
      unfold spanT at step
      generalize parD 45 wd = pd at *
      obtain ⟨x, m, y⟩ := pd
      dsimp only at *
      walk_at "q"
      refine wS_asgJ (fun u μ' => u = .d (encO (fracT x)) ∧ μ' = [.rw (encP l), .rw ((wordsT a).map sd)]) ?_ ?_
      · walk_at "q"
        refine ca_lfrac (by omega) cpx ?_
        exact ⟨rfl, rfl⟩
      rintro u μ' ⟨rfl, rfl⟩
      refine wS_asgJ (fun u μ' => u = .d (encO (fracT y)) ∧ μ' = [.rw (encP l), .rw ((wordsT a).map sd)]) ?_ ?_
      · walk_at "q"
        refine ca_lfrac (by omega) cpy ?_
        exact ⟨rfl, rfl⟩
      rintro u μ' ⟨rfl, rfl⟩
      generalize hll : lastP none l = la at *
      refine wS_seqJ (fun ρ' μ' => ∃ q r, fracT x = some q ∧ fracT y = some r ∧ m ≠ [] ∧ q < r ∧ r ≤ 1 ∧ ρ' = [some (.d (sd a)), some (.p 0), some (.d (encO la)), some (.d (sd wd)), some (.d (sd x)), some (.d (sd m)), some (.d (sd y)), some (.d (encF q)), some (.d (encF r))] ∧ μ' = [.rw (encP l), .rw ((wordsT a).map sd)]) ?_ ?_
      · refine wS_if ?_
        walk_at "r"
        refine w2_eqS (b := []) lm cps_nil ?_
        by_cases c1 : m = []
        · rw [decide_eq_true c1]
          walk_at "r"
          rw [bad (by rw [step, if_pos c1])]
          exact ret_d rfl
        rw [decide_eq_false c1]
        rw [if_neg c1] at step
        walk_at "r"
        refine w2_isN ?_
        cases h1 : fracT x with
        | none =>
          rw [h1] at step
          walk_at "r"
          rw [bad (by rw [step])]
          exact ret_d rfl
        | some q =>
          rw [h1] at step
          simp only [encO]
          walk_at "r"
          refine w2_isN ?_
          cases h2 : fracT y with
          | none =>
            rw [h2] at step
            walk_at "r"
            rw [bad (by rw [step])]
            exact ret_d rfl
          | some r =>
            rw [h2] at step
            obtain ⟨q0, qs⟩ := fracT_sz h1
            obtain ⟨r0, rs⟩ := fracT_sz h2
            dsimp only at step
            walk_at "r"
            refine ca_below qs rs ?_
            by_cases r1 : q < r
            case neg =>
              rw [decide_eq_false r1]
              walk_at "r"
              rw [bad (by rw [step]; exact if_neg fun z => r1 z.1.1)]
              exact ret_d rfl
            rw [decide_eq_true r1]
            walk_at "r"
            refine ⟨[.int 1, .int 1], rfl, by simp, ?_⟩
            walk_at "r"
            refine ca_below (q := 1) sz_1' rs ?_
            by_cases r2 : 1 < r
            · rw [decide_eq_true r2]
              walk_at "r"
              rw [bad (by rw [step]; exact if_neg fun z => by have := z.1.2; dsimp only at this; grind)]
              exact ret_d rfl
            rw [decide_eq_false r2]
            walk_at "r"
            exact ⟨q, r, rfl, rfl, c1, r1, by grind, rfl, rfl⟩
      rintro ρ' μ' ⟨q, r, h1, h2, c1, r1, r2, rfl, rfl⟩
      rw [h1, h2, if_neg c1] at step
      dsimp only at step
      obtain ⟨q0, qs⟩ := fracT_sz h1
      obtain ⟨r0, rs⟩ := fracT_sz h2
      refine wS_seqJ (fun ρ' μ' => Behind la (q, r) ∧ ρ' = [some (.d (sd a)), some (.p 0), some (.d (encO la)), some (.d (sd wd)), some (.d (sd x)), some (.d (sd m)), some (.d (sd y)), some (.d (encF q)), some (.d (encF r))] ∧ μ' = [.rw (encP l), .rw ((wordsT a).map sd)]) ?_ ?_
      · walk_at "r"
        refine w2_notN ?_
        cases la with
        | none =>
          walk_at "r"
          exact ⟨(fun _ h => by cases h), rfl, rfl⟩
        | some la =>
          obtain ⟨_, ls⟩ := lnn la rfl
          simp only [encO] at *
          walk_at "r"
          refine ca_below ls qs ?_
          by_cases r3 : la < q
          · rw [decide_eq_true r3]
            walk_at "r"
            exact ⟨fun y e => by cases e; exact r3, rfl, rfl⟩
          · rw [decide_eq_false r3]
            walk_at "r"
            rw [bad (by rw [step]; exact if_neg fun z => r3 (z.2 la rfl))]
            exact ret_d rfl
      rintro ρ' μ' ⟨hb, rfl, rfl⟩
      rw [if_pos ⟨⟨r1, r2⟩, hb⟩] at step
      walk_at "r"
      refine ⟨0, _, rfl, rfl, ?_⟩
      walk_at "r"
      refine ⟨[encF q, encF r], rfl, by simp, ?_⟩
      refine wA_nil ?_
      refine ⟨_, _, rfl, rfl, by rw [encP_len]; omega, ?_⟩
      walk_at "r"
      refine ⟨some (.d (sd wd)), some (.d (sd x)), some (.d (sd m)), some (.d (sd y)), some (.d (encF q)), some (.d (encF r)), l ++ [(q, r)], step, ?_, ?_⟩
      · rw [lastP_app]
        rfl
      · unfold encP
        rw [List.map_append]
        rfl
    · rintro ρ' μ' ⟨w, we, m, e, s, o, l, hsl, rfl, rfl⟩
      rw [List.length_map, List.take_length] at hsl
      exact ⟨_, _, _, _, _, _, l, hsl, rfl, rfl⟩
  rintro ρ' μ' ⟨w, we, m, e, s, o, l, hsl, rfl, h0⟩
  walk_at "r"
  exact ⟨_, rt l hsl, .own h0⟩
theorem ok__law_spans_of (T : Top G.K mg "_law_spans_of" s__law_spans_of ["_law_text_here"]) (D__law_fraction_of : Def P w G.K mg base "_law_fraction_of" 2 ["_law_text_here"] (spC G X c__law_fraction_of)) (D__law_less : Def P w G.K mg base "_law_less" 1 ["_law_one", "_law_other_here"] (spC G X c_below)) : Def P w G.K mg base "_law_spans_of" 3 ["_law_text_here"] (spC G X c__law_spans_of) := def_of T fun f fd F => fn__law_spans_of F D__law_fraction_of D__law_less
abbrev s__law_refused : Stmt := topS 57
theorem sc__law_refused : FnScope ["_law_which", "_law_text_here", "error", "_law_others"] ["_law_which", "_law_text_here"] (defScope s__law_refused) := ⟨rfl, rfl, rfl, by decide +kernel, rfl, by decide +kernel, by decide +kernel⟩
local macro_rules | `(tactic| walk_at "st") => `(tactic| simp only [c__law_refused, L2.cxOf, slotsFrom, cellsOf, argOf, List.length_cons, List.length_nil, List.replicate, List.cons_append, List.nil_append, List.map_cons, List.map_nil, Nat.reduceAdd, Nat.reduceSub, Nat.zero_add, Nat.sub_self] at *)
theorem fn__law_refused {f : Addr} {fd : FuncData} (F : Fun G.K "_law_refused" "_law_refused" s__law_refused f fd) (D_taste_of : DefW P w G.K mg base "taste_of" 7 ["text"] (spC G X c_taste_of)) (D_piece_of : DefW P w G.K mg base "piece_of" 5 ["text"] (spC G X c14_piece_of)) (z_isinstance : mg "isinstance" = none) (z_ValueError : mg "ValueError" = none) (X_CakeError : ExcOk G.K mg "CakeError" (X 6)) (X_BadFraction : ExcOk G.K mg "BadFraction" (X 0)) (X_BadTaste : ExcOk G.K mg "BadTaste" (X 1)) (X_BadPiece : ExcOk G.K mg "BadPiece" (X 2)) (X_BadTakers : ExcOk G.K mg "BadTakers" (X 3)) (X_TooLittle : ExcOk G.K mg "TooLittle" (X 4)) (X_BadText : ExcOk G.K mg "BadText" (X 5)) (XK : ExcKit G X (X 6)) : FnOk P w G.K mg base (L2N.CX P w) 8 f fd ["_law_which", "_law_text_here"] (spC G X c__law_refused) := by
  obtain ⟨f_taste_of, d_taste_of, G_taste_of, m_taste_of, k_taste_of, b_taste_of⟩ := D_taste_of.ex
  obtain ⟨f_piece_of, d_piece_of, G_piece_of, m_piece_of, k_piece_of, b_piece_of⟩ := D_piece_of.ex
  obtain ⟨xP_CakeError, gP_CakeError, kP_CakeError, bP_CakeError, tP_CakeError⟩ := X_CakeError
  obtain ⟨xP_BadFraction, gP_BadFraction, kP_BadFraction, bP_BadFraction, tP_BadFraction⟩ := X_BadFraction
  obtain ⟨xP_BadTaste, gP_BadTaste, kP_BadTaste, bP_BadTaste, tP_BadTaste⟩ := X_BadTaste
  obtain ⟨xP_BadPiece, gP_BadPiece, kP_BadPiece, bP_BadPiece, tP_BadPiece⟩ := X_BadPiece
  obtain ⟨xP_BadTakers, gP_BadTakers, kP_BadTakers, bP_BadTakers, tP_BadTakers⟩ := X_BadTakers
  obtain ⟨xP_TooLittle, gP_TooLittle, kP_TooLittle, bP_TooLittle, tP_TooLittle⟩ := X_TooLittle
  obtain ⟨xP_BadText, gP_BadText, kP_BadText, bP_BadText, tP_BadText⟩ := X_BadText
  refine okXN F sc__law_refused (fun vs H Q E h => spC_len (fun _ => rfl) h) (fun cdv A outer s H vs Q E hr hsp => ?_)
  refine ⟨_, (pss_cons (kTryAs (K := G.K) (i := 2) (n := "error") rfl rfl rfl sc__law_refused.nd rfl rfl ⟨rfl, by decide, .inl gP_CakeError⟩ takesW0 (fun W pn xe tk _ => (pss_one (ps_if (pt_cmpR (kEq (K := G.K) rfl hr.units) (pv 0) pe_int (nomark _)) (pss_one (ps_expr (pe_callSD G_taste_of (hr.mono (by decide)) (by rfl) m_taste_of k_taste_of b_taste_of .nil (fun σ => L2.passAt (W := W) tk σ) (pa_cons (pv 1) pa_nil)))) (pss_one (ps_expr (pe_callSD G_piece_of (hr.mono (by decide)) (by rfl) m_piece_of k_piece_of b_piece_of .nil (fun σ => L2.passAt (W := W) tk σ) (pa_cons (pv 1) pa_nil))))))) (fun a oe cls d pn hz hf => pss_when (K := G.K) hz (fun Dx hC hz => (pss_cons (ps_set (i := 3) sc__law_refused.nd rfl (Or.inl rfl) (pe_callB (kIsET (K := G.K) rfl hC hz hf) (by rfl) z_isinstance bt_isinstance (pa_cons (pv 2) (pa_cons (pe_tup (pa_cons (pe_glob (v := .ref (X 0)) (by rfl) gP_BadFraction rfl) (pa_cons (pe_glob (v := .ref (X 2)) (by rfl) gP_BadPiece rfl) (pa_cons (pe_glob (v := .ref (X 3)) (by rfl) gP_BadTakers rfl) (pa_cons (pe_glob (v := .ref (X 1)) (by rfl) gP_BadTaste rfl) (pa_cons (pe_glob (v := .ref (X 4)) (by rfl) gP_TooLittle rfl) pa_nil)))))) pa_nil))))
    (pss_one (ps_ret (pe_and (pe_callB (kIsE (K := G.K) rfl hC hz hf) (by rfl) z_isinstance bt_isinstance (pa_cons (pv 2) (pa_cons (pe_glob (v := .ref (X 5)) (by rfl) gP_BadText rfl) pa_nil))) (pe_and (pe_callB (kIsE (K := G.K) rfl hC hz hf) (by rfl) z_isinstance bt_isinstance (pa_cons (pv 2) (pa_cons (pe_bltn (v := .ty "ValueError") (by rfl) z_ValueError bt_ValueError rfl) pa_nil))) (pe_one (pe_not (pv 3)))))))))))
    (pss_one (ps_ret pe_bl))), body_ct hsp (fun _ => by simp [c__law_refused]) (fun a F0 hp hE => ?_)⟩
  obtain ⟨wh, d⟩ := a
  replace hp : PreT d := hp
  obtain ⟨u, μ0, es, em, hu⟩ := arg2 (.int wh) d
  show wS G F0 H _ (slotsFrom 0 [.d (.int wh), argOf d] ++ List.replicate _ none) (cellsOf [.d (.int wh), argOf d]) _
  rw [es, em]
  clear hsp hE em es
  simp only [List.length_cons, List.length_nil, List.replicate, List.cons_append, List.nil_append, Nat.reduceAdd, Nat.reduceSub]
  refine wS_seqJ (fun ρ2 μ2 => (if wh = 0 then (tasteD' d).isNone else (pieceD' d).isNone) = false) ?_ ?_
  · refine wS_tryA (X := X) (tb := fun W => tIfS _ (tDrop (tCallSD _ [] (WE W) _)) (tDrop (tCallSD _ [] (WE W) _))) (fun n ρ' μ' => n = 5 ∧ ρ' = [some (.d (.int wh)), some u, none, none] ∧ (if wh = 0 then (tasteD' d).isNone else (pieceD' d).isNone) = true) ?_ ?_
    · refine wSx_if ?_
      walk_at "r"
      by_cases c : wh = 0
      · subst c
        refine iteT (wSx_drop (wEx_ct ?_))
        walk_at "r"
        refine ⟨d, .cons hu .nil, hp, ?_⟩
        cases ht : tasteD' d with
        | some st =>
          rw [show c_taste_of.out d = .ret (.d (encTaste st)) by simp [c_taste_of, ht]]
          exact (if_pos rfl : (if 0 = 0 then (some st).isNone else (pieceD' d).isNone) = (some st).isNone)
        | none =>
          rw [show c_taste_of.out d = .exc 5 by simp [c_taste_of, ht]]
          exact ⟨rfl, rfl, if_pos rfl⟩
      · rw [decide_eq_false (by omega)]
        refine iteF (wSx_drop (wEx_ct ?_))
        walk_at "r"
        refine ⟨d, .cons hu .nil, hp, ?_⟩
        cases ht : pieceD' d with
        | some p =>
          rw [show c14_piece_of.out d = .ret (.own (encP p)) by simp [c14_piece_of, ht]]
          exact (if_neg c : (if wh = 0 then (tasteD' d).isNone else (some p).isNone) = (some p).isNone)
        | none =>
          rw [show c14_piece_of.out d = .exc 5 by simp [c14_piece_of, ht]]
          exact ⟨rfl, rfl, if_neg c⟩
    · rintro n ρ' μ' x ⟨rfl, rfl, hb⟩
      refine ⟨XK.m 5 (by decide), wS_when (XK.c 5 (by decide)) ?_⟩
      refine wS_seq (wS_asg (wE_isET (cs := [0, 2, 3, 1, 4].map X) (XK.any (by decide) (by decide)) ?_))
      walk_at "v"
      refine ⟨rfl, ?_⟩
      refine wE_tup (wA_cons (wE_raw (wA_cons (wE_raw (wA_cons (wE_raw (wA_cons (wE_raw (wA_cons (wE_raw (wA_nil ?_)))))))))))
      refine ⟨([0, 2, 3, 1, 4].map X).map D.raw, rfl, by simp, rfl, ?_⟩
      refine wG_name ?_
      refine wS_ret (wE_and (wE_isE (XK.k 5 5 (by decide) (by decide)) ?_))
      walk_at "v"
      refine ⟨rfl, _, rfl, iteT (wE_and (wE_isEt (XK.v 5 (by decide)) ?_))⟩
      walk_at "v"
      refine ⟨rfl, _, rfl, ?_⟩
      walk_at "r"
      show Ret _ _ (Res.d (D.bl (if wh = 0 then (tasteD' d).isNone else (pieceD' d).isNone)))
      rw [hb]
      exact .d _
  rintro ρ2 μ2 hb
  walk_at "r"
  show Ret _ _ (Res.d (D.bl (if wh = 0 then (tasteD' d).isNone else (pieceD' d).isNone)))
  rw [hb]
  exact .d _
theorem ok__law_refused (T : Top G.K mg "_law_refused" s__law_refused ["_law_which", "_law_text_here"]) (D_taste_of : DefW P w G.K mg base "taste_of" 7 ["text"] (spC G X c_taste_of)) (D_piece_of : DefW P w G.K mg base "piece_of" 5 ["text"] (spC G X c14_piece_of)) (z_isinstance : mg "isinstance" = none) (z_ValueError : mg "ValueError" = none) (X_CakeError : ExcOk G.K mg "CakeError" (X 6)) (X_BadFraction : ExcOk G.K mg "BadFraction" (X 0)) (X_BadTaste : ExcOk G.K mg "BadTaste" (X 1)) (X_BadPiece : ExcOk G.K mg "BadPiece" (X 2)) (X_BadTakers : ExcOk G.K mg "BadTakers" (X 3)) (X_TooLittle : ExcOk G.K mg "TooLittle" (X 4)) (X_BadText : ExcOk G.K mg "BadText" (X 5)) (XK : ExcKit G X (X 6)) : Def P w G.K mg base "_law_refused" 8 ["_law_which", "_law_text_here"] (spC G X c__law_refused) := def_of T fun f fd F => fn__law_refused F D_taste_of D_piece_of z_isinstance z_ValueError X_CakeError X_BadFraction X_BadTaste X_BadPiece X_BadTakers X_TooLittle X_BadText XK
abbrev s__law_read_right : Stmt := topS 58
theorem sc__law_read_right : FnScope ["_law_text_here", "_law_steps", "_law_piece"] ["_law_text_here"] (defScope s__law_read_right) := ⟨rfl, rfl, rfl, by decide +kernel, rfl, by decide +kernel, by decide +kernel⟩
local macro_rules | `(tactic| walk_at "st") => `(tactic| simp only [c__law_read_right, L2.cxOf, slotsFrom, cellsOf, argOf, List.length_cons, List.length_nil, List.replicate, List.cons_append, List.nil_append, List.map_cons, List.map_nil, Nat.reduceAdd, Nat.reduceSub, Nat.zero_add, Nat.sub_self] at *)
theorem fn__law_read_right {f : Addr} {fd : FuncData} (F : Fun G.K "_law_read_right" "_law_read_right" s__law_read_right f fd) (D__law_steps_of : Def P w G.K mg base "_law_steps_of" 3 ["_law_text_here"] (spC G X c__law_steps_of)) (D__law_spans_of : Def P w G.K mg base "_law_spans_of" 3 ["_law_text_here"] (spC G X c__law_spans_of)) (D_taste_of : DefW P w G.K mg base "taste_of" 7 ["text"] (spC G X c_taste_of)) (D__law_refused : Def P w G.K mg base "_law_refused" 8 ["_law_which", "_law_text_here"] (spC G X c__law_refused)) (D_piece_of : DefW P w G.K mg base "piece_of" 5 ["text"] (spC G X c14_piece_of)) (D_Taste_steps : Met P w G mg base 0 "steps" 1 ["self"] (spC G X c_Taste_steps)) (Cl_Taste : Cls G.K (G.cl 0)) : FnOk P w G.K mg base (L2N.CX P w) 9 f fd ["_law_text_here"] (spC G X c__law_read_right) := by
  obtain ⟨f__law_steps_of, d__law_steps_of, G__law_steps_of, m__law_steps_of, k__law_steps_of, b__law_steps_of⟩ := D__law_steps_of.ex
  obtain ⟨f__law_spans_of, d__law_spans_of, G__law_spans_of, m__law_spans_of, k__law_spans_of, b__law_spans_of⟩ := D__law_spans_of.ex
  obtain ⟨f_taste_of, d_taste_of, G_taste_of, m_taste_of, k_taste_of, b_taste_of⟩ := D_taste_of.ex
  obtain ⟨f__law_refused, d__law_refused, G__law_refused, m__law_refused, k__law_refused, b__law_refused⟩ := D__law_refused.ex
  obtain ⟨f_piece_of, d_piece_of, G_piece_of, m_piece_of, k_piece_of, b_piece_of⟩ := D_piece_of.ex
  obtain ⟨f_Taste_steps, d_Taste_steps, G_Taste_steps, Me_Taste_steps, b_Taste_steps⟩ := D_Taste_steps.ex
  refine okXN F sc__law_read_right (fun vs H Q E h => spC_len (fun _ => rfl) h) (fun cdv A outer s H vs Q E hr hsp => ?_)
  refine ⟨_, (pss_cons (ps_set (i := 1) sc__law_read_right.nd rfl (Or.inl rfl) (pe_call G__law_steps_of (hr.mono (by decide)) (by rfl) m__law_steps_of k__law_steps_of b__law_steps_of .nil passLN (pa_cons (pv 0) pa_nil)))
    (pss_cons (ps_set (i := 2) sc__law_read_right.nd rfl (Or.inl rfl) (pe_call G__law_spans_of (hr.mono (by decide)) (by rfl) m__law_spans_of k__law_spans_of b__law_spans_of .nil passLN (pa_cons (pv 0) pa_nil)))
    (pss_cons (ps_if (PW.pt (pw_or (PW.pt (pw_and (pt_cmpR kIsN (pv 1) pe_non (nomark _)) (pw_and1 (pt_not (pt_val (pe_call G__law_refused (hr.mono (by decide)) (by rfl) m__law_refused k__law_refused b__law_refused .nil passLN (pa_cons pe_int (pa_cons (pv 0) pa_nil)))))))) (pw_or1 (PW.pt (pw_and (pt_cmpR kNotN (pv 1) pe_non (nomark _)) (pw_and1 (pt_cmpR (kNe (K := G.K) rfl hr.units) (pe_meth0 (pe_call G_taste_of (hr.mono (by decide)) (by rfl) m_taste_of k_taste_of b_taste_of .nil passLW (pa_cons (pv 0) pa_nil)) Cl_Taste Me_Taste_steps G_Taste_steps (hr.mono (by decide)) b_Taste_steps .nil passLN) (pv 1) (nomark _)))))))) (pss_one (ps_ret pe_bl)) pss_nil)
    (pss_one (ps_ret (pe_ifExp (pt_cmpR kIsN (pv 2) pe_non (nomark _)) (pe_call G__law_refused (hr.mono (by decide)) (by rfl) m__law_refused k__law_refused b__law_refused .nil passLN (pa_cons pe_int (pa_cons (pv 0) pa_nil))) (pe_cmpR (kEq (K := G.K) rfl hr.units) (pe_call G_piece_of (hr.mono (by decide)) (by rfl) m_piece_of k_piece_of b_piece_of .nil passLW (pa_cons (pv 0) pa_nil)) (pv 2) (nomark _)))))))), body_ct hsp (fun _ => by simp [c__law_read_right]) (fun a F0 hp hE => ?_)⟩
  obtain ⟨hl, hcp⟩ : a.length ≤ 800000 ∧ Cps a := hp
  walk_at "st"
  clear hsp hE
  refine wS_asgJ (fun u μ' => (match tasteT a with | some st => ∃ k, u = .p k ∧ μ'[k]? = some (.rw (encSt st)) | none => u = .d .non)) ?_ ?_
  · walk_at "r"
    refine ⟨a, .cons (.d _) .nil, ⟨hl, hcp⟩, ?_⟩
    show Ends' _ _ _ _ _ (match tasteT a with | some st => .ret (.own (encSt st)) | none => .ret (.d .non))
    cases tasteT a with
    | some st => exact ⟨_, rfl, at_app⟩
    | none => rfl
  intro us μ1 hus
  refine wS_asgJ (fun u μ' => (match tasteT a with | some st => ∃ k, us = .p k ∧ μ'[k]? = some (.rw (encSt st)) | none => us = .d .non) ∧ (match pieceT a with | some p => ∃ k, u = .p k ∧ μ'[k]? = some (.rw (encP p)) | none => u = .d .non)) ?_ ?_
  · walk_at "r"
    refine ⟨a, .cons (.d _) .nil, ⟨hl, hcp⟩, ?_⟩
    show Ends' _ _ _ _ _ (match pieceT a with | some p => .ret (.own (encP p)) | none => .ret (.d .non))
    cases pieceT a with
    | some st =>
      refine ⟨?_, _, rfl, at_app⟩
      revert hus
      cases tasteT a with
      | some st => rintro ⟨k, h1, h2⟩; exact ⟨k, h1, at_ext h2⟩
      | none => exact id
    | none => exact ⟨hus, rfl⟩
  rintro up μ2 ⟨hus, hup⟩
  have pt : PreT (sd a) := preT_sd hl hcp
  have tD : tasteD' (sd a) = tasteT a := by unfold tasteD'; rw [textOf_sd]; rfl
  have pD : pieceD' (sd a) = pieceT a := by unfold pieceD'; rw [textOf_sd]; rfl
  refine wS_seqJ (fun ρ3 μ3 => ρ3 = [some (.d (sd a)), some us, some up] ∧ (match pieceT a with | some p => ∃ k, up = .p k ∧ μ3[k]? = some (.rw (encP p)) | none => up = .d .non)) ?_ ?_
  · cases ht : tasteT a with
    | none =>
      rw [ht] at hus
      have hus : us = .d .non := hus
      subst hus
      refine wS_if ?_
      walk_at "r"
      refine w2_isN ?_
      walk_at "r"
      refine ⟨(0, sd a), .cons (.d _) (.cons (.d _) .nil), pt, ?_⟩
      have e : c__law_refused.out (0, sd a) = .ret (.d (.bl true)) := by
        show Out.ret (.d (.bl (if 0 = 0 then (tasteD' (sd a)).isNone else (pieceD' (sd a)).isNone))) = _
        rw [if_pos rfl, tD, ht]
        rfl
      rw [e]
      refine end_d ?_
      walk_at "r"
      refine w2_notN ?_
      walk_at "r"
      exact ⟨rfl, hup⟩
    | some st =>
      rw [ht] at hus
      obtain ⟨k, rfl, hk⟩ := hus
      have g := (tasteT_at ht).2
      refine wS_if ?_
      walk_at "r"
      refine w2_isN ?_
      walk_at "r"
      refine w2_notN ?_
      walk_at "r"
      refine wE_cm ?_
      walk_at "r"
      refine ⟨sd a, .cons (.d _) .nil, pt, ?_⟩
      have e : c_taste_of.out (sd a) = .ret (.d (encTaste st)) := by simp [c_taste_of, tD, ht]
      rw [e]
      refine end_d ?_
      refine ⟨0, _, rfl, rfl, by decide +kernel, ?_⟩
      walk_at "r"
      refine ca_tsteps g ?_
      walk_at "r"
      refine w2_neD (.l (isL_rw at_app)) (.l (isL_rw (at_ext hk))) 3 3 (by decide) (by decide) (sh_list (f := encStep) (n := 2) (fun _ => rfl) _) (sh_list (f := encStep) (n := 2) (fun _ => rfl) _) ?_
      rw [eq_encStl.mpr rfl]
      walk_at "r"
      refine ⟨rfl, ?_⟩
      revert hup
      cases pieceT a with
      | none => exact id
      | some p => rintro ⟨k, h1, h2⟩; exact ⟨k, h1, at_ext h2⟩
  rintro ρ3 μ3 ⟨rfl, hup⟩
  cases ht : pieceT a with
  | none =>
    rw [ht] at hup
    have hup : up = .d .non := hup
    subst hup
    refine wS_ret (wE_ifE ?_)
    walk_at "r"
    refine w2_isN ?_
    walk_at "r"
    refine ⟨(1, sd a), .cons (.d _) (.cons (.d _) .nil), pt, ?_⟩
    have e : c__law_refused.out (1, sd a) = .ret (.d (.bl true)) := by
      show Out.ret (.d (.bl (if 1 = 0 then (tasteD' (sd a)).isNone else (pieceD' (sd a)).isNone))) = _
      rw [if_neg (by decide), pD, ht]
      rfl
    rw [e]
    refine end_d ?_
    exact ret_d rfl
  | some p =>
    rw [ht] at hup
    obtain ⟨k, rfl, hk⟩ := hup
    refine wS_ret (wE_ifE ?_)
    walk_at "r"
    refine w2_isN ?_
    walk_at "r"
    refine ⟨sd a, .cons (.d _) .nil, pt, ?_⟩
    have e : c14_piece_of.out (sd a) = .ret (.own (encP p)) := by simp [c14_piece_of, pD, ht]
    rw [e]
    refine end_own ?_
    walk_at "r"
    refine w2_eqD (.l (isL_rw at_app)) (.l (isL_rw (at_ext hk))) 3 3 (by decide) (by decide) (sh_list (f := encS) (n := 2) (fun _ => rfl) _) (sh_list (f := encS) (n := 2) (fun _ => rfl) _) ?_
    rw [eq_encPl.mpr rfl]
    exact ret_d rfl
theorem ok__law_read_right (T : Top G.K mg "_law_read_right" s__law_read_right ["_law_text_here"]) (D__law_steps_of : Def P w G.K mg base "_law_steps_of" 3 ["_law_text_here"] (spC G X c__law_steps_of)) (D__law_spans_of : Def P w G.K mg base "_law_spans_of" 3 ["_law_text_here"] (spC G X c__law_spans_of)) (D_taste_of : DefW P w G.K mg base "taste_of" 7 ["text"] (spC G X c_taste_of)) (D__law_refused : Def P w G.K mg base "_law_refused" 8 ["_law_which", "_law_text_here"] (spC G X c__law_refused)) (D_piece_of : DefW P w G.K mg base "piece_of" 5 ["text"] (spC G X c14_piece_of)) (D_Taste_steps : Met P w G mg base 0 "steps" 1 ["self"] (spC G X c_Taste_steps)) (Cl_Taste : Cls G.K (G.cl 0)) : Def P w G.K mg base "_law_read_right" 9 ["_law_text_here"] (spC G X c__law_read_right) := def_of T fun f fd F => fn__law_read_right F D__law_steps_of D__law_spans_of D_taste_of D__law_refused D_piece_of D_Taste_steps Cl_Taste
abbrev s__law_other : Stmt := topS 59
theorem sc__law_other : FnScope ["_law_text_here", "_law_cell", "_law_k", "_law_at", "_law_sign", "_law_kind"] ["_law_text_here", "_law_cell", "_law_k"] (defScope s__law_other) := ⟨rfl, rfl, rfl, by decide +kernel, rfl, by decide +kernel, by decide +kernel⟩
local macro_rules | `(tactic| walk_at "st") => `(tactic| simp only [c__law_other, L2.cxOf, slotsFrom, cellsOf, argOf, List.length_cons, List.length_nil, List.replicate, List.cons_append, List.nil_append, List.map_cons, List.map_nil, Nat.reduceAdd, Nat.reduceSub, Nat.zero_add, Nat.sub_self] at *)
theorem fn__law_other {f : Addr} {fd : FuncData} (F : Fun G.K "_law_other" "_law_other" s__law_other f fd) (D__law_mixed : Def P w G.K mg base "_law_mixed" 1 ["_law_cell", "_law_k"] (spC G X c__law_mixed)) (z_len : mg "len" = none) : FnOk P w G.K mg base (L2N.CX P w) 2 f fd ["_law_text_here", "_law_cell", "_law_k"] (spR G X c__law_other) := by
  obtain ⟨f__law_mixed, d__law_mixed, G__law_mixed, m__law_mixed, k__law_mixed, b__law_mixed⟩ := D__law_mixed.ex
  refine okXN F sc__law_other (fun vs H Q E h => spR_len (fun _ => rfl) h) (fun cdv A outer s H vs Q E hr hsp => ?_)
  refine ⟨_, (pss_cons (ps_set (i := 3) sc__law_other.nd rfl (Or.inl rfl) (pe_op op_mod (pe_call G__law_mixed (hr.mono (by decide)) (by rfl) m__law_mixed k__law_mixed b__law_mixed .nil passLN (pa_cons (pv 1) (pa_cons (pv 2) pa_nil))) (pe_op op_add (pe_callB kLenS (by rfl) z_len bt_len (pa_cons (pv 0) pa_nil)) pe_int)))
    (pss_cons (ps_set (i := 4) sc__law_other.nd rfl (Or.inl rfl) (kItemS pe_str (pe_op op_mod (pe_call G__law_mixed (hr.mono (by decide)) (by rfl) m__law_mixed k__law_mixed b__law_mixed .nil passLN (pa_cons (pv 1) (pa_cons (pe_op op_add (pv 2) pe_int) pa_nil))) pe_int) (fun _ _ => rfl)))
    (pss_cons (ps_set (i := 5) sc__law_other.nd rfl (Or.inl rfl) (pe_op op_mod (pe_call G__law_mixed (hr.mono (by decide)) (by rfl) m__law_mixed k__law_mixed b__law_mixed .nil passLN (pa_cons (pv 1) (pa_cons (pe_op op_add (pv 2) pe_int) pa_nil))) pe_int))
    (pss_cons (ps_if (pt_cmpR (kEq (K := G.K) rfl hr.units) (pv 5) pe_int (nomark _)) (pss_one (ps_ret (pe_op kAddS (pe_op kAddS (pe_slice sl_str (pv 0) po_none (po_some (pv 3))) (pv 4)) (pe_slice sl_str (pv 0) (po_some (pv 3)) po_none)))) pss_nil)
    (pss_one (ps_ret (pe_op kAddS (pe_op kAddS (pe_slice sl_str (pv 0) po_none (po_some (pv 3))) (pe_ix (kIx (K := G.K) rfl) (pe_lst (pa_cons pe_str (pa_cons (pv 4) pa_nil))) (pe_op op_sub (pv 5) pe_int) (fun _ _ => rfl))) (pe_slice sl_str (pv 0) (po_some (pe_op op_add (pv 3) pe_int)) po_none)))))))), body_cr hsp (fun _ => by simp [c__law_other]) (fun a F0 hp hE => ?_)⟩
  obtain ⟨ta, cell, k⟩ := a
  obtain ⟨hl, hcp, hk⟩ : ta.length ≤ 100000 ∧ Cps ta ∧ k ≤ 10 := hp
  walk_at "st"
  clear hsp hE
  refine wS_asgJ (fun u μ' => ∃ i : Int, u = .d (.int i) ∧ μ' = []) ?_ ?_
  · walk_at "q"
    refine ⟨(cell, (k : Int)), .cons (.d _) (.cons (.d _) .nil), trivial, ?_⟩
    refine end_d ?_
    walk_at "q"
    refine wC_lenS (by omega) ?_
    walk_at "q"
    rfl
  rintro u μ' ⟨i, rfl, rfl⟩
  refine wS_asgJ (fun u μ' => ∃ c : Nat, u = .d (sd [c]) ∧ c < 128 ∧ μ' = []) ?_ ?_
  · walk_at "q"
    refine ⟨(cell, (k : Int) + 20), .cons (.d _) (.cons (.d _) .nil), trivial, ?_⟩
    refine end_d ?_
    walk_at "q"
    have h0 := Int.emod_nonneg (mixN cell ((k : Int) + 20)) (by decide : (17 : Int) ≠ 0)
    have h1 := Int.emod_lt_of_pos (mixN cell ((k : Int) + 20)) (by decide : (0 : Int) < 17)
    generalize mixN cell ((k : Int) + 20) % 17 = j at *
    obtain ⟨c, hc⟩ : ∃ c, [48, 49, 50, 51, 52, 53, 54, 55, 56, 57, 47, 64, 45, 32, 46, 43, 120][j.toNat]? = some c := ⟨_, List.getElem?_eq_getElem (by simp; omega)⟩
    refine w2_ixS (a := [48, 49, 50, 51, 52, 53, 54, 55, 56, 57, 47, 64, 45, 32, 46, 43, 120]) h0 (by omega) hc ?_
    refine ⟨c, rfl, ?_, rfl⟩
    have := List.mem_of_getElem? hc
    simp only [List.mem_cons, List.not_mem_nil, or_false] at this
    omega
  rintro u μ' ⟨c, rfl, hc, rfl⟩
  have cc : Cps [c] := cps_one (by omega)
  refine wS_asgJ (fun u μ' => ∃ i : Int, u = .d (.int i) ∧ 0 ≤ i ∧ i < 3 ∧ μ' = []) ?_ ?_
  · walk_at "q"
    refine ⟨(cell, (k : Int) + 40), .cons (.d _) (.cons (.d _) .nil), trivial, ?_⟩
    refine end_d ?_
    walk_at "q"
    exact ⟨Int.emod_nonneg _ (by decide), Int.emod_lt_of_pos _ (by decide), rfl⟩
  rintro u μ' ⟨kd, rfl, k0, k3, rfl⟩
  have c1 := cutT_len ta none (some i)
  have c2 := cutT_len ta (some i) none
  have c3 := cutT_len ta (some (i + 1)) none
  have p1 := cutT_cps hcp none (some i)
  have fin : ∀ (x y : List Nat), x.length ≤ 1 → Cps x → y = cutT ta (some i) none ∨ y = cutT ta (some (i + 1)) none → Cps (cutT ta none (some i) ++ x ++ y) := fun x y _ hx hy z hz => by
    rcases List.mem_append.mp hz with hz | hz
    · rcases List.mem_append.mp hz with hz | hz
      · exact p1 z hz
      · exact hx z hz
    · rcases hy with rfl | rfl <;> exact cutT_cps hcp _ _ z hz
  refine wS_seqJ (fun ρ' μ' => ρ' = [some (.d (sd ta)), some (.d (.int cell)), some (.d (.int k)), some (.d (.int i)), some (.d (sd [c])), some (.d (.int kd))] ∧ kd ≠ 0 ∧ μ' = []) ?_ ?_
  · refine wS_if ?_
    walk_at "q"
    by_cases e : kd = 0
    · rw [decide_eq_true e]
      refine iteT ?_
      refine wS_ret (wE_op (wE_op (wE_sliceToS ?_)))
      walk_at "v"
      walk_at "v"
      refine ⟨ta, i, rfl, rfl, by omega, ?_⟩
      walk_at "v"
      refine w2_addS (by simp; omega) ?_
      refine wE_sliceFromS ?_
      walk_at "v"
      walk_at "v"
      refine ⟨ta, i, rfl, rfl, by omega, ?_⟩
      refine w2_addS (by simp; omega) ?_
      exact ⟨_, ⟨_, by simp; omega, fin [c] _ (by simp) cc (.inl rfl), rfl⟩, .d _⟩
    · rw [decide_eq_false e]
      refine iteF ?_
      walk_at "q"
      exact ⟨rfl, e, rfl⟩
  rintro ρ' μ' ⟨rfl, e, rfl⟩
  refine wS_ret (wE_op (wE_op (wE_sliceToS ?_)))
  walk_at "v"
  walk_at "v"
  refine ⟨ta, i, rfl, rfl, by omega, ?_⟩
  refine wE_op ?_
  walk_at "q"
  refine ⟨[sd [], sd [c]], rfl, by simp, ?_⟩
  walk_at "q"
  have sg : ∃ x, atI [sd [], sd [c]] (kd - 1) = some (sd x) ∧ x.length ≤ 1 ∧ Cps x := by
    have : kd = 1 ∨ kd = 2 := by omega
    rcases this with rfl | rfl
    · exact ⟨[], rfl, by simp, cps_nil⟩
    · exact ⟨[c], rfl, by simp, cc⟩
  obtain ⟨x, hx, xl, xc⟩ := sg
  refine w2_ix (.inl (isL_rw at_app)) hx ?_
  refine w2_addS (by omega) ?_
  refine wE_sliceFromS ?_
  walk_at "v"
  walk_at "q"
  refine ⟨ta, i + 1, rfl, rfl, by omega, ?_⟩
  refine w2_addS (by simp; omega) ?_
  exact ⟨_, ⟨_, by simp; omega, fin x _ xl xc (.inr rfl), rfl⟩, .d _⟩
theorem ok__law_other (T : Top G.K mg "_law_other" s__law_other ["_law_text_here", "_law_cell", "_law_k"]) (D__law_mixed : Def P w G.K mg base "_law_mixed" 1 ["_law_cell", "_law_k"] (spC G X c__law_mixed)) (z_len : mg "len" = none) : Def P w G.K mg base "_law_other" 2 ["_law_text_here", "_law_cell", "_law_k"] (spR G X c__law_other) := def_of T fun f fd F => fn__law_other F D__law_mixed z_len
abbrev s__law_few : Stmt := topS 60
theorem sc__law_few : FnScope ["_law_some", "_law_k"] [] (defScope s__law_few) := ⟨rfl, rfl, rfl, by decide +kernel, rfl, by decide +kernel, by decide +kernel⟩
local macro_rules | `(tactic| walk_at "st") => `(tactic| simp only [c__law_few, L2.cxOf, slotsFrom, cellsOf, argOf, List.length_cons, List.length_nil, List.replicate, List.cons_append, List.nil_append, List.map_cons, List.map_nil, Nat.reduceAdd, Nat.reduceSub, Nat.zero_add, Nat.sub_self] at *)
theorem fn__law_few {f : Addr} {fd : FuncData} (F : Fun G.K "_law_few" "_law_few" s__law_few f fd) (z_range : mg "range" = none) (z_str : mg "str" = none) : FnOk P w G.K mg base (L2N.CX P w) 1 f fd [] (spR G X c__law_few) := by
  refine okXN F sc__law_few (fun vs H Q E h => spR_len (fun _ => rfl) h) (fun cdv A outer s H vs Q E hr hsp => ?_)
  refine ⟨_, (pss_cons (ps_set (i := 0) sc__law_few.nd rfl (Or.inl rfl) (pe_lst (pa_cons pe_str (pa_cons pe_str (pa_cons pe_str (pa_cons pe_str (pa_cons pe_str (pa_cons pe_str (pa_cons pe_str (pa_cons pe_str (pa_cons pe_str (pa_cons pe_str (pa_cons pe_str (pa_cons pe_str pa_nil))))))))))))))
    (pss_cons (ps_set (i := 0) sc__law_few.nd rfl (Or.inl rfl) (pe_op op_cat (pv 0) (pe_lst (pa_cons pe_str (pa_cons pe_str (pa_cons pe_str (pa_cons pe_str (pa_cons pe_str (pa_cons pe_str (pa_cons pe_str (pa_cons pe_str (pa_cons pe_str (pa_cons pe_str pa_nil)))))))))))))
    (pss_cons (ps_expr (kbm (K := G.K) rfl PySem.F.plainAttrs_list PySem.F.slot_list_append PySem.F.type_list_append mt_append (pv 0) (pa_cons pe_str pa_nil)))
    (pss_cons (ps_set (i := 0) sc__law_few.nd rfl (Or.inl rfl) (pe_op op_cat (pv 0) (pe_lst (pa_cons (pe_op kAddS pe_str (pe_op kMulS pe_str pe_int)) (pa_cons (pe_op kAddS pe_str (pe_op kMulS pe_str pe_int)) (pa_cons (pe_op kAddS (pe_op kAddS pe_str (pe_op kMulS pe_str pe_int)) pe_str) (pa_cons (pe_op kAddS (pe_op kAddS pe_str (pe_op kMulS pe_str pe_int)) pe_str) pa_nil)))))))
    (pss_cons (ps_expr (kbm (K := G.K) rfl PySem.F.plainAttrs_list PySem.F.slot_list_append PySem.F.type_list_append mt_append (pv 0) (pa_cons (kJoin (K := G.K) rfl pe_str (pe_op op_cat (pe_lc (own := ([("_law_k", 1)] : List (Str × Nat))) (g := (gName 1)) (tt := tYes) rfl sc__law_few.nd (pi_range2 (by rfl) z_range (pa_cons pe_int (pa_cons pe_int pa_nil))) (blkOk_by (N := (["_law_some", "_law_k"] : List Str)) (sc := defScope s__law_few) (by decide +kernel)) (fun _ _ _ _ _ => (pg_name (i := 1) sc__law_few.nd rfl (Or.inl rfl))) (fun _ _ _ _ _ => pts_nil) (fun _ _ _ _ _ => (pe_op kAddS (pe_op kAddS pe_str (pe_callTy kStrI (by rfl) z_str bt_str (pa_cons (pv 1) pa_nil))) pe_str))) (pe_lst (pa_cons pe_str pa_nil)))) pa_nil)))
    (pss_cons (ps_expr (kbm (K := G.K) rfl PySem.F.plainAttrs_list PySem.F.slot_list_append PySem.F.type_list_append mt_append (pv 0) (pa_cons (kJoin (K := G.K) rfl pe_str (pe_op op_cat (pe_lc (own := ([("_law_k", 1)] : List (Str × Nat))) (g := (gName 1)) (tt := tYes) rfl sc__law_few.nd (pi_range2 (by rfl) z_range (pa_cons pe_int (pa_cons pe_int pa_nil))) (blkOk_by (N := (["_law_some", "_law_k"] : List Str)) (sc := defScope s__law_few) (by decide +kernel)) (fun _ _ _ _ _ => (pg_name (i := 1) sc__law_few.nd rfl (Or.inl rfl))) (fun _ _ _ _ _ => pts_nil) (fun _ _ _ _ _ => (pe_op kAddS (pe_op kAddS pe_str (pe_callTy kStrI (by rfl) z_str bt_str (pa_cons (pv 1) pa_nil))) pe_str))) (pe_lst (pa_cons pe_str pa_nil)))) pa_nil)))
    (pss_one (ps_ret (pe_op op_cat (pv 0) (pe_lst (pa_cons pe_str (pa_cons pe_str (pa_cons pe_str (pa_cons pe_str (pa_cons pe_str (pa_cons pe_str pa_nil)))))))))))))))), body_cr hsp (fun _ => by simp [c__law_few]) (fun a F0 hp hE => ?_)⟩
  walk_at "st"
  clear hsp hE
  refine wS_asgJ (fun u μ' => ∃ ts : List (List Nat), u = .p 0 ∧ μ'[0]? = some (.rw (ts.map sd)) ∧ FewOk ts ∧ ts.length ≤ 12) ?_ ?_
  · walk_at "r"
    exact ⟨([[], [32], [49, 64, 49], [49, 64, 49, 32], [32, 49, 64, 49], [49, 64, 49, 47, 49], [48, 64, 49], [49, 48, 48, 49, 64, 49], [48, 49, 64, 49], [49, 64, 50, 47, 50], [49, 64, 49, 47, 50], [49, 64, 49, 47, 50, 32, 49, 64, 49, 47, 50]] : List (List Nat)).map sd, rfl, by simp, [[], [32], [49, 64, 49], [49, 64, 49, 32], [32, 49, 64, 49], [49, 64, 49, 47, 49], [48, 64, 49], [49, 48, 48, 49, 64, 49], [48, 49, 64, 49], [49, 64, 50, 47, 50], [49, 64, 49, 47, 50], [49, 64, 49, 47, 50, 32, 49, 64, 49, 47, 50]], rfl, rfl, fewOk_of (by decide), by decide⟩
  rintro u μ1 ⟨ts, rfl, h0, hf, hl⟩
  refine wS_seqJ (fun ρ' μ' => ∃ (k : Nat) (ts : List (List Nat)), ρ' = [some (.p k), none] ∧ μ'[k]? = some (.rw (ts.map sd)) ∧ FewOk ts ∧ ts.length ≤ 22) ?_ ?_
  · refine wS_asg (wE_op ?_)
    walk_at "r"
    refine ⟨([[49, 64, 48, 32, 49, 64, 49], [49, 64, 49, 47, 49, 48, 48, 49, 32, 49, 64, 49], [49], [64, 49], [49, 64], [48, 45, 49], [48, 45, 49, 47, 50, 32, 49, 47, 50, 45, 49], [49, 47, 50, 45, 49, 32, 48, 45, 49, 47, 52], [48, 45, 48], [48, 45, 53, 47, 52]] : List (List Nat)).map sd, rfl, by simp, ?_⟩
    refine w2_cat (ds := ts.map sd) (at_ext h0) at_app (by simp; omega) ?_
    refine wG_name ?_
    refine ⟨_, ts ++ [[49, 64, 48, 32, 49, 64, 49], [49, 64, 49, 47, 49, 48, 48, 49, 32, 49, 64, 49], [49], [64, 49], [49, 64], [48, 45, 49], [48, 45, 49, 47, 50, 32, 49, 47, 50, 45, 49], [49, 47, 50, 45, 49, 32, 48, 45, 49, 47, 52], [48, 45, 48], [48, 45, 53, 47, 52]], rfl, ?_, hf.app (fewOk_of (by decide)) (by simp; omega), by simp; omega⟩
    rw [List.map_append]
    exact at_app
  clear h0 hf hl
  rintro ρ2 μ2 ⟨k, ts, rfl, h0, hf, hl⟩
  walk_at "r"
  refine ⟨k, _, rfl, h0, ?_⟩
  walk_at "r"
  refine ⟨_, sd [48, 45, 49, 47, 50, 32, 32, 51, 47, 52, 45, 49], rfl, h0, by simp; omega, ?_⟩
  refine wS_seqJ (fun ρ' μ' => ∃ (k : Nat) (ts : List (List Nat)), ρ' = [some (.p k), none] ∧ μ'[k]? = some (.rw (ts.map sd)) ∧ FewOk ts ∧ ts.length ≤ 27) ?_ ?_
  · refine wS_asg (wE_op ?_)
    have h1 : (μ2.set k (.rw (ts.map sd ++ [sd [48, 45, 49, 47, 50, 32, 32, 51, 47, 52, 45, 49]])))[k]? = some (.rw ((ts ++ [[48, 45, 49, 47, 50, 32, 32, 51, 47, 52, 45, 49]]).map sd)) := by rw [List.getElem?_set_self (lt_at h0), List.map_append]; rfl
    have hf1 : FewOk (ts ++ [[48, 45, 49, 47, 50, 32, 32, 51, 47, 52, 45, 49]]) := hf.app (fewOk_of (by decide)) (by simp; omega)
    generalize μ2.set k (.rw (ts.map sd ++ [sd [48, 45, 49, 47, 50, 32, 32, 51, 47, 52, 45, 49]])) = μ3 at *
    walk_at "v"
    refine wE_lst ?_
    walk_at "r"
    refine w2_mulS (c := 48) (n := 299) (by decide) (by decide) ?_
    refine w2_addS (a := [48, 45, 49, 47, 49]) (by rw [List.length_replicate]; decide) ?_
    walk_at "r"
    refine w2_mulS (c := 48) (n := 300) (by decide) (by decide) ?_
    refine w2_addS (a := [48, 45, 49, 47, 49]) (by rw [List.length_replicate]; decide) ?_
    walk_at "r"
    refine w2_mulS (c := 48) (n := 300) (by decide) (by decide) ?_
    refine w2_addS (a := [49]) (by rw [List.length_replicate]; decide) ?_
    walk_at "r"
    refine w2_addS (b := [64, 49]) (by rw [List.length_append, List.length_replicate]; decide) ?_
    walk_at "r"
    refine w2_mulS (c := 48) (n := 4000) (by decide) (by decide) ?_
    refine w2_addS (a := [49]) (by rw [List.length_replicate]; decide) ?_
    walk_at "r"
    refine w2_addS (b := [64, 49]) (by rw [List.length_append, List.length_replicate]; decide) ?_
    walk_at "r"
    refine ⟨[[48, 45, 49, 47, 49] ++ List.replicate 299 48, [48, 45, 49, 47, 49] ++ List.replicate 300 48, [49] ++ List.replicate 300 48 ++ [64, 49], [49] ++ List.replicate 4000 48 ++ [64, 49]].map sd, rfl, by simp, ?_⟩
    refine w2_cat (ds := (ts ++ [[48, 45, 49, 47, 50, 32, 32, 51, 47, 52, 45, 49]]).map sd) (at_ext h1) at_app (by simp; omega) ?_
    refine wG_name ?_
    have c48 : ∀ n, Cps (List.replicate n 48) := fun n => cps_rep n (by decide)
    have k1 : Cps [48, 45, 49, 47, 49] := fun x hx => by simp only [List.mem_cons, List.not_mem_nil, or_false] at hx; omega
    have k2 : Cps [49] := cps_one (by decide)
    have k3 : Cps [64, 49] := fun x hx => by simp only [List.mem_cons, List.not_mem_nil, or_false] at hx; omega
    refine ⟨_, ts ++ [[48, 45, 49, 47, 50, 32, 32, 51, 47, 52, 45, 49]] ++ [[48, 45, 49, 47, 49] ++ List.replicate 299 48, [48, 45, 49, 47, 49] ++ List.replicate 300 48, [49] ++ List.replicate 300 48 ++ [64, 49], [49] ++ List.replicate 4000 48 ++ [64, 49]], rfl, ?_, hf1.app ⟨by simp, fun t ht => ?_⟩ (by simp; omega), by simp; omega⟩
    · rw [List.map_append (l₁ := ts ++ _)]
      exact at_app
    · simp only [List.mem_cons, List.not_mem_nil, or_false] at ht
      rcases ht with rfl | rfl | rfl | rfl
      · exact ⟨by rw [List.length_append, List.length_replicate]; decide, cps_app k1 (c48 _)⟩
      · exact ⟨by rw [List.length_append, List.length_replicate]; decide, cps_app k1 (c48 _)⟩
      · exact ⟨by rw [List.length_append, List.length_append, List.length_replicate]; decide, cps_app (cps_app k2 (c48 _)) k3⟩
      · exact ⟨by rw [List.length_append, List.length_append, List.length_replicate]; decide, cps_app (cps_app k2 (c48 _)) k3⟩
  clear h0 hf hl
  rintro ρ2 μ3 ⟨k, ts, rfl, h0, hf, hl⟩
  refine wS_seqJ (fun ρ' μ' => ∃ (k : Nat) (ts : List (List Nat)) (t : Option U), ρ' = [some (.p k), t] ∧ μ'[k]? = some (.rw (ts.map sd)) ∧ FewOk ts ∧ ts.length ≤ 28) ?_ ?_
  · refine wS_drop (wE_append ?_)
    walk_at "v"
    refine ⟨k, _, rfl, h0, ?_⟩
    refine wA_cons (wE_join ?_)
    walk_at "e"
    refine ⟨32, rfl, ?_⟩
    refine wE_op ?_
    refine wE_lcR2 (within_name (by decide)) ?_
    walk_at "r"
    have kl := lt_at h0
    refine ⟨_, _, rfl, by decide, fun i μ' => μ'[k]? = some (.rw (ts.map sd)) ∧ μ'[μ3.length]? = some (.rw (((List.range i).map fun j => wordK (1 + j)).map sd)), ⟨at_ext h0, at_app⟩, ?_, ?_⟩
    · rintro i μ' hi ⟨g1, g2⟩
      replace hi : i < 8 := hi
      walk_at "r"
      refine wT_yes (iteT ?_)
      walk_at "r"
      refine wC_strI (n := 1 + i) (Nat.lt_of_le_of_lt (by omega : 1 + i ≤ 1000) (Nat.lt_of_lt_of_le (by decide : 1000 < 2 ^ 10) (Nat.pow_le_pow_right (by decide) (by decide)))) ?_
      have nl : (TL.numL (1 + i)).length ≤ 1 := by rw [TL.numL_lt (by omega)]; simp
      refine w2_addS (a := [49, 64]) (by simp; omega) ?_
      walk_at "r"
      refine w2_addS (b := [47, 49, 49]) (by simp; omega) ?_
      refine ⟨_, _, rfl, g2, by simp; omega, by rw [List.getElem?_set_ne (by omega)]; exact g1, ?_⟩
      rw [List.getElem?_set_self (lt_at g2), List.range_succ, List.map_append, List.map_append]
      rfl
    · rintro μ' ⟨g1, g2⟩
      walk_at "r"
      refine ⟨[sd [49, 64, 49]], rfl, by simp, ?_⟩
      refine w2_cat (at_ext g2) at_app (by simp) ?_
      refine ⟨((List.range 8).map fun j => wordK (1 + j)) ++ [[49, 64, 49]], by rw [List.map_append]; exact isL_app, ?_, ?_⟩
      · have : ∀ x ∈ (((List.range 8).map fun j => wordK (1 + j)) ++ [[49, 64, 49]]), x.length ≤ 6 := fun x hx => by
          rcases List.mem_append.mp hx with hx | hx
          · obtain ⟨j, hj, rfl⟩ := List.mem_map.mp hx
            exact (wordK_ok (1 + j) (by have := List.mem_range.mp hj; omega)).1
          · rw [List.mem_singleton.mp hx]; decide
        have := sumT_le this
        simp at this ⊢
        omega
      · refine wA_nil ?_
        refine ⟨_, _, rfl, at_ext (at_ext g1), by simp; omega, ?_⟩
        refine ⟨k, ts ++ [TL.joinL [32] (((List.range 8).map fun j => wordK (1 + j)) ++ [[49, 64, 49]])], _, rfl, ?_, hf.app ⟨by simp, fun t ht => ?_⟩ (by simp; omega), by simp; omega⟩
        · rw [List.getElem?_set_self (by simp; have := lt_at g1; omega), List.map_append]
          rfl
        · rw [List.mem_singleton.mp ht]
          have h6 : ∀ x ∈ (((List.range 8).map fun j => wordK (1 + j)) ++ [[49, 64, 49]]), x.length ≤ 6 ∧ Cps x := fun x hx => by
            rcases List.mem_append.mp hx with hx | hx
            · obtain ⟨j, hj, rfl⟩ := List.mem_map.mp hx
              exact wordK_ok (1 + j) (by have := List.mem_range.mp hj; omega)
            · rw [List.mem_singleton.mp hx]
              exact ⟨by decide, fun x hx => by simp only [List.mem_cons, List.not_mem_nil, or_false] at hx; omega⟩
          refine ⟨?_, joinL_cps fun x hx => (h6 x hx).2⟩
          have a := joinL_len (((List.range 8).map fun j => wordK (1 + j)) ++ [[49, 64, 49]])
          have b := sumT_le fun x hx => (h6 x hx).1
          simp at a b ⊢
          omega
  clear h0 hf hl
  rintro ρ2 μ3 ⟨k, ts, t1, rfl, h0, hf, hl⟩
  refine wS_seqJ (fun ρ' μ' => ∃ (k : Nat) (ts : List (List Nat)) (t : Option U), ρ' = [some (.p k), t] ∧ μ'[k]? = some (.rw (ts.map sd)) ∧ FewOk ts ∧ ts.length ≤ 29) ?_ ?_
  · refine wS_drop (wE_append ?_)
    walk_at "v"
    refine ⟨k, _, rfl, h0, ?_⟩
    refine wA_cons (wE_join ?_)
    walk_at "e"
    refine ⟨32, rfl, ?_⟩
    refine wE_op ?_
    refine wE_lcR2 (within_name (by decide)) ?_
    walk_at "r"
    have kl := lt_at h0
    refine ⟨_, _, rfl, by decide, fun i μ' => μ'[k]? = some (.rw (ts.map sd)) ∧ μ'[μ3.length]? = some (.rw (((List.range i).map fun j => wordK (1 + j)).map sd)), ⟨at_ext h0, at_app⟩, ?_, ?_⟩
    · rintro i μ' hi ⟨g1, g2⟩
      replace hi : i < 7 := hi
      walk_at "r"
      refine wT_yes (iteT ?_)
      walk_at "r"
      refine wC_strI (n := 1 + i) (Nat.lt_of_le_of_lt (by omega : 1 + i ≤ 1000) (Nat.lt_of_lt_of_le (by decide : 1000 < 2 ^ 10) (Nat.pow_le_pow_right (by decide) (by decide)))) ?_
      have nl : (TL.numL (1 + i)).length ≤ 1 := by rw [TL.numL_lt (by omega)]; simp
      refine w2_addS (a := [49, 64]) (by simp; omega) ?_
      walk_at "r"
      refine w2_addS (b := [47, 49, 49]) (by simp; omega) ?_
      refine ⟨_, _, rfl, g2, by simp; omega, by rw [List.getElem?_set_ne (by omega)]; exact g1, ?_⟩
      rw [List.getElem?_set_self (lt_at g2), List.range_succ, List.map_append, List.map_append]
      rfl
    · rintro μ' ⟨g1, g2⟩
      walk_at "r"
      refine ⟨[sd [49, 64, 49]], rfl, by simp, ?_⟩
      refine w2_cat (at_ext g2) at_app (by simp) ?_
      refine ⟨((List.range 7).map fun j => wordK (1 + j)) ++ [[49, 64, 49]], by rw [List.map_append]; exact isL_app, ?_, ?_⟩
      · have : ∀ x ∈ (((List.range 7).map fun j => wordK (1 + j)) ++ [[49, 64, 49]]), x.length ≤ 6 := fun x hx => by
          rcases List.mem_append.mp hx with hx | hx
          · obtain ⟨j, hj, rfl⟩ := List.mem_map.mp hx
            exact (wordK_ok (1 + j) (by have := List.mem_range.mp hj; omega)).1
          · rw [List.mem_singleton.mp hx]; decide
        have := sumT_le this
        simp at this ⊢
        omega
      · refine wA_nil ?_
        refine ⟨_, _, rfl, at_ext (at_ext g1), by simp; omega, ?_⟩
        refine ⟨k, ts ++ [TL.joinL [32] (((List.range 7).map fun j => wordK (1 + j)) ++ [[49, 64, 49]])], _, rfl, ?_, hf.app ⟨by simp, fun t ht => ?_⟩ (by simp; omega), by simp; omega⟩
        · rw [List.getElem?_set_self (by simp; have := lt_at g1; omega), List.map_append]
          rfl
        · rw [List.mem_singleton.mp ht]
          have h6 : ∀ x ∈ (((List.range 7).map fun j => wordK (1 + j)) ++ [[49, 64, 49]]), x.length ≤ 6 ∧ Cps x := fun x hx => by
            rcases List.mem_append.mp hx with hx | hx
            · obtain ⟨j, hj, rfl⟩ := List.mem_map.mp hx
              exact wordK_ok (1 + j) (by have := List.mem_range.mp hj; omega)
            · rw [List.mem_singleton.mp hx]
              exact ⟨by decide, fun x hx => by simp only [List.mem_cons, List.not_mem_nil, or_false] at hx; omega⟩
          refine ⟨?_, joinL_cps fun x hx => (h6 x hx).2⟩
          have a := joinL_len (((List.range 7).map fun j => wordK (1 + j)) ++ [[49, 64, 49]])
          have b := sumT_le fun x hx => (h6 x hx).1
          simp at a b ⊢
          omega
  clear h0 hf hl
  rintro ρ2 μ3 ⟨k, ts, t1, rfl, h0, hf, hl⟩
  refine wS_ret (wE_op ?_)
  walk_at "r"
  refine ⟨([[45], [48, 45, 49, 47, 48], [48, 47, 49, 45, 49], [48, 48, 45, 49], [49, 47, 50, 45, 49, 47, 51], [48, 45, 49, 45, 49]] : List (List Nat)).map sd, rfl, by simp, ?_⟩
  refine w2_cat (ds := ts.map sd) (at_ext h0) at_app (by simp; omega) ?_
  refine ⟨_, ⟨ts ++ [[45], [48, 45, 49, 47, 48], [48, 47, 49, 45, 49], [48, 48, 45, 49], [49, 47, 50, 45, 49, 47, 51], [48, 45, 49, 45, 49]], hf.app (fewOk_of (by decide)) (by simp; omega), rfl⟩, ?_⟩
  rw [List.map_append]
  exact .own at_app
theorem ok__law_few (T : Top G.K mg "_law_few" s__law_few []) (z_range : mg "range" = none) (z_str : mg "str" = none) : Def P w G.K mg base "_law_few" 1 [] (spR G X c__law_few) := def_of T fun f fd F => fn__law_few F z_range z_str
abbrev s_law : Stmt := topS 61
theorem sc_law : FnScope ["_law_script", "_law_steps", "_law_piece", "_law_first", "_law_second", "_law_cell", "_law_few_here", "_law_text_here", "_law_end", "_law_weight", "_law_start", "_law_thing"] ["_law_script"] (defScope s_law) := ⟨rfl, rfl, rfl, by decide +kernel, rfl, by decide +kernel, by decide +kernel⟩
local macro_rules | `(tactic| walk_at "st") => `(tactic| simp only [c_law, L2.cxOf, slotsFrom, cellsOf, argOf, List.length_cons, List.length_nil, List.replicate, List.cons_append, List.nil_append, List.map_cons, List.map_nil, Nat.reduceAdd, Nat.reduceSub, Nat.zero_add, Nat.sub_self] at *)
theorem fn_law {f : Addr} {fd : FuncData} (F : Fun G.K "law" "law" s_law f fd) (D__law_steps_by : Def P w G.K mg base "_law_steps_by" 2 ["_law_cell"] (spC G X c__law_steps_by)) (D__law_cell_at : Def P w G.K mg base "_law_cell_at" 1 ["_law_script", "_law_k"] (spC G X c__law_cell_at)) (D__law_piece_by : Def P w G.K mg base "_law_piece_by" 2 ["_law_cell"] (spC G X c5_piece_by)) (D_taste_text : Def P w G.K mg base "taste_text" 2 ["taste"] (spC G X c_taste_text)) (D_Taste___init__ : Ini P w G mg base 0 5 ["self", "steps"] (spI G X (G.cl 0) c_Taste___init__)) (D_piece_text : Def P w G.K mg base "piece_text" 5 ["piece"] (spC G X c_piece_text)) (D__law_text : Def P w G.K mg base "_law_text" 1 ["_law_one"] (spC G X c_fraction_text)) (D_piece_of : DefW P w G.K mg base "piece_of" 5 ["text"] (spC G X c14_piece_of)) (D_taste_of : DefW P w G.K mg base "taste_of" 7 ["text"] (spC G X c_taste_of)) (D__law_other : Def P w G.K mg base "_law_other" 2 ["_law_text_here", "_law_cell", "_law_k"] (spR G X c__law_other)) (D__law_few : Def P w G.K mg base "_law_few" 1 [] (spR G X c__law_few)) (D__law_read_right : Def P w G.K mg base "_law_read_right" 9 ["_law_text_here"] (spC G X c__law_read_right)) (D__law_refused : Def P w G.K mg base "_law_refused" 8 ["_law_which", "_law_text_here"] (spC G X c__law_refused)) (D_Taste_steps : Met P w G mg base 0 "steps" 1 ["self"] (spC G X c_Taste_steps)) (z_list : mg "list" = none) (z_str : mg "str" = none) (z_all : mg "all" = none) (Mk_Taste : ClsG mg "Taste" (G.cl 0)) (Cl_Taste : Cls G.K (G.cl 0)) : FnOk P w G.K mg base (L2N.CX P w) 10 f fd ["_law_script"] (spC G X c_law) := by
  obtain ⟨f__law_steps_by, d__law_steps_by, G__law_steps_by, m__law_steps_by, k__law_steps_by, b__law_steps_by⟩ := D__law_steps_by.ex
  obtain ⟨f__law_cell_at, d__law_cell_at, G__law_cell_at, m__law_cell_at, k__law_cell_at, b__law_cell_at⟩ := D__law_cell_at.ex
  obtain ⟨f__law_piece_by, d__law_piece_by, G__law_piece_by, m__law_piece_by, k__law_piece_by, b__law_piece_by⟩ := D__law_piece_by.ex
  obtain ⟨f_taste_text, d_taste_text, G_taste_text, m_taste_text, k_taste_text, b_taste_text⟩ := D_taste_text.ex
  obtain ⟨f_Taste___init__, d_Taste___init__, G_Taste___init__, M_Taste, b_Taste___init__⟩ := D_Taste___init__.ex
  obtain ⟨f_piece_text, d_piece_text, G_piece_text, m_piece_text, k_piece_text, b_piece_text⟩ := D_piece_text.ex
  obtain ⟨f__law_text, d__law_text, G__law_text, m__law_text, k__law_text, b__law_text⟩ := D__law_text.ex
  obtain ⟨f_piece_of, d_piece_of, G_piece_of, m_piece_of, k_piece_of, b_piece_of⟩ := D_piece_of.ex
  obtain ⟨f_taste_of, d_taste_of, G_taste_of, m_taste_of, k_taste_of, b_taste_of⟩ := D_taste_of.ex
  obtain ⟨f__law_other, d__law_other, G__law_other, m__law_other, k__law_other, b__law_other⟩ := D__law_other.ex
  obtain ⟨f__law_few, d__law_few, G__law_few, m__law_few, k__law_few, b__law_few⟩ := D__law_few.ex
  obtain ⟨f__law_read_right, d__law_read_right, G__law_read_right, m__law_read_right, k__law_read_right, b__law_read_right⟩ := D__law_read_right.ex
  obtain ⟨f__law_refused, d__law_refused, G__law_refused, m__law_refused, k__law_refused, b__law_refused⟩ := D__law_refused.ex
  obtain ⟨f_Taste_steps, d_Taste_steps, G_Taste_steps, Me_Taste_steps, b_Taste_steps⟩ := D_Taste_steps.ex
  have mk_Taste := Mk_Taste.at_
  refine okXN F sc_law (fun vs H Q E h => spC_len (fun _ => rfl) h) (fun cdv A outer s H vs Q E hr hsp => ?_)
  refine ⟨_, (pss_cons (ps_set (i := 1) sc_law.nd rfl (Or.inl rfl) (pe_call G__law_steps_by (hr.mono (by decide)) (by rfl) m__law_steps_by k__law_steps_by b__law_steps_by .nil passLN (pa_cons (pe_call G__law_cell_at (hr.mono (by decide)) (by rfl) m__law_cell_at k__law_cell_at b__law_cell_at .nil passLN (pa_cons (pv 0) (pa_cons pe_int pa_nil))) pa_nil)))
    (pss_cons (ps_set (i := 2) sc_law.nd rfl (Or.inl rfl) (pe_call G__law_piece_by (hr.mono (by decide)) (by rfl) m__law_piece_by k__law_piece_by b__law_piece_by .nil passLN (pa_cons (pe_call G__law_cell_at (hr.mono (by decide)) (by rfl) m__law_cell_at k__law_cell_at b__law_cell_at .nil passLN (pa_cons (pv 0) (pa_cons pe_int pa_nil))) pa_nil)))
    (pss_cons (ps_set (i := 3) sc_law.nd rfl (Or.inl rfl) (pe_call G_taste_text (hr.mono (by decide)) (by rfl) m_taste_text k_taste_text b_taste_text .nil passLN (pa_cons (pe_make M_Taste G_Taste___init__ (hr.mono (by decide)) (by rfl) mk_Taste b_Taste___init__ .nil passLN (pa_cons (pe_callTy (kListOf (K := G.K) rfl) (by rfl) z_list bt_list (pa_cons (pv 1) pa_nil)) pa_nil)) pa_nil)))
    (pss_cons (ps_set (i := 4) sc_law.nd rfl (Or.inl rfl) (pe_call G_piece_text (hr.mono (by decide)) (by rfl) m_piece_text k_piece_text b_piece_text .nil passLN (pa_cons (pe_callTy (kListOf (K := G.K) rfl) (by rfl) z_list bt_list (pa_cons (pv 2) pa_nil)) pa_nil)))
    (pss_cons (ps_if (pt_cmpR (kNe (K := G.K) rfl hr.units) (pv 3) (kJoin (K := G.K) rfl pe_str (pe_lc (own := ([("_law_end", 8), ("_law_weight", 9)] : List (Str × Nat))) (g := (gTup G.K 2 (gCons (gName 8) (gCons (gName 9) gNil)))) (tt := tYes) rfl sc_law.nd (kpi_list (K := G.K) rfl (pv 1)) (blkOk_by (N := (["_law_script", "_law_steps", "_law_piece", "_law_first", "_law_second", "_law_cell", "_law_few_here", "_law_text_here", "_law_end", "_law_weight", "_law_start", "_law_thing"] : List Str)) (sc := defScope s_law) (by decide +kernel)) (fun _ _ _ _ _ => (kpg_tup (K := G.K) (n := 2) rfl rfl (pgs_cons (pg_name (i := 8) sc_law.nd rfl (Or.inl rfl)) (pgs_cons (pg_name (i := 9) sc_law.nd rfl (Or.inl rfl)) pgs_nil)))) (fun _ _ _ _ _ => pts_nil) (fun _ _ _ _ _ => (pe_op kAddS (pe_op kAddS (pe_callTy kStrI (by rfl) z_str bt_str (pa_cons (pv 9) pa_nil)) pe_str) (pe_call G__law_text (hr.mono (by decide)) (by rfl) m__law_text k__law_text b__law_text .nil passLN (pa_cons (pv 8) pa_nil)))))) (nomark _)) (pss_one (ps_ret pe_bl)) pss_nil)
    (pss_cons (ps_if (pt_cmpR (kNe (K := G.K) rfl hr.units) (pv 4) (kJoin (K := G.K) rfl pe_str (pe_lc (own := ([("_law_start", 10), ("_law_end", 8)] : List (Str × Nat))) (g := (gTup G.K 2 (gCons (gName 10) (gCons (gName 8) gNil)))) (tt := tYes) rfl sc_law.nd (kpi_list (K := G.K) rfl (pv 2)) (blkOk_by (N := (["_law_script", "_law_steps", "_law_piece", "_law_first", "_law_second", "_law_cell", "_law_few_here", "_law_text_here", "_law_end", "_law_weight", "_law_start", "_law_thing"] : List Str)) (sc := defScope s_law) (by decide +kernel)) (fun _ _ _ _ _ => (kpg_tup (K := G.K) (n := 2) rfl rfl (pgs_cons (pg_name (i := 10) sc_law.nd rfl (Or.inl rfl)) (pgs_cons (pg_name (i := 8) sc_law.nd rfl (Or.inl rfl)) pgs_nil)))) (fun _ _ _ _ _ => pts_nil) (fun _ _ _ _ _ => (pe_op kAddS (pe_op kAddS (pe_call G__law_text (hr.mono (by decide)) (by rfl) m__law_text k__law_text b__law_text .nil passLN (pa_cons (pv 10) pa_nil)) pe_str) (pe_call G__law_text (hr.mono (by decide)) (by rfl) m__law_text k__law_text b__law_text .nil passLN (pa_cons (pv 8) pa_nil)))))) (nomark _)) (pss_one (ps_ret pe_bl)) pss_nil)
    (pss_cons (ps_if (PW.pt (pw_or (pt_cmpR (kNe (K := G.K) rfl hr.units) (pe_meth0 (pe_call G_taste_of (hr.mono (by decide)) (by rfl) m_taste_of k_taste_of b_taste_of .nil passLW (pa_cons (pv 3) pa_nil)) Cl_Taste Me_Taste_steps G_Taste_steps (hr.mono (by decide)) b_Taste_steps .nil passLN) (pv 1) (nomark _)) (pw_or1 (pt_cmpR (kNe (K := G.K) rfl hr.units) (pe_call G_piece_of (hr.mono (by decide)) (by rfl) m_piece_of k_piece_of b_piece_of .nil passLW (pa_cons (pv 4) pa_nil)) (pv 2) (nomark _))))) (pss_one (ps_ret pe_bl)) pss_nil)
    (pss_cons (ps_set (i := 5) sc_law.nd rfl (Or.inl rfl) (pe_call G__law_cell_at (hr.mono (by decide)) (by rfl) m__law_cell_at k__law_cell_at b__law_cell_at .nil passLN (pa_cons (pv 0) (pa_cons pe_int pa_nil))))
    (pss_cons (ps_set (i := 6) sc_law.nd rfl (Or.inl rfl) (pe_lst (pa_cons (pe_call G__law_other (hr.mono (by decide)) (by rfl) m__law_other k__law_other b__law_other .nil passLN (pa_cons (pv 3) (pa_cons (pv 5) (pa_cons pe_int pa_nil)))) (pa_cons (pe_call G__law_other (hr.mono (by decide)) (by rfl) m__law_other k__law_other b__law_other .nil passLN (pa_cons (pv 3) (pa_cons (pv 5) (pa_cons pe_int pa_nil)))) pa_nil))))
    (pss_cons (ps_for (passes_of rfl) rfl (kpi_list (K := G.K) rfl (pe_op op_cat (pe_op op_cat (pv 6) (pe_lst (pa_cons (pe_call G__law_other (hr.mono (by decide)) (by rfl) m__law_other k__law_other b__law_other .nil passLN (pa_cons (pv 4) (pa_cons (pv 5) (pa_cons pe_int pa_nil)))) (pa_cons (pe_call G__law_other (hr.mono (by decide)) (by rfl) m__law_other k__law_other b__law_other .nil passLN (pa_cons (pv 4) (pa_cons (pv 5) (pa_cons pe_int pa_nil)))) pa_nil)))) (pe_call0 G__law_few (hr.mono (by decide)) (by rfl) m__law_few k__law_few b__law_few .nil passLN))) (pg_name (i := 7) sc_law.nd rfl (Or.inl rfl)) (pss_one (ps_if (pt_not (pt_val (pe_call G__law_read_right (hr.mono (by decide)) (by rfl) m__law_read_right k__law_read_right b__law_read_right .nil passLN (pa_cons (pv 7) pa_nil)))) (pss_one (ps_ret pe_bl)) pss_nil)))
    (pss_one (ps_ret (pe_callB (kAll (K := G.K) rfl rfl) (by rfl) z_all bt_all (pa_cons (pe_lc (own := ([("_law_thing", 11)] : List (Str × Nat))) (g := (gName 11)) (tt := tYes) rfl sc_law.nd (kpi_list (K := G.K) rfl (pe_lst (pa_cons pe_non (pa_cons pe_int (pa_cons (pe_lst (pa_cons pe_str pa_nil)) (pa_cons pe_bl pa_nil)))))) (blkOk_by (N := (["_law_script", "_law_steps", "_law_piece", "_law_first", "_law_second", "_law_cell", "_law_few_here", "_law_text_here", "_law_end", "_law_weight", "_law_start", "_law_thing"] : List Str)) (sc := defScope s_law) (by decide +kernel)) (fun _ _ _ _ _ => (pg_name (i := 11) sc_law.nd rfl (Or.inl rfl))) (fun _ _ _ _ _ => pts_nil) (fun _ _ _ _ _ => (pe_and (pe_call G__law_refused (hr.mono (by decide)) (by rfl) m__law_refused k__law_refused b__law_refused .nil passLN (pa_cons pe_int (pa_cons (pv 11) pa_nil))) (pe_one (pe_call G__law_refused (hr.mono (by decide)) (by rfl) m__law_refused k__law_refused b__law_refused .nil passLN (pa_cons pe_int (pa_cons (pv 11) pa_nil))))))) pa_nil)))))))))))))), body_ct hsp (fun _ => by simp [c_law]) (fun a F0 hp hE => ?_)⟩
  walk_at "st"
  clear hsp hE
  refine wS_asgJ (fun u μ' => u = .d (.lst (encSt (stepsBy (cellN a 0)))) ∧ μ'[0]? = some (.ro (a.map D.int))) ?_ ?_
  · refine wE_frz ?_
    walk_at "r"
    refine ca_cell (isL_ro rfl) (by decide) ?_
    walk_at "r"
    refine ca_steps_by ?_
    exact ⟨_, _, rfl, at_app, rfl, rfl⟩
  rintro u μ' ⟨rfl, h0⟩
  have g := stepsBy_good (cellN a 0)
  generalize stepsBy (cellN a 0) = st at *
  refine wS_asgJ (fun u μ' => u = .d (.lst (encP (pieceQ (cellN a 1)))) ∧ μ'[0]? = some (.ro (a.map D.int))) ?_ ?_
  · refine wE_frz ?_
    walk_at "r"
    refine ca_cell (isL_ro h0) (by decide) ?_
    walk_at "r"
    refine ca_piece_q ?_
    exact ⟨_, _, rfl, at_app, rfl, at_gone h0⟩
  clear h0
  rintro u μ' ⟨rfl, h0⟩
  have hpi := pieceQ_is (cellN a 1)
  have hpl := pieceQ_len (cellN a 1)
  have hpg := pieceQ_grid (cellN a 1)
  generalize pieceQ (cellN a 1) = p at *
  have hfit : FitP p := ⟨hpi, hpg.on, hpg.szs hpi, by omega⟩
  have hsm := grid1_sm hpi hpg
  refine wS_asgJ (fun u μ2 => u = .d (sd (txT st)) ∧ μ2[0]? = some (.ro (a.map D.int))) ?_ ?_
  · walk_at "r"
    refine wC_listOf (.inl rfl) ?_
    walk_at "r"
    refine ca_make isL_app g ?_
    walk_at "r"
    refine ca_ttext g ?_
    exact ⟨rfl, at_ext h0⟩
  clear h0
  rintro u μ2 ⟨rfl, h0⟩
  refine wS_asgJ (fun u μ2 => u = .d (sd (txP p)) ∧ μ2[0]? = some (.ro (a.map D.int))) ?_ ?_
  · walk_at "r"
    refine wC_listOf (.inl rfl) ?_
    walk_at "r"
    refine ca_ptext isL_app hfit hsm (by omega) ?_
    exact ⟨rfl, at_ext h0⟩
  clear h0
  rintro u μ3 ⟨rfl, h0⟩
  have tl := txT_len g
  have pl := txP_len2 hsm (by omega)
  obtain ⟨RO, hRO⟩ : ∃ RO : Ro, RO = [some (.p 0), some (.d (.lst (encSt st))), some (.d (.lst (encP p))), some (.d (sd (txT st))), some (.d (sd (txP p))), none, none, none, none, none, none, none] := ⟨_, rfl⟩
  refine wS_seqJ (fun ρ' μ' => ρ' = RO ∧ μ'[0]? = some (.ro (a.map D.int))) ?_ ?_
  · refine wS_if ?_
    refine wT_test (wE_op ?_)
    walk_at "v"
    refine wE_join ?_
    walk_at "e"
    refine ⟨32, rfl, ?_⟩
    refine wE_mapL txWD (within_tup (withins_cons (within_name (by decide)) (withins_cons (within_name (by decide)) withins_nil))) ?_
    walk_at "v"
    refine ⟨encSt st, .inl rfl, by rw [show (encSt st).length = st.length from List.length_map _]; have := g.few; omega, ?_, ?_⟩
    · intro d hd acc
      obtain ⟨s, hs, rfl⟩ := List.mem_map.mp hd
      obtain ⟨h0, h1, sm⟩ := good_in g hs
      have ok := g.ok s hs
      have l1 := w_len ok.2.1 ok.2.2
      have l2 := txF_len sm
      obtain ⟨w, ew⟩ : ∃ w : Nat, s.2 = (w : Int) := ⟨s.2.toNat, by have := ok.2.1; omega⟩
      rw [txWD_enc (by grind)]
      unfold encStep
      rw [ew]
      walk_at "r"
      refine wC_strI (n := w) (Nat.lt_of_le_of_lt (by have := ok.2.2; omega : w ≤ 1000) (Nat.lt_of_lt_of_le (by decide : 1000 < 2 ^ 10) (Nat.pow_le_pow_right (by decide) (by decide)))) ?_
      walk_at "r"
      refine w2_addS (b := [64]) (by rw [ew] at l1; simp at l1 ⊢; omega) ?_
      walk_at "r"
      refine ca_ftext (by grind) sm ?_
      refine w2_addS (by rw [ew] at l1; simp at l1 ⊢; omega) ?_
      refine ⟨?_, rfl⟩
      unfold txW
      rw [ew]
      simp
    rw [txWD_map g]
    refine ⟨st.map txW, isL_app, Nat.le_trans (txT_sum g) (by decide), ?_⟩
    refine w2_neS (txT_cps st) (txT_cps st) ?_
    rw [decide_eq_true (show txT st = TL.joinL [32] (st.map txW) from rfl)]
    walk_at "r"
    exact ⟨by rw [hRO]; rfl, at_ext h0⟩
  clear h0
  rintro ρ' μ4 ⟨hr, h0⟩
  rw [hr, hRO]
  clear hr ρ'
  refine wS_seqJ (fun ρ' μ' => ρ' = RO ∧ μ'[0]? = some (.ro (a.map D.int))) ?_ ?_
  · refine wS_if ?_
    refine wT_test (wE_op ?_)
    walk_at "v"
    refine wE_join ?_
    walk_at "e"
    refine ⟨32, rfl, ?_⟩
    refine wE_mapL txD (within_tup (withins_cons (within_name (by decide)) (withins_cons (within_name (by decide)) withins_nil))) ?_
    walk_at "v"
    refine ⟨encP p, .inl rfl, by rw [encP_len]; omega, ?_, ?_⟩
    · intro d hd acc
      obtain ⟨s, hs, rfl⟩ := List.mem_map.mp hd
      have hi := hpi.1 s hs
      have sm := hsm s hs
      have := txF_len sm.1
      have := txF_len sm.2
      rw [txD_enc hi]
      walk_at "r"
      refine ca_ftext hi.1 sm.1 ?_
      walk_at "r"
      refine w2_addS (b := [45]) (by simp; omega) ?_
      walk_at "r"
      refine ca_ftext (by have := hi.1; have := hi.2.1; grind) sm.2 ?_
      refine w2_addS (by simp; omega) ?_
      refine ⟨?_, rfl⟩
      rw [spanTx_text]
    rw [txD_map hpi.1]
    refine ⟨p.map txS, isL_app, Nat.le_trans (txP_sum hsm (by omega)) (by decide), ?_⟩
    refine w2_neS (txP_cps p) (txP_cps p) ?_
    rw [decide_eq_true (show txP p = TL.joinL [32] (p.map txS) from rfl)]
    walk_at "r"
    exact ⟨by rw [hRO], at_ext h0⟩
  clear h0
  rintro ρ' μ5 ⟨hr, h0⟩
  rw [hr, hRO]
  clear hr ρ'
  have t1 : tasteD' (sd (txT st)) = some st := by unfold tasteD'; rw [textOf_sd]; exact tasteT_tx g
  have t2 : pieceD' (sd (txP p)) = some p := by unfold pieceD'; rw [textOf_sd]; exact pieceT_tx hpi hsm
  refine wS_seqJ (fun ρ' μ' => ρ' = RO ∧ μ'[0]? = some (.ro (a.map D.int))) ?_ ?_
  · refine wS_if ?_
    refine wT_or (wT_test (wE_op (wE_cm ?_)))
    walk_at "r"
    refine ⟨sd (txT st), .cons (.d _) .nil, preT_sd (by omega) (txT_cps st), ?_⟩
    rw [show c_taste_of.out (sd (txT st)) = .ret (.d (encTaste st)) by simp [c_taste_of, t1]]
    refine end_d ?_
    refine ⟨0, _, rfl, rfl, by decide +kernel, ?_⟩
    walk_at "r"
    refine ca_tsteps g ?_
    walk_at "r"
    refine w2_neD (.l (isL_rw at_app)) (.l (.inl rfl)) 3 3 (by decide) (by decide) (sh_list (f := encStep) (n := 2) (fun _ => rfl) _) (sh_list (f := encStep) (n := 2) (fun _ => rfl) _) ?_
    rw [eq_encStl.mpr rfl]
    walk_at "r"
    refine ⟨sd (txP p), .cons (.d _) .nil, preT_sd (by omega) (txP_cps p), ?_⟩
    rw [show c14_piece_of.out (sd (txP p)) = .ret (.own (encP p)) by simp [c14_piece_of, t2]]
    refine end_own ?_
    walk_at "r"
    refine w2_neD (.l (isL_rw at_app)) (.l (.inl rfl)) 3 3 (by decide) (by decide) (sh_list (f := encS) (n := 2) (fun _ => rfl) _) (sh_list (f := encS) (n := 2) (fun _ => rfl) _) ?_
    rw [eq_encPl.mpr rfl]
    walk_at "r"
    exact ⟨by rw [hRO], at_ext (at_ext h0)⟩
  clear h0 t1 t2
  rintro ρ' μ6 ⟨hr, h0⟩
  rw [hr, hRO]
  clear hr ρ'
  clear hRO
  refine wS_asgJ (fun u μ2 => ∃ c : Int, u = .d (.int c) ∧ μ2 = μ6) ?_ ?_
  · walk_at "r"
    refine ca_cell (isL_ro h0) (by decide) ?_
    exact ⟨_, rfl, rfl⟩
  rintro u μ7 ⟨c, rfl, rfl⟩
  clear h0
  refine wS_asgJ (fun u μ2 => ∃ (k : Nat) (ts : List (List Nat)), u = .p k ∧ μ2[k]? = some (.rw (ts.map sd)) ∧ FewOk ts ∧ ts.length = 2) ?_ ?_
  · walk_at "r"
    refine ⟨(txT st, c, 0), .cons (.d _) (.cons (.d _) (.cons (.d _) .nil)), ⟨by dsimp only; omega, txT_cps st, by dsimp only; omega⟩, ?_⟩
    rintro o ⟨b1, l1, k1, rfl⟩
    refine end_d ?_
    walk_at "r"
    refine ⟨(txT st, c, 1), .cons (.d _) (.cons (.d _) (.cons (.d _) .nil)), ⟨by dsimp only; omega, txT_cps st, by dsimp only; omega⟩, ?_⟩
    rintro o ⟨b2, l2, k2, rfl⟩
    refine end_d ?_
    walk_at "r"
    refine ⟨[b1, b2].map sd, rfl, by simp, ?_⟩
    refine ⟨_, [b1, b2], rfl, at_app, ⟨by simp, fun t ht => ?_⟩, rfl⟩
    simp only [List.mem_cons, List.not_mem_nil, or_false] at ht
    rcases ht with rfl | rfl
    · exact ⟨l1, k1⟩
    · exact ⟨l2, k2⟩
  rintro u μ8 ⟨k, ts, rfl, hk, hf, hl⟩
  refine wS_seqJ (fun ρ' μ' => ∃ t7, ρ' = [some (.p 0), some (.d (.lst (encSt st))), some (.d (.lst (encP p))), some (.d (sd (txT st))), some (.d (sd (txP p))), some (.d (.int c)), some (.p k), t7, none, none, none, none]) ?_ ?_
  · refine wS_for (wE_op (wE_op ?_))
    walk_at "v"
    refine wE_lst ?_
    walk_at "r"
    refine ⟨(txP p, c, 2), .cons (.d _) (.cons (.d _) (.cons (.d _) .nil)), ⟨by dsimp only; have := txP_len8 hsm (by omega); omega, txP_cps p, by dsimp only; omega⟩, ?_⟩
    rintro o ⟨b1, l1, k1, rfl⟩
    refine end_d ?_
    walk_at "r"
    refine ⟨(txP p, c, 3), .cons (.d _) (.cons (.d _) (.cons (.d _) .nil)), ⟨by dsimp only; have := txP_len8 hsm (by omega); omega, txP_cps p, by dsimp only; omega⟩, ?_⟩
    rintro o ⟨b2, l2, k2, rfl⟩
    refine end_d ?_
    walk_at "r"
    refine ⟨[b1, b2].map sd, rfl, by simp, ?_⟩
    have hf2 : FewOk [b1, b2] := ⟨by simp, fun t ht => by
      simp only [List.mem_cons, List.not_mem_nil, or_false] at ht
      rcases ht with rfl | rfl
      · exact ⟨l1, k1⟩
      · exact ⟨l2, k2⟩⟩
    refine w2_cat (ds := ts.map sd) (at_ext hk) at_app (by simp; omega) ?_
    rw [← List.map_append]
    refine wE_cr ?_
    walk_at "r"
    refine ⟨(), .nil, trivial, ?_⟩
    rintro o ⟨tf, hf3, rfl⟩
    refine end_own ?_
    have hf4 := hf.app hf2 (by simp; omega)
    refine w2_cat (ds := (ts ++ [b1, b2]).map sd) (at_ext at_app) at_app (by have := hf3.1; simp; omega) ?_
    rw [← List.map_append]
    have all : ∀ t ∈ ts ++ [b1, b2] ++ tf, t.length ≤ 800000 ∧ Cps t := fun t ht => by
      have z : t.length ≤ 200001 ∧ Cps t := (List.mem_append.mp ht).elim (hf4.2 t) (hf3.2 t)
      exact ⟨by omega, z.2⟩
    have hz := at_app (l := μ8 ++ [Cell.rw (List.map sd [b1, b2])] ++ [Cell.rw (List.map sd (ts ++ [b1, b2]))] ++ [Cell.rw (List.map sd tf)]) (c := Cell.rw ((ts ++ [b1, b2] ++ tf).map sd))
    generalize (μ8 ++ [Cell.rw (List.map sd [b1, b2])] ++ [Cell.rw (List.map sd (ts ++ [b1, b2]))] ++ [Cell.rw (List.map sd tf)]).length = m at *
    generalize μ8 ++ [Cell.rw (List.map sd [b1, b2])] ++ [Cell.rw (List.map sd (ts ++ [b1, b2]))] ++ [Cell.rw (List.map sd tf)] ++ [Cell.rw ((ts ++ [b1, b2] ++ tf).map sd)] = μ9 at *
    generalize ts ++ [b1, b2] ++ tf = tz at *
    refine ⟨tz.map sd, isL_rw hz, fun i ρ' μ' => ∃ t7, ρ' = [some (.p 0), some (.d (.lst (encSt st))), some (.d (.lst (encP p))), some (.d (sd (txT st))), some (.d (sd (txP p))), some (.d (.int c)), some (.p k), t7, none, none, none, none] ∧ μ'[m]? = some (.rw (tz.map sd)), ⟨_, rfl, hz⟩, fun i ρ' μ' h => ?_, ?_, ?_⟩
    · obtain ⟨_, _, h⟩ := h
      exact isL_rw h
    · rintro i d ρ' μ' hd ⟨t7, rfl, h9⟩
      obtain ⟨w, hw, rfl⟩ := map_at hd
      walk_at "q"
      refine ⟨w, .cons (.d _) .nil, all w (List.mem_of_getElem? hw), ?_⟩
      refine end_d ?_
      walk_at "r"
      exact h9
    · rintro ρ' μ' ⟨t7, rfl, _⟩
      exact ⟨t7, rfl⟩
  rintro ρ' μ' ⟨t7, rfl⟩
  clear hk
  refine wS_ret ?_
  refine wE_cb (wA_cons ?_)
  refine wE_mapL (fun _ => .bl true) (within_name (by decide)) ?_
  refine wE_lst ?_
  refine wA_cons (wE_non ?_)
  refine wA_cons (wE_int ?_)
  refine wA_cons (wE_frz ?_)
  walk_at "r"
  refine ⟨[sd [49, 64, 49]], rfl, by simp, ?_⟩
  refine ⟨_, _, rfl, at_app, ?_⟩
  walk_at "r"
  refine ⟨[.non, .int 5, .lst [sd [49, 64, 49]], .bl true], rfl, by simp, ?_⟩
  refine ⟨_, isL_app, by simp, fun d hd acc => ?_, ?_⟩
  · have hd3 : PreT d ∧ textOf d = none := by
      simp only [List.mem_cons, List.not_mem_nil, or_false] at hd
      rcases hd with rfl | rfl | rfl | rfl <;> exact ⟨⟨rfl, (fun _ h => by cases h)⟩, rfl⟩
    have e0 : c__law_refused.out (0, d) = .ret (.d (.bl true)) := by
      show Out.ret (.d (.bl (if 0 = 0 then (tasteD' d).isNone else (pieceD' d).isNone))) = _
      rw [if_pos rfl]
      unfold tasteD'
      rw [hd3.2]
      rfl
    have e1 : c__law_refused.out (1, d) = .ret (.d (.bl true)) := by
      show Out.ret (.d (.bl (if 1 = 0 then (tasteD' d).isNone else (pieceD' d).isNone))) = _
      rw [if_neg (by decide)]
      unfold pieceD'
      rw [hd3.2]
      rfl
    walk_at "r"
    refine ⟨(0, d), .cons (.d _) (.cons (arg_in d) .nil), hd3.1, ?_⟩
    rw [e0]
    refine end_d ?_
    walk_at "r"
    refine ⟨(1, d), .cons (.d _) (.cons (arg_in d) .nil), hd3.1, ?_⟩
    rw [e1]
    exact ⟨rfl, rfl⟩
  walk_at "r"
  refine wC_all (bs := [true, true, true, true]) (isL_rw at_app) ?_
  exact ret_d rfl
theorem ok_law (T : Top G.K mg "law" s_law ["_law_script"]) (D__law_steps_by : Def P w G.K mg base "_law_steps_by" 2 ["_law_cell"] (spC G X c__law_steps_by)) (D__law_cell_at : Def P w G.K mg base "_law_cell_at" 1 ["_law_script", "_law_k"] (spC G X c__law_cell_at)) (D__law_piece_by : Def P w G.K mg base "_law_piece_by" 2 ["_law_cell"] (spC G X c5_piece_by)) (D_taste_text : Def P w G.K mg base "taste_text" 2 ["taste"] (spC G X c_taste_text)) (D_Taste___init__ : Ini P w G mg base 0 5 ["self", "steps"] (spI G X (G.cl 0) c_Taste___init__)) (D_piece_text : Def P w G.K mg base "piece_text" 5 ["piece"] (spC G X c_piece_text)) (D__law_text : Def P w G.K mg base "_law_text" 1 ["_law_one"] (spC G X c_fraction_text)) (D_piece_of : DefW P w G.K mg base "piece_of" 5 ["text"] (spC G X c14_piece_of)) (D_taste_of : DefW P w G.K mg base "taste_of" 7 ["text"] (spC G X c_taste_of)) (D__law_other : Def P w G.K mg base "_law_other" 2 ["_law_text_here", "_law_cell", "_law_k"] (spR G X c__law_other)) (D__law_few : Def P w G.K mg base "_law_few" 1 [] (spR G X c__law_few)) (D__law_read_right : Def P w G.K mg base "_law_read_right" 9 ["_law_text_here"] (spC G X c__law_read_right)) (D__law_refused : Def P w G.K mg base "_law_refused" 8 ["_law_which", "_law_text_here"] (spC G X c__law_refused)) (D_Taste_steps : Met P w G mg base 0 "steps" 1 ["self"] (spC G X c_Taste_steps)) (z_list : mg "list" = none) (z_str : mg "str" = none) (z_all : mg "all" = none) (Mk_Taste : ClsG mg "Taste" (G.cl 0)) (Cl_Taste : Cls G.K (G.cl 0)) : Def P w G.K mg base "law" 10 ["_law_script"] (spC G X c_law) := def_of T fun f fd F => fn_law F D__law_steps_by D__law_cell_at D__law_piece_by D_taste_text D_Taste___init__ D_piece_text D__law_text D_piece_of D_taste_of D__law_other D__law_few D__law_read_right D__law_refused D_Taste_steps z_list z_str z_all Mk_Taste Cl_Taste
end
section
variable {P : Program} {w : World} {mg : Str → Option Value} {G : Gx} {X : Ex}
theorem all_mk {f : Addr} {fd : FuncData} (F : Fun G.K "law" "law" s_law f fd) (T_is_whole : Top G.K mg "is_whole" s_is_whole ["number"]) (T_lowest : Top G.K mg "lowest" s_lowest ["a", "b"]) (T_is_fraction : Top G.K mg "is_fraction" s_is_fraction ["thing"]) (T_plus : Top G.K mg "plus" s_plus ["one", "other"]) (T_minus : Top G.K mg "minus" s_minus ["one", "other"]) (T_times : Top G.K mg "times" s_times ["one", "other"]) (T_below : Top G.K mg "below" s_below ["one", "other"]) (T_lesser : Top G.K mg "lesser" s_lesser ["one", "other"]) (T_greater : Top G.K mg "greater" s_greater ["one", "other"]) (T_is_span : Top G.K mg "is_span" s_is_span ["thing"]) (T_check_piece : Top G.K mg "check_piece" s_check_piece ["piece"]) (T_is_step : Top G.K mg "is_step" s_is_step ["thing"]) (T_check_steps : Top G.K mg "check_steps" s_check_steps ["steps"]) (T_Taste___init__ : TopI G 0 "Taste.__init__" s_Taste___init__ ["self", "steps"]) (T_Taste_steps : TopM G 0 "steps" "Taste.steps" s_Taste_steps ["self"]) (T_Taste_area : TopM G 0 "area" "Taste.area" s_Taste_area ["self", "start", "end"]) (T_fraction_text : Top G.K mg "fraction_text" s_fraction_text ["one"]) (T_number_of : Top G.K mg "number_of" s_number_of ["text"]) (T_fraction_of : Top G.K mg "fraction_of" s_fraction_of ["text"]) (T_taste_text : Top G.K mg "taste_text" s_taste_text ["taste"]) (T_piece_text : Top G.K mg "piece_text" s_piece_text ["piece"]) (T_taste_of : Top G.K mg "taste_of" s_taste_of ["text"]) (T_piece_of : Top G.K mg "piece_of" s_piece_of ["text"]) (T__law_cell_at : Top G.K mg "_law_cell_at" s__law_cell_at ["_law_script", "_law_k"]) (T__law_mixed : Top G.K mg "_law_mixed" s__law_mixed ["_law_cell", "_law_k"]) (T__law_low : Top G.K mg "_law_low" s__law_low ["_law_a", "_law_b"]) (T__law_less : Top G.K mg "_law_less" s__law_less ["_law_one", "_law_other_here"]) (T__law_steps_by : Top G.K mg "_law_steps_by" s__law_steps_by ["_law_cell"]) (T__law_piece_by : Top G.K mg "_law_piece_by" s__law_piece_by ["_law_cell"]) (T__law_text : Top G.K mg "_law_text" s__law_text ["_law_one"]) (T__law_number : Top G.K mg "_law_number" s__law_number ["_law_text_here"]) (T__law_fraction_of : Top G.K mg "_law_fraction_of" s__law_fraction_of ["_law_text_here"]) (T__law_steps_of : Top G.K mg "_law_steps_of" s__law_steps_of ["_law_text_here"]) (T__law_spans_of : Top G.K mg "_law_spans_of" s__law_spans_of ["_law_text_here"]) (T__law_refused : Top G.K mg "_law_refused" s__law_refused ["_law_which", "_law_text_here"]) (T__law_read_right : Top G.K mg "_law_read_right" s__law_read_right ["_law_text_here"]) (T__law_other : Top G.K mg "_law_other" s__law_other ["_law_text_here", "_law_cell", "_law_k"]) (T__law_few : Top G.K mg "_law_few" s__law_few []) (z_isinstance : mg "isinstance" = none) (z_bool : mg "bool" = none) (z_int : mg "int" = none) (z_len : mg "len" = none) (z_tuple : mg "tuple" = none) (Mc_ONE : CstT G mg "ONE" (encF 1)) (z_all : mg "all" = none) (z_list : mg "list" = none) (z_range : mg "range" = none) (X_BadPiece : ExcOk G.K mg "BadPiece" (X 2)) (Mc_HEAVIEST : CstI mg "HEAVIEST" 1000) (Mc_MOST : CstI mg "MOST" 8) (Mc_NOUGHT : CstT G mg "NOUGHT" (encF 0)) (X_BadTaste : ExcOk G.K mg "BadTaste" (X 1)) (Na_rows : NoAttr G.K (G.cl 0) "rows") (Na_total : NoAttr G.K (G.cl 0) "total") (Cl_Taste : Cls G.K (G.cl 0)) (h8 : G.cl 8 = G.cl 0) (z_str : mg "str" = none) (Mc_FIGURES : CstS mg "FIGURES" "0123456789") (Mc_LONGEST : CstI mg "LONGEST" 300) (X_BadText : ExcOk G.K mg "BadText" (X 5)) (Mk_Taste : ClsG mg "Taste" (G.cl 0)) (XM_BadTaste : PySem.W.exmOne G.K (.ref (X 1)) (.ref (X 1)) = some true) (XM_BadPiece : PySem.W.exmOne G.K (.ref (X 2)) (.ref (X 2)) = some true) (z_sorted : mg "sorted" = none) (z_any : mg "any" = none) (z_ValueError : mg "ValueError" = none) (X_CakeError : ExcOk G.K mg "CakeError" (X 6)) (X_BadFraction : ExcOk G.K mg "BadFraction" (X 0)) (X_BadTakers : ExcOk G.K mg "BadTakers" (X 3)) (X_TooLittle : ExcOk G.K mg "TooLittle" (X 4)) (XK : ExcKit G X (X 6)) (base : Heap) : FnOk P w G.K mg base (L2N.CX P w) 10 f fd ["_law_script"] (spLaw G.K) := by
  have D_is_whole : Def P w G.K mg base "is_whole" 1 ["number"] (spC G X c_is_whole) := ok_is_whole T_is_whole z_isinstance z_bool z_int
  have D_lowest : Def P w G.K mg base "lowest" 1 ["a", "b"] (spC G X c_lowest) := ok_lowest T_lowest 
  have D_is_fraction : Def P w G.K mg base "is_fraction" 2 ["thing"] (spC G X c_is_fraction) := ok_is_fraction T_is_fraction D_is_whole D_lowest z_len z_isinstance z_tuple
  have D_plus : Def P w G.K mg base "plus" 2 ["one", "other"] (spC G X c_plus) := ok_plus T_plus D_lowest
  have D_minus : Def P w G.K mg base "minus" 2 ["one", "other"] (spC G X c_minus) := ok_minus T_minus D_lowest
  have D_times : Def P w G.K mg base "times" 2 ["one", "other"] (spC G X c_times) := ok_times T_times D_lowest
  have D_below : Def P w G.K mg base "below" 1 ["one", "other"] (spC G X c_below) := ok_below T_below 
  have D_lesser : Def P w G.K mg base "lesser" 2 ["one", "other"] (spC G X c_lesser) := ok_lesser T_lesser D_below
  have D_greater : Def P w G.K mg base "greater" 2 ["one", "other"] (spC G X c_greater) := ok_greater T_greater D_below
  have D_is_span : Def P w G.K mg base "is_span" 3 ["thing"] (spC G X c_is_span) := ok_is_span T_is_span D_is_fraction D_below z_len z_isinstance z_tuple Mc_ONE
  have D_check_piece : Def P w G.K mg base "check_piece" 4 ["piece"] (spC G X c_check_piece) := ok_check_piece T_check_piece D_is_span D_below z_all z_isinstance z_list z_range z_len X_BadPiece
  have D_is_step : Def P w G.K mg base "is_step" 3 ["thing"] (spC G X c_is_step) := ok_is_step T_is_step D_is_whole D_is_fraction z_len z_isinstance z_tuple Mc_HEAVIEST
  have D_check_steps : Def P w G.K mg base "check_steps" 4 ["steps"] (spC G X c_check_steps) := ok_check_steps T_check_steps D_is_step D_below z_all z_len z_isinstance z_list Mc_MOST Mc_NOUGHT Mc_ONE X_BadTaste
  have D_Taste_area : Met P w G mg base 0 "area" 3 ["self", "start", "end"] (spC G X c_Taste_area) := ok_Taste_area T_Taste_area D_greater D_lesser D_below D_plus D_times D_minus Mc_NOUGHT Na_rows Cl_Taste h8
  have D_Taste___init__ : Ini P w G mg base 0 5 ["self", "steps"] (spI G X (G.cl 0) c_Taste___init__) := ok_Taste___init__ T_Taste___init__ D_check_steps D_Taste_area Mc_NOUGHT Mc_ONE Na_rows Na_total Cl_Taste h8
  have D_Taste_steps : Met P w G mg base 0 "steps" 1 ["self"] (spC G X c_Taste_steps) := ok_Taste_steps T_Taste_steps Na_rows Cl_Taste h8
  have D_fraction_text : Def P w G.K mg base "fraction_text" 1 ["one"] (spC G X c_fraction_text) := ok_fraction_text T_fraction_text z_str
  have D_number_of : Def P w G.K mg base "number_of" 1 ["text"] (spC G X c_number_of) := ok_number_of T_number_of z_all z_len z_int Mc_FIGURES Mc_LONGEST X_BadText
  have D_fraction_of : Def P w G.K mg base "fraction_of" 2 ["text"] (spC G X c_fraction_of) := ok_fraction_of T_fraction_of D_number_of D_lowest X_BadText
  have D_taste_text : Def P w G.K mg base "taste_text" 2 ["taste"] (spC G X c_taste_text) := ok_taste_text T_taste_text D_fraction_text D_Taste_steps z_str Cl_Taste
  have D_piece_text : Def P w G.K mg base "piece_text" 5 ["piece"] (spC G X c_piece_text) := ok_piece_text T_piece_text D_check_piece D_fraction_text
  have D_taste_of : DefW P w G.K mg base "taste_of" 7 ["text"] (spC G X c_taste_of) := ok_taste_of T_taste_of D_number_of D_fraction_of D_Taste___init__ z_isinstance z_str Mk_Taste XM_BadTaste X_BadText X_BadTaste
  have D_piece_of : DefW P w G.K mg base "piece_of" 5 ["text"] (spC G X c14_piece_of) := ok_piece_of T_piece_of D_fraction_of D_check_piece z_isinstance z_str XM_BadPiece X_BadText X_BadPiece
  have D__law_cell_at : Def P w G.K mg base "_law_cell_at" 1 ["_law_script", "_law_k"] (spC G X c__law_cell_at) := ok__law_cell_at T__law_cell_at z_len
  have D__law_mixed : Def P w G.K mg base "_law_mixed" 1 ["_law_cell", "_law_k"] (spC G X c__law_mixed) := ok__law_mixed T__law_mixed 
  have D__law_low : Def P w G.K mg base "_law_low" 1 ["_law_a", "_law_b"] (spC G X c_lowest) := ok__law_low T__law_low 
  have D__law_less : Def P w G.K mg base "_law_less" 1 ["_law_one", "_law_other_here"] (spC G X c_below) := ok__law_less T__law_less 
  have D__law_steps_by : Def P w G.K mg base "_law_steps_by" 2 ["_law_cell"] (spC G X c__law_steps_by) := ok__law_steps_by T__law_steps_by D__law_mixed D__law_low z_range z_sorted z_len
  have D__law_piece_by : Def P w G.K mg base "_law_piece_by" 2 ["_law_cell"] (spC G X c5_piece_by) := ok__law_piece_by T__law_piece_by D__law_mixed D__law_low z_range z_sorted z_len
  have D__law_text : Def P w G.K mg base "_law_text" 1 ["_law_one"] (spC G X c_fraction_text) := ok__law_text T__law_text z_str
  have D__law_number : Def P w G.K mg base "_law_number" 1 ["_law_text_here"] (spC G X c__law_number) := ok__law_number T__law_number z_any z_len z_str z_int
  have D__law_fraction_of : Def P w G.K mg base "_law_fraction_of" 2 ["_law_text_here"] (spC G X c__law_fraction_of) := ok__law_fraction_of T__law_fraction_of D__law_number D__law_low
  have D__law_steps_of : Def P w G.K mg base "_law_steps_of" 3 ["_law_text_here"] (spC G X c__law_steps_of) := ok__law_steps_of T__law_steps_of D__law_fraction_of D__law_number D__law_less z_len
  have D__law_spans_of : Def P w G.K mg base "_law_spans_of" 3 ["_law_text_here"] (spC G X c__law_spans_of) := ok__law_spans_of T__law_spans_of D__law_fraction_of D__law_less
  have D__law_refused : Def P w G.K mg base "_law_refused" 8 ["_law_which", "_law_text_here"] (spC G X c__law_refused) := ok__law_refused T__law_refused D_taste_of D_piece_of z_isinstance z_ValueError X_CakeError X_BadFraction X_BadTaste X_BadPiece X_BadTakers X_TooLittle X_BadText XK
  have D__law_read_right : Def P w G.K mg base "_law_read_right" 9 ["_law_text_here"] (spC G X c__law_read_right) := ok__law_read_right T__law_read_right D__law_steps_of D__law_spans_of D_taste_of D__law_refused D_piece_of D_Taste_steps Cl_Taste
  have D__law_other : Def P w G.K mg base "_law_other" 2 ["_law_text_here", "_law_cell", "_law_k"] (spR G X c__law_other) := ok__law_other T__law_other D__law_mixed z_len
  have D__law_few : Def P w G.K mg base "_law_few" 1 [] (spR G X c__law_few) := ok__law_few T__law_few z_range z_str
  exact law_fn (fn_law F D__law_steps_by D__law_cell_at D__law_piece_by D_taste_text D_Taste___init__ D_piece_text D__law_text D_piece_of D_taste_of D__law_other D__law_few D__law_read_right D__law_refused D_Taste_steps z_list z_str z_all Mk_Taste Cl_Taste)
end
end L3
open PySem PySem.W PyProof.Rows
set_option maxRecDepth 100000 in
set_option maxHeartbeats 0 in
theorem PySem.Challenge.cw_fairknife_k14_written_holds : PySem.Challenge.rw_fairknife_k14_written.Holds := by
  w_on; o_law; k_head; (case hw => w_witness2)
  k_fill
  refine L2.walk_of (l := PySem.Challenge.rw_fairknife_k14_written) (n := 63) (k := 10) (x := "_law_script") (CX := fun w => L2N.CX PySem.Challenge.rw_fairknife_k14_written.prog w) (sp := fun w => L3.spLaw _) rfl (by decide) rfl ⟨rfl, by decide, by decide⟩ (fun w h Y => PySem.W.kIn_of Y) ?F (fun _ _ a ns hl _ hS => ⟨a, ns, rfl, hS, hl, fun _ => rfl⟩) (fun _ _ _ _ _ h => L3.cx_false h)
  case F =>
    intro w mg fa h KX G hmg
    replace hmg : mg "law" = some (.ref fa) := hmg
    refine' L3.bind_ (L3.clsG_mk (x := "Taste") KX G ?a) ?go
    (case a => k_is)
    case go =>
    intro Mk_Taste
    refine' L3.bind_ (L3.top_mk (x := "is_whole") (st := L3.s_is_whole) (ps := ["number"]) KX G ?a ?l ?c ?k ?b) ?go
    (case a => k_is); (case l => k_is); (case c => k_is); (case k => k_is); (case b => exact fun _ _ _ _ _ _ us hl => match us, hl with | [_], _ => rfl)
    case go =>
    intro T_is_whole
    refine' L3.bind_ (L3.top_mk (x := "lowest") (st := L3.s_lowest) (ps := ["a", "b"]) KX G ?a ?l ?c ?k ?b) ?go
    (case a => k_is); (case l => k_is); (case c => k_is); (case k => k_is); (case b => exact fun _ _ _ _ _ _ us hl => match us, hl with | [_, _], _ => rfl)
    case go =>
    intro T_lowest
    refine' L3.bind_ (L3.top_mk (x := "is_fraction") (st := L3.s_is_fraction) (ps := ["thing"]) KX G ?a ?l ?c ?k ?b) ?go
    (case a => k_is); (case l => k_is); (case c => k_is); (case k => k_is); (case b => exact fun _ _ _ _ _ _ us hl => match us, hl with | [_], _ => rfl)
    case go =>
    intro T_is_fraction
    refine' L3.bind_ (L3.top_mk (x := "plus") (st := L3.s_plus) (ps := ["one", "other"]) KX G ?a ?l ?c ?k ?b) ?go
    (case a => k_is); (case l => k_is); (case c => k_is); (case k => k_is); (case b => exact fun _ _ _ _ _ _ us hl => match us, hl with | [_, _], _ => rfl)
    case go =>
    intro T_plus
    refine' L3.bind_ (L3.top_mk (x := "minus") (st := L3.s_minus) (ps := ["one", "other"]) KX G ?a ?l ?c ?k ?b) ?go
    (case a => k_is); (case l => k_is); (case c => k_is); (case k => k_is); (case b => exact fun _ _ _ _ _ _ us hl => match us, hl with | [_, _], _ => rfl)
    case go =>
    intro T_minus
    refine' L3.bind_ (L3.top_mk (x := "times") (st := L3.s_times) (ps := ["one", "other"]) KX G ?a ?l ?c ?k ?b) ?go
    (case a => k_is); (case l => k_is); (case c => k_is); (case k => k_is); (case b => exact fun _ _ _ _ _ _ us hl => match us, hl with | [_, _], _ => rfl)
    case go =>
    intro T_times
    refine' L3.bind_ (L3.top_mk (x := "below") (st := L3.s_below) (ps := ["one", "other"]) KX G ?a ?l ?c ?k ?b) ?go
    (case a => k_is); (case l => k_is); (case c => k_is); (case k => k_is); (case b => exact fun _ _ _ _ _ _ us hl => match us, hl with | [_, _], _ => rfl)
    case go =>
    intro T_below
    refine' L3.bind_ (L3.top_mk (x := "lesser") (st := L3.s_lesser) (ps := ["one", "other"]) KX G ?a ?l ?c ?k ?b) ?go
    (case a => k_is); (case l => k_is); (case c => k_is); (case k => k_is); (case b => exact fun _ _ _ _ _ _ us hl => match us, hl with | [_, _], _ => rfl)
    case go =>
    intro T_lesser
    refine' L3.bind_ (L3.top_mk (x := "greater") (st := L3.s_greater) (ps := ["one", "other"]) KX G ?a ?l ?c ?k ?b) ?go
    (case a => k_is); (case l => k_is); (case c => k_is); (case k => k_is); (case b => exact fun _ _ _ _ _ _ us hl => match us, hl with | [_, _], _ => rfl)
    case go =>
    intro T_greater
    refine' L3.bind_ (L3.top_mk (x := "is_span") (st := L3.s_is_span) (ps := ["thing"]) KX G ?a ?l ?c ?k ?b) ?go
    (case a => k_is); (case l => k_is); (case c => k_is); (case k => k_is); (case b => exact fun _ _ _ _ _ _ us hl => match us, hl with | [_], _ => rfl)
    case go =>
    intro T_is_span
    refine' L3.bind_ (L3.top_mk (x := "check_piece") (st := L3.s_check_piece) (ps := ["piece"]) KX G ?a ?l ?c ?k ?b) ?go
    (case a => k_is); (case l => k_is); (case c => k_is); (case k => k_is); (case b => exact fun _ _ _ _ _ _ us hl => match us, hl with | [_], _ => rfl)
    case go =>
    intro T_check_piece
    refine' L3.bind_ (L3.top_mk (x := "is_step") (st := L3.s_is_step) (ps := ["thing"]) KX G ?a ?l ?c ?k ?b) ?go
    (case a => k_is); (case l => k_is); (case c => k_is); (case k => k_is); (case b => exact fun _ _ _ _ _ _ us hl => match us, hl with | [_], _ => rfl)
    case go =>
    intro T_is_step
    refine' L3.bind_ (L3.top_mk (x := "check_steps") (st := L3.s_check_steps) (ps := ["steps"]) KX G ?a ?l ?c ?k ?b) ?go
    (case a => k_is); (case l => k_is); (case c => k_is); (case k => k_is); (case b => exact fun _ _ _ _ _ _ us hl => match us, hl with | [_], _ => rfl)
    case go =>
    intro T_check_steps
    refine' L3.bind_ (L3.topI_mk (qual := "Taste.__init__") (st := L3.s_Taste___init__) (ps := ["self", "steps"]) KX Mk_Taste ?mk ?a ?i ?kc ?l ?c ?k ?b) ?go
    (case mk => k_is); (case a => k_is); (case i => k_is); (case kc => k_is); (case l => k_is); (case c => k_is); (case k => k_is); (case b => exact fun _ _ _ _ _ _ us hl => match us, hl with | [_, _], _ => rfl)
    case go =>
    intro T_Taste___init__
    refine' L3.bind_ (L3.topM_mk (m := "steps") (qual := "Taste.steps") (st := L3.s_Taste_steps) (ps := ["self"]) KX Mk_Taste ?a ?i ?l ?c ?k ?b) ?go
    (case a => k_is); (case i => k_is); (case l => k_is); (case c => k_is); (case k => k_is); (case b => exact fun _ _ _ _ _ _ us hl => match us, hl with | [_], _ => rfl)
    case go =>
    intro T_Taste_steps
    refine' L3.bind_ (L3.topM_mk (m := "area") (qual := "Taste.area") (st := L3.s_Taste_area) (ps := ["self", "start", "end"]) KX Mk_Taste ?a ?i ?l ?c ?k ?b) ?go
    (case a => k_is); (case i => k_is); (case l => k_is); (case c => k_is); (case k => k_is); (case b => exact fun _ _ _ _ _ _ us hl => match us, hl with | [_, _, _], _ => rfl)
    case go =>
    intro T_Taste_area
    refine' L3.bind_ (L3.top_mk (x := "fraction_text") (st := L3.s_fraction_text) (ps := ["one"]) KX G ?a ?l ?c ?k ?b) ?go
    (case a => k_is); (case l => k_is); (case c => k_is); (case k => k_is); (case b => exact fun _ _ _ _ _ _ us hl => match us, hl with | [_], _ => rfl)
    case go =>
    intro T_fraction_text
    refine' L3.bind_ (L3.top_mk (x := "number_of") (st := L3.s_number_of) (ps := ["text"]) KX G ?a ?l ?c ?k ?b) ?go
    (case a => k_is); (case l => k_is); (case c => k_is); (case k => k_is); (case b => exact fun _ _ _ _ _ _ us hl => match us, hl with | [_], _ => rfl)
    case go =>
    intro T_number_of
    refine' L3.bind_ (L3.top_mk (x := "fraction_of") (st := L3.s_fraction_of) (ps := ["text"]) KX G ?a ?l ?c ?k ?b) ?go
    (case a => k_is); (case l => k_is); (case c => k_is); (case k => k_is); (case b => exact fun _ _ _ _ _ _ us hl => match us, hl with | [_], _ => rfl)
    case go =>
    intro T_fraction_of
    refine' L3.bind_ (L3.top_mk (x := "taste_text") (st := L3.s_taste_text) (ps := ["taste"]) KX G ?a ?l ?c ?k ?b) ?go
    (case a => k_is); (case l => k_is); (case c => k_is); (case k => k_is); (case b => exact fun _ _ _ _ _ _ us hl => match us, hl with | [_], _ => rfl)
    case go =>
    intro T_taste_text
    refine' L3.bind_ (L3.top_mk (x := "piece_text") (st := L3.s_piece_text) (ps := ["piece"]) KX G ?a ?l ?c ?k ?b) ?go
    (case a => k_is); (case l => k_is); (case c => k_is); (case k => k_is); (case b => exact fun _ _ _ _ _ _ us hl => match us, hl with | [_], _ => rfl)
    case go =>
    intro T_piece_text
    refine' L3.bind_ (L3.top_mk (x := "taste_of") (st := L3.s_taste_of) (ps := ["text"]) KX G ?a ?l ?c ?k ?b) ?go
    (case a => k_is); (case l => k_is); (case c => k_is); (case k => k_is); (case b => exact fun _ _ _ _ _ _ us hl => match us, hl with | [_], _ => rfl)
    case go =>
    intro T_taste_of
    refine' L3.bind_ (L3.top_mk (x := "piece_of") (st := L3.s_piece_of) (ps := ["text"]) KX G ?a ?l ?c ?k ?b) ?go
    (case a => k_is); (case l => k_is); (case c => k_is); (case k => k_is); (case b => exact fun _ _ _ _ _ _ us hl => match us, hl with | [_], _ => rfl)
    case go =>
    intro T_piece_of
    refine' L3.bind_ (L3.top_mk (x := "_law_cell_at") (st := L3.s__law_cell_at) (ps := ["_law_script", "_law_k"]) KX G ?a ?l ?c ?k ?b) ?go
    (case a => k_is); (case l => k_is); (case c => k_is); (case k => k_is); (case b => exact fun _ _ _ _ _ _ us hl => match us, hl with | [_, _], _ => rfl)
    case go =>
    intro T__law_cell_at
    refine' L3.bind_ (L3.top_mk (x := "_law_mixed") (st := L3.s__law_mixed) (ps := ["_law_cell", "_law_k"]) KX G ?a ?l ?c ?k ?b) ?go
    (case a => k_is); (case l => k_is); (case c => k_is); (case k => k_is); (case b => exact fun _ _ _ _ _ _ us hl => match us, hl with | [_, _], _ => rfl)
    case go =>
    intro T__law_mixed
    refine' L3.bind_ (L3.top_mk (x := "_law_low") (st := L3.s__law_low) (ps := ["_law_a", "_law_b"]) KX G ?a ?l ?c ?k ?b) ?go
    (case a => k_is); (case l => k_is); (case c => k_is); (case k => k_is); (case b => exact fun _ _ _ _ _ _ us hl => match us, hl with | [_, _], _ => rfl)
    case go =>
    intro T__law_low
    refine' L3.bind_ (L3.top_mk (x := "_law_less") (st := L3.s__law_less) (ps := ["_law_one", "_law_other_here"]) KX G ?a ?l ?c ?k ?b) ?go
    (case a => k_is); (case l => k_is); (case c => k_is); (case k => k_is); (case b => exact fun _ _ _ _ _ _ us hl => match us, hl with | [_, _], _ => rfl)
    case go =>
    intro T__law_less
    refine' L3.bind_ (L3.top_mk (x := "_law_steps_by") (st := L3.s__law_steps_by) (ps := ["_law_cell"]) KX G ?a ?l ?c ?k ?b) ?go
    (case a => k_is); (case l => k_is); (case c => k_is); (case k => k_is); (case b => exact fun _ _ _ _ _ _ us hl => match us, hl with | [_], _ => rfl)
    case go =>
    intro T__law_steps_by
    refine' L3.bind_ (L3.top_mk (x := "_law_piece_by") (st := L3.s__law_piece_by) (ps := ["_law_cell"]) KX G ?a ?l ?c ?k ?b) ?go
    (case a => k_is); (case l => k_is); (case c => k_is); (case k => k_is); (case b => exact fun _ _ _ _ _ _ us hl => match us, hl with | [_], _ => rfl)
    case go =>
    intro T__law_piece_by
    refine' L3.bind_ (L3.top_mk (x := "_law_text") (st := L3.s__law_text) (ps := ["_law_one"]) KX G ?a ?l ?c ?k ?b) ?go
    (case a => k_is); (case l => k_is); (case c => k_is); (case k => k_is); (case b => exact fun _ _ _ _ _ _ us hl => match us, hl with | [_], _ => rfl)
    case go =>
    intro T__law_text
    refine' L3.bind_ (L3.top_mk (x := "_law_number") (st := L3.s__law_number) (ps := ["_law_text_here"]) KX G ?a ?l ?c ?k ?b) ?go
    (case a => k_is); (case l => k_is); (case c => k_is); (case k => k_is); (case b => exact fun _ _ _ _ _ _ us hl => match us, hl with | [_], _ => rfl)
    case go =>
    intro T__law_number
    refine' L3.bind_ (L3.top_mk (x := "_law_fraction_of") (st := L3.s__law_fraction_of) (ps := ["_law_text_here"]) KX G ?a ?l ?c ?k ?b) ?go
    (case a => k_is); (case l => k_is); (case c => k_is); (case k => k_is); (case b => exact fun _ _ _ _ _ _ us hl => match us, hl with | [_], _ => rfl)
    case go =>
    intro T__law_fraction_of
    refine' L3.bind_ (L3.top_mk (x := "_law_steps_of") (st := L3.s__law_steps_of) (ps := ["_law_text_here"]) KX G ?a ?l ?c ?k ?b) ?go
    (case a => k_is); (case l => k_is); (case c => k_is); (case k => k_is); (case b => exact fun _ _ _ _ _ _ us hl => match us, hl with | [_], _ => rfl)
    case go =>
    intro T__law_steps_of
    refine' L3.bind_ (L3.top_mk (x := "_law_spans_of") (st := L3.s__law_spans_of) (ps := ["_law_text_here"]) KX G ?a ?l ?c ?k ?b) ?go
    (case a => k_is); (case l => k_is); (case c => k_is); (case k => k_is); (case b => exact fun _ _ _ _ _ _ us hl => match us, hl with | [_], _ => rfl)
    case go =>
    intro T__law_spans_of
    refine' L3.bind_ (L3.top_mk (x := "_law_refused") (st := L3.s__law_refused) (ps := ["_law_which", "_law_text_here"]) KX G ?a ?l ?c ?k ?b) ?go
    (case a => k_is); (case l => k_is); (case c => k_is); (case k => k_is); (case b => exact fun _ _ _ _ _ _ us hl => match us, hl with | [_, _], _ => rfl)
    case go =>
    intro T__law_refused
    refine' L3.bind_ (L3.top_mk (x := "_law_read_right") (st := L3.s__law_read_right) (ps := ["_law_text_here"]) KX G ?a ?l ?c ?k ?b) ?go
    (case a => k_is); (case l => k_is); (case c => k_is); (case k => k_is); (case b => exact fun _ _ _ _ _ _ us hl => match us, hl with | [_], _ => rfl)
    case go =>
    intro T__law_read_right
    refine' L3.bind_ (L3.top_mk (x := "_law_other") (st := L3.s__law_other) (ps := ["_law_text_here", "_law_cell", "_law_k"]) KX G ?a ?l ?c ?k ?b) ?go
    (case a => k_is); (case l => k_is); (case c => k_is); (case k => k_is); (case b => exact fun _ _ _ _ _ _ us hl => match us, hl with | [_, _, _], _ => rfl)
    case go =>
    intro T__law_other
    refine' L3.bind_ (L3.top_mk (x := "_law_few") (st := L3.s__law_few) (ps := []) KX G ?a ?l ?c ?k ?b) ?go
    (case a => k_is); (case l => k_is); (case c => k_is); (case k => k_is); (case b => exact fun _ _ _ _ _ _ us hl => match us, hl with | [], _ => rfl)
    case go =>
    intro T__law_few
    refine' L3.bind_ (L3.excAll_mk (x := "BadFraction") KX G ?a ?x ?k ?b ?t ?i ?g1 ?g2 ?d ?ha ?hn ?ht ?hm) ?go
    (case a => k_is); (case x => k_exc); (case k => k_is); (case b => k_is); (case t => k_is); (case i => k_is); (case g1 => k_is); (case g2 => k_is); (case d => k_is); (case ha => k_is); (case hn => k_is); (case ht => k_is); (case hm => k_is)
    case go =>
    intro Ea_BadFraction
    refine' L3.bind_ (L3.excAll_mk (x := "BadTaste") KX G ?a ?x ?k ?b ?t ?i ?g1 ?g2 ?d ?ha ?hn ?ht ?hm) ?go
    (case a => k_is); (case x => k_exc); (case k => k_is); (case b => k_is); (case t => k_is); (case i => k_is); (case g1 => k_is); (case g2 => k_is); (case d => k_is); (case ha => k_is); (case hn => k_is); (case ht => k_is); (case hm => k_is)
    case go =>
    intro Ea_BadTaste
    refine' L3.bind_ (L3.excAll_mk (x := "BadPiece") KX G ?a ?x ?k ?b ?t ?i ?g1 ?g2 ?d ?ha ?hn ?ht ?hm) ?go
    (case a => k_is); (case x => k_exc); (case k => k_is); (case b => k_is); (case t => k_is); (case i => k_is); (case g1 => k_is); (case g2 => k_is); (case d => k_is); (case ha => k_is); (case hn => k_is); (case ht => k_is); (case hm => k_is)
    case go =>
    intro Ea_BadPiece
    refine' L3.bind_ (L3.excAll_mk (x := "BadTakers") KX G ?a ?x ?k ?b ?t ?i ?g1 ?g2 ?d ?ha ?hn ?ht ?hm) ?go
    (case a => k_is); (case x => k_exc); (case k => k_is); (case b => k_is); (case t => k_is); (case i => k_is); (case g1 => k_is); (case g2 => k_is); (case d => k_is); (case ha => k_is); (case hn => k_is); (case ht => k_is); (case hm => k_is)
    case go =>
    intro Ea_BadTakers
    refine' L3.bind_ (L3.excAll_mk (x := "TooLittle") KX G ?a ?x ?k ?b ?t ?i ?g1 ?g2 ?d ?ha ?hn ?ht ?hm) ?go
    (case a => k_is); (case x => k_exc); (case k => k_is); (case b => k_is); (case t => k_is); (case i => k_is); (case g1 => k_is); (case g2 => k_is); (case d => k_is); (case ha => k_is); (case hn => k_is); (case ht => k_is); (case hm => k_is)
    case go =>
    intro Ea_TooLittle
    refine' L3.bind_ (L3.excAll_mk (x := "BadText") KX G ?a ?x ?k ?b ?t ?i ?g1 ?g2 ?d ?ha ?hn ?ht ?hm) ?go
    (case a => k_is); (case x => k_exc); (case k => k_is); (case b => k_is); (case t => k_is); (case i => k_is); (case g1 => k_is); (case g2 => k_is); (case d => k_is); (case ha => k_is); (case hn => k_is); (case ht => k_is); (case hm => k_is)
    case go =>
    intro Ea_BadText
    refine' L3.bind_ (L3.excAll_mk (x := "CakeError") KX G ?a ?x ?k ?b ?t ?i ?g1 ?g2 ?d ?ha ?hn ?ht ?hm) ?go
    (case a => k_is); (case x => k_exc); (case k => k_is); (case b => k_is); (case t => k_is); (case i => k_is); (case g1 => k_is); (case g2 => k_is); (case d => k_is); (case ha => k_is); (case hn => k_is); (case ht => k_is); (case hm => k_is)
    case go =>
    intro Ea_CakeError
    refine' L3.bind_ (L3.exm_mk KX Ea_BadFraction Ea_BadFraction ?s) ?go
    (case s => k_is)
    case go =>
    intro XM_BadFraction
    refine' L3.bind_ (L3.exm_mk KX Ea_BadFraction Ea_CakeError ?s) ?go
    (case s => k_is)
    case go =>
    intro Em_0
    refine' L3.bind_ (L3.exv_mk KX Ea_BadFraction ?m ?s) ?go
    (case m => first | rfl | decide +kernel); (case s => k_is)
    case go =>
    intro Ev_0
    refine' L3.bind_ (L3.exk_mk KX Ea_BadFraction Ea_BadFraction ?s ?d) ?go
    (case s => k_is); (case d => first | exact .inr rfl | exact .inl (by decide) | exact .inl rfl)
    case go =>
    intro Ek_00
    refine' L3.bind_ (L3.exk_mk KX Ea_BadFraction Ea_BadTaste ?s ?d) ?go
    (case s => k_is); (case d => first | exact .inr rfl | exact .inl (by decide) | exact .inl rfl)
    case go =>
    intro Ek_01
    refine' L3.bind_ (L3.exk_mk KX Ea_BadFraction Ea_BadPiece ?s ?d) ?go
    (case s => k_is); (case d => first | exact .inr rfl | exact .inl (by decide) | exact .inl rfl)
    case go =>
    intro Ek_02
    refine' L3.bind_ (L3.exk_mk KX Ea_BadFraction Ea_BadTakers ?s ?d) ?go
    (case s => k_is); (case d => first | exact .inr rfl | exact .inl (by decide) | exact .inl rfl)
    case go =>
    intro Ek_03
    refine' L3.bind_ (L3.exk_mk KX Ea_BadFraction Ea_TooLittle ?s ?d) ?go
    (case s => k_is); (case d => first | exact .inr rfl | exact .inl (by decide) | exact .inl rfl)
    case go =>
    intro Ek_04
    refine' L3.bind_ (L3.exk_mk KX Ea_BadFraction Ea_BadText ?s ?d) ?go
    (case s => k_is); (case d => first | exact .inr rfl | exact .inl (by decide) | exact .inl rfl)
    case go =>
    intro Ek_05
    refine' L3.bind_ (L3.exm_mk KX Ea_BadTaste Ea_BadTaste ?s) ?go
    (case s => k_is)
    case go =>
    intro XM_BadTaste
    refine' L3.bind_ (L3.exm_mk KX Ea_BadTaste Ea_CakeError ?s) ?go
    (case s => k_is)
    case go =>
    intro Em_1
    refine' L3.bind_ (L3.exv_mk KX Ea_BadTaste ?m ?s) ?go
    (case m => first | rfl | decide +kernel); (case s => k_is)
    case go =>
    intro Ev_1
    refine' L3.bind_ (L3.exk_mk KX Ea_BadTaste Ea_BadFraction ?s ?d) ?go
    (case s => k_is); (case d => first | exact .inr rfl | exact .inl (by decide) | exact .inl rfl)
    case go =>
    intro Ek_10
    refine' L3.bind_ (L3.exk_mk KX Ea_BadTaste Ea_BadTaste ?s ?d) ?go
    (case s => k_is); (case d => first | exact .inr rfl | exact .inl (by decide) | exact .inl rfl)
    case go =>
    intro Ek_11
    refine' L3.bind_ (L3.exk_mk KX Ea_BadTaste Ea_BadPiece ?s ?d) ?go
    (case s => k_is); (case d => first | exact .inr rfl | exact .inl (by decide) | exact .inl rfl)
    case go =>
    intro Ek_12
    refine' L3.bind_ (L3.exk_mk KX Ea_BadTaste Ea_BadTakers ?s ?d) ?go
    (case s => k_is); (case d => first | exact .inr rfl | exact .inl (by decide) | exact .inl rfl)
    case go =>
    intro Ek_13
    refine' L3.bind_ (L3.exk_mk KX Ea_BadTaste Ea_TooLittle ?s ?d) ?go
    (case s => k_is); (case d => first | exact .inr rfl | exact .inl (by decide) | exact .inl rfl)
    case go =>
    intro Ek_14
    refine' L3.bind_ (L3.exk_mk KX Ea_BadTaste Ea_BadText ?s ?d) ?go
    (case s => k_is); (case d => first | exact .inr rfl | exact .inl (by decide) | exact .inl rfl)
    case go =>
    intro Ek_15
    refine' L3.bind_ (L3.exm_mk KX Ea_BadPiece Ea_BadPiece ?s) ?go
    (case s => k_is)
    case go =>
    intro XM_BadPiece
    refine' L3.bind_ (L3.exm_mk KX Ea_BadPiece Ea_CakeError ?s) ?go
    (case s => k_is)
    case go =>
    intro Em_2
    refine' L3.bind_ (L3.exv_mk KX Ea_BadPiece ?m ?s) ?go
    (case m => first | rfl | decide +kernel); (case s => k_is)
    case go =>
    intro Ev_2
    refine' L3.bind_ (L3.exk_mk KX Ea_BadPiece Ea_BadFraction ?s ?d) ?go
    (case s => k_is); (case d => first | exact .inr rfl | exact .inl (by decide) | exact .inl rfl)
    case go =>
    intro Ek_20
    refine' L3.bind_ (L3.exk_mk KX Ea_BadPiece Ea_BadTaste ?s ?d) ?go
    (case s => k_is); (case d => first | exact .inr rfl | exact .inl (by decide) | exact .inl rfl)
    case go =>
    intro Ek_21
    refine' L3.bind_ (L3.exk_mk KX Ea_BadPiece Ea_BadPiece ?s ?d) ?go
    (case s => k_is); (case d => first | exact .inr rfl | exact .inl (by decide) | exact .inl rfl)
    case go =>
    intro Ek_22
    refine' L3.bind_ (L3.exk_mk KX Ea_BadPiece Ea_BadTakers ?s ?d) ?go
    (case s => k_is); (case d => first | exact .inr rfl | exact .inl (by decide) | exact .inl rfl)
    case go =>
    intro Ek_23
    refine' L3.bind_ (L3.exk_mk KX Ea_BadPiece Ea_TooLittle ?s ?d) ?go
    (case s => k_is); (case d => first | exact .inr rfl | exact .inl (by decide) | exact .inl rfl)
    case go =>
    intro Ek_24
    refine' L3.bind_ (L3.exk_mk KX Ea_BadPiece Ea_BadText ?s ?d) ?go
    (case s => k_is); (case d => first | exact .inr rfl | exact .inl (by decide) | exact .inl rfl)
    case go =>
    intro Ek_25
    refine' L3.bind_ (L3.exm_mk KX Ea_BadTakers Ea_BadTakers ?s) ?go
    (case s => k_is)
    case go =>
    intro XM_BadTakers
    refine' L3.bind_ (L3.exm_mk KX Ea_BadTakers Ea_CakeError ?s) ?go
    (case s => k_is)
    case go =>
    intro Em_3
    refine' L3.bind_ (L3.exv_mk KX Ea_BadTakers ?m ?s) ?go
    (case m => first | rfl | decide +kernel); (case s => k_is)
    case go =>
    intro Ev_3
    refine' L3.bind_ (L3.exk_mk KX Ea_BadTakers Ea_BadFraction ?s ?d) ?go
    (case s => k_is); (case d => first | exact .inr rfl | exact .inl (by decide) | exact .inl rfl)
    case go =>
    intro Ek_30
    refine' L3.bind_ (L3.exk_mk KX Ea_BadTakers Ea_BadTaste ?s ?d) ?go
    (case s => k_is); (case d => first | exact .inr rfl | exact .inl (by decide) | exact .inl rfl)
    case go =>
    intro Ek_31
    refine' L3.bind_ (L3.exk_mk KX Ea_BadTakers Ea_BadPiece ?s ?d) ?go
    (case s => k_is); (case d => first | exact .inr rfl | exact .inl (by decide) | exact .inl rfl)
    case go =>
    intro Ek_32
    refine' L3.bind_ (L3.exk_mk KX Ea_BadTakers Ea_BadTakers ?s ?d) ?go
    (case s => k_is); (case d => first | exact .inr rfl | exact .inl (by decide) | exact .inl rfl)
    case go =>
    intro Ek_33
    refine' L3.bind_ (L3.exk_mk KX Ea_BadTakers Ea_TooLittle ?s ?d) ?go
    (case s => k_is); (case d => first | exact .inr rfl | exact .inl (by decide) | exact .inl rfl)
    case go =>
    intro Ek_34
    refine' L3.bind_ (L3.exk_mk KX Ea_BadTakers Ea_BadText ?s ?d) ?go
    (case s => k_is); (case d => first | exact .inr rfl | exact .inl (by decide) | exact .inl rfl)
    case go =>
    intro Ek_35
    refine' L3.bind_ (L3.exm_mk KX Ea_TooLittle Ea_TooLittle ?s) ?go
    (case s => k_is)
    case go =>
    intro XM_TooLittle
    refine' L3.bind_ (L3.exm_mk KX Ea_TooLittle Ea_CakeError ?s) ?go
    (case s => k_is)
    case go =>
    intro Em_4
    refine' L3.bind_ (L3.exv_mk KX Ea_TooLittle ?m ?s) ?go
    (case m => first | rfl | decide +kernel); (case s => k_is)
    case go =>
    intro Ev_4
    refine' L3.bind_ (L3.exk_mk KX Ea_TooLittle Ea_BadFraction ?s ?d) ?go
    (case s => k_is); (case d => first | exact .inr rfl | exact .inl (by decide) | exact .inl rfl)
    case go =>
    intro Ek_40
    refine' L3.bind_ (L3.exk_mk KX Ea_TooLittle Ea_BadTaste ?s ?d) ?go
    (case s => k_is); (case d => first | exact .inr rfl | exact .inl (by decide) | exact .inl rfl)
    case go =>
    intro Ek_41
    refine' L3.bind_ (L3.exk_mk KX Ea_TooLittle Ea_BadPiece ?s ?d) ?go
    (case s => k_is); (case d => first | exact .inr rfl | exact .inl (by decide) | exact .inl rfl)
    case go =>
    intro Ek_42
    refine' L3.bind_ (L3.exk_mk KX Ea_TooLittle Ea_BadTakers ?s ?d) ?go
    (case s => k_is); (case d => first | exact .inr rfl | exact .inl (by decide) | exact .inl rfl)
    case go =>
    intro Ek_43
    refine' L3.bind_ (L3.exk_mk KX Ea_TooLittle Ea_TooLittle ?s ?d) ?go
    (case s => k_is); (case d => first | exact .inr rfl | exact .inl (by decide) | exact .inl rfl)
    case go =>
    intro Ek_44
    refine' L3.bind_ (L3.exk_mk KX Ea_TooLittle Ea_BadText ?s ?d) ?go
    (case s => k_is); (case d => first | exact .inr rfl | exact .inl (by decide) | exact .inl rfl)
    case go =>
    intro Ek_45
    refine' L3.bind_ (L3.exm_mk KX Ea_BadText Ea_BadText ?s) ?go
    (case s => k_is)
    case go =>
    intro XM_BadText
    refine' L3.bind_ (L3.exm_mk KX Ea_BadText Ea_CakeError ?s) ?go
    (case s => k_is)
    case go =>
    intro Em_5
    refine' L3.bind_ (L3.exv_mk KX Ea_BadText ?m ?s) ?go
    (case m => first | rfl | decide +kernel); (case s => k_is)
    case go =>
    intro Ev_5
    refine' L3.bind_ (L3.exk_mk KX Ea_BadText Ea_BadFraction ?s ?d) ?go
    (case s => k_is); (case d => first | exact .inr rfl | exact .inl (by decide) | exact .inl rfl)
    case go =>
    intro Ek_50
    refine' L3.bind_ (L3.exk_mk KX Ea_BadText Ea_BadTaste ?s ?d) ?go
    (case s => k_is); (case d => first | exact .inr rfl | exact .inl (by decide) | exact .inl rfl)
    case go =>
    intro Ek_51
    refine' L3.bind_ (L3.exk_mk KX Ea_BadText Ea_BadPiece ?s ?d) ?go
    (case s => k_is); (case d => first | exact .inr rfl | exact .inl (by decide) | exact .inl rfl)
    case go =>
    intro Ek_52
    refine' L3.bind_ (L3.exk_mk KX Ea_BadText Ea_BadTakers ?s ?d) ?go
    (case s => k_is); (case d => first | exact .inr rfl | exact .inl (by decide) | exact .inl rfl)
    case go =>
    intro Ek_53
    refine' L3.bind_ (L3.exk_mk KX Ea_BadText Ea_TooLittle ?s ?d) ?go
    (case s => k_is); (case d => first | exact .inr rfl | exact .inl (by decide) | exact .inl rfl)
    case go =>
    intro Ek_54
    refine' L3.bind_ (L3.exk_mk KX Ea_BadText Ea_BadText ?s ?d) ?go
    (case s => k_is); (case d => first | exact .inr rfl | exact .inl (by decide) | exact .inl rfl)
    case go =>
    intro Ek_55
    refine' L3.bind_ (L3.exm_mk KX Ea_CakeError Ea_CakeError ?s) ?go
    (case s => k_is)
    case go =>
    intro XM_CakeError
    refine' L3.bind_ (L3.z_mk (x := "isinstance") KX G ?a) ?go
    (case a => k_is)
    case go =>
    intro z_isinstance
    refine' L3.bind_ (L3.z_mk (x := "bool") KX G ?a) ?go
    (case a => k_is)
    case go =>
    intro z_bool
    refine' L3.bind_ (L3.z_mk (x := "int") KX G ?a) ?go
    (case a => k_is)
    case go =>
    intro z_int
    refine' L3.bind_ (L3.z_mk (x := "len") KX G ?a) ?go
    (case a => k_is)
    case go =>
    intro z_len
    refine' L3.bind_ (L3.z_mk (x := "tuple") KX G ?a) ?go
    (case a => k_is)
    case go =>
    intro z_tuple
    refine' L3.bind_ (L3.cstF_mk' (x := "ONE") (q := 1) KX G ?a ?l ?i ?j) ?go
    (case a => k_is); (case l => k_is); (case i => first | rfl | decide +kernel); (case j => first | rfl | decide +kernel)
    case go =>
    intro Mc_ONE
    refine' L3.bind_ (L3.z_mk (x := "all") KX G ?a) ?go
    (case a => k_is)
    case go =>
    intro z_all
    refine' L3.bind_ (L3.z_mk (x := "list") KX G ?a) ?go
    (case a => k_is)
    case go =>
    intro z_list
    refine' L3.bind_ (L3.z_mk (x := "range") KX G ?a) ?go
    (case a => k_is)
    case go =>
    intro z_range
    refine' L3.bind_ (L3.cstI_mk (x := "HEAVIEST") KX G ?a) ?go
    (case a => k_is)
    case go =>
    intro Mc_HEAVIEST
    refine' L3.bind_ (L3.cstI_mk (x := "MOST") KX G ?a) ?go
    (case a => k_is)
    case go =>
    intro Mc_MOST
    refine' L3.bind_ (L3.cstF_mk' (x := "NOUGHT") (q := 0) KX G ?a ?l ?i ?j) ?go
    (case a => k_is); (case l => k_is); (case i => first | rfl | decide +kernel); (case j => first | rfl | decide +kernel)
    case go =>
    intro Mc_NOUGHT
    refine' L3.bind_ (L3.na_mk (f := "rows") KX Mk_Taste ?a) ?go
    (case a => k_is)
    case go =>
    intro Na_rows
    refine' L3.bind_ (L3.na_mk (f := "total") KX Mk_Taste ?a) ?go
    (case a => k_is)
    case go =>
    intro Na_total
    refine' L3.bind_ (L3.cls_mk KX Mk_Taste ?pg ?hd ?po ?sa) ?go
    (case pg => k_is); (case hd => k_is); (case po => k_is); (case sa => k_is)
    case go =>
    intro Cl_Taste
    refine' L3.bind_ (L3.z_mk (x := "str") KX G ?a) ?go
    (case a => k_is)
    case go =>
    intro z_str
    refine' L3.bind_ (L3.cstS_mk (x := "FIGURES") KX G ?a) ?go
    (case a => k_is)
    case go =>
    intro Mc_FIGURES
    refine' L3.bind_ (L3.cstI_mk (x := "LONGEST") KX G ?a) ?go
    (case a => k_is)
    case go =>
    intro Mc_LONGEST
    refine' L3.bind_ (L3.z_mk (x := "sorted") KX G ?a) ?go
    (case a => k_is)
    case go =>
    intro z_sorted
    refine' L3.bind_ (L3.z_mk (x := "any") KX G ?a) ?go
    (case a => k_is)
    case go =>
    intro z_any
    refine' L3.bind_ (L3.z_mk (x := "ValueError") KX G ?a) ?go
    (case a => k_is)
    case go =>
    intro z_ValueError
    refine' L3.law_mk (st := L3.s_law) KX G hmg ?a ?l ?c ?k ?H ?b
    (case a => k_is); (case l => k_is); (case c => k_is); (case k => k_is); (case b => exact fun s v => .of_eq rfl)
    exact fun fd F base => L3.all_mk (G := ⟨L3.kof KX, L3.clF _ 0 0 0 0 0 0 0⟩) (X := L3.exF _ _ _ _ _ _ _) F T_is_whole T_lowest T_is_fraction T_plus T_minus T_times T_below T_lesser T_greater T_is_span T_check_piece T_is_step T_check_steps (T_Taste___init__ _ _ rfl) (T_Taste_steps _ _ rfl) (T_Taste_area _ _ rfl) T_fraction_text T_number_of T_fraction_of T_taste_text T_piece_text T_taste_of T_piece_of T__law_cell_at T__law_mixed T__law_low T__law_less T__law_steps_by T__law_piece_by T__law_text T__law_number T__law_fraction_of T__law_steps_of T__law_spans_of T__law_refused T__law_read_right T__law_other T__law_few z_isinstance z_bool z_int z_len z_tuple (Mc_ONE _) z_all z_list z_range Ea_BadPiece.ok Mc_HEAVIEST Mc_MOST (Mc_NOUGHT _) Ea_BadTaste.ok Na_rows Na_total Cl_Taste rfl z_str Mc_FIGURES Mc_LONGEST Ea_BadText.ok Mk_Taste XM_BadTaste XM_BadPiece z_sorted z_any z_ValueError Ea_CakeError.ok Ea_BadFraction.ok Ea_BadTakers.ok Ea_TooLittle.ok (L3.excKit_mk (X := L3.exF _ _ _ _ _ _ _) Ea_BadFraction.ec Ea_BadTaste.ec Ea_BadPiece.ec Ea_BadTakers.ec Ea_TooLittle.ec Ea_BadText.ec Em_0 Em_1 Em_2 Em_3 Em_4 Em_5 Ev_0 Ev_1 Ev_2 Ev_3 Ev_4 Ev_5 Ek_00 Ek_01 Ek_02 Ek_03 Ek_04 Ek_05 Ek_10 Ek_11 Ek_12 Ek_13 Ek_14 Ek_15 Ek_20 Ek_21 Ek_22 Ek_23 Ek_24 Ek_25 Ek_30 Ek_31 Ek_32 Ek_33 Ek_34 Ek_35 Ek_40 Ek_41 Ek_42 Ek_43 Ek_44 Ek_45 Ek_50 Ek_51 Ek_52 Ek_53 Ek_54 Ek_55) base
