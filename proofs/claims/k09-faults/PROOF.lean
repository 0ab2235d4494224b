import PyProof.Rows.All
import Wide.All
import OpenK.AllK
import Wide.FinOn
import HandS.ForMost
import HandS.IsInst
import HandS.TupAny
import HandS.StrMore
import HandS.More
import HandS.Style
import PySem.Challenge.RW_firsthand_k09_faults_and_pieces
set_option Elab.async false
set_option linter.all false
set_option maxRecDepth 100000
set_option maxHeartbeats 4000000
/-! R1: data without addresses, over the hand layer -/
namespace R
open PySem PySem.Spec PyProof.Rows L2

/-- data -/
inductive D where
  | non | bl (b : Bool) | int (i : Int) | str (cs : List Nat) | tup (xs : List D) | lst (xs : List D) | lsk (xs : List D) | dct (ks : List Key) (ds : List D) | ty (n : String)

mutual
inductive Rp (K : PySem.W.Frag) (B : Hp) : V → D → Prop
  | non : Rp K B .non .non
  | bl (b : Bool) : Rp K B (.bl b) (.bl b)
  | int (i : Int) : Rp K B (.int i) (.int i)
  | str (cs : List Nat) : Rp K B (.str ⟨cs.toArray⟩) (.str cs)
  | ty (n : String) : Rp K B (.ty n) (.ty n)
  | tup {a : Addr} {vs : List V} {ds : List D} : B a = some (.tup vs) → Rps K B vs ds → Rp K B (.ref a) (.tup ds)
  | lst {a : Addr} {vs : List V} {ds : List D} : B a = some (.lst vs) → Rps K B vs ds → Rp K B (.ref a) (.lst ds)
  | lsk {a : Addr} {vs : List V} {ds : List D} : SqL K B a vs → Rps K B vs ds → Rp K B (.ref a) (.lsk ds)
  | dct {a : Addr} {ks : List Key} {vs : List V} {ds : List D} : B a = some (.dK (ks.zip vs)) → Rps K B vs ds → Rp K B (.ref a) (.dct ks ds)
inductive Rps (K : PySem.W.Frag) (B : Hp) : List V → List D → Prop
  | nil : Rps K B [] []
  | cons {v : V} {vs : List V} {d : D} {ds : List D} : Rp K B v d → Rps K B vs ds → Rps K B (v :: vs) (d :: ds)
end

theorem sqt_same {K : PySem.W.Frag} {H H' : Hp} {a : Addr} {xs : List V} (e : Same H H') (h : SqT K H a xs) : SqT K H' a xs := by
  rcases h with (h | ⟨o, h⟩) | h
  · exact .inl (.inl (e _ _ h))
  · exact .inl (.inr ⟨o, e _ _ h⟩)
  · exact .inr h

mutual
theorem Rp.mono {K : PySem.W.Frag} {B B' : Hp} (e : Same B B') : ∀ {v : V} {d : D}, Rp K B v d → Rp K B' v d
  | _, _, .non => .non
  | _, _, .bl b => .bl b
  | _, _, .int i => .int i
  | _, _, .str s => .str s
  | _, _, .ty s => .ty s
  | _, _, .tup h hs => .tup (e _ _ h) (Rps.mono e hs)
  | _, _, .lst h hs => .lst (e _ _ h) (Rps.mono e hs)
  | _, _, .lsk h hs => .lsk (e.seq h) (Rps.mono e hs)
  | _, _, .dct h hs => .dct (e _ _ h) (Rps.mono e hs)
theorem Rps.mono {K : PySem.W.Frag} {B B' : Hp} (e : Same B B') : ∀ {vs : List V} {ds : List D}, Rps K B vs ds → Rps K B' vs ds
  | _, _, .nil => .nil
  | _, _, .cons h hs => .cons (Rp.mono e h) (Rps.mono e hs)
end
theorem Rps.length {K : PySem.W.Frag} {B : Hp} : ∀ {vs : List V} {ds : List D}, Rps K B vs ds → vs.length = ds.length
  | _, _, .nil => rfl
  | _, _, .cons _ hs => congrArg (· + 1) (Rps.length hs)
theorem Rps.get {K : PySem.W.Frag} {B : Hp} : ∀ {vs : List V} {ds : List D} {i : Nat} {d : D}, Rps K B vs ds → ds[i]? = some d → ∃ v, vs[i]? = some v ∧ Rp K B v d
  | _, _, _, _, .nil, h => by simp at h
  | _, _, 0, _, .cons h _, e => by simp at e; subst e; exact ⟨_, rfl, h⟩
  | _, _, i + 1, d, .cons _ hs, e => by
    obtain ⟨v, h1, h2⟩ := Rps.get (i := i) (d := d) hs (by simpa using e)
    exact ⟨v, by simpa using h1, h2⟩
theorem Rps.getV {K : PySem.W.Frag} {B : Hp} : ∀ {vs : List V} {ds : List D} {i : Nat} {v : V}, Rps K B vs ds → vs[i]? = some v → ∃ d, ds[i]? = some d ∧ Rp K B v d
  | _, _, _, _, .nil, h => by simp at h
  | _, _, 0, _, .cons h _, e => by simp at e; subst e; exact ⟨_, rfl, h⟩
  | _, _, i + 1, d, .cons _ hs, e => by
    obtain ⟨v, h1, h2⟩ := Rps.getV (i := i) (v := d) hs (by simpa using e)
    exact ⟨v, by simpa using h1, h2⟩
theorem Rps.append {K : PySem.W.Frag} {B : Hp} : ∀ {vs ws : List V} {ds es : List D}, Rps K B vs ds → Rps K B ws es → Rps K B (vs ++ ws) (ds ++ es)
  | _, _, _, _, .nil, h => h
  | _, _, _, _, .cons h hs, h' => .cons h (Rps.append hs h')
theorem Rps.take {K : PySem.W.Frag} {B : Hp} : ∀ {vs : List V} {ds : List D} (n : Nat), Rps K B vs ds → Rps K B (vs.take n) (ds.take n)
  | _, _, 0, _ => .nil
  | _, _, _ + 1, .nil => .nil
  | _, _, n + 1, .cons h hs => .cons h (Rps.take n hs)
theorem Rps.drop {K : PySem.W.Frag} {B : Hp} : ∀ {vs : List V} {ds : List D} (n : Nat), Rps K B vs ds → Rps K B (vs.drop n) (ds.drop n)
  | _, _, 0, h => h
  | _, _, _ + 1, .nil => .nil
  | _, _, n + 1, .cons _ hs => Rps.drop n hs
theorem Rps.set {K : PySem.W.Frag} {B : Hp} {v : V} {d : D} (r : Rp K B v d) : ∀ {vs : List V} {ds : List D} (i : Nat), Rps K B vs ds → Rps K B (vs.set i v) (ds.set i d)
  | _, _, _, .nil => .nil
  | _, _, 0, .cons _ hs => .cons r hs
  | _, _, i + 1, .cons h hs => .cons h (Rps.set r i hs)
theorem Rps.one {K : PySem.W.Frag} {B : Hp} {v : V} {d : D} (h : Rp K B v d) : Rps K B [v] [d] := .cons h .nil

/-! ### how the known heap grows -/
structure Gr (B H B' H' : Hp) : Prop where
  b : Same B B'
  h : Same H H'
  bh : Same B' H'
  nw : ∀ a, H a ≠ none → B a = none → B' a = none
theorem Gr.refl {B H : Hp} (e : Same B H) : Gr B H B H := ⟨Same.refl _, Same.refl _, e, fun _ _ h => h⟩
theorem Gr.trans {B H B1 H1 B2 H2 : Hp} (x : Gr B H B1 H1) (y : Gr B1 H1 B2 H2) : Gr B H B2 H2 :=
  ⟨x.b.trans y.b, x.h.trans y.h, y.bh, fun a h1 h2 => y.nw a (fun z => h1 (x.h.free z)) (x.nw a h1 h2)⟩
theorem same_upd {H : Hp} {p : Addr} {o : HO} (h : H p = none) : Same H (upd H p o) := fun b x e => by
  rw [upd_ne (ne_of_none e h)]
  exact e
theorem Same.upd2 {B H : Hp} {p : Addr} {o : HO} (e : Same B H) : Same (upd B p o) (upd H p o) := fun b x h => by
  by_cases hb : b = p
  · subst hb
    rw [upd_same] at h ⊢
    exact h
  · rw [upd_ne hb] at h ⊢
    exact e _ _ h
/-- a new object, known -/
theorem Gr.new {B H : Hp} {p : Addr} {o : HO} (e : Same B H) (h : H p = none) : Gr B H (upd B p o) (upd H p o) :=
  ⟨same_upd (e.free h), same_upd h, Same.upd2 e, fun a h1 h2 => by
    have : a ≠ p := fun z => h1 (z ▸ h)
    rw [upd_ne this]
    exact h2⟩
/-- a new object, owned -/
theorem Gr.newOwn {B H : Hp} {p : Addr} {o : HO} (e : Same B H) (h : H p = none) : Gr B H B (upd H p o) :=
  ⟨Same.refl _, same_upd h, e.trans (same_upd h), fun _ _ h2 => h2⟩

/-! ### slots -/
inductive MO where
  | lst (xs : List D)
def MoOk (K : PySem.W.Frag) (B : Hp) : MO → HO → Prop
  | .lst ds, ho => ∃ vs, ho = .lst vs ∧ Rps K B vs ds
theorem MoOk.mono {K : PySem.W.Frag} {B B' : Hp} (e : Same B B') : ∀ {o : MO} {ho : HO}, MoOk K B o ho → MoOk K B' o ho
  | .lst _, _, ⟨vs, h1, h2⟩ => ⟨vs, h1, h2.mono e⟩
inductive Sl where
  | d (x : D) | own (o : MO)
abbrev Slots := List (Option Sl)
structure Rl (K : PySem.W.Frag) (H0 B H : Hp) (σ : L2.St) (ρ : Slots) : Prop where
  bh : Same B H
  len : σ.length = ρ.length
  dat : ∀ (i : Nat) (d : D), ρ[i]? = some (some (.d d)) → ∃ v, σ[i]? = some (some v) ∧ Rp K B v d
  own : ∀ (i : Nat) (o : MO), ρ[i]? = some (some (.own o)) → ∃ l ho, σ[i]? = some (some (.ref l)) ∧ H0 l = none ∧ B l = none ∧ H l = some ho ∧ MoOk K B o ho
  sep : ∀ (i j : Nat) (o o' : MO) (l : Addr), i ≠ j → ρ[i]? = some (some (.own o)) → ρ[j]? = some (some (.own o')) → σ[i]? = some (some (.ref l)) → σ[j]? = some (some (.ref l)) → False
theorem Rl.grow {K : PySem.W.Frag} {H0 B H B' H' : Hp} {σ : L2.St} {ρ : Slots} (r : Rl K H0 B H σ ρ) (g : Gr B H B' H') : Rl K H0 B' H' σ ρ where
  bh := g.bh
  len := r.len
  dat := fun i d e => by
    obtain ⟨v, h1, h2⟩ := r.dat i d e
    exact ⟨v, h1, h2.mono g.b⟩
  own := fun i o e => by
    obtain ⟨l, ho, h1, h2, h3, h4, h5⟩ := r.own i o e
    exact ⟨l, ho, h1, h2, g.nw l (fun z => by rw [h4] at z; cases z) h3, g.h _ _ h4, h5.mono g.b⟩
  sep := r.sep
theorem set_get {α : Type} {l : List α} {i j : Nat} {x y : α} (h : (l.set i x)[j]? = some y) : (i = j ∧ y = x ∧ i < l.length) ∨ (i ≠ j ∧ l[j]? = some y) := by
  rw [List.getElem?_set] at h
  by_cases e : i = j
  · rw [if_pos e] at h
    by_cases hl : i < l.length
    · rw [if_pos hl] at h
      exact .inl ⟨e, (Option.some.inj h).symm, hl⟩
    · rw [if_neg hl] at h
      cases h
  · rw [if_neg e] at h
    exact .inr ⟨e, h⟩
theorem set_at {α : Type} {l : List α} {i : Nat} {x : α} (h : i < l.length) : (l.set i x)[i]? = some x := by
  rw [List.getElem?_set, if_pos rfl, if_pos h]
theorem set_off {α : Type} {l : List α} {i j : Nat} {x : α} (h : i ≠ j) : (l.set i x)[j]? = l[j]? := by
  rw [List.getElem?_set, if_neg h]
/-- a slot gets data -/
theorem Rl.setD {K : PySem.W.Frag} {H0 B H : Hp} {σ : L2.St} {ρ : Slots} (r : Rl K H0 B H σ ρ) {i : Nat} {v : V} {d : D} (h : Rp K B v d) : Rl K H0 B H (σ.set i (some v)) (ρ.set i (some (.d d))) where
  bh := r.bh
  len := by rw [List.length_set, List.length_set]; exact r.len
  dat := fun j e q => by
    rcases set_get q with ⟨rfl, e1, hl⟩ | ⟨hne, q⟩
    · cases e1
      exact ⟨v, set_at (by rw [r.len]; exact hl), h⟩
    · obtain ⟨v', h1, h2⟩ := r.dat j e q
      exact ⟨v', by rw [set_off hne]; exact h1, h2⟩
  own := fun j o q => by
    rcases set_get q with ⟨rfl, e1, hl⟩ | ⟨hne, q⟩
    · cases e1
    · obtain ⟨l, ho, h1, h2⟩ := r.own j o q
      exact ⟨l, ho, by rw [set_off hne]; exact h1, h2⟩
  sep := fun j k o o' l hjk q1 q2 s1 s2 => by
    rcases set_get q1 with ⟨_, e1, _⟩ | ⟨n1, q1⟩
    · cases e1
    · rcases set_get q2 with ⟨_, e2, _⟩ | ⟨n2, q2⟩
      · cases e2
      · rw [set_off n1] at s1
        rw [set_off n2] at s2
        exact r.sep j k o o' l hjk q1 q2 s1 s2
/-- a slot gets a new owned object -/
theorem Rl.setO {K : PySem.W.Frag} {H0 B H : Hp} {σ : L2.St} {ρ : Slots} (r : Rl K H0 B H σ ρ) {i : Nat} {l : Addr} {ho : HO} {o : MO} (h0 : H0 l = none) (hB : B l = none) (hH : H l = some ho) (hm : MoOk K B o ho)
    (hf : ∀ (j : Nat) (o' : MO), j ≠ i → ρ[j]? = some (some (.own o')) → σ[j]? ≠ some (some (.ref l))) : Rl K H0 B H (σ.set i (some (.ref l))) (ρ.set i (some (.own o))) where
  bh := r.bh
  len := by rw [List.length_set, List.length_set]; exact r.len
  dat := fun j e q => by
    rcases set_get q with ⟨rfl, e1, hl⟩ | ⟨hne, q⟩
    · cases e1
    · obtain ⟨v', h1, h2⟩ := r.dat j e q
      exact ⟨v', by rw [set_off hne]; exact h1, h2⟩
  own := fun j o2 q => by
    rcases set_get q with ⟨rfl, e1, hl⟩ | ⟨hne, q⟩
    · cases e1
      exact ⟨l, ho, set_at (by rw [r.len]; exact hl), h0, hB, hH, hm⟩
    · obtain ⟨l', ho', h1, h2⟩ := r.own j o2 q
      exact ⟨l', ho', by rw [set_off hne]; exact h1, h2⟩
  sep := fun j k o1 o2 l' hjk q1 q2 s1 s2 => by
    rcases set_get q1 with ⟨e1, _, hl1⟩ | ⟨n1, q1⟩
    · subst e1
      rcases set_get q2 with ⟨e2, _, _⟩ | ⟨n2, q2⟩
      · exact hjk e2
      · rw [set_at (by rw [r.len]; exact hl1)] at s1
        rw [set_off n2] at s2
        cases s1
        exact hf k o2 (fun z => hjk z.symm) q2 s2
    · rcases set_get q2 with ⟨e2, _, hl2⟩ | ⟨n2, q2⟩
      · subst e2
        rw [set_at (by rw [r.len]; exact hl2)] at s2
        rw [set_off n1] at s1
        cases s2
        exact hf j o1 hjk q1 s1
      · rw [set_off n1] at s1
        rw [set_off n2] at s2
        exact r.sep j k o1 o2 l' hjk q1 q2 s1 s2
/-- an owned object changes -/
theorem Rl.chg {K : PySem.W.Frag} {H0 B H : Hp} {σ : L2.St} {ρ : Slots} (r : Rl K H0 B H σ ρ) {i : Nat} {l : Addr} {ho : HO} {o o1 : MO} (hi : ρ[i]? = some (some (.own o1))) (hl : σ[i]? = some (some (.ref l))) (hm : MoOk K B o ho) :
    Rl K H0 B (upd H l ho) σ (ρ.set i (some (.own o))) := by
  obtain ⟨l', ho', h1, h2, h3, h4, h5⟩ := r.own i o1 hi
  rw [hl] at h1
  cases h1
  have hil : i < ρ.length := (List.getElem?_eq_some_iff.mp hi).1
  refine ⟨fun b x e => ?_, by rw [List.length_set]; exact r.len, fun j d q => ?_, fun j o2 q => ?_, fun j k o2 o3 l' hjk q1 q2 s1 s2 => ?_⟩
  · rw [upd_ne (ne_of_none e h3)]
    exact r.bh _ _ e
  · rcases set_get q with ⟨rfl, e1, _⟩ | ⟨hne, q⟩
    · cases e1
    · exact r.dat j d q
  · rcases set_get q with ⟨rfl, e1, _⟩ | ⟨hne, q⟩
    · cases e1
      exact ⟨l, ho, hl, h2, h3, upd_same, hm⟩
    · obtain ⟨l2, ho2, g1, g2, g3, g4, g5⟩ := r.own j o2 q
      have : l2 ≠ l := fun z => by
        subst z
        exact r.sep i j o1 o2 l2 hne hi q hl g1
      exact ⟨l2, ho2, g1, g2, g3, by rw [upd_ne this]; exact g4, g5⟩
  · have f : ∀ (j : Nat) (o2 : MO), (ρ.set i (some (Sl.own o)))[j]? = some (some (.own o2)) → ∃ o4, ρ[j]? = some (some (.own o4)) := fun j o2 q => by
      rcases set_get q with ⟨rfl, _, _⟩ | ⟨_, q⟩
      · exact ⟨_, hi⟩
      · exact ⟨_, q⟩
    obtain ⟨_, z1⟩ := f j o2 q1
    obtain ⟨_, z2⟩ := f k o3 q2
    exact r.sep j k _ _ l' hjk z1 z2 s1 s2
/-- slots forgotten -/
theorem Rl.wipe1 {K : PySem.W.Frag} {H0 B H : Hp} {σ : L2.St} {ρ : Slots} (r : Rl K H0 B H σ ρ) (i : Nat) : Rl K H0 B H (σ.set i none) (ρ.set i none) where
  bh := r.bh
  len := by rw [List.length_set, List.length_set]; exact r.len
  dat := fun j e q => by
    rcases set_get q with ⟨rfl, e1, hl⟩ | ⟨hne, q⟩
    · cases e1
    · obtain ⟨v', h1, h2⟩ := r.dat j e q
      exact ⟨v', by rw [set_off hne]; exact h1, h2⟩
  own := fun j o q => by
    rcases set_get q with ⟨rfl, e1, hl⟩ | ⟨hne, q⟩
    · cases e1
    · obtain ⟨l, ho, h1, h2⟩ := r.own j o q
      exact ⟨l, ho, by rw [set_off hne]; exact h1, h2⟩
  sep := fun j k o o' l hjk q1 q2 s1 s2 => by
    rcases set_get q1 with ⟨_, e1, _⟩ | ⟨n1, q1⟩
    · cases e1
    · rcases set_get q2 with ⟨_, e2, _⟩ | ⟨n2, q2⟩
      · cases e2
      · rw [set_off n1] at s1
        rw [set_off n2] at s2
        exact r.sep j k o o' l hjk q1 q2 s1 s2
def wipeE (ρ : Slots) : List Nat → Slots
  | [] => ρ
  | v :: vs => (wipeE ρ vs).set v none
theorem Rl.wipe {K : PySem.W.Frag} {H0 B H : Hp} {σ : L2.St} {ρ : Slots} (r : Rl K H0 B H σ ρ) : ∀ vs : List Nat, Rl K H0 B H (L2.wipe σ vs) (wipeE ρ vs)
  | [] => r
  | v :: vs => (r.wipe vs).wipe1 v

/-! ### readings -/
/-- data, or the content of an owned list -/
def Rb (K : PySem.W.Frag) (B H : Hp) (v : V) (d : D) : Prop := Rp K B v d ∨ ∃ l vs xs, v = .ref l ∧ d = .lst xs ∧ B l = none ∧ H l = some (.lst vs) ∧ Rps K B vs xs
theorem Rb.grow {K : PySem.W.Frag} {B H B' H' : Hp} {v : V} {d : D} (g : Gr B H B' H') (h : Rb K B H v d) : Rb K B' H' v d := by
  rcases h with h | ⟨l, vs, xs, e1, e2, e3, e4, e5⟩
  · exact .inl (h.mono g.b)
  · exact .inr ⟨l, vs, xs, e1, e2, g.nw l (fun z => by rw [e4] at z; cases z) e3, g.h _ _ e4, e5.mono g.b⟩
inductive Rbs (K : PySem.W.Frag) (B H : Hp) : List V → List D → Prop
  | nil : Rbs K B H [] []
  | cons {v : V} {vs : List V} {d : D} {ds : List D} : Rb K B H v d → Rbs K B H vs ds → Rbs K B H (v :: vs) (d :: ds)
theorem Rbs.grow {K : PySem.W.Frag} {B H B' H' : Hp} (g : Gr B H B' H') : ∀ {vs : List V} {ds : List D}, Rbs K B H vs ds → Rbs K B' H' vs ds
  | _, _, .nil => .nil
  | _, _, .cons h hs => .cons (h.grow g) (hs.grow g)
abbrev ME := Slots → Option D
def cE (K : PySem.W.Frag) (m : ME) : TE := fun σ H Q => ∃ H0 B ρ d, Rl K H0 B H σ ρ ∧ m ρ = some d ∧ ∀ v B' H', Gr B H B' H' → Rp K B' v d → Q v H'
def cB (K : PySem.W.Frag) (m : ME) : TE := fun σ H Q => ∃ H0 B ρ d, Rl K H0 B H σ ρ ∧ m ρ = some d ∧ ∀ v B' H', Gr B H B' H' → Rb K B' H' v d → Q v H'
/-- a new list, owned -/
def cF (K : PySem.W.Frag) (m : Slots → Option (List D)) : TE := fun σ H Q => ∃ H0 B ρ xs, Rl K H0 B H σ ρ ∧ m ρ = some xs ∧ ∀ l vs B' H', Gr B H B' H' → H l = none → B' l = none → H' l = some (.lst vs) → Rps K B' vs xs → Q (.ref l) H'
def cT (K : PySem.W.Frag) (m : Slots → Option Bool) : TT := fun σ H Q => ∃ H0 B ρ b, Rl K H0 B H σ ρ ∧ m ρ = some b ∧ ∀ B' H', Gr B H B' H' → Q b H'
def cA (K : PySem.W.Frag) (m : Slots → Option (List D)) : TA := fun σ H Q => ∃ H0 B ρ ds, Rl K H0 B H σ ρ ∧ m ρ = some ds ∧ ∀ vs B' H', Gr B H B' H' → Rps K B' vs ds → Q vs H'
def cAb (K : PySem.W.Frag) (m : Slots → Option (List D)) : TA := fun σ H Q => ∃ H0 B ρ ds, Rl K H0 B H σ ρ ∧ m ρ = some ds ∧ ∀ vs B' H', Gr B H B' H' → Rbs K B' H' vs ds → Q vs H'

section
variable {X : Cx}
theorem pe_mono {e : Expr} {t t' : TE} (h : PE X e t) (i : ∀ σ H Q, t' σ H Q → t σ H Q) : PE X e t' := ⟨fun pins s σ H Q I q => h.run pins s σ H Q I (i σ H Q q)⟩
theorem pt_mono {e : Expr} {t t' : TT} (h : PT X e t) (i : ∀ σ H Q, t' σ H Q → t σ H Q) : PT X e t' := ⟨fun pins s σ H Q I q => h.run pins s σ H Q I (i σ H Q q)⟩
theorem pw_mono {e : Expr} {t t' : TT} (h : PW X e t) (i : ∀ σ H Q, t' σ H Q → t σ H Q) : PW X e t' := ⟨fun wh pins s σ H Q I q => h.run wh pins s σ H Q I (i σ H Q q)⟩
theorem pa_mono {es : List Expr} {t t' : TA} (h : PA X es t) (i : ∀ σ H Q, t' σ H Q → t σ H Q) : PA X es t' := ⟨fun pos pins s σ H Q I q => h.run pos pins s σ H Q I (i σ H Q q)⟩
theorem ps_mono {st : Stmt} {t t' : TS} (h : PS X st t) (i : ∀ Ds σ H, t' Ds σ H → t Ds σ H) : PS X st t' := ⟨fun pins s σ H Ds I q => h.run pins s σ H Ds I (i Ds σ H q)⟩
theorem pss_mono {st : List Stmt} {t t' : TS} (h : PSs X st t) (i : ∀ Ds σ H, t' Ds σ H → t Ds σ H) : PSs X st t' := ⟨fun pins s σ H Ds I q => h.run pins s σ H Ds I (i Ds σ H q)⟩
theorem pi_mono {tg it : Expr} {t t' : TI} (h : PI X tg it t) (i : ∀ σ H R, t' σ H R → t σ H R) : PI X tg it t' := ⟨fun pins s σ H R I q => h.run pins s σ H R I (i σ H R q)⟩
theorem pg_mono {tg : Expr} {t t' : TG} (h : PG X tg t) (i : ∀ v σ H Q, t' v σ H Q → t v σ H Q) : PG X tg t' := ⟨fun pins s σ H v u Q I r q => h.run pins s σ H v u Q I r (i v σ H Q q)⟩
end
end R
/-! R2: expressions -/
namespace R
open PySem PySem.Spec PyProof.Rows L2

abbrev RE (X : Cx) (e : Expr) (m : ME) : Prop := PE X e (cE X.K m)
abbrev RB (X : Cx) (e : Expr) (m : ME) : Prop := PE X e (cB X.K m)
abbrev RF (X : Cx) (e : Expr) (m : Slots → Option (List D)) : Prop := PE X e (cF X.K m)
abbrev RT (X : Cx) (e : Expr) (m : Slots → Option Bool) : Prop := PT X e (cT X.K m)
abbrev RW (X : Cx) (e : Expr) (m : Slots → Option Bool) : Prop := PW X e (cT X.K m)
abbrev RA (X : Cx) (es : List Expr) (m : Slots → Option (List D)) : Prop := PA X es (cA X.K m)
abbrev RAb (X : Cx) (es : List Expr) (m : Slots → Option (List D)) : Prop := PA X es (cAb X.K m)

theorem Gr.freeze {B H B' H' : Hp} {l : Addr} {o : HO} (g : Gr B H B' H') (h1 : H l = none) (h2 : B' l = none) (h3 : H' l = some o) : Gr B H (upd B' l o) H' :=
  ⟨g.b.trans (same_upd h2), g.h, fun b x e => by
    by_cases hb : b = l
    · subst hb
      rw [upd_same] at e
      rw [h3]
      exact e
    · rw [upd_ne hb] at e
      exact g.bh _ _ e, fun a ha hb => by
    have : a ≠ l := fun z => ha (z ▸ h1)
    rw [upd_ne this]
    exact g.nw a ha hb⟩

section
variable {X : Cx}
theorem re_b {e : Expr} {m : ME} (h : RE X e m) : RB X e m := pe_mono h fun σ H Q ⟨H0, B, ρ, d, r, e, k⟩ => ⟨H0, B, ρ, d, r, e, fun v B' H' g q => k v B' H' g (.inl q)⟩
def mF (m : Slots → Option (List D)) : ME := fun ρ => match m ρ with | some xs => some (.lst xs) | none => none
theorem re_f {e : Expr} {m : Slots → Option (List D)} (h : RF X e m) : RE X e (mF m) := pe_mono h fun σ H Q ⟨H0, B, ρ, d, r, e, k⟩ => by
  unfold mF at e
  cases hm : m ρ with
  | none => rw [hm] at e; cases e
  | some xs =>
    rw [hm] at e
    cases e
    exact ⟨H0, B, ρ, xs, r, hm, fun l vs B' H' g h1 h2 h3 h4 => k _ _ _ (g.freeze h1 h2 h3) (.lst upd_same (h4.mono (same_upd h2)))⟩
/-! names -/
def mVar (i : Nat) : ME := fun ρ => match ρ[i]? with | some (some (.d d)) => some d | _ => none
def mBor (i : Nat) : ME := fun ρ => match ρ[i]? with | some (some (.d d)) => some d | some (some (.own (.lst xs))) => some (.lst xs) | _ => none
theorem mVar_at {i : Nat} {ρ : Slots} {d : D} (h : mVar i ρ = some d) : ρ[i]? = some (some (.d d)) := by
  unfold mVar at h
  split at h
  · rename_i e; rw [e]; cases h; rfl
  · cases h
theorem mBor_at {i : Nat} {ρ : Slots} {d : D} (h : mBor i ρ = some d) : ρ[i]? = some (some (.d d)) ∨ ∃ xs, d = .lst xs ∧ ρ[i]? = some (some (.own (.lst xs))) := by
  unfold mBor at h
  split at h
  · rename_i e; rw [e]; cases h; exact .inl rfl
  · rename_i e; rw [e]; cases h; exact .inr ⟨_, rfl, rfl⟩
  · cases h
theorem re_v (i : Nat) {x : Str} {pos : Pos} (hN : X.N[i]? = some x := by rfl) (hv : Vis X.env.scope x := by first | exact Or.inl rfl | exact Or.inr (Or.inl rfl) | exact Or.inr (Or.inr rfl)) (hd : (x == ("__debug__" : Str)) = false := by decide)
    (hcd : (x == ("__classdict__" : Str)) = false := by decide) : RE X (.Name x pos) (mVar i) := pe_mono (pe_var hN hv hd hcd) fun σ H Q ⟨H0, B, ρ, d, r, e, k⟩ => by
  obtain ⟨v, h1, h2⟩ := r.dat i d (mVar_at e)
  exact ⟨v, h1, k v B H (Gr.refl r.bh) h2⟩
theorem rb_v (i : Nat) {x : Str} {pos : Pos} (hN : X.N[i]? = some x := by rfl) (hv : Vis X.env.scope x := by first | exact Or.inl rfl | exact Or.inr (Or.inl rfl) | exact Or.inr (Or.inr rfl)) (hd : (x == ("__debug__" : Str)) = false := by decide)
    (hcd : (x == ("__classdict__" : Str)) = false := by decide) : RB X (.Name x pos) (mBor i) := pe_mono (pe_var hN hv hd hcd) fun σ H Q ⟨H0, B, ρ, d, r, e, k⟩ => by
  rcases mBor_at e with e' | ⟨xs, e1, e'⟩
  · obtain ⟨v, h1, h2⟩ := r.dat i d e'
    exact ⟨v, h1, k v B H (Gr.refl r.bh) (.inl h2)⟩
  · obtain ⟨l, ho, h1, h2, h3, h4, vs, h5, h6⟩ := r.own i _ e'
    subst h5 e1
    exact ⟨.ref l, h1, k _ B H (Gr.refl r.bh) (.inr ⟨l, vs, xs, rfl, rfl, h3, h4, h6⟩)⟩
/-! constants -/
def mC (d : D) : ME := fun _ => some d
def S (s : String) : List Nat := s.toList.map Char.toNat
theorem tC_c {v : V} {d : D} (h : ∀ B, Rp X.K B v d) (σ : L2.St) (H : Hp) (Q : VK) (q : cE X.K (mC d) σ H Q) : tC v σ H Q := by
  obtain ⟨H0, B, ρ, d', r, e, k⟩ := q
  cases e
  exact k v B H (Gr.refl r.bh) (h B)
theorem re_int {i : Int} {j pos} : RE X (.Constant (.int i) j pos) (mC (.int i)) := pe_mono pe_int (tC_c fun _ => .int i)
theorem re_bl {b : Bool} {j pos} : RE X (.Constant (.bool b) j pos) (mC (.bl b)) := pe_mono pe_bl (tC_c fun _ => .bl b)
theorem re_non {j pos} : RE X (.Constant .none j pos) (mC .non) := pe_mono pe_non (tC_c fun _ => .non)
theorem re_str {x : Str} {j pos} (s : String) (h : x = ⟨(S s).toArray⟩ := by exact Str.ofString_eq_toList _) : RE X (.Constant (.str x) j pos) (mC (.str (S s))) := pe_mono pe_str (tC_c fun _ => h ▸ .str _)
/-- a built-in class as a value -/
theorem re_ty {x : Str} {n : String} {pos : Pos} (hg : Gl X x) (hm : X.mg x = none) (hv : bootBuiltins x = some (.type n)) (hn : x ≠ "__name__" := by decide) (hd : (x == ("__debug__" : Str)) = false := by decide) : RE X (.Name x pos) (mC (.ty n)) :=
  pe_mono (pe_bltn (v := .ty n) hg hm hv rfl hn hd) (tC_c fun _ => .ty n)

/-! argument lists -/
def mNil : Slots → Option (List D) := fun _ => some []
def mCons (a : ME) (r : Slots → Option (List D)) : Slots → Option (List D) := fun ρ => match a ρ with
  | some d => (match r ρ with | some ds => some (d :: ds) | none => none)
  | none => none
theorem mCons_at {a : ME} {r : Slots → Option (List D)} {ρ : Slots} {ds : List D} (h : mCons a r ρ = some ds) : ∃ d es, a ρ = some d ∧ r ρ = some es ∧ ds = d :: es := by
  unfold mCons at h
  cases e1 : a ρ with
  | none => rw [e1] at h; cases h
  | some d =>
    cases e2 : r ρ with
    | none => rw [e1, e2] at h; cases h
    | some es => rw [e1, e2] at h; cases h; exact ⟨_, _, rfl, rfl, rfl⟩
theorem ra_nil : RA X [] mNil := pa_mono pa_nil fun σ H Q ⟨H0, B, ρ, ds, r, e, k⟩ => by
  cases e
  exact k [] B H (Gr.refl r.bh) .nil
theorem ra_cons {e : Expr} {es : List Expr} {m : ME} {mr : Slots → Option (List D)} (ha : RE X e m) (hr : RA X es mr) (hs : starEach (e :: es) X.env = (false, eval e X.env) :: starEach es X.env := by rfl) : RA X (e :: es) (mCons m mr) :=
  pa_mono (pa_cons ha hr hs) fun σ H Q ⟨H0, B, ρ, ds, r, e, k⟩ => by
    obtain ⟨d, es, e1, e2, rfl⟩ := mCons_at e
    exact ⟨H0, B, ρ, d, r, e1, fun v B1 H1 g1 r1 => ⟨H0, B1, ρ, es, r.grow g1, e2, fun vs B2 H2 g2 r2 => k _ B2 H2 (g1.trans g2) (.cons (r1.mono g2.b) r2)⟩⟩
theorem rab_nil : RAb X [] mNil := pa_mono pa_nil fun σ H Q ⟨H0, B, ρ, ds, r, e, k⟩ => by
  cases e
  exact k [] B H (Gr.refl r.bh) .nil
theorem rab_cons {e : Expr} {es : List Expr} {m : ME} {mr : Slots → Option (List D)} (ha : RB X e m) (hr : RAb X es mr) (hs : starEach (e :: es) X.env = (false, eval e X.env) :: starEach es X.env := by rfl) : RAb X (e :: es) (mCons m mr) :=
  pa_mono (pa_cons ha hr hs) fun σ H Q ⟨H0, B, ρ, ds, r, e, k⟩ => by
    obtain ⟨d, es, e1, e2, rfl⟩ := mCons_at e
    exact ⟨H0, B, ρ, d, r, e1, fun v B1 H1 g1 r1 => ⟨H0, B1, ρ, es, r.grow g1, e2, fun vs B2 H2 g2 r2 => k _ B2 H2 (g1.trans g2) (.cons (r1.grow g2) r2)⟩⟩
/-! displays -/
def mTup (r : Slots → Option (List D)) : ME := fun ρ => match r ρ with | some ds => if ds.length ≤ sizeLine then some (.tup ds) else none | none => none
def mLst (r : Slots → Option (List D)) : Slots → Option (List D) := fun ρ => match r ρ with | some ds => if ds.length ≤ sizeLine then some ds else none | none => none
theorem re_tup {es : List Expr} {mr : Slots → Option (List D)} {x1} {pos : Pos} (h : RA X es mr) : RE X (.Tuple es x1 pos) (mTup mr) := pe_mono (pe_tup h) fun σ H Q ⟨H0, B, ρ, d, r, e, k⟩ => by
  unfold mTup at e
  split at e
  · rename_i ds hd
    split at e
    · rename_i hz
      cases e
      exact ⟨H0, B, ρ, ds, r, hd, fun vs B1 H1 g1 r1 => ⟨by rw [r1.length]; exact hz, fun p hp => k _ _ _ (g1.trans (Gr.new g1.bh hp)) (.tup upd_same (r1.mono (same_upd (g1.bh.free hp))))⟩⟩
    · cases e
  · cases e
theorem rf_lst {es : List Expr} {mr : Slots → Option (List D)} {pos : Pos} (h : RA X es mr) : RF X (.List es pos) (mLst mr) := pe_mono (pe_lst h) fun σ H Q ⟨H0, B, ρ, d, r, e, k⟩ => by
  unfold mLst at e
  split at e
  · rename_i ds hd
    split at e
    · rename_i hz
      cases e
      exact ⟨H0, B, ρ, _, r, hd, fun vs B1 H1 g1 r1 => ⟨by rw [r1.length]; exact hz, fun p hp => k p vs B1 _ (g1.trans (Gr.newOwn g1.bh hp)) (g1.h.free hp) (g1.bh.free hp) upd_same r1⟩⟩
    · cases e
  · cases e

/-! operators of two -/
def m2 (f : D → D → Option D) (ma mb : ME) : ME := fun ρ => match ma ρ with
  | some a => (match mb ρ with | some b => f a b | none => none)
  | none => none
theorem m2_at {f : D → D → Option D} {ma mb : ME} {ρ : Slots} {c : D} (h : m2 f ma mb ρ = some c) : ∃ a b, ma ρ = some a ∧ mb ρ = some b ∧ f a b = some c := by
  unfold m2 at h
  cases e1 : ma ρ with
  | none => rw [e1] at h; cases h
  | some a =>
    cases e2 : mb ρ with
    | none => rw [e1, e2] at h; cases h
    | some b => rw [e1, e2] at h; exact ⟨_, _, rfl, rfl, h⟩
def Op2 (K : PySem.W.Frag) (r : R2) (f : D → D → Option D) : Prop :=
  ∀ (B H : Hp) (x y : V) (a b c : D), Same B H → Rb K B H x a → Rb K B H y b → f a b = some c → ∀ Q : VK, (∀ v B' H', Gr B H B' H' → Rp K B' v c → Q v H') → r x y H Q
theorem tOp_c {r : R2} {f : D → D → Option D} {ma mb : ME} (h : Op2 X.K r f) (σ : L2.St) (H : Hp) (Q : VK) (q : cE X.K (m2 f ma mb) σ H Q) : tOp r (cB X.K ma) (cB X.K mb) σ H Q := by
  obtain ⟨H0, B, ρ, c, r, e, k⟩ := q
  obtain ⟨a, b, e1, e2, e3⟩ := m2_at e
  exact ⟨H0, B, ρ, a, r, e1, fun v B1 H1 g1 r1 => ⟨H0, B1, ρ, b, r.grow g1, e2, fun u B2 H2 g2 r2 => h B2 H2 v u a b c g2.bh (r1.grow g2) r2 e3 Q fun w B3 H3 g3 r3 => k w B3 H3 ((g1.trans g2).trans g3) r3⟩⟩
variable {a b : Expr} {ma mb : ME} {pos : Pos} {r : R2} {f : D → D → Option D}
theorem re_op {op : Operator} (ho : OpR X (binaryOp op) r) (h : Op2 X.K r f) (ha : RB X a ma) (hb : RB X b mb) : RE X (.BinOp a op b pos) (m2 f ma mb) := pe_mono (pe_op ho ha hb) (tOp_c h)
theorem re_cmp {op : CmpOp} (ho : OpR X (compareOp op) r) (h : Op2 X.K r f) (ha : RB X a ma) (hb : RB X b mb) (hm : behindInMarks op b = false := by first | exact nobehind _ (by decide) (by decide) | rfl) : RE X (.Compare a [op] [b] pos) (m2 f ma mb) :=
  pe_mono (pe_cmpR ho ha hb hm) (tOp_c h)
def mT (m : ME) : Slots → Option Bool := fun ρ => match m ρ with | some (.bl b) => some b | _ => none
theorem mT_at {m : ME} {ρ : Slots} {b : Bool} (h : mT m ρ = some b) : m ρ = some (.bl b) := by
  unfold mT at h
  split at h
  · rename_i e; cases h; exact e
  · cases h
theorem Rp.bl_inv {K : PySem.W.Frag} {B : Hp} {v : V} {b : Bool} (h : Rp K B v (.bl b)) : v = .bl b := by cases h; rfl
theorem Rp.int_inv {K : PySem.W.Frag} {B : Hp} {v : V} {b : Int} (h : Rp K B v (.int b)) : v = .int b := by cases h; rfl
theorem Rp.str_inv {K : PySem.W.Frag} {B : Hp} {v : V} {b : List Nat} (h : Rp K B v (.str b)) : v = .str ⟨b.toArray⟩ := by cases h; rfl
theorem Rp.non_inv {K : PySem.W.Frag} {B : Hp} {v : V} (h : Rp K B v .non) : v = .non := by cases h; rfl
theorem tTest_c {t : TE} {m : ME} (h : ∀ σ H Q, cE X.K m σ H Q → t σ H Q) (σ : L2.St) (H : Hp) (Q : Bool → Hp → Prop) (q : cT X.K (mT m) σ H Q) : tTest t σ H Q := by
  obtain ⟨H0, B, ρ, b, r, e, k⟩ := q
  exact h _ _ _ ⟨H0, B, ρ, _, r, mT_at e, fun v B' H' g rv => ⟨b, rv.bl_inv, k B' H' g⟩⟩
theorem rt_cmp {op : CmpOp} (ho : OpR X (compareOp op) r) (h : Op2 X.K r f) (ha : RB X a ma) (hb : RB X b mb) (hm : behindInMarks op b = false := by first | exact nobehind _ (by decide) (by decide) | rfl) : RT X (.Compare a [op] [b] pos) (mT (m2 f ma mb)) :=
  pt_mono (pt_cmpR ho ha hb hm) (tTest_c (tOp_c h))
/-- an expression whose value is a bool, as a test -/
theorem rt_val {e : Expr} {m : ME} (h : RE X e m) (he : ∀ whole, isTrue e X.env whole = (do let v ← whole; standAt e.pos; holding [v] (truthy v)) := by intro _; rfl) : RT X e (mT m) :=
  pt_mono (pt_val h he) fun σ H Q q => tTest_c (t := cE X.K m) (fun _ _ _ z => z) σ H Q q
/-! and, or, not -/
def mAnd (s t : Slots → Option Bool) : Slots → Option Bool := fun ρ => match s ρ with | some true => t ρ | some false => some false | none => none
def mOr (s t : Slots → Option Bool) : Slots → Option Bool := fun ρ => match s ρ with | some true => some true | some false => t ρ | none => none
def mNot (s : Slots → Option Bool) : Slots → Option Bool := fun ρ => match s ρ with | some b => some (!b) | none => none
variable {s t : Slots → Option Bool} {rest : List Expr}
theorem rw_and1 (ha : RT X a s) : RW X (.BoolOp .And [a] pos) s := pw_and1 ha
theorem rw_or1 (ha : RT X a s) : RW X (.BoolOp .Or [a] pos) s := pw_or1 ha
theorem rw_and (ha : RT X a s) (hb : RW X (.BoolOp .And (b :: rest) pos) t) : RW X (.BoolOp .And (a :: b :: rest) pos) (mAnd s t) := pw_mono (pw_and ha hb) fun σ H Q ⟨H0, B, ρ, c, r, e, k⟩ => by
  unfold mAnd at e
  split at e
  · rename_i h1
    exact ⟨H0, B, ρ, true, r, h1, fun B1 H1 g1 => iteT ⟨H0, B1, ρ, c, r.grow g1, e, fun B2 H2 g2 => k B2 H2 (g1.trans g2)⟩⟩
  · rename_i h1
    cases e
    exact ⟨H0, B, ρ, false, r, h1, fun B1 H1 g1 => iteF (k B1 H1 g1)⟩
  · cases e
theorem rw_or (ha : RT X a s) (hb : RW X (.BoolOp .Or (b :: rest) pos) t) : RW X (.BoolOp .Or (a :: b :: rest) pos) (mOr s t) := pw_mono (pw_or ha hb) fun σ H Q ⟨H0, B, ρ, c, r, e, k⟩ => by
  unfold mOr at e
  split at e
  · rename_i h1
    cases e
    exact ⟨H0, B, ρ, true, r, h1, fun B1 H1 g1 => iteT (k B1 H1 g1)⟩
  · rename_i h1
    exact ⟨H0, B, ρ, false, r, h1, fun B1 H1 g1 => iteF ⟨H0, B1, ρ, c, r.grow g1, e, fun B2 H2 g2 => k B2 H2 (g1.trans g2)⟩⟩
  · cases e
theorem rt_w {e : Expr} (h : RW X e s) : RT X e s := h.pt
theorem rt_not (ha : RT X a s) : RT X (.UnaryOp .Not a pos) (mNot s) := pt_mono (pt_not ha) fun σ H Q ⟨H0, B, ρ, c, r, e, k⟩ => by
  unfold mNot at e
  split at e
  · rename_i b h1
    cases e
    exact ⟨H0, B, ρ, b, r, h1, k⟩
  · cases e
/-- .. as values -/
def mAndV (a b : ME) : ME := fun ρ => match a ρ with | some (.bl true) => b ρ | some (.bl false) => some (.bl false) | _ => none
def mOrV (a b : ME) : ME := fun ρ => match a ρ with | some (.bl true) => some (.bl true) | some (.bl false) => b ρ | _ => none
def mNotV (a : ME) : ME := fun ρ => match a ρ with | some (.bl b) => some (.bl (!b)) | _ => none
theorem re_one {op} (h : RE X a ma) : RE X (.BoolOp op [a] pos) ma := pe_one h
theorem re_and (ha : RE X a ma) (hb : RE X (.BoolOp .And (b :: rest) pos) mb) : RE X (.BoolOp .And (a :: b :: rest) pos) (mAndV ma mb) := pe_mono (pe_and ha hb) fun σ H Q ⟨H0, B, ρ, c, r, e, k⟩ => by
  unfold mAndV at e
  split at e
  · rename_i h1
    exact ⟨H0, B, ρ, _, r, h1, fun v B1 H1 g1 rv => ⟨true, rv.bl_inv, iteT ⟨H0, B1, ρ, c, r.grow g1, e, fun u B2 H2 g2 => k u B2 H2 (g1.trans g2)⟩⟩⟩
  · rename_i h1
    cases e
    exact ⟨H0, B, ρ, _, r, h1, fun v B1 H1 g1 rv => ⟨false, rv.bl_inv, iteF (k _ B1 H1 g1 (.bl false))⟩⟩
  · cases e
theorem re_or (ha : RE X a ma) (hb : RE X (.BoolOp .Or (b :: rest) pos) mb) : RE X (.BoolOp .Or (a :: b :: rest) pos) (mOrV ma mb) := pe_mono (pe_or ha hb) fun σ H Q ⟨H0, B, ρ, c, r, e, k⟩ => by
  unfold mOrV at e
  split at e
  · rename_i h1
    cases e
    exact ⟨H0, B, ρ, _, r, h1, fun v B1 H1 g1 rv => ⟨true, rv.bl_inv, iteT (k _ B1 H1 g1 (.bl true))⟩⟩
  · rename_i h1
    exact ⟨H0, B, ρ, _, r, h1, fun v B1 H1 g1 rv => ⟨false, rv.bl_inv, iteF ⟨H0, B1, ρ, c, r.grow g1, e, fun u B2 H2 g2 => k u B2 H2 (g1.trans g2)⟩⟩⟩
  · cases e
theorem re_not (ha : RE X a ma) : RE X (.UnaryOp .Not a pos) (mNotV ma) := pe_mono (pe_not ha) fun σ H Q ⟨H0, B, ρ, c, r, e, k⟩ => by
  unfold mNotV at e
  split at e
  · rename_i b h1
    cases e
    exact ⟨H0, B, ρ, _, r, h1, fun v B1 H1 g1 rv => ⟨b, rv.bl_inv, k _ B1 H1 g1 (.bl _)⟩⟩
  · cases e
def mIfE (c : Slots → Option Bool) (a b : ME) : ME := fun ρ => match c ρ with | some true => a ρ | some false => b ρ | none => none
theorem re_if {c : Expr} (hc : RT X c s) (ha : RE X a ma) (hb : RE X b mb) : RE X (.IfExp c a b pos) (mIfE s ma mb) := pe_mono (pe_ifExp hc ha hb) fun σ H Q ⟨H0, B, ρ, d, r, e, k⟩ => by
  unfold mIfE at e
  split at e
  · rename_i h1
    exact ⟨H0, B, ρ, _, r, h1, fun B1 H1 g1 => iteT ⟨H0, B1, ρ, d, r.grow g1, e, fun u B2 H2 g2 => k u B2 H2 (g1.trans g2)⟩⟩
  · rename_i h1
    exact ⟨H0, B, ρ, _, r, h1, fun B1 H1 g1 => iteF ⟨H0, B1, ρ, d, r.grow g1, e, fun u B2 H2 g2 => k u B2 H2 (g1.trans g2)⟩⟩
  · cases e
/-- -a -/
def mNeg (a : ME) : ME := fun ρ => match a ρ with | some (.int i) => some (.int (-i)) | _ => none
theorem re_neg (ha : RE X a ma) : RE X (.UnaryOp .USub a pos) (mNeg ma) := pe_mono (pe_un un_neg ha) fun σ H Q ⟨H0, B, ρ, c, r, e, k⟩ => by
  unfold mNeg at e
  split at e
  · rename_i i h1
    cases e
    exact ⟨H0, B, ρ, _, r, h1, fun v B1 H1 g1 rv => ⟨i, rv.int_inv, k _ B1 H1 g1 (.int _)⟩⟩
  · cases e
/-- a op b op c -/
def mChain (f f' : D → D → Option D) (ma mb mc : ME) : ME := fun ρ => match m2 f ma mb ρ with | some (.bl true) => m2 f' mb mc ρ | some (.bl false) => some (.bl false) | _ => none
theorem tChain_c {r r' : R2} {f f' : D → D → Option D} {mc : ME} (h : Op2 X.K r f) (h' : Op2 X.K r' f') (σ : L2.St) (H : Hp) (Q : VK) (q : cE X.K (mChain f f' ma mb mc) σ H Q) : tChain r r' (cB X.K ma) (cB X.K mb) (cB X.K mc) σ H Q := by
  obtain ⟨H0, B, ρ, c, rl, e, k⟩ := q
  unfold mChain at e
  split at e
  · rename_i h1
    obtain ⟨a, b, e1, e2, e3⟩ := m2_at h1
    obtain ⟨b', d, e4, e5, e6⟩ := m2_at e
    rw [e2] at e4
    cases e4
    refine ⟨H0, B, ρ, a, rl, e1, fun v B1 H1 g1 r1 => ⟨H0, B1, ρ, b, rl.grow g1, e2, fun u B2 H2 g2 r2 => h B2 H2 v u a b _ g2.bh (r1.grow g2) r2 e3 _ fun w B3 H3 g3 r3 => ⟨true, r3.bl_inv, iteT ?_⟩⟩⟩
    exact ⟨H0, B3, ρ, d, rl.grow ((g1.trans g2).trans g3), e5, fun x B4 H4 g4 r4 => h' B4 H4 u x b d c g4.bh (r2.grow (g3.trans g4)) r4 e6 Q fun y B5 H5 g5 r5 => k y B5 H5 ((((g1.trans g2).trans g3).trans g4).trans g5) r5⟩
  · rename_i h1
    cases e
    obtain ⟨a, b, e1, e2, e3⟩ := m2_at h1
    exact ⟨H0, B, ρ, a, rl, e1, fun v B1 H1 g1 r1 => ⟨H0, B1, ρ, b, rl.grow g1, e2, fun u B2 H2 g2 r2 => h B2 H2 v u a b _ g2.bh (r1.grow g2) r2 e3 _ fun w B3 H3 g3 r3 => ⟨false, r3.bl_inv, iteF (k _ B3 H3 ((g1.trans g2).trans g3) (.bl false))⟩⟩⟩
  · cases e
theorem re_chain {op op' : CmpOp} {c : Expr} {mc : ME} {r r' : R2} {f f' : D → D → Option D} (ho : OpR X (compareOp op) r) (h : Op2 X.K r f) (ho' : OpR X (compareOp op') r') (h' : Op2 X.K r' f') (ha : RB X a ma) (hb : RB X b mb) (hc : RB X c mc)
    (hm : lastMarks [op, op'] [b, c] = false := by with_unfolding_all rfl) : RE X (.Compare a [op, op'] [b, c] pos) (mChain f f' ma mb mc) := pe_mono (pe_chain ho ho' ha hb hc hm) (tChain_c h h')
theorem rt_chain {op op' : CmpOp} {c : Expr} {mc : ME} {r r' : R2} {f f' : D → D → Option D} (ho : OpR X (compareOp op) r) (h : Op2 X.K r f) (ho' : OpR X (compareOp op') r') (h' : Op2 X.K r' f') (ha : RB X a ma) (hb : RB X b mb) (hc : RB X c mc)
    (hm : lastMarks [op, op'] [b, c] = false := by with_unfolding_all rfl) : RT X (.Compare a [op, op'] [b, c] pos) (mT (mChain f f' ma mb mc)) := pt_mono (pt_chain ho ho' ha hb hc hm) (tTest_c (tChain_c h h'))
end
end R
/-! R3: operators, subscripts, built-ins -/
namespace R
open PySem PySem.Spec PyProof.Rows L2

section
variable {K : PySem.W.Frag} {B H : Hp} {v : V}
theorem Rb.int {i : Int} (h : Rb K B H v (.int i)) : v = .int i := by
  rcases h with h | ⟨_, _, _, _, e, _⟩
  · exact h.int_inv
  · cases e
theorem Rb.bl {i : Bool} (h : Rb K B H v (.bl i)) : v = .bl i := by
  rcases h with h | ⟨_, _, _, _, e, _⟩
  · exact h.bl_inv
  · cases e
theorem Rb.str {i : List Nat} (h : Rb K B H v (.str i)) : v = .str ⟨i.toArray⟩ := by
  rcases h with h | ⟨_, _, _, _, e, _⟩
  · exact h.str_inv
  · cases e
theorem Rb.non (h : Rb K B H v .non) : v = .non := by
  rcases h with h | ⟨_, _, _, _, e, _⟩
  · exact h.non_inv
  · cases e
theorem Rb.ty {n : String} (h : Rb K B H v (.ty n)) : v = .ty n := by
  rcases h with h | ⟨_, _, _, _, e, _⟩
  · cases h; rfl
  · cases e
theorem Rb.lst {xs : List D} (e : Same B H) (h : Rb K B H v (.lst xs)) : ∃ a vs, v = .ref a ∧ H a = some (.lst vs) ∧ Rps K B vs xs := by
  rcases h with h | ⟨l, vs, ys, e1, e2, e3, e4, e5⟩
  · cases h with
    | lst h1 h2 => exact ⟨_, _, rfl, e _ _ h1, h2⟩
  · cases e2
    exact ⟨l, vs, e1, e4, e5⟩
theorem Rb.tup {xs : List D} (e : Same B H) (h : Rb K B H v (.tup xs)) : ∃ a vs, v = .ref a ∧ B a = some (.tup vs) ∧ H a = some (.tup vs) ∧ Rps K B vs xs := by
  rcases h with h | ⟨l, vs, ys, e1, e2, e3, e4, e5⟩
  · cases h with
    | tup h1 h2 => exact ⟨_, _, rfl, h1, e _ _ h1, h2⟩
  · cases e2
theorem Rb.lsk {xs : List D} (e : Same B H) (h : Rb K B H v (.lsk xs)) : ∃ a vs, v = .ref a ∧ SqL K H a vs ∧ Rps K B vs xs := by
  rcases h with h | ⟨l, vs, ys, e1, e2, e3, e4, e5⟩
  · cases h with
    | lsk h1 h2 => exact ⟨_, _, rfl, e.seq h1, h2⟩
  · cases e2
theorem Rb.dct {ks : List Key} {ds : List D} (e : Same B H) (h : Rb K B H v (.dct ks ds)) : ∃ a vs, v = .ref a ∧ H a = some (.dK (ks.zip vs)) ∧ Rps K B vs ds := by
  rcases h with h | ⟨l, vs, ys, e1, e2, e3, e4, e5⟩
  · cases h with
    | dct h1 h2 => exact ⟨_, _, rfl, e _ _ h1, h2⟩
  · cases e2
end
theorem slen (cs : List Nat) : (⟨cs.toArray⟩ : Str).length = cs.length := by simp [Str.length]
theorem sapp (a b : List Nat) : (⟨a.toArray⟩ : Str) ++ ⟨b.toArray⟩ = ⟨(a ++ b).toArray⟩ := by
  show Str.append _ _ = _
  simp [Str.append]
theorem sinj {a b : List Nat} : ((⟨a.toArray⟩ : Str) = ⟨b.toArray⟩) ↔ a = b := by
  constructor
  · intro h
    have := congrArg (fun s : Str => s.cps.toList) h
    simpa using this
  · rintro rfl; rfl

/-! + -/
def fAdd : D → D → Option D
  | .int i, .int j => some (.int (i + j))
  | .str a, .str b => if a.length + b.length ≤ sizeLine then some (.str (a ++ b)) else none
  | .lst a, .lst b => if a.length + b.length ≤ sizeLine then some (.lst (a ++ b)) else none
  | .tup a, .tup b => if a.length + b.length ≤ sizeLine then some (.tup (a ++ b)) else none
  | _, _ => none
def rStr : R2 := fun x y H Q => ∃ i j, x = .str i ∧ y = .str j ∧ i.length + j.length ≤ sizeLine ∧ Q (.str (i ++ j)) H
def rAdd (K : PySem.W.Frag) : R2 := fun x y H Q => (rI0 (fun i j => .int (i + j)) x y H Q ∨ rStr x y H Q) ∨ (rCat x y H Q ∨ rCatA K x y H Q)
theorem op_addU {X : Cx} : OpR X (binaryOp .Add) (rAdd X.K) := (op_add.or op_add_str).or (op_cat.or op_catA)
theorem ok_add (K : PySem.W.Frag) : Op2 K (rAdd K) fAdd := by
  intro B H x y a b c e ra rb h Q k
  cases a <;> cases b <;> try (cases h; done)
  · cases h
    exact .inl (.inl ⟨_, _, ra.int, rb.int, k _ B H (Gr.refl e) (.int _)⟩)
  · rename_i a b
    simp only [fAdd] at h
    split at h
    · cases h
      refine .inl (.inr ⟨_, _, ra.str, rb.str, by rw [slen, slen]; assumption, ?_⟩)
      rw [sapp]
      exact k _ B H (Gr.refl e) (.str _)
    · cases h
  · rename_i a b
    simp only [fAdd] at h
    split at h
    · rename_i hz
      cases h
      obtain ⟨p, vs, e1, h1, r1⟩ := ra.tup e
      obtain ⟨p2, vs2, e2, h2, h2', r2⟩ := rb.tup e
      obtain ⟨h1', r1⟩ := r1
      have l1 := r1.length
      have l2 := r2.length
      refine .inr (.inr ⟨_, _, vs, vs2, e1, e2, SqT.of h1', SqT.of h2', by omega, fun z => ?_, fun _ z => ?_, fun _ _ q hq => ?_⟩)
      · subst z
        cases r1
        exact k _ B H (Gr.refl e) (.tup h2 r2)
      · subst z
        cases r2
        rw [List.append_nil] at k
        exact k _ B H (Gr.refl e) (.tup h1 r1)
      · exact k _ _ _ (Gr.new e hq) (.tup upd_same ((r1.append r2).mono (same_upd (e.free hq))))
    · cases h
  · rename_i a b
    simp only [fAdd] at h
    split at h
    · rename_i hz
      cases h
      obtain ⟨p, vs, e1, h1, r1⟩ := ra.lst e
      obtain ⟨p2, vs2, e2, h2, r2⟩ := rb.lst e
      have l1 := r1.length
      have l2 := r2.length
      exact .inr (.inl ⟨_, _, vs, vs2, e1, e2, h1, h2, by omega, fun q hq => k _ _ _ (Gr.new e hq) (.lst upd_same ((r1.append r2).mono (same_upd (e.free hq))))⟩)
    · cases h
/-! ints -/
def fSub : D → D → Option D
  | .int i, .int j => some (.int (i - j))
  | _, _ => none
theorem ok_I0 {K : PySem.W.Frag} {g : Int → Int → V} {f : D → D → Option D} {q : Int → Int → D} (hq : ∀ i j B, Rp K B (g i j) (q i j)) (hf : ∀ a b c, f a b = some c → ∃ i j, a = .int i ∧ b = .int j ∧ c = q i j) : Op2 K (rI0 g) f := by
  intro B H x y a b c e ra rb h Q k
  obtain ⟨i, j, rfl, rfl, rfl⟩ := hf a b c h
  exact ⟨i, j, ra.int, rb.int, k _ B H (Gr.refl e) (hq i j B)⟩
theorem ok_I {K : PySem.W.Frag} {C : Int → Int → Prop} {g : Int → Int → V} {f : D → D → Option D} {q : Int → Int → D} (hq : ∀ i j B, Rp K B (g i j) (q i j)) (hf : ∀ a b c, f a b = some c → ∃ i j, a = .int i ∧ b = .int j ∧ C i j ∧ c = q i j) : Op2 K (rI C g) f := by
  intro B H x y a b c e ra rb h Q k
  obtain ⟨i, j, rfl, rfl, hc, rfl⟩ := hf a b c h
  exact ⟨i, j, ra.int, rb.int, hc, k _ B H (Gr.refl e) (hq i j B)⟩
theorem ok_sub (K : PySem.W.Frag) : Op2 K (rI0 fun i j => .int (i - j)) fSub := ok_I0 (q := fun i j => .int (i - j)) (fun i j B => .int _) (by
  intro a b c h
  cases a <;> cases b <;> try (cases h; done)
  cases h
  exact ⟨_, _, rfl, rfl, rfl⟩)
def fMod : D → D → Option D
  | .int i, .int j => if 0 < j then some (.int (i % j)) else none
  | _, _ => none
theorem ok_mod (K : PySem.W.Frag) : Op2 K (rI (fun _ j => 0 < j) fun i j => .int (i % j)) fMod := ok_I (q := fun i j => .int (i % j)) (fun i j B => .int _) (by
  intro a b c h
  cases a <;> cases b <;> try (cases h; done)
  simp only [fMod] at h
  split at h
  · cases h
    exact ⟨_, _, rfl, rfl, by assumption, rfl⟩
  · cases h)
def fDiv : D → D → Option D
  | .int i, .int j => if 0 < j ∧ j < 1073741824 then some (.int (i / j)) else none
  | _, _ => none
theorem ok_div (K : PySem.W.Frag) : Op2 K (rI CDiv fun i j => .int (i / j)) fDiv := ok_I (q := fun i j => .int (i / j)) (fun i j B => .int _) (by
  intro a b c h
  cases a <;> cases b <;> try (cases h; done)
  simp only [fDiv] at h
  split at h
  · cases h
    exact ⟨_, _, rfl, rfl, by assumption, rfl⟩
  · cases h)
def fPow : D → D → Option D
  | .int i, .int j => if 0 ≤ j ∧ j ≤ 1000000 ∧ i.natAbs < 2 ^ 64 then some (.int (i ^ j.toNat)) else none
  | _, _ => none
theorem ok_pow (K : PySem.W.Frag) : Op2 K (rI CPow fun i j => .int (i ^ j.toNat)) fPow := ok_I (q := fun i j => .int (i ^ j.toNat)) (fun i j B => .int _) (by
  intro a b c h
  cases a <;> cases b <;> try (cases h; done)
  simp only [fPow] at h
  split at h
  · cases h
    exact ⟨_, _, rfl, rfl, by assumption, rfl⟩
  · cases h)
/-! * -/
def cmulB (i j : Int) : Bool := decide ((-(2 ^ 64) < i ∧ i < 2 ^ 64) ∨ (-(2 ^ 64) < j ∧ j < 2 ^ 64))
def fMul : D → D → Option D
  | .int i, .int j => if cmulB i j = true then some (.int (i * j)) else none
  | .str a, .int n => if 0 ≤ n ∧ n ≤ 1000 ∧ a.length ≤ 1000 then some (.str (List.replicate n.toNat a).flatten) else none
  | .lst a, .int n => if -(2 ^ 63) ≤ n ∧ n < 2 ^ 63 ∧ a.length * n.toNat ≤ sizeLine then some (.lst (List.replicate n.toNat a).flatten) else none
  | _, _ => none
def rRepS : R2 := fun x y H Q => ∃ (a : List Nat) (n : Int), x = .str ⟨a.toArray⟩ ∧ y = .int n ∧ 0 ≤ n ∧ n ≤ 1000 ∧ a.length ≤ 1000 ∧ Q (.str ⟨(List.replicate n.toNat a).flatten.toArray⟩) H
theorem fold_rep (a : List Nat) : ∀ (n : Nat) (acc : List Nat), (List.replicate n a.toArray).foldl (· ++ ·) acc.toArray = (acc ++ (List.replicate n a).flatten).toArray
  | 0, acc => by simp
  | n + 1, acc => by
    rw [List.replicate_succ, List.foldl_cons, List.append_toArray, fold_rep a n (acc ++ a), List.replicate_succ, List.flatten_cons, List.append_assoc]
theorem op_repS {X : Cx} : OpR X (binaryOp .Mult) rRepS := by
  intro pins s σ H x y v u Q I rx ry h
  obtain ⟨a, n, rfl, rfl, h0, h1, hl, q⟩ := h
  obtain ⟨t, rfl⟩ := rx
  obtain ⟨t', rfl⟩ := ry
  have hn : n.toNat ≤ 1000 := by omega
  have hp : a.length * n.toNat ≤ 1000 * 1000 := Nat.mul_le_mul hl hn
  have hs := sizeLine_eq
  refine PySem.P.mul_str (by rw [decide_eq_false (by omega), decide_eq_false (by omega)]; rfl) (fun hn1 _ => ?_) (fun _ _ => ?_) ?_
  · rw [slen]
    have : (a.length : Int) ≤ (2 ^ 63 - 1) / n := Int.le_ediv_of_mul_le (by omega) (by
      have e : (a.length : Int) * n = ((a.length * n.toNat : Nat) : Int) := by
        rw [Int.natCast_mul, Int.toNat_of_nonneg h0]
      rw [e]
      omega)
    omega
  · rw [slen]
    unfold Builtin.Str.tooLong
    exact decide_eq_false (by omega)
  · have hlen : ((List.replicate n.toNat a).flatten).length = n.toNat * a.length := by simp
    by_cases c1 : n < 1
    · rw [if_pos c1]
      have : n = 0 := by omega
      subst this
      exact ⟨by decide, .str _, H, I.tok _, ⟨_, rfl⟩, q⟩
    · rw [if_neg c1]
      by_cases c2 : (n == 1 || (⟨a.toArray⟩ : Str).length == 0) = true
      · rw [if_pos c2]
        have e : (List.replicate n.toNat a).flatten = a := by
          rw [Bool.or_eq_true, beq_iff_eq, beq_iff_eq, slen] at c2
          rcases c2 with c2 | c2
          · subst c2; simp
          · have : a = [] := List.eq_nil_of_length_eq_zero c2
            subst this
            simp
        rw [e] at q
        exact ⟨.str _, H, I, ⟨_, rfl⟩, q⟩
      · rw [if_neg c2]
        have e := fold_rep a n.toNat []
        rw [List.nil_append] at e
        show _ ∧ _
        have e' : (List.replicate n.toNat (⟨a.toArray⟩ : Str).cps).foldl (· ++ ·) #[] = (List.replicate n.toNat a).flatten.toArray := e
        rw [e']
        refine ⟨?_, .str _, H, I.tok _, ⟨_, rfl⟩, q⟩
        rw [slen, hlen, Nat.mul_comm]
        omega
def rMul : R2 := fun x y H Q => (rI CMul (fun i j => .int (i * j)) x y H Q ∨ rRepS x y H Q) ∨ rRep x y H Q
theorem op_mulU {X : Cx} : OpR X (binaryOp .Mult) rMul := (op_mul.or op_repS).or op_rep
theorem Rps.rep {K : PySem.W.Frag} {B : Hp} {vs : List V} {ds : List D} (r : Rps K B vs ds) : ∀ n : Nat, Rps K B (List.replicate n vs).flatten (List.replicate n ds).flatten
  | 0 => .nil
  | n + 1 => by
    rw [List.replicate_succ, List.replicate_succ, List.flatten_cons, List.flatten_cons]
    exact r.append (Rps.rep r n)
theorem ok_mul (K : PySem.W.Frag) : Op2 K rMul fMul := by
  intro B H x y a b c e ra rb h Q k
  cases b <;> try (cases a <;> cases h; done)
  cases a <;> try (cases h; done)
  · simp only [fMul] at h
    split at h
    · rename_i hc
      cases h
      exact .inl (.inl ⟨_, _, ra.int, rb.int, (show CMul _ _ from of_decide_eq_true (p := (-(2 ^ 64) < _ ∧ _ < 2 ^ 64) ∨ (-(2 ^ 64) < _ ∧ _ < 2 ^ 64)) hc), k _ B H (Gr.refl e) (.int _)⟩)
    · cases h
  · simp only [fMul] at h
    split at h
    · rename_i hc
      cases h
      exact .inl (.inr ⟨_, _, ra.str, rb.int, hc.1, hc.2.1, hc.2.2, k _ B H (Gr.refl e) (.str _)⟩)
    · cases h
  · simp only [fMul] at h
    split at h
    · rename_i hc
      cases h
      obtain ⟨p, vs, e1, h1, r1⟩ := ra.lst e
      exact .inr ⟨_, _, vs, e1, rb.int, h1, hc.1, hc.2.1, by rw [r1.length]; exact hc.2.2, fun q hq => k _ _ _ (Gr.new e hq) (.lst upd_same ((r1.rep _).mono (same_upd (e.free hq))))⟩
    · cases h
/-! comparisons of ints -/
def fCmp (p : Int → Int → Bool) : D → D → Option D
  | .int i, .int j => some (.bl (p i j))
  | _, _ => none
theorem ok_cmp (K : PySem.W.Frag) (p : Int → Int → Bool) : Op2 K (rI0 fun i j => .bl (p i j)) (fCmp p) := ok_I0 (q := fun i j => .bl (p i j)) (fun i j B => .bl _) (by
  intro a b c h
  cases a <;> cases b <;> try (cases h; done)
  cases h
  exact ⟨_, _, rfl, rfl, rfl⟩)
abbrev fLt := fCmp fun i j => decide (i < j)
abbrev fLe := fCmp fun i j => decide (i ≤ j)
abbrev fGt := fCmp fun i j => decide (j < i)
abbrev fGe := fCmp fun i j => decide (j ≤ i)
/-! == -/
mutual
def py : D → PyData
  | .non => .none
  | .bl b => .bool b
  | .int i => .int i
  | .str cs => .str ⟨cs.toArray⟩
  | .tup xs => .tuple (pys xs)
  | .lst xs => .list (pys xs)
  | .lsk xs => .list (pys xs)
  | .dct _ _ => .none
  | .ty _ => .none
def pys : List D → List PyData
  | [] => []
  | x :: xs => py x :: pys xs
end
mutual
def isPy : D → Bool
  | .non => true
  | .bl _ => true
  | .int _ => true
  | .str _ => true
  | .tup xs => arePy xs
  | .lst xs => arePy xs
  | .lsk xs => arePy xs
  | .dct _ _ => false
  | .ty _ => false
def arePy : List D → Bool
  | [] => true
  | x :: xs => isPy x && arePy xs
end
mutual
theorem Rp.dp {K : PySem.W.Frag} {B : Hp} : ∀ {v : V} {d : D}, Rp K B v d → isPy d = true → Dp K B v (py d)
  | _, _, .non, _ => by unfold py; exact .non
  | _, _, .bl b, _ => by unfold py; exact .bl b
  | _, _, .int i, _ => by unfold py; exact .int i
  | _, _, .str cs, _ => by unfold py; exact .str _
  | _, _, .ty n, h => by unfold isPy at h; cases h
  | _, _, .tup h hs, e => by unfold py; unfold isPy at e; exact .tup (SqT.of h) (Rps.dp hs e)
  | _, _, .lst h hs, e => by unfold py; unfold isPy at e; exact .lst (SqL.of h) (Rps.dp hs e)
  | _, _, .lsk h hs, e => by unfold py; unfold isPy at e; exact .lst h (Rps.dp hs e)
  | _, _, .dct h hs, e => by unfold isPy at e; cases e
theorem Rps.dp {K : PySem.W.Frag} {B : Hp} : ∀ {vs : List V} {ds : List D}, Rps K B vs ds → arePy ds = true → DpAll K B vs (pys ds)
  | _, _, .nil, _ => by unfold pys; exact .nil
  | _, _, .cons h hs, e => by
    unfold arePy at e
    rw [Bool.and_eq_true] at e
    unfold pys
    exact .cons (Rp.dp h e.1) (Rps.dp hs e.2)
end
mutual
theorem dp_mono {K : PySem.W.Frag} {B B' : Hp} (s : Same B B') : ∀ {v : V} {d : PyData}, Dp K B v d → Dp K B' v d
  | _, _, .non => .non
  | _, _, .bl b => .bl b
  | _, _, .int i => .int i
  | _, _, .str cs => .str _
  | _, _, .tup h hs => .tup (sqt_same s h) (dps_mono s hs)
  | _, _, .lst h hs => .lst (s.seq h) (dps_mono s hs)
theorem dps_mono {K : PySem.W.Frag} {B B' : Hp} (s : Same B B') : ∀ {vs : List V} {ds : List PyData}, DpAll K B vs ds → DpAll K B' vs ds
  | _, _, .nil => .nil
  | _, _, .cons h hs => .cons (dp_mono s h) (dps_mono s hs)
end
theorem Rb.dp {K : PySem.W.Frag} {B H : Hp} {v : V} {d : D} (e : Same B H) (h : Rb K B H v d) (i : isPy d = true) : Dp K H v (py d) := by
  rcases h with h | ⟨l, vs, xs, rfl, rfl, h1, h2, h3⟩
  · exact dp_mono e (h.dp i)
  · unfold isPy at i
    unfold py
    exact .lst (SqL.of h2) (dps_mono e (h3.dp i))
def scD : D → D → Option Bool
  | .int i, .int j => some (decide (i = j))
  | .str a, .str b => some (decide (a = b))
  | .bl a, .bl b => some (decide (a = b))
  | .non, .non => some true
  | .non, .str _ => some false
  | .str _, .non => some false
  | .non, .int _ => some false
  | .int _, .non => some false
  | .non, .bl _ => some false
  | .bl _, .non => some false
  | .int _, .str _ => some false
  | .str _, .int _ => some false
  | .bl _, .str _ => some false
  | .str _, .bl _ => some false
  | _, _ => none
def dpD (a b : D) : Option Bool := if (isPy a && isPy b && SeqAt.shaped (py a) && SeqAt.shaped (py b)) = true then some (PyData.eqv (py a) (py b)) else none
def eqD (a b : D) : Option Bool := match scD a b with | some r => some r | none => dpD a b
theorem scD_ok {K : PySem.W.Frag} {B H : Hp} {x y : V} {a b : D} {r : Bool} (ra : Rb K B H x a) (rb : Rb K B H y b) (h : scD a b = some r) : scal x y = true ∧ decide (x = y) = r := by
  unfold scD at h
  split at h <;> cases h
  · rw [ra.int, rb.int]
    exact ⟨rfl, decide_eq_decide.mpr ⟨fun z => V.int.inj z, fun z => congrArg _ z⟩⟩
  · rw [ra.str, rb.str]
    exact ⟨rfl, decide_eq_decide.mpr ⟨fun z => sinj.mp (V.str.inj z), fun z => by rw [z]⟩⟩
  · rw [ra.bl, rb.bl]
    exact ⟨rfl, decide_eq_decide.mpr ⟨fun z => V.bl.inj z, fun z => congrArg _ z⟩⟩
  · rw [ra.non, rb.non]; exact ⟨rfl, rfl⟩
  · rw [ra.non, rb.str]; exact ⟨rfl, rfl⟩
  · rw [ra.str, rb.non]; exact ⟨rfl, rfl⟩
  · rw [ra.non, rb.int]; exact ⟨rfl, rfl⟩
  · rw [ra.int, rb.non]; exact ⟨rfl, rfl⟩
  · rw [ra.non, rb.bl]; exact ⟨rfl, rfl⟩
  · rw [ra.bl, rb.non]; exact ⟨rfl, rfl⟩
  · rw [ra.int, rb.str]; exact ⟨rfl, rfl⟩
  · rw [ra.str, rb.int]; exact ⟨rfl, rfl⟩
  · rw [ra.bl, rb.str]; exact ⟨rfl, rfl⟩
  · rw [ra.str, rb.bl]; exact ⟨rfl, rfl⟩
theorem dpD_ok {a b : D} {r : Bool} (h : dpD a b = some r) : isPy a = true ∧ isPy b = true ∧ SeqAt.shaped (py a) = true ∧ SeqAt.shaped (py b) = true ∧ PyData.eqv (py a) (py b) = r := by
  unfold dpD at h
  split at h
  · rename_i hc
    cases h
    simp only [Bool.and_eq_true] at hc
    exact ⟨hc.1.1.1, hc.1.1.2, hc.1.2, hc.2, rfl⟩
  · cases h
def fEq (a b : D) : Option D := match eqD a b with | some r => some (.bl r) | none => none
def fNe (a b : D) : Option D := match eqD a b with | some r => some (.bl (!r)) | none => none
def rEqU (K : PySem.W.Frag) : R2 := fun x y H Q => rEq x y H Q ∨ rEqD K x y H Q
def rNeU (K : PySem.W.Frag) : R2 := fun x y H Q => rNe x y H Q ∨ rNeD K x y H Q
theorem op_eqU {X : Cx} (hu : X.A.units + 64 < cLine) : OpR X (compareOp .Eq) (rEqU X.K) := op_eq.or (op_eqD hu)
theorem op_neU {X : Cx} (hu : X.A.units + 64 < cLine) : OpR X (compareOp .NotEq) (rNeU X.K) := op_ne.or (op_neD hu)
theorem ok_eq (K : PySem.W.Frag) : Op2 K (rEqU K) fEq := by
  intro B H x y a b c e ra rb h Q k
  unfold fEq eqD at h
  cases hs : scD a b with
  | some r =>
    rw [hs] at h
    cases h
    obtain ⟨h1, h2⟩ := scD_ok ra rb hs
    refine .inl ⟨h1, ?_⟩
    rw [h2]
    exact k _ B H (Gr.refl e) (.bl _)
  | none =>
    rw [hs] at h
    cases hd : dpD a b with
    | none => simp only [hd] at h; cases h
    | some r =>
      simp only [hd] at h
      cases h
      obtain ⟨h1, h2, h3, h4, h5⟩ := dpD_ok hd
      refine .inr ⟨_, _, ra.dp e h1, rb.dp e h2, h3, h4, ?_⟩
      rw [h5]
      exact k _ B H (Gr.refl e) (.bl _)
theorem ok_ne (K : PySem.W.Frag) : Op2 K (rNeU K) fNe := by
  intro B H x y a b c e ra rb h Q k
  unfold fNe eqD at h
  cases hs : scD a b with
  | some r =>
    rw [hs] at h
    cases h
    obtain ⟨h1, h2⟩ := scD_ok ra rb hs
    refine .inl ⟨h1, ?_⟩
    rw [h2]
    exact k _ B H (Gr.refl e) (.bl _)
  | none =>
    rw [hs] at h
    cases hd : dpD a b with
    | none => simp only [hd] at h; cases h
    | some r =>
      simp only [hd] at h
      cases h
      obtain ⟨h1, h2, h3, h4, h5⟩ := dpD_ok hd
      refine .inr ⟨_, _, ra.dp e h1, rb.dp e h2, h3, h4, ?_⟩
      rw [h5]
      exact k _ B H (Gr.refl e) (.bl _)
/-! is -/
def isNon : D → Bool
  | .non => true
  | _ => false
def fIs : D → D → Option D
  | a, .non => some (.bl (isNon a))
  | .bl a, .bl b => some (.bl (decide (a = b)))
  | _, _ => none
def fIsNot : D → D → Option D
  | a, .non => some (.bl (!isNon a))
  | .bl a, .bl b => some (.bl (!decide (a = b)))
  | _, _ => none
def rIs : R2 := fun x y H Q => (y = .non ∧ Q (.bl (decide (x = .non))) H) ∨ rIsB x y H Q
def rIsNot : R2 := fun x y H Q => (y = .non ∧ Q (.bl (!decide (x = .non))) H) ∨ rNotB x y H Q
theorem op_isU {X : Cx} : OpR X (compareOp .Is) rIs := op_isN.or op_isBl
theorem op_isnotU {X : Cx} : OpR X (compareOp .IsNot) rIsNot := op_notN.or op_notBl
theorem Rb.isNon {K : PySem.W.Frag} {B H : Hp} {v : V} {d : D} (h : Rb K B H v d) : decide (v = V.non) = isNon d := by
  rcases h with h | ⟨l, vs, xs, rfl, rfl, _⟩
  · cases h <;> rfl
  · rfl
theorem ok_is (K : PySem.W.Frag) : Op2 K rIs fIs := by
  intro B H x y a b c e ra rb h Q k
  unfold fIs at h
  split at h
  · cases h
    refine .inl ⟨rb.non, ?_⟩
    rw [ra.isNon]
    exact k _ B H (Gr.refl e) (.bl _)
  · cases h
    exact .inr ⟨_, _, ra.bl, rb.bl, k _ B H (Gr.refl e) (.bl _)⟩
  · cases h
theorem ok_isnot (K : PySem.W.Frag) : Op2 K rIsNot fIsNot := by
  intro B H x y a b c e ra rb h Q k
  unfold fIsNot at h
  split at h
  · cases h
    refine .inl ⟨rb.non, ?_⟩
    rw [ra.isNon]
    exact k _ B H (Gr.refl e) (.bl _)
  · cases h
    exact .inr ⟨_, _, ra.bl, rb.bl, k _ B H (Gr.refl e) (.bl _)⟩
  · cases h
end R
/-! R4: in, subscripts, slices, built-ins, methods of texts -/
namespace R
open PySem PySem.Spec PyProof.Rows L2

/-! in -/
def flatD : D → Bool
  | .non => true
  | .bl _ => true
  | .int _ => true
  | .str _ => true
  | _ => false
def eqF : D → D → Bool
  | .non, .non => true
  | .bl a, .bl b => a == b
  | .bl a, .int b => (if a then 1 else 0) == b
  | .int a, .bl b => a == (if b then 1 else 0)
  | .int a, .int b => a == b
  | .str a, .str b => decide (a = b)
  | _, _ => false
def inD (x : D) (xs : List D) : Bool := xs.any fun y => eqF y x
section
variable {K : PySem.W.Frag} {B H : Hp}
theorem Rb.rp_flat {v : V} {d : D} (h : Rb K B H v d) (f : flatD d = true) : Rp K B v d := by
  rcases h with h | ⟨l, vs, xs, rfl, rfl, h1, h2, h3⟩
  · exact h
  · cases f
theorem Rp.flat {v : V} {d : D} (h : Rp K B v d) (f : flatD d = true) : flatV v = true := by
  cases h <;> first | rfl | cases f
theorem Rp.eqF {v w : V} {d e : D} (h : Rp K B v d) (h' : Rp K B w e) (f : flatD d = true) (f' : flatD e = true) : eqV v w = eqF d e := by
  cases h <;> first | cases f; done | skip
  all_goals (cases h' <;> first | cases f'; done | rfl | skip)
  rename_i a b
  show (_ == _) = decide _
  rw [Bool.beq_eq_decide_eq]
  exact decide_eq_decide.mpr sinj
theorem Rps.flat : ∀ {vs : List V} {ds : List D}, Rps K B vs ds → ds.all flatD = true → vs.all flatV = true
  | _, _, .nil, _ => rfl
  | _, _, .cons h hs, f => by
    rw [List.all_cons, Bool.and_eq_true] at f ⊢
    exact ⟨h.flat f.1, hs.flat f.2⟩
theorem Rps.inD {x : V} {d : D} (hx : Rp K B x d) (fx : flatD d = true) : ∀ {vs : List V} {ds : List D}, Rps K B vs ds → ds.all flatD = true → inV x vs = inD d ds
  | _, _, .nil, _ => rfl
  | _, _, .cons h hs, f => by
    rw [List.all_cons, Bool.and_eq_true] at f
    have ih := Rps.inD hx fx hs f.2
    unfold inV at ih ⊢
    unfold R.inD at ih ⊢
    rw [List.any_cons, List.any_cons, ih, h.eqF hx f.1 fx]
end
def keyOf : D → Option Key
  | .int i => some (.inl i)
  | .str cs => some (.inr ⟨cs.toArray⟩)
  | _ => none
def dlook : List Key → List D → Key → Option D
  | k :: ks, d :: ds, x => if k = x then some d else dlook ks ds x
  | _, _, _ => none
theorem dlook_ok {K : PySem.W.Frag} {B : Hp} {k : Key} : ∀ {ks : List Key} {vs : List V} {ds : List D}, Rps K B vs ds → (valV (ks.zip vs) k = none ∧ dlook ks ds k = none) ∨ ∃ v d, valV (ks.zip vs) k = some v ∧ dlook ks ds k = some d ∧ Rp K B v d
  | [], _, _, _ => .inl ⟨rfl, by unfold dlook; rfl⟩
  | _ :: _, _, _, .nil => .inl ⟨rfl, by unfold dlook; rfl⟩
  | k' :: ks, _, _, .cons (v := v) (d := d) h hs => by
    unfold dlook
    rw [List.zip_cons_cons]
    by_cases e : k' = k
    · rw [valV_pos (p := (k', v)) e, if_pos e]
      exact .inr ⟨_, _, rfl, rfl, h⟩
    · rw [valV_neg (p := (k', v)) e, if_neg e]
      exact dlook_ok hs
theorem keyOf_ok {K : PySem.W.Frag} {B H : Hp} {v : V} {d : D} {k : Key} (h : Rb K B H v d) (e : keyOf d = some k) : v = kV k := by
  unfold keyOf at e
  split at e <;> cases e
  · exact h.int
  · exact h.str
def inB : D → D → Option Bool
  | .str [c], .str z => some (decide (c ∈ z))
  | .str x, .str z => some (!(Builtin.Str.occurrences ⟨z.toArray⟩ ⟨x.toArray⟩ 0 z.length 1).isEmpty)
  | x, .lst xs => if (flatD x && xs.all flatD) = true then some (inD x xs) else none
  | x, .lsk xs => if (flatD x && xs.all flatD) = true then some (inD x xs) else none
  | x, .tup xs => if (flatD x && xs.all flatD) = true then some (inD x xs) else none
  | x, .dct ks ds => match keyOf x with | some k => some (dlook ks ds k).isSome | none => none
  | _, _ => none
def fIn (a b : D) : Option D := match inB a b with | some r => some (.bl r) | none => none
def fNotIn (a b : D) : Option D := match inB a b with | some r => some (.bl (!r)) | none => none
/-- what «x in y» is, by values -/
def rInP (K : PySem.W.Frag) : V → V → Hp → Bool → Prop := fun x y H r =>
  ((∃ (c : Nat) (z : Str), x = .str ⟨#[c]⟩ ∧ y = .str z ∧ r = decide (c ∈ z.cps.toList)) ∨ (∃ i j, x = .str i ∧ y = .str j ∧ r = !(Builtin.Str.occurrences j i 0 j.length 1).isEmpty)) ∨
  ((∃ p xs, y = .ref p ∧ (SqL K H p xs ∨ SqT K H p xs) ∧ flatV x = true ∧ xs.all flatV = true ∧ r = inV x xs) ∨ ∃ a o, y = .ref a ∧ DGet H a x o ∧ r = o.isSome)
theorem op_inU {X : Cx} (hu : X.A.units + 1 < cLine) : OpR X (compareOp .In) (fun x y H Q => ∃ r, rInP X.K x y H r ∧ Q (.bl r) H) := by
  intro pins s σ H x y v u Q I rx ry ⟨r, h, q⟩
  rcases h with (⟨c, z, e1, e2, e3⟩ | ⟨i, j, e1, e2, e3⟩) | (⟨p, xs, e1, h1, h2, h3, e3⟩ | ⟨a, o, e1, h1, e3⟩)
  · subst e3
    exact op_in_sign pins s σ H x y v u Q I rx ry ⟨c, z, e1, e2, q⟩
  · subst e3
    exact op_in_str pins s σ H x y v u Q I rx ry ⟨i, j, e1, e2, q⟩
  · subst e3
    exact op_in_seq pins s σ H x y v u Q I rx ry ⟨p, xs, e1, h1, h2, h3, q⟩
  · subst e3 e1
    obtain rfl : u = Value.ref a := ry
    exact d_in hu I h1 rx fun s3 I3 => ⟨.bl o.isSome, H, I3, rfl, q⟩
theorem op_notinU {X : Cx} (hu : X.A.units + 1 < cLine) : OpR X (compareOp .NotIn) (fun x y H Q => ∃ r, rInP X.K x y H r ∧ Q (.bl (!r)) H) := by
  intro pins s σ H x y v u Q I rx ry ⟨r, h, q⟩
  rcases h with (⟨c, z, e1, e2, e3⟩ | ⟨i, j, e1, e2, e3⟩) | (⟨p, xs, e1, h1, h2, h3, e3⟩ | ⟨a, o, e1, h1, e3⟩)
  · subst e3
    exact op_notIn_sign pins s σ H x y v u Q I rx ry ⟨c, z, e1, e2, q⟩
  · subst e3
    exact op_notIn_str pins s σ H x y v u Q I rx ry ⟨i, j, e1, e2, q⟩
  · subst e3
    exact op_notIn_seq pins s σ H x y v u Q I rx ry ⟨p, xs, e1, h1, h2, h3, q⟩
  · subst e3 e1
    obtain rfl : u = Value.ref a := ry
    exact d_notIn hu I h1 rx fun s3 I3 => ⟨.bl (!o.isSome), H, I3, rfl, q⟩
theorem inB_ok {K : PySem.W.Frag} {B H : Hp} {x y : V} {a b : D} {r : Bool} (e : Same B H) (ra : Rb K B H x a) (rb : Rb K B H y b) (h : inB a b = some r) : rInP K x y H r := by
  unfold inB at h
  split at h
  · cases h
    exact .inl (.inl ⟨_, _, ra.str, rb.str, by simp⟩)
  · cases h
    exact .inl (.inr ⟨_, _, ra.str, rb.str, by rw [slen]⟩)
  · split at h
    · rename_i hc
      cases h
      rw [Bool.and_eq_true] at hc
      obtain ⟨p, vs, e1, h1, r1⟩ := rb.lst e
      exact .inr (.inl ⟨p, vs, e1, .inl (SqL.of h1), (ra.rp_flat hc.1).flat hc.1, r1.flat hc.2, (Rps.inD (ra.rp_flat hc.1) hc.1 r1 hc.2).symm⟩)
    · cases h
  · split at h
    · rename_i hc
      cases h
      rw [Bool.and_eq_true] at hc
      obtain ⟨p, vs, e1, h1, r1⟩ := rb.lsk e
      exact .inr (.inl ⟨p, vs, e1, .inl h1, (ra.rp_flat hc.1).flat hc.1, r1.flat hc.2, (Rps.inD (ra.rp_flat hc.1) hc.1 r1 hc.2).symm⟩)
    · cases h
  · split at h
    · rename_i hc
      cases h
      rw [Bool.and_eq_true] at hc
      obtain ⟨p, vs, e1, _, h1, r1⟩ := rb.tup e
      exact .inr (.inl ⟨p, vs, e1, .inr (SqT.of h1), (ra.rp_flat hc.1).flat hc.1, r1.flat hc.2, (Rps.inD (ra.rp_flat hc.1) hc.1 r1 hc.2).symm⟩)
    · cases h
  · split at h
    · rename_i k hk
      cases h
      obtain ⟨p, vs, e1, h1, r1⟩ := rb.dct e
      have ek := keyOf_ok ra hk
      subst ek
      refine .inr (.inr ⟨p, _, e1, DGet.k h1, ?_⟩)
      rcases dlook_ok (k := k) r1 with ⟨q1, q2⟩ | ⟨_, _, q1, q2, _⟩ <;> rw [q1, q2] <;> rfl
    · cases h
  · cases h
theorem ok_in (K : PySem.W.Frag) : Op2 K (fun x y H Q => ∃ r, rInP K x y H r ∧ Q (.bl r) H) fIn := by
  intro B H x y a b c e ra rb h Q k
  unfold fIn at h
  split at h
  · rename_i r hr
    cases h
    exact ⟨r, inB_ok e ra rb hr, k _ B H (Gr.refl e) (.bl _)⟩
  · cases h
theorem ok_notin (K : PySem.W.Frag) : Op2 K (fun x y H Q => ∃ r, rInP K x y H r ∧ Q (.bl (!r)) H) fNotIn := by
  intro B H x y a b c e ra rb h Q k
  unfold fNotIn at h
  split at h
  · rename_i r hr
    cases h
    exact ⟨r, inB_ok e ra rb hr, k _ B H (Gr.refl e) (.bl _)⟩
  · cases h
/-! x[i] -/
def fIx : D → D → Option D
  | .lst xs, .int i => atI xs i
  | .lsk xs, .int i => atI xs i
  | .tup xs, .int i => atI xs i
  | .str z, .int i => if z.length ≤ sizeLine then (match atI z i with | some c => some (.str [c]) | none => none) else none
  | .dct ks ds, x => match keyOf x with | some k => dlook ks ds k | none => none
  | _, _ => none
theorem Rps.atI {K : PySem.W.Frag} {B : Hp} {vs : List V} {ds : List D} {i : Int} {d : D} (r : Rps K B vs ds) (h : atI ds i = some d) : ∃ v, L2.atI vs i = some v ∧ Rp K B v d := by
  unfold L2.atI at h ⊢
  rw [r.length]
  cases hx : ixN ds.length i with
  | none => rw [hx] at h; cases h
  | some j =>
    rw [hx] at h
    obtain ⟨v, h1, h2⟩ := r.get (i := j) h
    exact ⟨v, h1, h2⟩
def rIxU (K : PySem.W.Frag) : R2 := fun x y H Q => rIx K x y H Q
section
variable {X : Cx} {a b : Expr} {ma mb : ME} {pos : Pos}
theorem re_ix (hu : X.A.units + 1 < cLine) (ha : RB X a ma) (hb : RB X b mb) (hs : PlainIx b := by intro _ _; rfl) : RE X (.Subscript a b pos) (m2 fIx ma mb) := by
  have h1 := pe_ix ix_seq ha hb hs (pos := pos)
  have h2 : PE X (.Subscript a b pos) _ := pe_dget hu ha hb hs
  refine ⟨fun pins s σ H Q I q => ?_⟩
  obtain ⟨H0, B, ρ, c, r, e, k⟩ := q
  obtain ⟨x, y, e1, e2, e3⟩ := m2_at e
  unfold fIx at e3
  split at e3
  · refine h1.run pins s σ H Q I ⟨H0, B, ρ, _, r, e1, fun v B1 H1 g1 r1 => ⟨H0, B1, ρ, _, r.grow g1, e2, fun u B2 H2 g2 r2 => ?_⟩⟩
    obtain ⟨p, vs, p1, p2, p3⟩ := (r1.grow g2).lst g2.bh
    obtain ⟨w, p4, p5⟩ := p3.atI e3
    exact .inl ⟨p, vs, _, w, p1, r2.int, SqL.of p2, p4, k _ B2 H2 (g1.trans g2) p5⟩
  · refine h1.run pins s σ H Q I ⟨H0, B, ρ, _, r, e1, fun v B1 H1 g1 r1 => ⟨H0, B1, ρ, _, r.grow g1, e2, fun u B2 H2 g2 r2 => ?_⟩⟩
    obtain ⟨p, vs, p1, p2, p3⟩ := (r1.grow g2).lsk g2.bh
    obtain ⟨w, p4, p5⟩ := p3.atI e3
    exact .inl ⟨p, vs, _, w, p1, r2.int, p2, p4, k _ B2 H2 (g1.trans g2) p5⟩
  · refine h1.run pins s σ H Q I ⟨H0, B, ρ, _, r, e1, fun v B1 H1 g1 r1 => ⟨H0, B1, ρ, _, r.grow g1, e2, fun u B2 H2 g2 r2 => ?_⟩⟩
    obtain ⟨p, vs, p1, _, p2, p3⟩ := (r1.grow g2).tup g2.bh
    obtain ⟨w, p4, p5⟩ := p3.atI e3
    exact .inr (.inl ⟨p, vs, _, w, p1, r2.int, SqT.of p2, p4, k _ B2 H2 (g1.trans g2) p5⟩)
  · split at e3
    · rename_i hz
      split at e3
      · rename_i z i _ c hc
        cases e3
        refine h1.run pins s σ H Q I ⟨H0, B, ρ, _, r, e1, fun v B1 H1 g1 r1 => ⟨H0, B1, ρ, _, r.grow g1, e2, fun u B2 H2 g2 r2 => ?_⟩⟩
        exact .inr (.inr ⟨_, _, c, r1.str, r2.int, by rw [slen]; exact hz, by simpa using hc, k _ B2 H2 (g1.trans g2) (.str [c])⟩)
      · cases e3
    · cases e3
  · split at e3
    · rename_i kk hk
      refine h2.run pins s σ H Q I ⟨H0, B, ρ, _, r, e1, fun v B1 H1 g1 r1 => ⟨H0, B1, ρ, _, r.grow g1, e2, fun u B2 H2 g2 r2 => ?_⟩⟩
      obtain ⟨p, vs, p1, p2, p3⟩ := (r1.grow g2).dct g2.bh
      have ek := keyOf_ok r2 hk
      subst ek
      rcases dlook_ok (k := kk) p3 with ⟨_, q2⟩ | ⟨w, d, q1, q2, q3⟩
      · rw [q2] at e3; cases e3
      · rw [q2] at e3
        cases e3
        exact ⟨p, w, p1, by rw [← q1]; exact DGet.k p2, k _ B2 H2 (g1.trans g2) q3⟩
    · cases e3
  · cases e3
end
/-! slices -/
def cutL {α : Type} (xs : List α) (lo hi : Option Int) : List α := (xs.drop (HT.sIx xs.length 0 lo)).take (HT.sIx xs.length xs.length hi - HT.sIx xs.length 0 lo)
def fSl : D → Option Int → Option Int → Option D
  | .lst xs, lo, hi => some (.lst (cutL xs lo hi))
  | .lsk xs, lo, hi => some (.lst (cutL xs lo hi))
  | .tup xs, lo, hi => some (.tup (cutL xs lo hi))
  | .str z, lo, hi => if z.length ≤ sizeLine then some (.str (cutL z lo hi)) else none
  | _, _, _ => none
theorem Rps.cut {K : PySem.W.Frag} {B : Hp} {vs : List V} {ds : List D} (r : Rps K B vs ds) (lo hi : Option Int) : Rps K B (cutV vs lo hi) (cutL ds lo hi) := by
  unfold cutV cutL
  rw [r.length]
  exact (r.drop _).take _
def cO (K : PySem.W.Frag) (m : Slots → Option (Option Int)) : TO := fun σ H Q => ∃ H0 B ρ o, Rl K H0 B H σ ρ ∧ m ρ = some o ∧ ∀ B' H', Gr B H B' H' → Q o H'
def mNo : Slots → Option (Option Int) := fun _ => some none
def mPart (m : ME) : Slots → Option (Option Int) := fun ρ => match m ρ with | some (.int i) => some (some i) | _ => none
def mSl (m : ME) (l h : Slots → Option (Option Int)) : ME := fun ρ => match m ρ with
  | some d => (match l ρ with | some lo => (match h ρ with | some hi => fSl d lo hi | none => none) | none => none)
  | none => none
section
variable {X : Cx} {a b : Expr} {ma mb : ME} {pos : Pos}
theorem po_mono {e : Option Expr} {t t' : TO} (h : PO X e t) (i : ∀ σ H Q, t' σ H Q → t σ H Q) : PO X e t' := ⟨fun pins s σ H Q I q => h.run pins s σ H Q I (i σ H Q q)⟩
theorem ro_none : PO X none (cO X.K mNo) := po_mono po_none fun σ H Q ⟨H0, B, ρ, o, r, e, k⟩ => by
  cases e
  exact k B H (Gr.refl r.bh)
theorem ro_some (h : RE X a ma) : PO X (some a) (cO X.K (mPart ma)) := po_mono (po_some h) fun σ H Q ⟨H0, B, ρ, o, r, e, k⟩ => by
  unfold mPart at e
  split at e
  · rename_i i hi
    cases e
    exact ⟨H0, B, ρ, _, r, hi, fun v B' H' g q => ⟨i, q.int_inv, k B' H' g⟩⟩
  · cases e
theorem re_sl {lo hi : Option Expr} {ml mh : Slots → Option (Option Int)} {p2 : Pos} (ha : RB X a ma) (hl : PO X lo (cO X.K ml)) (hh : PO X hi (cO X.K mh)) : RE X (.Subscript a (.Slice lo hi none p2) pos) (mSl ma ml mh) := by
  refine pe_mono (pe_slice (sl_list.or (sl_tupA.or sl_str)) ha hl hh) fun σ H Q ⟨H0, B, ρ, d, r, e, k⟩ => ?_
  unfold mSl at e
  cases e1 : ma ρ with
  | none => rw [e1] at e; cases e
  | some x =>
    cases e2 : ml ρ with
    | none => rw [e1, e2] at e; cases e
    | some l =>
      cases e3 : mh ρ with
      | none => rw [e1, e2, e3] at e; cases e
      | some h =>
        rw [e1, e2, e3] at e
        have e : fSl x l h = some d := e
        refine ⟨H0, B, ρ, x, r, e1, fun v B1 H1 g1 r1 => ⟨H0, B1, ρ, l, r.grow g1, e2, fun B2 H2 g2 => ⟨H0, B2, ρ, h, r.grow (g1.trans g2), e3, fun B3 H3 g3 => ?_⟩⟩⟩
        have r3 := r1.grow (g2.trans g3)
        have gg := (g1.trans g2).trans g3
        unfold fSl at e
        split at e
        · cases e
          obtain ⟨p, vs, p1, p2, p3⟩ := r3.lst g3.bh
          exact .inl ⟨p, vs, p1, SqL.of p2, fun q hq => k _ _ _ (gg.trans (Gr.new g3.bh hq)) (.lst upd_same ((p3.cut l h).mono (same_upd (g3.bh.free hq))))⟩
        · cases e
          obtain ⟨p, vs, p1, p2, p3⟩ := r3.lsk g3.bh
          exact .inl ⟨p, vs, p1, p2, fun q hq => k _ _ _ (gg.trans (Gr.new g3.bh hq)) (.lst upd_same ((p3.cut l h).mono (same_upd (g3.bh.free hq))))⟩
        · cases e
          obtain ⟨p, vs, p1, p0, p2, p3⟩ := r3.tup g3.bh
          refine .inr (.inl ⟨p, vs, p1, SqT.of p2, fun z => ?_, fun _ q hq => k _ _ _ (gg.trans (Gr.new g3.bh hq)) (.tup upd_same ((p3.cut l h).mono (same_upd (g3.bh.free hq))))⟩)
          have ec : cutV vs l h = vs := by
            unfold cutV
            rw [z.1, z.2, Nat.sub_zero, List.drop_zero, List.take_length]
          have hc := p3.cut l h
          rw [ec] at hc
          exact k _ B3 H3 gg (.tup p0 hc)
        · split at e
          · rename_i hz
            cases e
            refine .inr (.inr ⟨_, r3.str, by rw [slen]; exact hz, ?_⟩)
            have ec : ∀ z : List Nat, cutS ⟨z.toArray⟩ l h = ⟨(cutL z l h).toArray⟩ := fun z => by
              unfold cutS cutL
              rw [slen]
            rw [ec]
            exact k _ B3 H3 gg (.str _)
          · cases e
        · cases e
end
/-! built-ins by values -/
def CallOk (K : PySem.W.Frag) (r : List V → Hp → VK → Prop) (f : List D → Option D) : Prop :=
  ∀ (B H : Hp) (vs : List V) (ds : List D) (c : D), Same B H → Rbs K B H vs ds → f ds = some c → ∀ Q : VK, (∀ v B' H', Gr B H B' H' → Rp K B' v c → Q v H') → r vs H Q
def mCB (f : List D → Option D) (ma : Slots → Option (List D)) : ME := fun ρ => match ma ρ with | some ds => f ds | none => none
section
variable {X : Cx} {e : Expr} {es : List Expr} {ma : Slots → Option (List D)} {pos p : Pos} {r : List V → Hp → VK → Prop} {f : List D → Option D} {x : Str} {id : String}
theorem tCB_c (h : CallOk X.K r f) (σ : L2.St) (H : Hp) (Q : VK) (q : cE X.K (mCB f ma) σ H Q) : tCB r (cAb X.K ma) σ H Q := by
  obtain ⟨H0, B, ρ, c, rl, e, k⟩ := q
  unfold mCB at e
  split at e
  · rename_i ds hd
    exact ⟨H0, B, ρ, ds, rl, hd, fun vs B1 H1 g1 r1 => h B1 H1 vs ds c g1.bh r1 e Q fun v B2 H2 g2 => k v B2 H2 (g1.trans g2)⟩
  · cases e
theorem re_cb (hc : CallR X (.builtin id) r) (h : CallOk X.K r f) (hg : Gl X x) (hm : X.mg x = none) (hv : bootBuiltins x = some (.builtin id)) (ha : RAb X (e :: es) ma) (hn : x ≠ "__name__" := by decide) (hdb : (x == ("__debug__" : Str)) = false := by decide)
    (he : starEach (e :: es) X.env = (false, eval e X.env) :: starEach es X.env := by rfl) (hpl : (backTo pos (starEach es X.env)).any (·.1) = false := by rfl) : RE X (.Call (.Name x p) (e :: es) [] pos) (mCB f ma) :=
  pe_mono (pe_callB hc hg hm hv ha hn hdb he hpl) (tCB_c h)
theorem re_ct {T : String} (hc : CallR X (.type T) r) (h : CallOk X.K r f) (hg : Gl X x) (hm : X.mg x = none) (hv : bootBuiltins x = some (.type T)) (ha : RAb X (e :: es) ma) (hn : x ≠ "__name__" := by decide) (hdb : (x == ("__debug__" : Str)) = false := by decide)
    (he : starEach (e :: es) X.env = (false, eval e X.env) :: starEach es X.env := by rfl) (hpl : (backTo pos (starEach es X.env)).any (·.1) = false := by rfl) : RE X (.Call (.Name x p) (e :: es) [] pos) (mCB f ma) :=
  pe_mono (pe_callTy hc hg hm hv ha hn hdb he hpl) (tCB_c h)
end
/-- len -/
def fLen : List D → Option D
  | [.str z] => if z.length ≤ sizeLine then some (.int z.length) else none
  | [.lst xs] => some (.int xs.length)
  | [.lsk xs] => some (.int xs.length)
  | [.tup xs] => some (.int xs.length)
  | _ => none
theorem ok_len (K : PySem.W.Frag) : CallOk K (fun xs H Q => ∃ x n, xs = [x] ∧ LenV K x H n ∧ Q (.int n) H) fLen := by
  intro B H vs ds c e r h Q k
  unfold fLen at h
  split at h
  · split at h
    · cases h
      cases r with
      | cons r rr =>
        cases rr
        have e1 := r.str
        subst e1
        exact ⟨_, _, rfl, ⟨by rw [slen]; assumption, (slen _).symm⟩, k _ B H (Gr.refl e) (.int _)⟩
    · cases h
  · cases h
    cases r with
    | cons r rr =>
      cases rr
      obtain ⟨p, vs, e1, h1, r1⟩ := r.lst e
      subst e1
      exact ⟨_, _, rfl, .inl ⟨vs, SqL.of h1, r1.length.symm⟩, k _ B H (Gr.refl e) (.int _)⟩
  · cases h
    cases r with
    | cons r rr =>
      cases rr
      obtain ⟨p, vs, e1, h1, r1⟩ := r.lsk e
      subst e1
      exact ⟨_, _, rfl, .inl ⟨vs, h1, r1.length.symm⟩, k _ B H (Gr.refl e) (.int _)⟩
  · cases h
    cases r with
    | cons r rr =>
      cases rr
      obtain ⟨p, vs, e1, _, h1, r1⟩ := r.tup e
      subst e1
      exact ⟨_, _, rfl, .inr ⟨vs, SqT.of h1, r1.length.symm⟩, k _ B H (Gr.refl e) (.int _)⟩
  · cases h
/-- int -/
def fInt : List D → Option D
  | [.int i] => some (.int i)
  | [.bl b] => some (.int (if b then 1 else 0))
  | _ => none
theorem ok_int (K : PySem.W.Frag) : CallOk K (fun xs H Q => (∃ i, xs = [.int i] ∧ Q (.int i) H) ∨ ∃ k, xs = [.bl k] ∧ Q (.int (if k then 1 else 0)) H) fInt := by
  intro B H vs ds c e r h Q k
  unfold fInt at h
  split at h
  · cases h
    cases r with
    | cons r rr =>
      cases rr
      rw [r.int]
      exact .inl ⟨_, rfl, k _ B H (Gr.refl e) (.int _)⟩
  · cases h
    cases r with
    | cons r rr =>
      cases rr
      rw [r.bl]
      exact .inr ⟨_, rfl, k _ B H (Gr.refl e) (.int _)⟩
  · cases h
/-- max(a, b) -/
def fMax2 : List D → Option D
  | [.int i, .int j] => some (.int (if j > i then j else i))
  | _ => none
theorem ok_max2 (K : PySem.W.Frag) : CallOk K (fun xs H Q => ∃ i j, xs = [.int i, .int j] ∧ Q (.int (if j > i then j else i)) H) fMax2 := by
  intro B H vs ds c e r h Q k
  unfold fMax2 at h
  split at h
  · cases h
    cases r with
    | cons r rr =>
      cases rr with
      | cons r2 rr =>
        cases rr
        rw [r.int, r2.int]
        exact ⟨_, _, rfl, k _ B H (Gr.refl e) (.int _)⟩
  · cases h
/-- tuple(x) -/
def fTuple : List D → Option D
  | [.lst xs] => some (.tup xs)
  | [.lsk xs] => some (.tup xs)
  | [.tup xs] => some (.tup xs)
  | _ => none
theorem ok_tuple (K : PySem.W.Frag) : CallOk K (fun xs H Q => ∃ p ys, xs = [.ref p] ∧ ((SqL K H p ys ∧ ∀ l, H l = none → Q (.ref l) (upd H l (.tup ys))) ∨ (SqT K H p ys ∧ Q (.ref p) H))) fTuple := by
  intro B H vs ds c e r h Q k
  unfold fTuple at h
  split at h
  · cases h
    cases r with
    | cons r rr =>
      cases rr
      obtain ⟨p, vs, e1, h1, r1⟩ := r.lst e
      subst e1
      exact ⟨_, _, rfl, .inl ⟨SqL.of h1, fun q hq => k _ _ _ (Gr.new e hq) (.tup upd_same (r1.mono (same_upd (e.free hq))))⟩⟩
  · cases h
    cases r with
    | cons r rr =>
      cases rr
      obtain ⟨p, vs, e1, h1, r1⟩ := r.lsk e
      subst e1
      exact ⟨_, _, rfl, .inl ⟨h1, fun q hq => k _ _ _ (Gr.new e hq) (.tup upd_same (r1.mono (same_upd (e.free hq))))⟩⟩
  · cases h
    cases r with
    | cons r rr =>
      cases rr
      obtain ⟨p, vs, e1, h0, h1, r1⟩ := r.tup e
      subst e1
      exact ⟨_, _, rfl, .inr ⟨SqT.of h1, k _ B H (Gr.refl e) (.tup h0 r1)⟩⟩
  · cases h
/-- list(x) -/
def fList : List D → Option (List D)
  | [.lst xs] => some xs
  | [.lsk xs] => some xs
  | [.tup xs] => some xs
  | _ => none
def mCF (f : List D → Option (List D)) (ma : Slots → Option (List D)) : Slots → Option (List D) := fun ρ => match ma ρ with | some ds => f ds | none => none
theorem rf_list {X : Cx} {e : Expr} {es : List Expr} {ma : Slots → Option (List D)} {pos p : Pos} (hg : Gl X "list") (hm : X.mg "list" = none) (ha : RAb X (e :: es) ma)
    (he : starEach (e :: es) X.env = (false, eval e X.env) :: starEach es X.env := by rfl) (hpl : (backTo pos (starEach es X.env)).any (·.1) = false := by rfl) : RF X (.Call (.Name "list" p) (e :: es) [] pos) (mCF fList ma) := by
  refine pe_mono (pe_callTy call_list_of hg hm (by decide +kernel) ha (by decide) (by decide) he hpl) fun σ H Q ⟨H0, B, ρ, c, rl, e, k⟩ => ?_
  unfold mCF at e
  split at e
  · rename_i ds hd
    refine ⟨H0, B, ρ, ds, rl, hd, fun vs B1 H1 g1 r1 => ?_⟩
    unfold fList at e
    split at e
    · cases e
      cases r1 with
      | cons r rr =>
        cases rr
        obtain ⟨p, vs, e1, h1, r1⟩ := r.lst g1.bh
        subst e1
        exact ⟨_, _, rfl, .inl (SqL.of h1), fun q hq => k q vs B1 _ (g1.trans (Gr.newOwn g1.bh hq)) (g1.h.free hq) (g1.bh.free hq) upd_same r1⟩
    · cases e
      cases r1 with
      | cons r rr =>
        cases rr
        obtain ⟨p, vs, e1, h1, r1⟩ := r.lsk g1.bh
        subst e1
        exact ⟨_, _, rfl, .inl h1, fun q hq => k q vs B1 _ (g1.trans (Gr.newOwn g1.bh hq)) (g1.h.free hq) (g1.bh.free hq) upd_same r1⟩
    · cases e
      cases r1 with
      | cons r rr =>
        cases rr
        obtain ⟨p, vs, e1, _, h1, r1⟩ := r.tup g1.bh
        subst e1
        exact ⟨_, _, rfl, .inr (SqT.of h1), fun q hq => k q vs B1 _ (g1.trans (Gr.newOwn g1.bh hq)) (g1.h.free hq) (g1.bh.free hq) upd_same r1⟩
    · cases e
  · cases e
/-- isinstance -/
def tyD : D → Option String
  | .non => some "NoneType"
  | .bl _ => some "bool"
  | .int _ => some "int"
  | .str _ => some "str"
  | .lst _ => some "list"
  | .tup _ => some "tuple"
  | .dct _ _ => some "dict"
  | _ => none
def tysOf : List D → Option (List String)
  | [] => some []
  | .ty n :: r => (match tysOf r with | some ns => some (n :: ns) | none => none)
  | _ => none
def kitAll (t : String) : List String → Option Bool
  | [] => some false
  | n :: r => (match kitB t n with | some true => some true | some false => kitAll t r | none => none)
def fIsi : List D → Option D
  | [x, .ty n] => match tyD x with | some t => (match kitB t n with | some b => some (.bl b) | none => none) | none => none
  | [x, .tup ts] => match tyD x with | some t => (match tysOf ts with | some ns => (match kitAll t ns with | some b => some (.bl b) | none => none) | none => none) | none => none
  | _ => none
theorem tyD_ok {K : PySem.W.Frag} {B H : Hp} {v : V} {d : D} {t : String} (e : Same B H) (r : Rb K B H v d) (h : tyD d = some t) : TyX K H v (.type t) := by
  unfold tyD at h
  split at h <;> cases h
  · rw [r.non]; exact .base .non
  · rw [r.bl]; exact .base (.bl _)
  · rw [r.int]; exact .base (.int _)
  · rw [r.str]; exact .base (.str _)
  · obtain ⟨p, vs, e1, h1, r1⟩ := r.lst e
    subst e1
    exact .base (.lst h1)
  · obtain ⟨p, vs, e1, _, h1, r1⟩ := r.tup e
    subst e1
    exact .base (.tup h1)
  · obtain ⟨p, vs, e1, h1, r1⟩ := r.dct e
    subst e1
    exact .base (.dK h1)
theorem tysOf_ok {K : PySem.W.Frag} {B : Hp} : ∀ {cs : List V} {ds : List D} {ns : List String}, Rps K B cs ds → tysOf ds = some ns → Paired ClsV cs (ns.map Value.type)
  | _, _, _, .nil, h => by
    cases h
    exact .nil
  | _, _, _, .cons h hs, e => by
    cases h <;> try (cases e; done)
    rename_i n
    unfold tysOf at e
    split at e
    · rename_i ns hn
      cases e
      exact .cons (.ty n) (tysOf_ok hs hn)
    · cases e
theorem kitAll_ok {K : PySem.W.Frag} {t : String} : ∀ {ns : List String} {b : Bool}, kitAll t ns = some b → PySem.W.kitAny K (.type t) (ns.map Value.type) = some b
  | [], _, h => by
    cases h
    rfl
  | n :: r, b, e => by
    unfold kitAll at e
    split at e
    · rename_i hk
      cases e
      exact kitAny_cons (kit_ty hk) (fun z => by cases z) (fun _ => rfl)
    · rename_i hk
      exact kitAny_cons (kit_ty hk) (fun _ => kitAll_ok e) (fun z => by cases z)
    · cases e
theorem op_isiU {X : Cx} : CallR X (.builtin "isinstance") (fun xs H Q => rIsi X.K xs H Q ∨ rIsiT X.K xs H Q) := by
  intro pins s σ H xs us Q I r h
  rcases h with h | h
  · exact call_isi pins s σ H xs us Q I r h
  · exact call_isiT pins s σ H xs us Q I r h
theorem ok_isi (K : PySem.W.Frag) : CallOk K (fun xs H Q => rIsi K xs H Q ∨ rIsiT K xs H Q) fIsi := by
  intro B H vs ds c e r h Q k
  unfold fIsi at h
  split at h
  · split at h
    · rename_i t ht
      split at h
      · rename_i b hb
        cases h
        cases r with
        | cons r rr =>
          cases rr with
          | cons r2 rr =>
            cases rr
            have e2 := r2.ty
            subst e2
            exact .inl ⟨_, _, _, _, b, rfl, .ty _, tyD_ok e r ht, kit_ty hb, k _ B H (Gr.refl e) (.bl _)⟩
      · cases h
    · cases h
  · split at h
    · rename_i t ht
      split at h
      · rename_i ns hn
        split at h
        · rename_i b hb
          cases h
          cases r with
          | cons r rr =>
            cases rr with
            | cons r2 rr =>
              cases rr
              obtain ⟨p, vs, e1, h0, h1, r1⟩ := r2.tup e
              subst e1
              exact .inr ⟨_, p, vs, _, _, b, rfl, h1, tysOf_ok r1 hn, tyD_ok e r ht, kitAll_ok hb, k _ B H (Gr.refl e) (.bl _)⟩
        · cases h
      · cases h
    · cases h
  · cases h
/-! methods of texts -/
def MtOk (K : PySem.W.Frag) (r : V → List V → Hp → VK → Prop) (f : List Nat → List D → Option D) : Prop :=
  ∀ (B H : Hp) (x : List Nat) (vs : List V) (ds : List D) (c : D), Same B H → Rbs K B H vs ds → f x ds = some c → ∀ Q : VK, (∀ v B' H', Gr B H B' H' → Rp K B' v c → Q v H') → r (.str ⟨x.toArray⟩) vs H Q
def mMt (f : List Nat → List D → Option D) (mo : ME) (ma : Slots → Option (List D)) : ME := fun ρ => match mo ρ with
  | some (.str x) => (match ma ρ with | some ds => f x ds | none => none)
  | _ => none
theorem re_mt {X : Cx} {o e : Expr} {es : List Expr} {mo : ME} {ma : Slots → Option (List D)} {f : List Nat → List D → Option D} {name : Str} {apos cpos : Pos} {id : String} {r : V → List V → Hp → VK → Prop}
    (slot : Slot "str" name id) (hty : typeOf (.builtin id) = pure (.type "method_descriptor")) (hm : MtR X id r) (h : MtOk X.K r f) (ho : RB X o mo) (ha : RAb X (e :: es) ma)
    (hbase : attributeBase o name X.env (eval o X.env) = eval o X.env := by rfl)
    (hfew : ((backTo cpos (starEach (e :: es) X.env)).all (fun x => !x.1) && (backToKw cpos (keywordEach [] X.env)).all (fun x => x.1.isSome)
      && decide ((e :: es).length + ([] : List Keyword).length + (if ([] : List Keyword).isEmpty then 0 else 1) < 30)) = true := by rfl)
    (hline : (apos.endLine == cpos.line) = true := by rfl) (hs : starEach (e :: es) X.env = (false, eval e X.env) :: starEach es X.env := by rfl) (hplain : (backTo cpos (starEach es X.env)).any (·.1) = false := by rfl) :
    RE X (.Call (.Attribute o name apos) (e :: es) [] cpos) (mMt f mo ma) := by
  refine pe_mono (pe_bm PySem.F.plainAttrs_str slot hty hm ho ha hbase hfew hline hs hplain) fun σ H Q ⟨H0, B, ρ, c, rl, e, k⟩ => ?_
  unfold mMt at e
  split at e
  · rename_i x hx
    split at e
    · rename_i ds hd
      refine ⟨H0, B, ρ, _, rl, hx, fun v B1 H1 g1 r1 => ?_⟩
      have ev := r1.str
      subst ev
      exact ⟨rfl, H0, B1, ρ, ds, rl.grow g1, hd, fun vs B2 H2 g2 r2 => h B2 H2 x vs ds c g2.bh r2 e Q fun v B3 H3 g3 => k v B3 H3 ((g1.trans g2).trans g3)⟩
    · cases e
  · cases e
def fCount (x : List Nat) : List D → Option D
  | [.str y] => some (.int (Txt.count ⟨x.toArray⟩ ⟨y.toArray⟩))
  | _ => none
theorem ok_count (K : PySem.W.Frag) : MtOk K (fun x xs H Q => ∃ a b, x = .str a ∧ xs = [.str b] ∧ Q (.int (Txt.count a b)) H) fCount := by
  intro B H x vs ds c e r h Q k
  unfold fCount at h
  split at h
  · cases h
    cases r with
    | cons r rr =>
      cases rr
      rw [r.str]
      exact ⟨_, _, rfl, rfl, k _ B H (Gr.refl e) (.int _)⟩
  · cases h
def fFind3 (x : List Nat) : List D → Option D
  | [.str y, .int i] => some (.int (Txt.find3 ⟨x.toArray⟩ ⟨y.toArray⟩ i))
  | _ => none
theorem ok_find3 (K : PySem.W.Frag) : MtOk K (fun x xs H Q => ∃ (a b : Str) (i : Int), x = .str a ∧ xs = [.str b, .int i] ∧ Q (.int (Txt.find3 a b i)) H) fFind3 := by
  intro B H x vs ds c e r h Q k
  unfold fFind3 at h
  split at h
  · cases h
    cases r with
    | cons r rr =>
      cases rr with
      | cons r2 rr =>
        cases rr
        rw [r.str, r2.int]
        exact ⟨_, _, _, rfl, rfl, k _ B H (Gr.refl e) (.int _)⟩
  · cases h
/-- ''.join -/
def strsOf : List D → Option (List (List Nat))
  | [] => some []
  | .str x :: r => (match strsOf r with | some xs => some (x :: xs) | none => none)
  | _ => none
theorem strsOf_ok {K : PySem.W.Frag} {B : Hp} : ∀ {vs : List V} {ds : List D} {xs : List (List Nat)}, Rps K B vs ds → strsOf ds = some xs → vs = (xs.map fun x => (⟨x.toArray⟩ : Str)).map V.str
  | _, _, _, .nil, h => by
    cases h
    rfl
  | _, _, _, .cons h hs, e => by
    cases h <;> try (cases e; done)
    rename_i n
    unfold strsOf at e
    split at e
    · rename_i ns hn
      cases e
      rw [strsOf_ok hs hn]
      rfl
    · cases e
def joinE (xs : List D) : Option D := match strsOf xs with
  | some ys => if (ys.map List.length).sum ≤ 16777216 then some (.str ys.flatten) else none
  | none => none
def fJoin : List Nat → List D → Option D
  | [], [.lst xs] => joinE xs
  | [], [.tup xs] => joinE xs
  | _, _ => none
theorem glue_fold : ∀ (ys : List (List Nat)) (acc : List Nat), (ys.map fun x => (⟨x.toArray⟩ : Str)).foldl (fun acc p => acc ++ #[] ++ p.cps) acc.toArray = (acc ++ ys.flatten).toArray
  | [], acc => by simp
  | y :: ys, acc => by
    rw [List.map_cons, List.foldl_cons]
    show List.foldl _ (acc.toArray ++ #[] ++ y.toArray) _ = _
    have e : acc.toArray ++ #[] ++ y.toArray = (acc ++ y).toArray := by simp
    rw [e, glue_fold ys (acc ++ y), List.flatten_cons, List.append_assoc]
theorem join_nil (ys : List (List Nat)) : Txt.join ⟨([] : List Nat).toArray⟩ (ys.map fun x => (⟨x.toArray⟩ : Str)) = ⟨ys.flatten.toArray⟩ := by
  unfold Txt.join Builtin.Str.glued
  cases ys with
  | nil => rfl
  | cons y r =>
    have h := glue_fold r y
    rw [List.map_cons, List.drop_one, List.tail_cons, List.headD_cons]
    exact congrArg Str.mk h
theorem ok_join (K : PySem.W.Frag) : MtOk K (fun x xs H Q => ∃ a p, ∃ ys : List Str, x = .str a ∧ xs = [.ref p] ∧ (SqL K H p (ys.map V.str) ∨ SqT K H p (ys.map V.str)) ∧
    (ys.map (·.length)).sum + ys.length * a.length ≤ 16777216 ∧ Q (.str (Txt.join a ys)) H) fJoin := by
  intro B H x vs ds c e r h Q k
  have fin : ∀ (xs : List D) (c : D), joinE xs = some c → ∃ ys : List (List Nat), strsOf xs = some ys ∧ (ys.map List.length).sum ≤ 16777216 ∧ c = .str ys.flatten := fun xs c h => by
    unfold joinE at h
    split at h
    · split at h
      · cases h
        exact ⟨_, by assumption, by assumption, rfl⟩
      · cases h
    · cases h
  have sz : ∀ ys : List (List Nat), (ys.map List.length).sum ≤ 16777216 → ((ys.map fun x => (⟨x.toArray⟩ : Str)).map (·.length)).sum + (ys.map fun x => (⟨x.toArray⟩ : Str)).length * (⟨([] : List Nat).toArray⟩ : Str).length ≤ 16777216 := fun ys h => by
    have e0 : (⟨([] : List Nat).toArray⟩ : Str).length = 0 := rfl
    rw [e0, Nat.mul_zero, Nat.add_zero, List.map_map]
    have e1 : ((fun (s : Str) => s.length) ∘ fun (x : List Nat) => (⟨x.toArray⟩ : Str)) = List.length := by
      funext z
      exact slen z
    rw [e1]
    exact h
  unfold fJoin at h
  split at h
  · obtain ⟨ys, h1, h2, rfl⟩ := fin _ _ h
    cases r with
    | cons r rr =>
      cases rr
      obtain ⟨p, vs, e1, h3, r1⟩ := r.lst e
      subst e1
      have ev := strsOf_ok r1 h1
      subst ev
      refine ⟨_, _, _, rfl, rfl, .inl (SqL.of h3), sz ys h2, ?_⟩
      rw [join_nil]
      exact k _ B H (Gr.refl e) (.str _)
  · obtain ⟨ys, h1, h2, rfl⟩ := fin _ _ h
    cases r with
    | cons r rr =>
      cases rr
      obtain ⟨p, vs, e1, _, h3, r1⟩ := r.tup e
      subst e1
      have ev := strsOf_ok r1 h1
      subst ev
      refine ⟨_, _, _, rfl, rfl, .inr (SqT.of h3), sz ys h2, ?_⟩
      rw [join_nil]
      exact k _ B H (Gr.refl e) (.str _)
  · cases h
end R
/-! R5: statements, loops, calls -/
namespace R
open PySem PySem.Spec PyProof.Rows L2

inductive Out where
  | stuck | nx (ρ : Slots) | brk (ρ : Slots) | cnt (ρ : Slots) | ret (s : Sl)
def RetOk (K : PySem.W.Frag) (H0 B' H' : Hp) (v : V) : Sl → Prop
  | .d d => Rp K B' v d
  | .own o => ∃ l ho, v = .ref l ∧ H0 l = none ∧ B' l = none ∧ H' l = some ho ∧ MoOk K B' o ho
def OutOk (K : PySem.W.Frag) (B0 H0 B : Hp) (Ds : Ends) : Out → Prop
  | .stuck => False
  | .nx ρ' => ∀ σ' B' H', Gr B0 H0 B' H' → Same B B' → Rl K H0 B' H' σ' ρ' → Ds.nx σ' H'
  | .brk ρ' => ∀ σ' B' H', Gr B0 H0 B' H' → Same B B' → Rl K H0 B' H' σ' ρ' → Ds.bk σ' H'
  | .cnt ρ' => ∀ σ' B' H', Gr B0 H0 B' H' → Same B B' → Rl K H0 B' H' σ' ρ' → Ds.ct σ' H'
  | .ret s => ∀ v B' H', Gr B0 H0 B' H' → RetOk K H0 B' H' v s → Ds.rt v H'
theorem OutOk.base {K : PySem.W.Frag} {B0 H0 B B1 : Hp} {Ds : Ends} (s : Same B B1) : ∀ {o : Out}, OutOk K B0 H0 B Ds o → OutOk K B0 H0 B1 Ds o
  | .stuck, h => h
  | .nx _, h => fun σ' B' H' g e r => h σ' B' H' g (s.trans e) r
  | .brk _, h => fun σ' B' H' g e r => h σ' B' H' g (s.trans e) r
  | .cnt _, h => fun σ' B' H' g e r => h σ' B' H' g (s.trans e) r
  | .ret _, h => h
abbrev MS := Slots → Out
def cS (K : PySem.W.Frag) (m : MS) : TS := fun Ds σ H => ∃ B0 H0 B ρ, Gr B0 H0 B H ∧ Rl K H0 B H σ ρ ∧ OutOk K B0 H0 B Ds (m ρ)
abbrev RS (X : Cx) (st : Stmt) (m : MS) : Prop := PS X st (cS X.K m)
abbrev RSs (X : Cx) (st : List Stmt) (m : MS) : Prop := PSs X st (cS X.K m)

def mNext : MS := fun ρ => .nx ρ
def mSeq (a b : MS) : MS := fun ρ => match a ρ with | .nx ρ' => b ρ' | o => o
def mSet (i : Nat) (m : ME) : MS := fun ρ => match m ρ with | some d => .nx (ρ.set i (some (.d d))) | none => .stuck
def mSetF (i : Nat) (m : Slots → Option (List D)) : MS := fun ρ => match m ρ with | some d => .nx (ρ.set i (some (.own (.lst d)))) | none => .stuck
def mIf (c : Slots → Option Bool) (a b : MS) : MS := fun ρ => match c ρ with | some true => a ρ | some false => b ρ | none => .stuck
def mRet (m : ME) : MS := fun ρ => match m ρ with | some d => .ret (.d d) | none => .stuck
def mRetF (m : Slots → Option (List D)) : MS := fun ρ => match m ρ with | some d => .ret (.own (.lst d)) | none => .stuck
def mRetO (i : Nat) : MS := fun ρ => match ρ[i]? with | some (some s) => .ret s | _ => .stuck
def mApp (i : Nat) (m : ME) : MS := fun ρ => match ρ[i]? with
  | some (some (.own (.lst xs))) => (match m ρ with | some d => if xs.length < sizeLine then .nx (ρ.set i (some (.own (.lst (xs ++ [d]))))) else .stuck | none => .stuck)
  | _ => .stuck
def frz (i : Nat) (ρ : Slots) : Slots := match ρ[i]? with | some (some (.own (.lst xs))) => ρ.set i (some (.d (.lst xs))) | _ => ρ
def mFz (i : Nat) (m : MS) : MS := fun ρ => m (frz i ρ)
def mPar (i j : Nat) (m : Slots → Option (List D)) : MS := fun ρ => match m ρ with | some [a, b] => .nx ((ρ.set i (some (.d a))).set j (some (.d b))) | _ => .stuck

section
variable {X : Cx} {st : Stmt} {rest : List Stmt} {a b : MS} {e : Expr} {me : ME} {pos : Pos}
theorem rss_nil : RSs X [] mNext := pss_mono pss_nil fun Ds σ H ⟨B0, H0, B, ρ, g, r, k⟩ => k σ B H g (Same.refl _) r
theorem rs_pass : RS X (.Pass pos) mNext := ps_mono ps_pass fun Ds σ H ⟨B0, H0, B, ρ, g, r, k⟩ => k σ B H g (Same.refl _) r
theorem rs_break : RS X (.Break pos) (fun ρ => .brk ρ) := ps_mono ps_break fun Ds σ H ⟨B0, H0, B, ρ, g, r, k⟩ => k σ B H g (Same.refl _) r
theorem rs_continue : RS X (.Continue pos) (fun ρ => .cnt ρ) := ps_mono ps_continue fun Ds σ H ⟨B0, H0, B, ρ, g, r, k⟩ => k σ B H g (Same.refl _) r
theorem rss_one (h : RS X st a) : RSs X [st] a := pss_one h
theorem rss_cons (h1 : RS X st a) (h2 : RSs X rest b) : RSs X (st :: rest) (mSeq a b) := pss_mono (pss_cons h1 h2) fun Ds σ H ⟨B0, H0, B, ρ, g, r, k⟩ => by
  refine ⟨B0, H0, B, ρ, g, r, ?_⟩
  unfold mSeq at k
  cases ha : a ρ with
  | nx ρ' =>
    rw [ha] at k
    exact fun σ' B' H' g' s' r' => ⟨B0, H0, B', ρ', g', r', k.base s'⟩
  | stuck => rw [ha] at k; exact k
  | brk _ => rw [ha] at k; exact k
  | cnt _ => rw [ha] at k; exact k
  | ret _ => rw [ha] at k; exact k
theorem Gr.step {B0 H0 B H B' H' : Hp} (g : Gr B0 H0 B H) (g' : Gr B H B' H') : Gr B0 H0 B' H' := g.trans g'
theorem rs_set {i : Nat} {x : Str} {pos' : Pos} (hN : X.N.Nodup) (he : RE X e me) (hi : X.N[i]? = some x := by rfl) (hx : Loc X.env.scope x := by first | exact Or.inl rfl | exact Or.inr rfl) (hs : swapsWith e (some (.Name x pos')) pos.line X.env = pure false := by rfl)
    (hf : X.fn x = true ∨ X.env.scope.names.lookup x = some .local := by first | exact .inl rfl | exact .inr rfl | assumption) : RS X (.Assign [.Name x pos'] e pos) (mSet i me) :=
  ps_mono (ps_set hN hi hx he hs hf) fun Ds σ H ⟨B0, H0, B, ρ, g, r, k⟩ => by
    unfold mSet at k
    cases hm : me ρ with
    | none => rw [hm] at k; exact k.elim
    | some d =>
      rw [hm] at k
      exact ⟨H0, B, ρ, d, r, hm, fun v B' H' g' q => k _ B' H' (g.trans g') g'.b ((r.grow g').setD q)⟩
theorem rs_setF {i : Nat} {x : Str} {pos' : Pos} {mf : Slots → Option (List D)} (hN : X.N.Nodup) (he : RF X e mf) (hi : X.N[i]? = some x := by rfl) (hx : Loc X.env.scope x := by first | exact Or.inl rfl | exact Or.inr rfl) (hs : swapsWith e (some (.Name x pos')) pos.line X.env = pure false := by rfl)
    (hf : X.fn x = true ∨ X.env.scope.names.lookup x = some .local := by first | exact .inl rfl | exact .inr rfl | assumption) : RS X (.Assign [.Name x pos'] e pos) (mSetF i mf) :=
  ps_mono (ps_set hN hi hx he hs hf) fun Ds σ H ⟨B0, H0, B, ρ, g, r, k⟩ => by
    unfold mSetF at k
    cases hm : mf ρ with
    | none => rw [hm] at k; exact k.elim
    | some d =>
      rw [hm] at k
      refine ⟨H0, B, ρ, d, r, hm, fun l vs B' H' g' h1 h2 h3 h4 => k _ B' H' (g.trans g') g'.b ((r.grow g').setO (g.h.free h1) h2 h3 ⟨vs, rfl, h4⟩ fun j o' hj hr hs => ?_)⟩
      obtain ⟨l', ho, p1, p2, p3, p4, p5⟩ := r.own j o' hr
      rw [hs] at p1
      cases p1
      rw [h1] at p4
      cases p4
theorem rs_if {c : Expr} {mc : Slots → Option Bool} {sa sb : List Stmt} (hc : RT X c mc) (ha : RSs X sa a) (hb : RSs X sb b) : RS X (.If c sa sb pos) (mIf mc a b) := ps_mono (ps_if hc ha hb) fun Ds σ H ⟨B0, H0, B, ρ, g, r, k⟩ => by
  unfold mIf at k
  cases hm : mc ρ with
  | none => rw [hm] at k; exact k.elim
  | some t =>
    rw [hm] at k
    refine ⟨H0, B, ρ, t, r, hm, fun B' H' g' => ?_⟩
    cases t with
    | true => exact iteT ⟨B0, H0, B', ρ, g.trans g', r.grow g', k.base g'.b⟩
    | false => exact iteF ⟨B0, H0, B', ρ, g.trans g', r.grow g', k.base g'.b⟩
theorem rs_ret (he : RE X e me) : RS X (.Return (some e) pos) (mRet me) := ps_mono (ps_ret he) fun Ds σ H ⟨B0, H0, B, ρ, g, r, k⟩ => by
  unfold mRet at k
  cases hm : me ρ with
  | none => rw [hm] at k; exact k.elim
  | some d =>
    rw [hm] at k
    exact ⟨H0, B, ρ, d, r, hm, fun v B' H' g' q => k v B' H' (g.trans g') q⟩
theorem rs_retF {mf : Slots → Option (List D)} (he : RF X e mf) : RS X (.Return (some e) pos) (mRetF mf) := ps_mono (ps_ret he) fun Ds σ H ⟨B0, H0, B, ρ, g, r, k⟩ => by
  unfold mRetF at k
  cases hm : mf ρ with
  | none => rw [hm] at k; exact k.elim
  | some d =>
    rw [hm] at k
    exact ⟨H0, B, ρ, d, r, hm, fun l vs B' H' g' h1 h2 h3 h4 => k _ B' H' (g.trans g') ⟨l, _, rfl, g.h.free h1, h2, h3, vs, rfl, h4⟩⟩
theorem rs_retN : RS X (.Return none pos) (fun _ => .ret (.d .non)) := ps_mono ps_retN fun Ds σ H ⟨B0, H0, B, ρ, g, r, k⟩ => k .non B H g .non
theorem rs_retO (i : Nat) {x : Str} {p : Pos} (hN : X.N[i]? = some x := by rfl) (hv : Vis X.env.scope x := by first | exact Or.inl rfl | exact Or.inr (Or.inl rfl) | exact Or.inr (Or.inr rfl)) (hd : (x == ("__debug__" : Str)) = false := by decide)
    (hcd : (x == ("__classdict__" : Str)) = false := by decide) : RS X (.Return (some (.Name x p)) pos) (mRetO i) := ps_mono (ps_ret (pe_var hN hv hd hcd)) fun Ds σ H ⟨B0, H0, B, ρ, g, r, k⟩ => by
  unfold mRetO at k
  split at k
  · rename_i s hs
    cases s with
    | d d =>
      obtain ⟨v, h1, h2⟩ := r.dat i d hs
      exact ⟨v, h1, k v B H g h2⟩
    | own o =>
      obtain ⟨l, ho, h1, h2, h3, h4, h5⟩ := r.own i o hs
      exact ⟨_, h1, k _ B H g ⟨l, ho, rfl, h2, h3, h4, h5⟩⟩
  · exact k.elim
theorem rs_par {i j : Nat} {x y : Str} {ea eb : Expr} {ma : Slots → Option (List D)} {px py pt : Pos} {kt k2 pt2} (hc : X.calm = true) (hN : X.N.Nodup) (hij : i ≠ j) (ha : RA X [ea, eb] ma) (hi : X.N[i]? = some x := by rfl) (hj : X.N[j]? = some y := by rfl)
    (hx : X.env.scope.names.lookup x = some .local := by rfl) (hy : X.env.scope.names.lookup y = some .local := by rfl) (hw : swappedStores [.Tuple [.Name x px, .Name y py] kt pt] (.Tuple [ea, eb] k2 pt2) X.env = pure (some [x, y]) := by rfl)
    (hs : swapsWithSole [.Tuple [.Name x px, .Name y py] kt pt] (.Tuple [ea, eb] k2 pt2) pos.line X.env = pure false := by rfl) :
    RS X (.Assign [.Tuple [.Name x px, .Name y py] kt pt] (.Tuple [ea, eb] k2 pt2) pos) (mPar i j ma) := ps_mono (ps_par hc hN hi hj hij hx hy ha hw hs) fun Ds σ H ⟨B0, H0, B, ρ, g, r, k⟩ => by
  unfold mPar at k
  split at k
  · rename_i d1 d2 hm
    refine ⟨H0, B, ρ, _, r, hm, fun vs B' H' g' q => ?_⟩
    cases q with
    | cons q1 q2 =>
      cases q2 with
      | cons q2 q3 =>
        cases q3
        exact ⟨_, _, rfl, k _ B' H' (g.trans g') g'.b (((r.grow g').setD q1).setD q2)⟩
  · exact k.elim
/-- a slot's list is not changed any more -/
theorem rss_fz (i : Nat) {sts : List Stmt} (h : RSs X sts a) : RSs X sts (mFz i a) := pss_mono h fun Ds σ H ⟨B0, H0, B, ρ, g, r, k⟩ => by
  unfold mFz frz at k
  split at k
  · rename_i xs hx
    obtain ⟨l, ho, h1, h2, h3, h4, vs, h5, h6⟩ := r.own i _ hx
    subst h5
    have g2 : Gr B0 H0 (upd B l (.lst vs)) H := g.freeze h2 h3 h4
    have e : σ.set i (some (.ref l)) = σ := by
      apply List.ext_getElem?
      intro j
      by_cases hj : i = j
      · subst hj
        rw [set_at (List.getElem?_eq_some_iff.mp h1).1, h1]
      · rw [set_off hj]
    have sB : Same B (upd B l (.lst vs)) := same_upd h3
    have r2 : Rl X.K H0 (upd B l (.lst vs)) H (σ.set i (some (.ref l))) (ρ.set i (some (.d (.lst xs)))) := by
      refine ⟨g2.bh, by rw [List.length_set, List.length_set]; exact r.len, fun j d q => ?_, fun j o q => ?_, fun j k' o o' l' hjk q1 q2 s1 s2 => ?_⟩
      · rcases set_get q with ⟨rfl, e1, hl⟩ | ⟨hne, q⟩
        · cases e1
          exact ⟨_, set_at (by rw [r.len]; exact hl), .lst upd_same (h6.mono sB)⟩
        · obtain ⟨v', p1, p2⟩ := r.dat j d q
          exact ⟨v', by rw [set_off hne]; exact p1, p2.mono sB⟩
      · rcases set_get q with ⟨rfl, e1, hl⟩ | ⟨hne, q⟩
        · cases e1
        · obtain ⟨l2, ho2, p1, p2, p3, p4, p5⟩ := r.own j o q
          have hl2 : l2 ≠ l := fun z => by
            subst z
            exact r.sep i j _ o l2 hne hx q h1 p1
          exact ⟨l2, ho2, by rw [set_off hne]; exact p1, p2, by rw [upd_ne hl2]; exact p3, p4, p5.mono sB⟩
      · rcases set_get q1 with ⟨_, e1, _⟩ | ⟨n1, q1⟩
        · cases e1
        · rcases set_get q2 with ⟨_, e2, _⟩ | ⟨n2, q2⟩
          · cases e2
          · rw [set_off n1] at s1
            rw [set_off n2] at s2
            exact r.sep j k' o o' l' hjk q1 q2 s1 s2
    rw [e] at r2
    exact ⟨B0, H0, _, _, g2, r2, k.base sB⟩
  · exact ⟨B0, H0, B, ρ, g, r, k⟩
/-- xs.append(e) -/
theorem rs_app {i : Nat} {x : Str} {p apos cpos : Pos} (he : RE X e me) (hN : X.N[i]? = some x := by rfl) (hv : Vis X.env.scope x := by first | exact Or.inl rfl | exact Or.inr (Or.inl rfl) | exact Or.inr (Or.inr rfl)) (hd : (x == ("__debug__" : Str)) = false := by decide)
    (hcd : (x == ("__classdict__" : Str)) = false := by decide)
    (hbase : attributeBase (.Name x p) "append" X.env (eval (.Name x p) X.env) = eval (.Name x p) X.env := by rfl)
    (hfew : ((backTo cpos (starEach [e] X.env)).all (fun x => !x.1) && (backToKw cpos (keywordEach [] X.env)).all (fun x => x.1.isSome)
      && decide ([e].length + ([] : List Keyword).length + (if ([] : List Keyword).isEmpty then 0 else 1) < 30)) = true := by rfl)
    (hline : (apos.endLine == cpos.line) = true := by rfl) (hs : starEach [e] X.env = [(false, eval e X.env)] := by rfl) 
    (hsw : swapsWith (.Call (.Attribute (.Name x p) "append" apos) [e] [] cpos) none pos.line X.env = pure false := by rfl) :
    RS X (.Expr (.Call (.Attribute (.Name x p) "append" apos) [e] [] cpos) pos) (mApp i me) :=
  ps_mono (ps_expr (pe_bm PySem.F.plainAttrs_list PySem.F.slot_list_append PySem.F.type_list_append mt_append (pe_var (i := i) hN hv hd hcd) (pa_cons he pa_nil hs) hbase hfew hline hs rfl) hsw) fun Ds σ H ⟨B0, H0, B, ρ, g, r, k⟩ => by
    unfold mApp at k
    split at k
    · rename_i xs hx
      cases hm : me ρ with
      | none => rw [hm] at k; exact k.elim
      | some d =>
        rw [hm] at k
        simp only at k
        split at k
        · rename_i hz
          obtain ⟨l, ho, h1, h2, h3, h4, vs, h5, h6⟩ := r.own i _ hx
          subst h5
          refine ⟨.ref l, h1, .inl ⟨rfl, vs, SqL.of h4⟩, H0, B, ρ, d, r, hm, fun v B' H' g' q => ?_⟩
          refine ⟨l, vs, v, rfl, rfl, g'.h _ _ h4, by rw [h6.length]; exact hz, ?_⟩
          have r2 := (r.grow g').chg (o := .lst (xs ++ [d])) (ho := .lst (vs ++ [v])) hx h1 ⟨_, rfl, (h6.mono g'.b).append (.one q)⟩
          have g3 : Gr B0 H0 B' (upd H' l (.lst (vs ++ [v]))) := by
            have gg := g.trans g'
            refine ⟨gg.b, fun b o e => ?_, r2.bh, gg.nw⟩
            rw [upd_ne (ne_of_none e h2)]
            exact gg.h _ _ e
          exact k _ B' _ g3 g'.b r2
        · exact k.elim
    · exact k.elim
end
end R
/-! R6: loops, comprehensions, calls, promises -/
namespace R
open PySem PySem.Spec PyProof.Rows L2

def ItOk (K : PySem.W.Frag) (J : It) (xs : List D) (B1 : Hp) : Prop := ∀ (i : Nat) (B H : Hp), Same B1 B → Same B H →
  (∀ d, xs[i]? = some d → J.go i H ∧ ∀ x H', J.yld i H x H' → ∃ B', Gr B H B' H' ∧ Rp K B' x d) ∧ (xs.length ≤ i → J.stop i H)
def cI (K : PySem.W.Frag) (mi : Slots → Option (List D)) : TI := fun σ H R => ∃ H0 B ρ xs, Rl K H0 B H σ ρ ∧ mi ρ = some xs ∧ ∀ J B1 H1, Gr B H B1 H1 → ItOk K J xs B1 → R J H1
abbrev RI (X : Cx) (tg it : Expr) (mi : Slots → Option (List D)) : Prop := PI X tg it (cI X.K mi)
def itemsOf : D → Option (List D)
  | .lst xs => some xs
  | .lsk xs => some xs
  | .tup xs => some xs
  | .str cs => some (cs.map fun c => .str [c])
  | _ => none
def mItems (m : ME) : Slots → Option (List D) := fun ρ => match m ρ with | some d => itemsOf d | none => none
section
variable {X : Cx} {tg e : Expr} {me : ME} {pos p : Pos}
theorem itl_ok {K : PySem.W.Frag} {B1 : Hp} {a : Addr} {vs : List V} {xs : List D} (h : SqL K B1 a vs) (r : Rps K B1 vs xs) (inj : ∀ H ys, Same B1 H → SqL K H a ys → SqL K H a vs → True) : ItOk K (Itl K a) xs B1 := by
  intro i B H s1 s2
  have hv : SqL K H a vs := (s1.trans s2).seq h
  refine ⟨fun d hd => ?_, fun hl => ⟨vs, hv, by rw [r.length]; exact hl⟩⟩
  obtain ⟨v, h1, h2⟩ := r.get hd
  refine ⟨⟨vs, v, hv, h1⟩, fun x H' hy => ?_⟩
  obtain ⟨rfl, hx⟩ := hy
  have := hx vs hv
  rw [h1] at this
  cases this
  exact ⟨B, Gr.refl s2, h2.mono s1⟩
theorem itt_ok {K : PySem.W.Frag} {B1 : Hp} {a : Addr} {vs : List V} {xs : List D} (h : SqT K B1 a vs) (r : Rps K B1 vs xs) : ItOk K (Itt K a) xs B1 := by
  intro i B H s1 s2
  have hv : SqT K H a vs := sqt_same (s1.trans s2) h
  refine ⟨fun d hd => ?_, fun hl => ⟨vs, hv, by rw [r.length]; exact hl⟩⟩
  obtain ⟨v, h1, h2⟩ := r.get hd
  refine ⟨⟨vs, v, hv, h1⟩, fun x H' hy => ?_⟩
  obtain ⟨rfl, hx⟩ := hy
  have := hx vs hv
  rw [h1] at this
  cases this
  exact ⟨B, Gr.refl s2, h2.mono s1⟩
theorem its_ok {K : PySem.W.Frag} {B1 : Hp} {cs : List Nat} : ItOk K (Its ⟨cs.toArray⟩) (cs.map fun c => .str [c]) B1 := by
  intro i B H s1 s2
  refine ⟨fun d hd => ?_, fun hl => ?_⟩
  · rw [List.getElem?_map] at hd
    cases hc : cs[i]? with
    | none => rw [hc] at hd; cases hd
    | some c =>
      rw [hc] at hd
      cases hd
      refine ⟨?_, fun x H' hy => ?_⟩
      · show i < cs.toArray.size
        rw [List.size_toArray]
        exact (List.getElem?_eq_some_iff.mp hc).1
      · obtain ⟨rfl, c', h1, rfl⟩ := hy
        have e : cs.toArray[i]? = some c := by simpa using hc
        rw [e] at h1
        cases h1
        exact ⟨B, Gr.refl s2, .str [c]⟩
  · show cs.toArray.size ≤ i
    rw [List.size_toArray]
    rw [List.length_map] at hl
    exact hl
theorem ri_data (h : RE X e me) : RI X tg e (mItems me) := by
  have h1 := pi_list (tg := tg) h
  have h2 := pi_tup (tg := tg) h
  have h3 := pi_str (tg := tg) h
  refine ⟨fun pins s σ H R I q => ?_⟩
  obtain ⟨H0, B, ρ, xs, r, e, k⟩ := q
  unfold mItems at e
  cases hm : me ρ with
  | none => rw [hm] at e; cases e
  | some d =>
    rw [hm] at e
    cases d <;> try (cases e; done)
    · cases e
      refine h3.run pins s σ H R I ⟨H0, B, ρ, _, r, hm, fun v B1 H1 g q => ?_⟩
      exact ⟨_, q.str_inv, k _ B1 H1 g its_ok⟩
    · cases e
      refine h2.run pins s σ H R I ⟨H0, B, ρ, _, r, hm, fun v B1 H1 g q => ?_⟩
      cases q with
      | tup p1 p2 => exact ⟨_, rfl, ⟨_, SqT.of (g.bh _ _ p1)⟩, k _ B1 H1 g (itt_ok (SqT.of p1) p2)⟩
    · cases e
      refine h1.run pins s σ H R I ⟨H0, B, ρ, _, r, hm, fun v B1 H1 g q => ?_⟩
      cases q with
      | lst p1 p2 => exact ⟨_, rfl, ⟨_, SqL.of (g.bh _ _ p1)⟩, k _ B1 H1 g (itl_ok (SqL.of p1) p2 fun _ _ _ _ _ => trivial)⟩
    · cases e
      refine h1.run pins s σ H R I ⟨H0, B, ρ, _, r, hm, fun v B1 H1 g q => ?_⟩
      cases q with
      | lsk p1 p2 => exact ⟨_, rfl, ⟨_, g.bh.seq p1⟩, k _ B1 H1 g (itl_ok p1 p2 fun _ _ _ _ _ => trivial)⟩
def rngD (lo : Int) (n : Nat) : List D := (List.range n).map fun (k : Nat) => .int (lo + (k : Int))
def mRng1 (ma : Slots → Option (List D)) : Slots → Option (List D) := fun ρ => match ma ρ with
  | some [.int j] => if -4000000000000000000 ≤ j ∧ j < 4000000000000000000 then some (rngD 0 j.toNat) else none
  | _ => none
def mRng2 (ma : Slots → Option (List D)) : Slots → Option (List D) := fun ρ => match ma ρ with
  | some [.int i, .int j] => if -4000000000000000000 ≤ i ∧ i < 4000000000000000000 ∧ -4000000000000000000 ≤ j ∧ j < 4000000000000000000 then some (rngD i (j - i).toNat) else none
  | _ => none
theorem itr_ok {K : PySem.W.Frag} {B1 : Hp} {lo : Int} {n : Nat} : ItOk K (Itr lo n) (rngD lo n) B1 := by
  intro i B H s1 s2
  unfold rngD
  refine ⟨fun d hd => ?_, fun hl => by rw [List.length_map, List.length_range] at hl; exact hl⟩
  rw [List.getElem?_map] at hd
  by_cases hi : i < n
  · rw [List.getElem?_range hi] at hd
    cases hd
    refine ⟨hi, fun x H' hy => ?_⟩
    obtain ⟨rfl, rfl⟩ := hy
    exact ⟨B, Gr.refl s2, .int _⟩
  · rw [List.getElem?_eq_none (by rw [List.length_range]; omega)] at hd
    cases hd
theorem ri_rng1 {a : Expr} {ma : Slots → Option (List D)} (hg : Gl X "range") (hm : X.mg "range" = none) (ha : RA X [a] ma) (hs : starEach [a] X.env = [(false, eval a X.env)] := by rfl) : RI X tg (.Call (.Name "range" p) [a] [] pos) (mRng1 ma) :=
  pi_mono (pi_range1 hg hm ha hs) fun σ H R ⟨H0, B, ρ, xs, r, e, k⟩ => by
    unfold mRng1 at e
    split at e
    · rename_i j hj
      split at e
      · rename_i hc
        cases e
        refine ⟨H0, B, ρ, _, r, hj, fun vs B1 H1 g q => ?_⟩
        cases q with
        | cons q qq =>
          cases qq
          rw [q.int_inv]
          exact ⟨j, rfl, by omega, by omega, k _ B1 H1 g itr_ok⟩
      · cases e
    · cases e
theorem ri_rng2 {a b : Expr} {ma : Slots → Option (List D)} (hg : Gl X "range") (hm : X.mg "range" = none) (ha : RA X [a, b] ma) (hs : starEach [a, b] X.env = [(false, eval a X.env), (false, eval b X.env)] := by rfl) (hs2 : starEach [b] X.env = [(false, eval b X.env)] := by rfl) : RI X tg (.Call (.Name "range" p) [a, b] [] pos) (mRng2 ma) :=
  pi_mono (pi_range2 hg hm ha hs hs2) fun σ H R ⟨H0, B, ρ, xs, r, e, k⟩ => by
    unfold mRng2 at e
    split at e
    · rename_i i j hj
      split at e
      · rename_i hc
        cases e
        refine ⟨H0, B, ρ, _, r, hj, fun vs B1 H1 g q => ?_⟩
        cases q with
        | cons q qq =>
          cases qq with
          | cons q2 qq =>
            cases qq
            rw [q.int_inv, q2.int_inv]
            exact ⟨i, j, rfl, ⟨by omega, by omega, by omega, by omega⟩, k _ B1 H1 g itr_ok⟩
      · cases e
    · cases e
end
/-! targets -/
def cG (K : PySem.W.Frag) (mg : D → Slots → Option Slots) : TG := fun v σ H Q => ∃ H0 B ρ d ρ', Rl K H0 B H σ ρ ∧ Rp K B v d ∧ mg d ρ = some ρ' ∧ ∀ σ', Rl K H0 B H σ' ρ' → Q σ' H
abbrev RG (X : Cx) (tg : Expr) (mg : D → Slots → Option Slots) : Prop := PG X tg (cG X.K mg)
def gN (i : Nat) : D → Slots → Option Slots := fun d ρ => some (ρ.set i (some (.d d)))
theorem rg_name {X : Cx} {pos : Pos} {i : Nat} {x : Str} (hN : X.N.Nodup) (hi : X.N[i]? = some x := by rfl) (hx : Loc X.env.scope x := by first | exact Or.inl rfl | exact Or.inr rfl) (hf : X.fn x = true ∨ X.env.scope.names.lookup x = some .local := by first | exact .inl rfl | exact .inr rfl | assumption) : RG X (.Name x pos) (gN i) :=
  pg_mono (pg_name hN hi hx hf) fun v σ H Q ⟨H0, B, ρ, d, ρ', r, q, e, k⟩ => by
    cases e
    exact k _ (r.setD q)
/-! for -/
def forGo (mg : D → Slots → Option Slots) (b : MS) : List D → MS
  | [], ρ => .nx ρ
  | x :: xs, ρ => match mg x ρ with
    | none => .stuck
    | some ρ1 => match b ρ1 with
      | .nx ρ2 => forGo mg b xs ρ2
      | .cnt ρ2 => forGo mg b xs ρ2
      | .brk ρ2 => .nx ρ2
      | .ret s => .ret s
      | .stuck => .stuck
def mFor (mi : Slots → Option (List D)) (mg : D → Slots → Option Slots) (b : MS) : MS := fun ρ => match mi ρ with | some xs => forGo mg b xs ρ | none => .stuck
theorem rs_for {X : Cx} {tg iter : Expr} {body : List Stmt} {mi : Slots → Option (List D)} {mg : D → Slots → Option Slots} {b : MS} {pos : Pos} (hp : PassesOwn (model X.prog X.w) X.A X.env X.xe) (hc : X.calm = true) (hi : RI X tg iter mi) (hg : RG X tg mg) (hb : RSs X body b)
    (hs : ∀ x, foldedSetIterable iter X.env x = pure x := by intro _; rfl) : RS X (.For tg iter body [] pos) (mFor mi mg b) := by
  refine ps_mono (ps_for hp hc hi hg hb hs) fun Ds σ H ⟨B0, H0, B, ρ, g, r, k⟩ => ?_
  unfold mFor at k
  cases hm : mi ρ with
  | none => rw [hm] at k; exact k.elim
  | some xs =>
    rw [hm] at k
    have k : OutOk X.K B0 H0 B Ds (forGo mg b xs ρ) := k
    refine ⟨H0, B, ρ, xs, r, hm, fun J B1 H1 g1 it => ?_⟩
    refine ⟨fun i m σ H => m = xs.length - i ∧ i ≤ xs.length ∧ ∃ B' ρ', Gr B0 H0 B' H ∧ Same B1 B' ∧ Rl X.K H0 B' H σ ρ' ∧ OutOk X.K B0 H0 B' Ds (forGo mg b (xs.drop i) ρ'), ⟨xs.length, rfl, Nat.zero_le _, B1, ρ, g.trans g1, Same.refl _, r.grow g1, k.base g1.b⟩, ?_⟩
    rintro i m σ H ⟨rfl, hi, B', ρ', g', s', r', k'⟩
    by_cases hlt : i < xs.length
    · obtain ⟨d, hd⟩ : ∃ d, xs[i]? = some d := ⟨_, List.getElem?_eq_getElem hlt⟩
      obtain ⟨go, yl⟩ := (it i B' H s' r'.bh).1 d hd
      have ed : xs.drop i = d :: xs.drop (i + 1) := by
        rw [List.drop_eq_getElem_cons hlt]
        congr 1
        exact Option.some.inj ((List.getElem?_eq_getElem hlt).symm.trans hd)
      rw [ed] at k'
      refine .inr ⟨go, fun σ H => i + 1 ≤ xs.length ∧ ∃ B' ρ', Gr B0 H0 B' H ∧ Same B1 B' ∧ Rl X.K H0 B' H σ ρ' ∧ OutOk X.K B0 H0 B' Ds (forGo mg b (xs.drop (i + 1)) ρ'), fun σ' H' h => ⟨xs.length - (i + 1), by omega, rfl, h⟩, fun x H' hy => ?_⟩
      obtain ⟨B2, g2, q2⟩ := yl x H' hy
      unfold forGo at k'
      cases hgd : mg d ρ' with
      | none => rw [hgd] at k'; exact k'.elim
      | some ρ1 =>
        rw [hgd] at k'
        refine ⟨H0, B2, ρ', d, ρ1, r'.grow g2, q2, hgd, fun σ1 r1 => ?_⟩
        refine ⟨B0, H0, B2, ρ1, g'.trans g2, r1, ?_⟩
        have k1 := OutOk.base g2.b k'
        simp only at k1
        cases hb1 : b ρ1 with
        | stuck => rw [hb1] at k1; exact k1.elim
        | nx ρ2 =>
          rw [hb1] at k1
          exact fun σ' B3 H3 g3 s3 r3 => ⟨hlt, B3, ρ2, g3, (s'.trans g2.b).trans s3, r3, OutOk.base s3 k1⟩
        | cnt ρ2 =>
          rw [hb1] at k1
          exact fun σ' B3 H3 g3 s3 r3 => ⟨hlt, B3, ρ2, g3, (s'.trans g2.b).trans s3, r3, OutOk.base s3 k1⟩
        | brk ρ2 =>
          rw [hb1] at k1
          exact fun σ' B3 H3 g3 s3 r3 => k1 σ' B3 H3 g3 s3 r3
        | ret s =>
          rw [hb1] at k1
          exact k1
    · have e : i = xs.length := by omega
      subst e
      rw [List.drop_length] at k'
      exact .inl ⟨(it _ B' H s' r'.bh).2 (Nat.le_refl _), k' σ B' H g' (Same.refl _) r'⟩
/-! list comprehensions, the target a name -/
def lcGo (j : Nat) (mt : Slots → Option Bool) (me : ME) (ρ : Slots) : List D → Option (List D)
  | [] => some []
  | x :: xs => match mt (ρ.set j (some (.d x))) with
    | some true => (match me (ρ.set j (some (.d x))) with | some d => (match lcGo j mt me ρ xs with | some r => some (d :: r) | none => none) | none => none)
    | some false => lcGo j mt me ρ xs
    | none => none
def mLc (mi : Slots → Option (List D)) (j : Nat) (mt : Slots → Option Bool) (me : ME) : Slots → Option (List D) := fun ρ => match mi ρ with
  | some xs => if xs.length ≤ sizeLine then lcGo j mt me (ρ.set j none) xs else none
  | none => none
def mYes : Slots → Option Bool := fun _ => some true
theorem rts_nil {X : Cx} : PTs X [] (cT X.K mYes) := ⟨fun pins s σ H Q I ⟨H0, B, ρ, b, r, e, k⟩ => pts_nil.run pins s σ H Q I (by cases e; exact k B H (Gr.refl r.bh))⟩
theorem tLc_c {X : Cx} {mi : Slots → Option (List D)} {j : Nat} {mt : Slots → Option Bool} {me : ME} (σ : L2.St) (H : Hp) (Q : VK) (q : cF X.K (mLc mi j mt me) σ H Q) : tLc (cI X.K mi) (gName j) (cT X.K mt) (cE X.K me) [j] σ H Q := by
  obtain ⟨H0, B, ρ, out, r, e, k⟩ := q
  unfold mLc at e
  cases hm : mi ρ with
  | none => rw [hm] at e; cases e
  | some xs =>
    rw [hm] at e
    simp only at e
    split at e
    · rename_i hz
      refine ⟨H0, B, ρ, xs, r, hm, fun J B1 H1 g1 it Dl hD => ?_⟩
      refine ⟨fun i m H => m = xs.length - i ∧ i ≤ xs.length ∧ ∃ B' vs ds rs, Gr B1 H1 B' H ∧ B' Dl = none ∧ H Dl = some (.lst vs) ∧ Rps X.K B' vs ds ∧ ds.length ≤ i ∧ lcGo j mt me (ρ.set j none) (xs.drop i) = some rs ∧ ds ++ rs = out,
        ⟨xs.length, rfl, Nat.zero_le _, B1, [], [], out, Gr.newOwn g1.bh hD, g1.bh.free hD, upd_same, .nil, Nat.zero_le _, e, rfl⟩, ?_⟩
      rintro i m H ⟨rfl, hi, B', vs, ds, rs, g', hB, hH, rp, hl, hgo, hout⟩
      by_cases hlt : i < xs.length
      · obtain ⟨d, hd⟩ : ∃ d, xs[i]? = some d := ⟨_, List.getElem?_eq_getElem hlt⟩
        obtain ⟨go, yl⟩ := (it i B' H g'.b g'.bh).1 d hd
        have ed : xs.drop i = d :: xs.drop (i + 1) := by
          rw [List.drop_eq_getElem_cons hlt]
          congr 1
          exact Option.some.inj ((List.getElem?_eq_getElem hlt).symm.trans hd)
        rw [ed] at hgo
        unfold lcGo at hgo
        refine .inr ⟨go, fun H => i + 1 ≤ xs.length ∧ ∃ B' vs ds rs, Gr B1 H1 B' H ∧ B' Dl = none ∧ H Dl = some (.lst vs) ∧ Rps X.K B' vs ds ∧ ds.length ≤ i + 1 ∧ lcGo j mt me (ρ.set j none) (xs.drop (i + 1)) = some rs ∧ ds ++ rs = out, fun H' h => ⟨xs.length - (i + 1), by omega, rfl, h⟩, fun x H' hy => ?_⟩
        obtain ⟨B2, g2, q2⟩ := yl x H' hy
        have hB2 : B2 Dl = none := g2.nw Dl (by rw [hH]; simp) hB
        have hH2 : H' Dl = some (.lst vs) := g2.h _ _ hH
        have r2 : Rl X.K H0 B2 H' ((L2.wipe σ [j]).set j (some x)) ((ρ.set j none).set j (some (.d d))) := Rl.setD (((r.grow g1).grow (g'.trans g2)).wipe [j]) q2
        refine ⟨by show (((σ.set j none).set j (some x)).set j none) = σ.set j none; simp, ?_⟩
        cases ht : mt ((ρ.set j none).set j (some (.d d))) with
        | none => rw [ht] at hgo; cases hgo
        | some t =>
          rw [ht] at hgo
          refine ⟨H0, B2, _, t, r2, ht, fun B3 H3 g3 => ?_⟩
          have hB3 : B3 Dl = none := g3.nw Dl (by rw [hH2]; simp) hB2
          have hH3 : H3 Dl = some (.lst vs) := g3.h _ _ hH2
          cases t with
          | false => exact iteF ⟨hlt, B3, vs, ds, rs, (g'.trans g2).trans g3, hB3, hH3, rp.mono (g2.b.trans g3.b), by omega, hgo, hout⟩
          | true =>
            simp only at hgo
            cases he : me ((ρ.set j none).set j (some (.d d))) with
            | none => rw [he] at hgo; cases hgo
            | some y =>
              rw [he] at hgo
              simp only at hgo
              cases hr : lcGo j mt me (ρ.set j none) (xs.drop (i + 1)) with
              | none => rw [hr] at hgo; cases hgo
              | some rs' =>
                rw [hr] at hgo
                cases hgo
                refine iteT ⟨H0, B3, _, y, r2.grow g3, he, fun v B4 H4 g4 q4 => ⟨vs, g4.h _ _ hH3, by rw [rp.length]; omega, hlt, B4, vs ++ [v], ds ++ [y], rs', ?_, g4.nw Dl (by rw [hH3]; simp) hB3, upd_same, (rp.mono ((g2.b.trans g3.b).trans g4.b)).append (.one q4), by rw [List.length_append]; simp; omega, rfl, by rw [← hout]; simp⟩⟩
                have gg := ((g'.trans g2).trans g3).trans g4
                refine ⟨gg.b, fun b o e => ?_, fun b o e => ?_, gg.nw⟩
                · rw [upd_ne (ne_of_none e hD)]
                  exact gg.h _ _ e
                · rw [upd_ne (ne_of_none e (g4.nw Dl (by rw [hH3]; simp) hB3))]
                  exact gg.bh _ _ e
      · have ei : i = xs.length := by omega
        subst ei
        rw [List.drop_length] at hgo
        unfold lcGo at hgo
        cases hgo
        rw [List.append_nil] at hout
        subst hout
        exact .inl ⟨(it _ B' H g'.b g'.bh).2 (Nat.le_refl _), k Dl vs B' H (g1.trans g') (g1.h.free hD) hB hH rp⟩
    · cases e
section
variable {X : Cx} {elt iter : Expr} {ifs : List Expr} {scope : Scope} {pos : Pos} {mi : Slots → Option (List D)} {j : Nat} {mt : Slots → Option Bool} {me : ME} {x : Str} {p : Pos}
theorem rf_lc (own : List (Str × Nat)) (ho : own = [(x, j)]) (hc : X.calm = true) (hN : X.N.Nodup) (hi : RI X (.Name x p) iter mi) (ok : BlkOk X.N X.env.scope scope own)
    (hg : ∀ (s : Shared) (H : Hp) (C : Addr) (cl : List (Str × Addr)) (fp : List Addr), PG (X.blk s H scope (compEnvC scope cl C X.env) fp) (.Name x p) (gName j)) (ht : ∀ (s : Shared) (H : Hp) (C : Addr) (cl : List (Str × Addr)) (fp : List Addr), PTs (X.blk s H scope (compEnvC scope cl C X.env) fp) ifs (cT X.K mt))
    (he : ∀ (s : Shared) (H : Hp) (C : Addr) (cl : List (Str × Addr)) (fp : List Addr), PE (X.blk s H scope (compEnvC scope cl C X.env) fp) elt (cE X.K me)) (hs : ∀ x, foldedSetIterable iter X.env x = pure x := by intro _; rfl) :
    RF X (.ListComp elt [⟨.Name x p, iter, ifs, 0⟩] scope pos) (mLc mi j mt me) := by
  have h := pe_lc hc hN hi ok hg ht he hs (pos := pos)
  subst ho
  exact pe_mono h tLc_c
theorem rs_setLc {i : Nat} {y : Str} {py spos : Pos} (own : List (Str × Nat)) (ho : own = [(x, j)]) (hc : X.calm = true) (hN : X.N.Nodup) (hy : X.N[i]? = some y) (hyl : X.env.scope.names.lookup y = some .local)
    (hsw : swapsWith (.ListComp elt [⟨.Name x p, iter, ifs, 0⟩] scope pos) (some (.Name y py)) spos.line X.env = pure true) (hi : RI X (.Name x p) iter mi) (ok : BlkOk X.N X.env.scope scope own)
    (hg : ∀ (s : Shared) (H : Hp) (C : Addr) (cl : List (Str × Addr)) (fp : List Addr), PG (X.blk s H scope (compEnvC scope cl C X.env) fp) (.Name x p) (gName j)) (ht : ∀ (s : Shared) (H : Hp) (C : Addr) (cl : List (Str × Addr)) (fp : List Addr), PTs (X.blk s H scope (compEnvC scope cl C X.env) fp) ifs (cT X.K mt))
    (he : ∀ (s : Shared) (H : Hp) (C : Addr) (cl : List (Str × Addr)) (fp : List Addr), PE (X.blk s H scope (compEnvC scope cl C X.env) fp) elt (cE X.K me)) (hs : ∀ x, foldedSetIterable iter X.env x = pure x := by intro _; rfl) :
    RS X (.Assign [.Name y py] (.ListComp elt [⟨.Name x p, iter, ifs, 0⟩] scope pos) spos) (mSetF i (mLc mi j mt me)) := by
  have h := ps_setLc hc hN hy hyl hsw hi ok hg ht he hs
  subst ho
  refine ps_mono h fun Ds σ H ⟨B0, H0, B, ρ, g, r, k⟩ => ?_
  unfold mSetF at k
  cases hm : mLc mi j mt me ρ with
  | none => rw [hm] at k; exact k.elim
  | some d =>
    rw [hm] at k
    refine tLc_c _ _ _ ⟨H0, B, ρ, d, r, hm, fun l vs B' H' g' h1 h2 h3 h4 => k _ B' H' (g.trans g') g'.b ((r.grow g').setO (g.h.free h1) h2 h3 ⟨vs, rfl, h4⟩ fun j o' hj hr hs => ?_)⟩
    obtain ⟨l', ho, p1, p2, p3, p4, p5⟩ := r.own j o' hr
    rw [hs] at p1
    cases p1
    rw [h1] at p4
    cases p4
end
/-! calls -/
def spR (K : PySem.W.Frag) (g : List D → Option Sl) : Sp := fun vs H Q _ => ∃ B ds s, Same B H ∧ Rps K B vs ds ∧ g ds = some s ∧ ∀ v B' H', Gr B H B' H' → RetOk K H B' H' v s → Q v H'
def slD : Sl → D
  | .d d => d
  | .own (.lst xs) => .lst xs
def mCall (g : List D → Option Sl) (ma : Slots → Option (List D)) : ME := fun ρ => match ma ρ with | some ds => (match g ds with | some s => some (slD s) | none => none) | none => none
def mCallF (g : List D → Option Sl) (ma : Slots → Option (List D)) : Slots → Option (List D) := fun ρ => match ma ρ with | some ds => (match g ds with | some (.own (.lst xs)) => some xs | _ => none) | none => none
section
variable {X : Cx} {k : Nat} {f : Addr} {fd : FuncData} {ps : List Str} {x : Str} {p pos : Pos} {e : Expr} {es : List Expr} {ma : Slots → Option (List D)} {g : List D → Option Sl}
theorem re_call (F : FnOk X.prog X.w X.K X.mg X.base CX0 k f fd ps (spR X.K g)) (hr : Room k X.A) (hg : Gl X x) (hm : X.mg x = some (.ref f)) (hk : PySem.W.keepIn X.K (.ref f) = true) (hb : Binds X.K fd ps []) 
    (ha : RA X (e :: es) ma) (hdb : (x == ("__debug__" : Str)) = false := by decide) (he : starEach (e :: es) X.env = (false, eval e X.env) :: starEach es X.env := by rfl) (hpl : (backTo pos (starEach es X.env)).any (·.1) = false := by rfl) :
    RE X (.Call (.Name x p) (e :: es) [] pos) (mCall g ma) := by
  refine pe_mono (pe_call (dvs := []) (E := E0) F hr hg hm hk hb .nil pass0 ha hdb he hpl) fun σ H Q ⟨H0, B, ρ, d, r, e, k⟩ => ?_
  unfold mCall at e
  cases h1 : ma ρ with
  | none => rw [h1] at e; cases e
  | some ds =>
    rw [h1] at e
    simp only at e
    cases h2 : g ds with
    | none => rw [h2] at e; cases e
    | some s =>
      rw [h2] at e
      cases e
      refine ⟨H0, B, ρ, ds, r, h1, fun vs B1 H1 g1 r1 => ?_⟩
      refine ⟨B1, ds, s, g1.bh, by rw [List.append_nil]; exact r1, h2, fun v B2 H2 g2 ro => ?_⟩
      cases s with
      | d d => exact k v B2 H2 (g1.trans g2) ro
      | own o =>
        cases o with
        | lst xs =>
          obtain ⟨l, ho, e1, q1, q2, q3, vs', e2, q4⟩ := ro
          subst e1 e2
          exact k _ _ _ (g1.trans (g2.freeze q1 q2 q3)) (.lst upd_same (q4.mono (same_upd q2)))
theorem rf_call (F : FnOk X.prog X.w X.K X.mg X.base CX0 k f fd ps (spR X.K g)) (hr : Room k X.A) (hg : Gl X x) (hm : X.mg x = some (.ref f)) (hk : PySem.W.keepIn X.K (.ref f) = true) (hb : Binds X.K fd ps []) 
    (ha : RA X (e :: es) ma) (hdb : (x == ("__debug__" : Str)) = false := by decide) (he : starEach (e :: es) X.env = (false, eval e X.env) :: starEach es X.env := by rfl) (hpl : (backTo pos (starEach es X.env)).any (·.1) = false := by rfl) :
    RF X (.Call (.Name x p) (e :: es) [] pos) (mCallF g ma) := by
  refine pe_mono (pe_call (dvs := []) (E := E0) F hr hg hm hk hb .nil pass0 ha hdb he hpl) fun σ H Q ⟨H0, B, ρ, d, r, e, k⟩ => ?_
  unfold mCallF at e
  cases h1 : ma ρ with
  | none => rw [h1] at e; cases e
  | some ds =>
    rw [h1] at e
    simp only at e
    split at e
    · rename_i xs h2
      cases e
      refine ⟨H0, B, ρ, ds, r, h1, fun vs B1 H1 g1 r1 => ?_⟩
      refine ⟨B1, ds, _, g1.bh, by rw [List.append_nil]; exact r1, h2, fun v B2 H2 g2 ro => ?_⟩
      obtain ⟨l, ho, e1, q1, q2, q3, vs', e2, q4⟩ := ro
      subst e1 e2
      exact k _ _ _ _ (g1.trans g2) (g1.h.free q1) q2 q3 q4
    · cases e
end
/-! a def keeps its promise -/
def envOf (n : Nat) (ds : List D) : Slots := (ds.map fun d => some (Sl.d d)) ++ List.replicate (n - ds.length) none
def fin : Out → Option Sl
  | .ret s => some s
  | .nx _ => some (.d .non)
  | _ => none
def gOf (n a : Nat) (m : MS) : List D → Option Sl := fun ds => if ds.length = a then fin (m (envOf n ds)) else none
theorem rl_start {K : PySem.W.Frag} {B H : Hp} {N : List Str} {vs : List V} {ds : List D} (e : Same B H) (r : Rps K B vs ds) : Rl K H B H (L2.start N vs) (envOf N.length ds) := by
  have hl := r.length
  unfold L2.start envOf
  refine ⟨e, by simp [hl], fun i d h => ?_, fun i o h => ?_, fun i j o o' l _ h => ?_⟩
  · rw [List.getElem?_append] at h ⊢
    rw [List.length_map] at h ⊢
    by_cases hi : i < ds.length
    · rw [if_pos hi, List.getElem?_map, List.getElem?_eq_getElem hi] at h
      obtain ⟨v, h1, h2⟩ := r.get (List.getElem?_eq_getElem hi)
      rw [if_pos (by omega), List.getElem?_map, h1]
      have e1 : ds[i] = d := by
        simp at h
        exact h
      rw [e1] at h2
      exact ⟨v, rfl, h2⟩
    · rw [if_neg hi] at h
      have := List.getElem?_eq_some_iff.mp h
      obtain ⟨_, h⟩ := this
      simp at h
  · rw [List.getElem?_append] at h
    split at h
    · rw [List.getElem?_map] at h
      cases hd : ds[i]? with
      | none => rw [hd] at h; cases h
      | some d => rw [hd] at h; cases h
    · obtain ⟨_, h⟩ := List.getElem?_eq_some_iff.mp h
      simp at h
  · rw [List.getElem?_append] at h
    split at h
    · rw [List.getElem?_map] at h
      cases hd : ds[i]? with
      | none => rw [hd] at h; cases h
      | some d => rw [hd] at h; cases h
    · obtain ⟨_, h⟩ := List.getElem?_eq_some_iff.mp h
      simp at h
theorem fn_ok {P : Program} {w : World} {K : PySem.W.Frag} {mg : Str → Option Value} {base : Heap} {x qual : Str} {st : Stmt} {f : Addr} {fd : FuncData} {N ps : List Str} {k : Nat} {m : MS} (F : Fun K x qual st f fd) (S : FnScope N ps (defScope st))
    (hbody : ∀ (cdv : Value) (A : Around) (outer : List Env) (s : Shared) (H : Hp) (E : XK), Room k (A.deeper (envOfC qual (defScope st) s.heap.objs.size f cdv)) →
      RSs (cxOf CX0 P w K mg base N qual (defScope st) f cdv A outer s H E).nox (defBody st) m) : FnOk P w K mg base CX0 (k + 1) f fd ps (spR K (gOf N.length ps.length m)) := by
  refine F.ok S (fun vs H Q E h => ?_) (fun cdv A outer s H vs Q E hr h => ?_)
  · obtain ⟨B, ds, s, _, r, e, _⟩ := h
    unfold gOf at e
    split at e
    · rw [r.length]; assumption
    · cases e
  · obtain ⟨B, ds, sl, e, r, hg, kk⟩ := h
    refine ⟨_, hbody cdv A outer s H E hr, B, H, B, envOf N.length ds, Gr.refl e, rl_start e r, ?_⟩
    unfold gOf at hg
    split at hg
    · have hK : (cxOf CX0 P w K mg base N qual (defScope st) f cdv A outer s H E).nox.K = K := rfl
      cases hm : m (envOf N.length ds) with
      | stuck => rw [hm] at hg; cases hg
      | brk _ => rw [hm] at hg; cases hg
      | cnt _ => rw [hm] at hg; cases hg
      | nx ρ' =>
        rw [hm] at hg
        cases hg
        exact fun σ' B' H' g' _ r' => kk .non B' H' g' .non
      | ret s' =>
        rw [hm] at hg
        cases hg
        exact fun v B' H' g' ro => kk v B' H' g' ro
    · cases hg
end R
/-! R7: calls by name, dict displays, written dicts -/
namespace R
open PySem PySem.Spec PyProof.Rows L2

/-- the def x keeps g, by level k -/
structure Cl (P : Program) (w : World) (K : PySem.W.Frag) (mg : Str → Option Value) (base : Heap) (x : Str) (k : Nat) (ps : List Str) (g : List D → Option Sl) : Prop where
  ex : ∃ f fd, FnOk P w K mg base CX0 k f fd ps (spR K g) ∧ mg x = some (.ref f) ∧ PySem.W.keepIn K (.ref f) = true ∧ Binds K fd ps []
section
variable {X : Cx} {k : Nat} {ps : List Str} {x : Str} {p pos : Pos} {e : Expr} {es : List Expr} {ma : Slots → Option (List D)} {g : List D → Option Sl}
theorem re_cl (C : Cl X.prog X.w X.K X.mg X.base x k ps g) (hr : Room k X.A) (hg : Gl X x) (ha : RA X (e :: es) ma) (hdb : (x == ("__debug__" : Str)) = false := by decide) (he : starEach (e :: es) X.env = (false, eval e X.env) :: starEach es X.env := by rfl) (hpl : (backTo pos (starEach es X.env)).any (·.1) = false := by rfl) :
    RE X (.Call (.Name x p) (e :: es) [] pos) (mCall g ma) := by
  obtain ⟨f, fd, F, hm, hk, hb⟩ := C.ex
  exact re_call F hr hg hm hk hb ha hdb he hpl
theorem rf_cl (C : Cl X.prog X.w X.K X.mg X.base x k ps g) (hr : Room k X.A) (hg : Gl X x) (ha : RA X (e :: es) ma) (hdb : (x == ("__debug__" : Str)) = false := by decide) (he : starEach (e :: es) X.env = (false, eval e X.env) :: starEach es X.env := by rfl) (hpl : (backTo pos (starEach es X.env)).any (·.1) = false := by rfl) :
    RF X (.Call (.Name x p) (e :: es) [] pos) (mCallF g ma) := by
  obtain ⟨f, fd, F, hm, hk, hb⟩ := C.ex
  exact rf_call F hr hg hm hk hb ha hdb he hpl
end
/-! {k: v, ..}: written keys that differ -/
def mPairs : List (ME × ME) → Slots → Option (List (D × D))
  | [], _ => some []
  | (a, b) :: r, ρ => match a ρ with
    | some k => (match b ρ with | some v => (match mPairs r ρ with | some ps => some ((k, v) :: ps) | none => none) | none => none)
    | none => none
def keysOf : List (D × D) → Option (List Key)
  | [] => some []
  | (k, _) :: r => match keyOf k with | some x => (match keysOf r with | some xs => some (x :: xs) | none => none) | none => none
def mDict (ps : List (ME × ME)) : ME := fun ρ => match mPairs ps ρ with
  | some kvs => (match keysOf kvs with | some ks => if ks.Nodup ∧ kvs.length ≤ 15 then some (.dct ks (kvs.map (·.2))) else none | none => none)
  | none => none
inductive Rpp (K : PySem.W.Frag) (B : Hp) : List (V × V) → List (D × D) → Prop
  | nil : Rpp K B [] []
  | cons {p : V × V} {ps : List (V × V)} {d : D × D} {ds : List (D × D)} : Rp K B p.1 d.1 → Rp K B p.2 d.2 → Rpp K B ps ds → Rpp K B (p :: ps) (d :: ds)
def trsOf (K : PySem.W.Frag) (ps : List (ME × ME)) : List (TE × TE) := ps.map fun p => (cE K p.1, cE K p.2)
theorem tPairs_c {K : PySem.W.Frag} {σ : L2.St} {H0 : Hp} {ρ : Slots} : ∀ {ps : List (ME × ME)} {ds : List (D × D)} {B H : Hp} {Q : List (V × V) → Hp → Prop}, Rl K H0 B H σ ρ → mPairs ps ρ = some ds → (∀ vs B' H', Gr B H B' H' → Rpp K B' vs ds → Q vs H') → tPairs (trsOf K ps) σ H Q
  | [], _, B, H, Q, r, e, k => by
    cases e
    exact k [] B H (Gr.refl r.bh) .nil
  | (a, b) :: ps, ds, B, H, Q, r, e, k => by
    unfold mPairs at e
    cases h1 : a ρ with
    | none => rw [h1] at e; cases e
    | some x =>
      cases h2 : b ρ with
      | none => rw [h1, h2] at e; cases e
      | some y =>
        cases h3 : mPairs ps ρ with
        | none => rw [h1, h2, h3] at e; cases e
        | some zs =>
          rw [h1, h2, h3] at e
          cases e
          refine ⟨H0, B, ρ, x, r, h1, fun v B1 H1 g1 q1 => ⟨H0, B1, ρ, y, r.grow g1, h2, fun u B2 H2 g2 q2 => ?_⟩⟩
          exact tPairs_c (r.grow (g1.trans g2)) h3 fun vs B3 H3 g3 q3 => k _ B3 H3 ((g1.trans g2).trans g3) (.cons (q1.mono (g2.b.trans g3.b)) (q2.mono g3.b) q3)
theorem keysOf_ok {K : PySem.W.Frag} {B : Hp} : ∀ {vs : List (V × V)} {ds : List (D × D)} {ks : List Key}, Rpp K B vs ds → keysOf ds = some ks → vs = ((ks.zip (vs.map (·.2))).map fun (kv : Key × V) => (kV kv.1, kv.2)) ∧ ks.length = vs.length ∧ Rps K B (vs.map (·.2)) (ds.map (·.2))
  | _, _, _, .nil, e => by
    cases e
    exact ⟨rfl, rfl, .nil⟩
  | _, _, _, .cons (p := p) (d := d) h1 h2 hs, e => by
    obtain ⟨d1, d2⟩ := d
    unfold keysOf at e
    cases hk : keyOf d1 with
    | none => rw [hk] at e; cases e
    | some k =>
      rw [hk] at e
      simp only at e
      cases hr : keysOf _ with
      | none => rw [hr] at e; cases e
      | some kk =>
        rw [hr] at e
        cases e
        obtain ⟨i1, i2, i3⟩ := keysOf_ok hs hr
        have ek := keyOf_ok (H := B) (.inl h1) hk
        refine ⟨?_, by simp [i2], .cons h2 i3⟩
        rw [List.map_cons, List.zip_cons_cons, List.map_cons, ← i1]
        congr 1
        exact Prod.ext ek rfl
theorem merge_nodup : ∀ (kvs acc : List (Key × V)), (∀ p ∈ acc, p.1 ∉ kvs.map (·.1)) → (kvs.map (·.1)).Nodup → mergeK acc kvs = acc ++ kvs
  | [], acc, _, _ => by simp [mergeK]
  | p :: r, acc, h, nd => by
    have hp : (acc.any fun kv => decide (kv.1 = p.1)) = false := by
      rw [List.any_eq_false]
      intro q hq
      have := h q hq
      simp only [decide_eq_true_eq]
      intro z
      exact this (by rw [z]; exact List.mem_map_of_mem List.mem_cons_self)
    show mergeK (putK acc p.1 p.2) r = _
    have e : putK acc p.1 p.2 = acc ++ [p] := by
      unfold putK
      rw [hp]
      simp
    rw [e, merge_nodup r (acc ++ [p]) (fun q hq => ?_) (List.nodup_cons.mp nd).2]
    · simp
    · rcases List.mem_append.mp hq with hq | hq
      · exact fun z => h q hq (List.mem_cons_of_mem _ z)
      · have : q = p := by simpa using hq
        subst this
        exact (List.nodup_cons.mp nd).1
theorem re_dict {X : Cx} {pos : Pos} {keys : List (Option Expr)} {values : List Expr} {ps : List (ME × ME)} (h : PPs X pos keys values (trsOf X.K ps)) (hall : keys.all (·.isSome) = true := by rfl) (hl : keys.length = values.length := by rfl) (h0 : keys ≠ [] := by intro z; cases z)
    (h15 : keys.length ≤ 15 := by decide) : RE X (.Dict keys values pos) (mDict ps) := by
  refine pe_mono (pe_disp h hall hl h0 h15) fun σ H Q ⟨H0, B, ρ, d, r, e, k⟩ => ?_
  unfold mDict at e
  cases h1 : mPairs ps ρ with
  | none => rw [h1] at e; cases e
  | some kvs =>
    rw [h1] at e
    simp only at e
    cases h2 : keysOf kvs with
    | none => rw [h2] at e; cases e
    | some ks =>
      rw [h2] at e
      simp only at e
      split at e
      · rename_i hc
        cases e
        intro p hp
        have g0 : Gr B H B (upd H p (.dK [])) := Gr.newOwn r.bh hp
        refine tPairs_c (r.grow g0) h1 fun vs B1 H1 g1 q1 => ?_
        obtain ⟨i1, i2, i3⟩ := keysOf_ok q1 h2
        have hp1 : H1 p = some (.dK []) := g1.h _ _ upd_same
        have hb1 : B1 p = none := g1.nw p (by rw [upd_same]; simp) (r.bh.free hp)
        refine ⟨hp1, ks.zip (vs.map (·.2)), i1, ?_, ?_⟩
        · have e1 : kvs.length = vs.length := by
            have := i3.length
            simpa using this.symm
          rw [List.length_zip, List.length_map]
          omega
        · have em : mergeK [] (ks.zip (vs.map (·.2))) = ks.zip (vs.map (·.2)) := by
            have ez : (ks.zip (vs.map (·.2))).map (·.1) = ks := List.map_fst_zip (by rw [List.length_map]; omega)
            have := merge_nodup (ks.zip (vs.map (·.2))) [] (fun q hq => by cases hq) (by rw [ez]; exact hc.1)
            simpa using this
          rw [em]
          have gg := g0.trans g1
          refine k _ (upd B1 p (.dK (ks.zip (vs.map (·.2))))) _ ⟨gg.b.trans (same_upd hb1), fun b o eb => ?_, Same.upd2 gg.bh, fun a ha hb => ?_⟩ (.dct upd_same (i3.mono (same_upd hb1)))
          · rw [upd_ne (ne_of_none eb hp)]
            exact gg.h _ _ eb
          · have : a ≠ p := fun z => ha (z ▸ hp)
            rw [upd_ne this]
            exact gg.nw a ha hb
      · cases e
theorem rpp_nil {X : Cx} {pos : Pos} : PPs X pos [] [] (trsOf X.K []) := pps_nil
theorem rpp_cons {X : Cx} {pos : Pos} {k v : Expr} {ks : List (Option Expr)} {vs : List Expr} {mk mv : ME} {ps : List (ME × ME)} (hk : RE X k mk) (hv : RE X v mv) (hr : PPs X pos ks vs (trsOf X.K ps)) :
    PPs X pos (some k :: ks) (v :: vs) (trsOf X.K ((mk, mv) :: ps)) := pps_cons hk hv hr
/-! a dict that the top has written: text keys, int values -/
structure GD (K : PySem.W.Frag) (w : World) (d : Addr) (kvs : List (List Nat × Int)) : Prop where
  kd : ∃ es n, KDict K w d es n
  at_ : ∀ z : List Nat, ∃ r, PySem.W.nsIn K d ⟨z.toArray⟩ = some r ∧ (match kvs.lookup z with | none => r = none | some i => ∃ t, r = some (.int i t))
def fGIn (kvs : List (List Nat × Int)) (neg : Bool) : D → Option D
  | .str z => some (.bl (if neg then !(kvs.lookup z).isSome else (kvs.lookup z).isSome))
  | _ => none
def fGIx (kvs : List (List Nat × Int)) : D → Option D
  | .str z => (match kvs.lookup z with | some i => some (.int i) | none => none)
  | _ => none
def m1 (f : D → Option D) (m : ME) : ME := fun ρ => match m ρ with | some d => f d | none => none
section
variable {X : Cx} {a : Expr} {ma : ME} {pos p : Pos} {d : Addr} {kvs : List (List Nat × Int)} {x : Str}
theorem isSome_of {r : Option Value} {o : Option Int} (h : match o with | none => r = none | some i => ∃ t, r = some (.int i t)) : r.isSome = o.isSome := by
  cases o with
  | none => simp only at h; rw [h]; rfl
  | some i => obtain ⟨t, h⟩ := h; rw [h]; rfl
theorem re_gnotin (G : GD X.K X.w d kvs) (hg : Gl X x) (hm : X.mg x = some (.ref d)) (ha : RE X a ma) (hdb : (x == ("__debug__" : Str)) = false := by decide) : RE X (.Compare a [.NotIn] [.Name x p] pos) (m1 (fGIn kvs true) ma) := by
  obtain ⟨es, n, KD⟩ := G.kd
  refine pe_mono (pe_cmpR (op_notIn_kd KD) ha (pe_glob (v := .ref d) hg hm rfl hdb) rfl) fun σ H Q ⟨H0, B, ρ, c, r, e, k⟩ => ?_
  unfold m1 at e
  split at e
  · rename_i dd hd
    unfold fGIn at e
    split at e
    · rename_i z
      cases e
      refine ⟨H0, B, ρ, _, r, hd, fun v B1 H1 g1 q => ?_⟩
      obtain ⟨rr, h1, h2⟩ := G.at_ z
      refine ⟨_, rr, q.str_inv, rfl, h1, ?_⟩
      rw [isSome_of h2]
      exact k _ B1 H1 g1 (.bl _)
    · cases e
  · cases e
theorem rt_gnotin (G : GD X.K X.w d kvs) (hg : Gl X x) (hm : X.mg x = some (.ref d)) (ha : RE X a ma) (hdb : (x == ("__debug__" : Str)) = false := by decide) : RT X (.Compare a [.NotIn] [.Name x p] pos) (mT (m1 (fGIn kvs true) ma)) := by
  obtain ⟨es, n, KD⟩ := G.kd
  refine pt_mono (pt_cmpR (op_notIn_kd KD) ha (pe_glob (v := .ref d) hg hm rfl hdb) rfl) (tTest_c fun σ H Q ⟨H0, B, ρ, c, r, e, k⟩ => ?_)
  unfold m1 at e
  split at e
  · rename_i dd hd
    unfold fGIn at e
    split at e
    · rename_i z
      cases e
      refine ⟨H0, B, ρ, _, r, hd, fun v B1 H1 g1 q => ?_⟩
      obtain ⟨rr, h1, h2⟩ := G.at_ z
      refine ⟨_, rr, q.str_inv, rfl, h1, ?_⟩
      rw [isSome_of h2]
      exact k _ B1 H1 g1 (.bl _)
    · cases e
  · cases e
theorem ix_kd {es : Array DictEntry} {n : Nat} (D : KDict X.K X.w d es n) : IxR X (fun x y H Q => ∃ (z : Str) (u0 : Value) (v0 : V), x = .ref d ∧ y = .str z ∧ PySem.W.nsIn X.K d z = some (some u0) ∧ RelV v0 u0 ∧ Q v0 H) := by
  intro value slice pins s σ H x y v u Q I rx ry h hs
  have h2 := op_item_kd D pins s σ H x y v u Q I rx ry h
  obtain ⟨z, u0, v0, rfl, rfl, e, r, q⟩ := h
  cases rx
  exact tail_any (kd_type D I) PySem.F.slot_dict_getitem.lookup h2 hs
theorem re_gix (G : GD X.K X.w d kvs) (hg : Gl X x) (hm : X.mg x = some (.ref d)) (ha : RE X a ma) (hdb : (x == ("__debug__" : Str)) = false := by decide) (hs : PlainIx a := by intro _ _; rfl) : RE X (.Subscript (.Name x p) a pos) (m1 (fGIx kvs) ma) := by
  obtain ⟨es, n, KD⟩ := G.kd
  refine pe_mono (pe_ix (ix_kd KD) (pe_glob (v := .ref d) hg hm rfl hdb) ha hs) fun σ H Q ⟨H0, B, ρ, c, r, e, k⟩ => ?_
  unfold m1 at e
  split at e
  · rename_i dd hd
    unfold fGIx at e
    split at e
    · rename_i z
      split at e
      · rename_i i hi
        cases e
        refine ⟨H0, B, ρ, _, r, hd, fun v B1 H1 g1 q => ?_⟩
        obtain ⟨rr, h1, h2⟩ := G.at_ z
        rw [hi] at h2
        obtain ⟨t, h2⟩ := h2
        subst h2
        exact ⟨_, _, .int i, rfl, q.str_inv, h1, ⟨t, rfl⟩, k _ B1 H1 g1 (.int _)⟩
      · cases e
    · cases e
  · cases e
end
end R
namespace R
open PySem PySem.Spec PyProof.Rows L2
/-- the entries of a written dict -/
def EntOk (w : World) : List DictEntry → List (List Nat × Int) → Prop
  | [], [] => True
  | e :: r, (k, i) :: s => (∃ x t, e.key = .str x t ∧ e.hash = PyData.keyHash w.params x ∧ x = ⟨k.toArray⟩) ∧ (∃ t, e.val = .int i t) ∧ EntOk w r s
  | _, _ => False
theorem EntOk.lit {w : World} : ∀ {es : List DictEntry} {kvs : List (List Nat × Int)}, EntOk w es kvs → PySem.W.KeysLit w.params es
  | [], [], _ => trivial
  | _ :: _, (_, _) :: _, ⟨⟨x, t, h1, h2, _⟩, _, h⟩ => ⟨⟨x, t, h1, h2⟩, h.lit⟩
theorem EntOk.find {w : World} (z : List Nat) : ∀ {es : List DictEntry} {kvs : List (List Nat × Int)}, EntOk w es kvs → match kvs.lookup z with | none => es.find? (·.key.isStr ⟨z.toArray⟩) = none | some i => ∃ e t, es.find? (·.key.isStr ⟨z.toArray⟩) = some e ∧ e.val = .int i t
  | [], [], _ => rfl
  | e :: r, (k, i) :: s, ⟨⟨x, t, h1, h2, h3⟩, ⟨t', h4⟩, h⟩ => by
    have ih := h.find z
    have hk : e.key.isStr ⟨z.toArray⟩ = decide (k = z) := by
      rw [h1, h3]
      show ((⟨k.toArray⟩ : Str) == ⟨z.toArray⟩) = _
      rw [Bool.beq_eq_decide_eq]
      exact decide_eq_decide.mpr sinj
    rw [List.find?_cons, List.lookup_cons, hk]
    by_cases c : k = z
    · have : (z == k) = true := by rw [c]; exact beq_self_eq_true _
      rw [this, decide_eq_true c]
      exact ⟨e, t', rfl, h4⟩
    · have : (z == k) = false := beq_eq_false_iff_ne.mpr fun q => c q.symm
      rw [this, decide_eq_false c]
      exact ih
theorem gd_mk {K : PySem.W.Frag} {w : World} {d : Addr} {es : Array DictEntry} {n : Nat} {kvs : List (List Nat × Int)} (h : K.lookup d = some ⟨.type "dict", none, .dict es n, #[]⟩) (he : EntOk w es.toList kvs) (hl : (d == sysModules) = false) : GD K w d kvs where
  kd := ⟨es, n, h, he.lit, hl⟩
  at_ := fun z => by
    have f := he.find z
    have hr : es.toList.any (·.refKey) = false := by
      rw [List.any_eq_false]
      intro e hm
      obtain ⟨x, t, h1, _⟩ := he.lit.all e hm
      unfold DictEntry.refKey
      rw [h1]
      simp
    unfold PySem.W.nsIn
    rw [h]
    cases hk : kvs.lookup z with
    | none =>
      rw [hk] at f
      simp only at f
      simp only [f, hr]
      exact ⟨none, rfl, rfl⟩
    | some i =>
      rw [hk] at f
      obtain ⟨e, t, f1, f2⟩ := f
      simp only [f1]
      exact ⟨_, rfl, t, by rw [f2]⟩
end R
/-! R8: mirrors, their loops -/
namespace R
open PySem L2
theorem forGo_inv {mg : D → Slots → Option Slots} {b : MS} (P : List D → Slots → Prop) : ∀ (xs pre : List D) (ρ : Slots), P pre ρ → (∀ pre x post ρ, pre ++ x :: post = pre ++ x :: post → P pre ρ → x ∈ xs → ∃ ρ1 ρ2, mg x ρ = some ρ1 ∧ (b ρ1 = .nx ρ2 ∨ b ρ1 = .cnt ρ2) ∧ P (pre ++ [x]) ρ2) → ∃ ρ', forGo mg b xs ρ = .nx ρ' ∧ P (pre ++ xs) ρ'
  | [], pre, ρ, h, _ => ⟨ρ, rfl, by rw [List.append_nil]; exact h⟩
  | x :: xs, pre, ρ, h, hs => by
    obtain ⟨ρ1, ρ2, h1, h2, h3⟩ := hs pre x xs ρ rfl h List.mem_cons_self
    obtain ⟨ρ', h4, h5⟩ := forGo_inv P xs (pre ++ [x]) ρ2 h3 (fun pre y post ρ e hp hy => hs pre y post ρ e hp (List.mem_cons_of_mem _ hy))
    refine ⟨ρ', ?_, by simpa using h5⟩
    unfold forGo
    rw [h1]
    rcases h2 with h2 | h2 <;> simp only [h2, h4]
/-- a loop that goes through, with what holds between its turns -/
theorem for_thru {mg : D → Slots → Option Slots} {b : MS} {xs : List D} {ρ : Slots} (P : Slots → Prop) (h0 : P ρ) (hs : ∀ x ρ, x ∈ xs → P ρ → ∃ ρ1 ρ2, mg x ρ = some ρ1 ∧ b ρ1 = .nx ρ2 ∧ P ρ2) : ∃ ρ', forGo mg b xs ρ = .nx ρ' ∧ P ρ' := by
  obtain ⟨ρ', h1, h2⟩ := forGo_inv (fun _ => P) xs [] ρ h0 (fun pre x post ρ _ hp hx => by
    obtain ⟨ρ1, ρ2, q1, q2, q3⟩ := hs x ρ hx hp
    exact ⟨ρ1, ρ2, q1, .inl q2, q3⟩)
  exact ⟨ρ', h1, h2⟩
theorem for_acc {mg : D → Slots → Option Slots} {b : MS} {xs : List D} {ρ : Slots} (P : List D → Slots → Prop) (h0 : P [] ρ) (hs : ∀ pre x ρ, x ∈ xs → P pre ρ → ∃ ρ1 ρ2, mg x ρ = some ρ1 ∧ b ρ1 = .nx ρ2 ∧ P (pre ++ [x]) ρ2) : ∃ ρ', forGo mg b xs ρ = .nx ρ' ∧ P xs ρ' := by
  obtain ⟨ρ', h1, h2⟩ := forGo_inv P xs [] ρ h0 (fun pre x post ρ _ hp hx => by
    obtain ⟨ρ1, ρ2, q1, q2, q3⟩ := hs pre x ρ hx hp
    exact ⟨ρ1, ρ2, q1, .inl q2, q3⟩)
  exact ⟨ρ', h1, by simpa using h2⟩
/-- by the number of the turn -/
theorem for_ix {mg : D → Slots → Option Slots} {b : MS} {ρ : Slots} (P : Nat → Slots → Prop) : ∀ (xs : List D) (k : Nat) (ρ : Slots), P k ρ → (∀ i x ρ, xs[i]? = some x → P (k + i) ρ → ∃ ρ1 ρ2, mg x ρ = some ρ1 ∧ b ρ1 = .nx ρ2 ∧ P (k + i + 1) ρ2) → ∃ ρ', forGo mg b xs ρ = .nx ρ' ∧ P (k + xs.length) ρ'
  | [], k, ρ, h, _ => ⟨ρ, rfl, h⟩
  | x :: xs, k, ρ, h, hs => by
    obtain ⟨ρ1, ρ2, h1, h2, h3⟩ := hs 0 x ρ rfl h
    obtain ⟨ρ', h4, h5⟩ := for_ix (ρ := ρ) P xs (k + 1) ρ2 h3 (fun i y ρ e hp => by
      have := hs (i + 1) y ρ (by simpa using e) (by rw [show k + (i + 1) = k + 1 + i by omega]; exact hp)
      rw [show k + 1 + i + 1 = k + (i + 1) + 1 by omega]
      exact this)
    refine ⟨ρ', ?_, by rw [List.length_cons, show k + (xs.length + 1) = k + 1 + xs.length by omega]; exact h5⟩
    unfold forGo
    simp only [h1, h2, h4]
/-- a loop that is left by a return at some item -/
theorem for_ret {mg : D → Slots → Option Slots} {b : MS} {s : Sl} (P : Slots → Prop) : ∀ (pre : List D) (x : D) (post : List D) (ρ : Slots), P ρ → (∀ y ρ, y ∈ pre → P ρ → ∃ ρ1 ρ2, mg y ρ = some ρ1 ∧ b ρ1 = .nx ρ2 ∧ P ρ2) → (∀ ρ, P ρ → ∃ ρ1, mg x ρ = some ρ1 ∧ b ρ1 = .ret s) → forGo mg b (pre ++ x :: post) ρ = .ret s
  | [], x, post, ρ, h, _, hx => by
    obtain ⟨ρ1, h1, h2⟩ := hx ρ h
    show forGo mg b (x :: post) ρ = _
    unfold forGo
    simp only [h1, h2]
  | y :: pre, x, post, ρ, h, hy, hx => by
    obtain ⟨ρ1, ρ2, h1, h2, h3⟩ := hy y ρ List.mem_cons_self h
    show forGo mg b (y :: (pre ++ x :: post)) ρ = _
    unfold forGo
    simp only [h1, h2]
    exact for_ret P pre x post ρ2 h3 (fun z ρ hz => hy z ρ (List.mem_cons_of_mem _ hz)) hx
/-- the first item that fails a test -/
theorem first_bad {α : Type} (p : α → Bool) : ∀ xs : List α, xs.all p = false → ∃ pre x post, xs = pre ++ x :: post ∧ (∀ y ∈ pre, p y = true) ∧ p x = false
  | [], h => by cases h
  | x :: xs, h => by
    cases hx : p x with
    | false => exact ⟨[], x, xs, rfl, fun _ h => (by cases h), hx⟩
    | true =>
      rw [List.all_cons, hx, Bool.true_and] at h
      obtain ⟨pre, y, post, h1, h2, h3⟩ := first_bad p xs h
      exact ⟨x :: pre, y, post, by rw [h1]; rfl, fun z hz => by
        rcases List.mem_cons.mp hz with e | hz
        · rw [e]; exact hx
        · exact h2 z hz, h3⟩
/-- comprehensions -/
theorem lc_map {j : Nat} {me : ME} {ρ : Slots} (f : D → D) : ∀ xs : List D, (∀ x ∈ xs, me (ρ.set j (some (.d x))) = some (f x)) → lcGo j mYes me ρ xs = some (xs.map f)
  | [], _ => rfl
  | x :: xs, h => by
    unfold lcGo
    have h1 := h x List.mem_cons_self
    have h2 := lc_map f xs fun y hy => h y (List.mem_cons_of_mem _ hy)
    simp only [mYes, h1, h2, List.map_cons]
theorem lc_filter {j : Nat} {mt : Slots → Option Bool} {me : ME} {ρ : Slots} (p : D → Bool) (f : D → D) : ∀ xs : List D, (∀ x ∈ xs, mt (ρ.set j (some (.d x))) = some (p x)) → (∀ x ∈ xs, p x = true → me (ρ.set j (some (.d x))) = some (f x)) → lcGo j mt me ρ xs = some ((xs.filter p).map f)
  | [], _, _ => rfl
  | x :: xs, h, h' => by
    unfold lcGo
    have h1 := h x List.mem_cons_self
    have h2 := lc_filter p f xs (fun y hy => h y (List.mem_cons_of_mem _ hy)) (fun y hy => h' y (List.mem_cons_of_mem _ hy))
    rw [h1]
    cases hp : p x with
    | true =>
      have h3 := h' x List.mem_cons_self hp
      simp only [h3, h2, List.filter_cons, hp, if_true, List.map_cons]
    | false => simp only [h2, List.filter_cons, hp, if_false, Bool.false_eq_true]
theorem seq_nx {a b : MS} {ρ ρ' : Slots} (h : a ρ = .nx ρ') : mSeq a b ρ = b ρ' := by unfold mSeq; rw [h]
theorem seq_ret {a b : MS} {ρ : Slots} {s : Sl} (h : a ρ = .ret s) : mSeq a b ρ = .ret s := by unfold mSeq; rw [h]
theorem set_eq {i : Nat} {m : ME} {ρ : Slots} {d : D} (h : m ρ = some d) : mSet i m ρ = .nx (ρ.set i (some (.d d))) := by unfold mSet; rw [h]
theorem setF_eq {i : Nat} {m : Slots → Option (List D)} {ρ : Slots} {d : List D} (h : m ρ = some d) : mSetF i m ρ = .nx (ρ.set i (some (.own (.lst d)))) := by unfold mSetF; rw [h]
theorem ret_eq {m : ME} {ρ : Slots} {d : D} (h : m ρ = some d) : mRet m ρ = .ret (.d d) := by unfold mRet; rw [h]
theorem if_tt {c : Slots → Option Bool} {a b : MS} {ρ : Slots} (h : c ρ = some true) : mIf c a b ρ = a ρ := by unfold mIf; rw [h]
theorem if_ff {c : Slots → Option Bool} {a b : MS} {ρ : Slots} (h : c ρ = some false) : mIf c a b ρ = b ρ := by unfold mIf; rw [h]
theorem for_eq {mi : Slots → Option (List D)} {mg : D → Slots → Option Slots} {b : MS} {ρ : Slots} {xs : List D} (h : mi ρ = some xs) : mFor mi mg b ρ = forGo mg b xs ρ := by unfold mFor; rw [h]
theorem call_eq {g : List D → Option Sl} {ma : Slots → Option (List D)} {ρ : Slots} {ds : List D} {s : Sl} (h : ma ρ = some ds) (hg : g ds = some s) : mCall g ma ρ = some (slD s) := by unfold mCall; rw [h]; simp only [hg]
theorem cons_eq {a : ME} {r : Slots → Option (List D)} {ρ : Slots} {d : D} {ds : List D} (h : a ρ = some d) (hr : r ρ = some ds) : mCons a r ρ = some (d :: ds) := by unfold mCons; rw [h, hr]
theorem m2_eq {f : D → D → Option D} {a b : ME} {ρ : Slots} {x y z : D} (h : a ρ = some x) (h' : b ρ = some y) (hf : f x y = some z) : m2 f a b ρ = some z := by unfold m2; rw [h, h']; exact hf
theorem gOf_eq {n a : Nat} {m : MS} {ds : List D} {s : Sl} (h : ds.length = a) (hm : m (R.envOf n ds) = .ret s) : gOf n a m ds = some s := by unfold gOf; rw [if_pos h, hm]; rfl
theorem sl_ok (n : Nat) (h : n ≤ 100000) : n ≤ sizeLine := Nat.le_trans h (by decide)
end R
/-! R9: how a mirror is worked out, from the front -/
namespace R
open PySem L2
def bindO (o : Out) (b : MS) : Out := match o with | .nx ρ => b ρ | o => o
def ifO (c : Option Bool) (a b : MS) (ρ : Slots) : Out := match c with | some true => a ρ | some false => b ρ | none => .stuck
def setO (i : Nat) (d : Option D) (ρ : Slots) : Out := match d with | some d => .nx (ρ.set i (some (.d d))) | none => .stuck
def setFO (i : Nat) (d : Option (List D)) (ρ : Slots) : Out := match d with | some d => .nx (ρ.set i (some (.own (.lst d)))) | none => .stuck
def retO (d : Option D) : Out := match d with | some d => .ret (.d d) | none => .stuck
def retFO (d : Option (List D)) : Out := match d with | some d => .ret (.own (.lst d)) | none => .stuck
def retS (d : Option (Option Sl)) : Out := match d with | some (some s) => .ret s | _ => .stuck
def appO (i : Nat) (s : Option (Option Sl)) (d : Option D) (ρ : Slots) : Out := match s with
  | some (some (.own (.lst xs))) => (match d with | some d => if xs.length < sizeLine then .nx (ρ.set i (some (.own (.lst (xs ++ [d]))))) else .stuck | none => .stuck)
  | _ => .stuck
def forO (xs : Option (List D)) (mg : D → Slots → Option Slots) (b : MS) (ρ : Slots) : Out := match xs with | some xs => forGo mg b xs ρ | none => .stuck
def parO (i j : Nat) (ds : Option (List D)) (ρ : Slots) : Out := match ds with | some [a, b] => .nx ((ρ.set i (some (.d a))).set j (some (.d b))) | _ => .stuck
def varO (s : Option (Option Sl)) : Option D := match s with | some (some (.d d)) => some d | _ => none
def borO (s : Option (Option Sl)) : Option D := match s with | some (some (.d d)) => some d | some (some (.own (.lst xs))) => some (.lst xs) | _ => none
def o2 (f : D → D → Option D) (a b : Option D) : Option D := match a with | some a => (match b with | some b => f a b | none => none) | none => none
def o1 (f : D → Option D) (a : Option D) : Option D := match a with | some a => f a | none => none
def oL (f : List D → Option D) (a : Option (List D)) : Option D := match a with | some a => f a | none => none
def oLF (f : List D → Option (List D)) (a : Option (List D)) : Option (List D) := match a with | some a => f a | none => none
def oCons (a : Option D) (r : Option (List D)) : Option (List D) := match a with | some d => (match r with | some ds => some (d :: ds) | none => none) | none => none
def oT (a : Option D) : Option Bool := match a with | some (.bl b) => some b | _ => none
def oAnd (s : Option Bool) (t : Slots → Option Bool) (ρ : Slots) : Option Bool := match s with | some true => t ρ | some false => some false | none => none
def oOr (s : Option Bool) (t : Slots → Option Bool) (ρ : Slots) : Option Bool := match s with | some true => some true | some false => t ρ | none => none
def oNot (s : Option Bool) : Option Bool := match s with | some b => some (!b) | none => none
def oAndV (s : Option D) (t : ME) (ρ : Slots) : Option D := match s with | some (.bl true) => t ρ | some (.bl false) => some (.bl false) | _ => none
def oOrV (s : Option D) (t : ME) (ρ : Slots) : Option D := match s with | some (.bl true) => some (.bl true) | some (.bl false) => t ρ | _ => none
def oNotV (s : Option D) : Option D := match s with | some (.bl b) => some (.bl (!b)) | _ => none
def oNeg (s : Option D) : Option D := match s with | some (.int i) => some (.int (-i)) | _ => none
def oIf (c : Option Bool) (a b : ME) (ρ : Slots) : Option D := match c with | some true => a ρ | some false => b ρ | none => none
def oChain (s : Option D) (f : D → D → Option D) (b c : ME) (ρ : Slots) : Option D := match s with | some (.bl true) => o2 f (b ρ) (c ρ) | some (.bl false) => some (.bl false) | _ => none
def oTup (a : Option (List D)) : Option D := match a with | some ds => if ds.length ≤ sizeLine then some (.tup ds) else none | none => none
def oLst (a : Option (List D)) : Option (List D) := match a with | some ds => if ds.length ≤ sizeLine then some ds else none | none => none
def oF (a : Option (List D)) : Option D := match a with | some xs => some (.lst xs) | none => none
def oPart (a : Option D) : Option (Option Int) := match a with | some (.int i) => some (some i) | _ => none
def oSl (a : Option D) (l h : Option (Option Int)) : Option D := match a with | some d => (match l with | some lo => (match h with | some hi => fSl d lo hi | none => none) | none => none) | none => none
def oCall (g : List D → Option Sl) (a : Option (List D)) : Option D := match a with | some ds => (match g ds with | some s => some (slD s) | none => none) | none => none
def oCallF (g : List D → Option Sl) (a : Option (List D)) : Option (List D) := match a with | some ds => (match g ds with | some (.own (.lst xs)) => some xs | _ => none) | none => none
def oMt (f : List Nat → List D → Option D) (o : Option D) (a : Option (List D)) : Option D := match o with | some (.str x) => (match a with | some ds => f x ds | none => none) | _ => none
def oItems (a : Option D) : Option (List D) := match a with | some d => itemsOf d | none => none
def oRng1 (a : Option (List D)) : Option (List D) := match a with | some [.int j] => if -4000000000000000000 ≤ j ∧ j < 4000000000000000000 then some (rngD 0 j.toNat) else none | _ => none
def oRng2 (a : Option (List D)) : Option (List D) := match a with | some [.int i, .int j] => if -4000000000000000000 ≤ i ∧ i < 4000000000000000000 ∧ -4000000000000000000 ≤ j ∧ j < 4000000000000000000 then some (rngD i (j - i).toNat) else none | _ => none
def oLc (xs : Option (List D)) (j : Nat) (mt : Slots → Option Bool) (me : ME) (ρ : Slots) : Option (List D) := match xs with | some xs => if xs.length ≤ sizeLine then lcGo j mt me (ρ.set j none) xs else none | none => none
def oGOf (n a : Nat) (m : MS) (ds : List D) : Option Sl := R.fin (m (R.envOf n ds))
section
variable {a b : MS} {ρ : Slots} {i j : Nat} {m ma mb mc : ME} {mf : Slots → Option (List D)} {s t : Slots → Option Bool} {f f' : D → D → Option D} {g : D → Slots → Option Slots}
theorem r_seq : mSeq a b ρ = bindO (a ρ) b := by unfold mSeq bindO; cases a ρ <;> rfl
theorem r_if : mIf s a b ρ = ifO (s ρ) a b ρ := id rfl
theorem r_set : mSet i m ρ = setO i (m ρ) ρ := id rfl
theorem r_setF : mSetF i mf ρ = setFO i (mf ρ) ρ := id rfl
theorem r_ret : mRet m ρ = retO (m ρ) := id rfl
theorem r_retF : mRetF mf ρ = retFO (mf ρ) := id rfl
theorem r_retO : mRetO i ρ = retS ρ[i]? := id rfl
theorem r_app : mApp i m ρ = appO i ρ[i]? (m ρ) ρ := id rfl
theorem r_for : mFor mf g b ρ = forO (mf ρ) g b ρ := id rfl
theorem r_par : mPar i j mf ρ = parO i j (mf ρ) ρ := id rfl
theorem r_next : mNext ρ = .nx ρ := id rfl
theorem r_fz : mFz i a ρ = a (frz i ρ) := id rfl
theorem r_var : mVar i ρ = varO ρ[i]? := id rfl
theorem r_bor : mBor i ρ = borO ρ[i]? := id rfl
theorem r_c {d : D} : mC d ρ = some d := id rfl
theorem r_2 : m2 f ma mb ρ = o2 f (ma ρ) (mb ρ) := id rfl
theorem r_1 {f : D → Option D} : m1 f ma ρ = o1 f (ma ρ) := id rfl
theorem r_cb {f : List D → Option D} : mCB f mf ρ = oL f (mf ρ) := id rfl
theorem r_cf {f : List D → Option (List D)} : mCF f mf ρ = oLF f (mf ρ) := id rfl
theorem r_nil : mNil ρ = some [] := id rfl
theorem r_cons : mCons m mf ρ = oCons (m ρ) (mf ρ) := id rfl
theorem r_t : mT m ρ = oT (m ρ) := id rfl
theorem r_and : mAnd s t ρ = oAnd (s ρ) t ρ := id rfl
theorem r_or : mOr s t ρ = oOr (s ρ) t ρ := id rfl
theorem r_not : mNot s ρ = oNot (s ρ) := id rfl
theorem r_andV : mAndV ma mb ρ = oAndV (ma ρ) mb ρ := id rfl
theorem r_orV : mOrV ma mb ρ = oOrV (ma ρ) mb ρ := id rfl
theorem r_notV : mNotV ma ρ = oNotV (ma ρ) := id rfl
theorem r_neg : mNeg ma ρ = oNeg (ma ρ) := id rfl
theorem r_ife : mIfE s ma mb ρ = oIf (s ρ) ma mb ρ := id rfl
theorem r_chain : mChain f f' ma mb mc ρ = oChain (o2 f (ma ρ) (mb ρ)) f' mb mc ρ := id rfl
theorem r_tup : mTup mf ρ = oTup (mf ρ) := id rfl
theorem r_lst : mLst mf ρ = oLst (mf ρ) := id rfl
theorem r_f : mF mf ρ = oF (mf ρ) := id rfl
theorem r_no : mNo ρ = some none := id rfl
theorem r_part : mPart m ρ = oPart (m ρ) := id rfl
theorem r_sl {l h : Slots → Option (Option Int)} : mSl m l h ρ = oSl (m ρ) (l ρ) (h ρ) := id rfl
theorem r_call {g : List D → Option Sl} : mCall g mf ρ = oCall g (mf ρ) := id rfl
theorem r_callF {g : List D → Option Sl} : mCallF g mf ρ = oCallF g (mf ρ) := id rfl
theorem r_mt {f : List Nat → List D → Option D} : mMt f m mf ρ = oMt f (m ρ) (mf ρ) := id rfl
theorem r_items : mItems m ρ = oItems (m ρ) := id rfl
theorem r_rng1 : mRng1 mf ρ = oRng1 (mf ρ) := id rfl
theorem r_rng2 : mRng2 mf ρ = oRng2 (mf ρ) := id rfl
theorem r_lc : mLc mf j s m ρ = oLc (mf ρ) j s m ρ := id rfl
theorem r_yes : mYes ρ = some true := id rfl
theorem r_g {n k : Nat} {ds : List D} (h : ds.length = k) : gOf n k a ds = R.fin (a (R.envOf n ds)) := by unfold gOf; rw [if_pos h]
theorem r_g1 {n : Nat} {x : D} : gOf n 1 a [x] = R.fin (a (R.envOf n [x])) := id rfl
theorem r_g2 {n : Nat} {x y : D} : gOf n 2 a [x, y] = R.fin (a (R.envOf n [x, y])) := id rfl
theorem r_g3 {n : Nat} {x y z : D} : gOf n 3 a [x, y, z] = R.fin (a (R.envOf n [x, y, z])) := id rfl
theorem r_g4 {n : Nat} {x y z u : D} : gOf n 4 a [x, y, z, u] = R.fin (a (R.envOf n [x, y, z, u])) := id rfl
theorem r_gN {d : D} : gN i d ρ = some (ρ.set i (some (.d d))) := id rfl
end
section
variable {a b : MS} {ρ ρ' : Slots} {i j : Nat} {d e : D} {s : Sl} {c : Bool} {ds : List D} {f : D → D → Option D} {g : D → Slots → Option Slots} {tt : Slots → Option Bool} {m m' : ME}
theorem b_nx : bindO (.nx ρ) b = b ρ := id rfl
theorem b_ret : bindO (.ret s) b = .ret s := id rfl
theorem b_brk : bindO (.brk ρ) b = .brk ρ := id rfl
theorem b_cnt : bindO (.cnt ρ) b = .cnt ρ := id rfl
theorem i_t : ifO (some true) a b ρ = a ρ := id rfl
theorem i_f : ifO (some false) a b ρ = b ρ := id rfl
theorem v_set : setO i (some d) ρ = .nx (ρ.set i (some (.d d))) := id rfl
theorem v_setF : setFO i (some ds) ρ = .nx (ρ.set i (some (.own (.lst ds)))) := id rfl
theorem v_ret : retO (some d) = .ret (.d d) := id rfl
theorem v_retF : retFO (some ds) = .ret (.own (.lst ds)) := id rfl
theorem v_retS : retS (some (some s)) = .ret s := id rfl
theorem v_app {xs : List D} : appO i (some (some (.own (.lst xs)))) (some d) ρ = if xs.length < sizeLine then .nx (ρ.set i (some (.own (.lst (xs ++ [d]))))) else .stuck := id rfl
theorem v_for : forO (some ds) g b ρ = forGo g b ds ρ := id rfl
theorem v_par : parO i j (some [d, e]) ρ = .nx ((ρ.set i (some (.d d))).set j (some (.d e))) := id rfl
theorem v_var : varO (some (some (.d d))) = some d := id rfl
theorem v_bor : borO (some (some (.d d))) = some d := id rfl
theorem v_borO {xs : List D} : borO (some (some (.own (.lst xs)))) = some (.lst xs) := id rfl
theorem v_2 : o2 f (some d) (some e) = f d e := id rfl
theorem v_1 {f : D → Option D} : o1 f (some d) = f d := id rfl
theorem v_L {f : List D → Option D} : oL f (some ds) = f ds := id rfl
theorem v_LF {f : List D → Option (List D)} : oLF f (some ds) = f ds := id rfl
theorem v_cons : oCons (some d) (some ds) = some (d :: ds) := id rfl
theorem v_t : oT (some (.bl c)) = some c := id rfl
theorem v_andT : oAnd (some true) tt ρ = tt ρ := id rfl
theorem v_andF : oAnd (some false) tt ρ = some false := id rfl
theorem v_orT : oOr (some true) tt ρ = some true := id rfl
theorem v_orF : oOr (some false) tt ρ = tt ρ := id rfl
theorem v_not : oNot (some c) = some (!c) := id rfl
theorem v_andVT : oAndV (some (.bl true)) m ρ = m ρ := id rfl
theorem v_andVF : oAndV (some (.bl false)) m ρ = some (.bl false) := id rfl
theorem v_orVT : oOrV (some (.bl true)) m ρ = some (.bl true) := id rfl
theorem v_orVF : oOrV (some (.bl false)) m ρ = m ρ := id rfl
theorem v_notV : oNotV (some (.bl c)) = some (.bl (!c)) := id rfl
theorem v_neg {k : Int} : oNeg (some (.int k)) = some (.int (-k)) := id rfl
theorem v_ifT : oIf (some true) m m' ρ = m ρ := id rfl
theorem v_ifF : oIf (some false) m m' ρ = m' ρ := id rfl
theorem v_chT : oChain (some (.bl true)) f m m' ρ = o2 f (m ρ) (m' ρ) := id rfl
theorem v_chF : oChain (some (.bl false)) f m m' ρ = some (.bl false) := id rfl
theorem v_tup : oTup (some ds) = if ds.length ≤ sizeLine then some (.tup ds) else none := id rfl
theorem v_lst : oLst (some ds) = if ds.length ≤ sizeLine then some ds else none := id rfl
theorem v_f : oF (some ds) = some (.lst ds) := id rfl
theorem v_part {k : Int} : oPart (some (.int k)) = some (some k) := id rfl
theorem v_sl {l h : Option Int} : oSl (some d) (some l) (some h) = fSl d l h := id rfl
theorem v_call {g : List D → Option Sl} (h : g ds = some s) : oCall g (some ds) = some (slD s) := by unfold oCall; simp only [h]
theorem v_callF {g : List D → Option Sl} {xs : List D} (h : g ds = some (.own (.lst xs))) : oCallF g (some ds) = some xs := by unfold oCallF; simp only [h]
theorem v_mt {f : List Nat → List D → Option D} {x : List Nat} : oMt f (some (.str x)) (some ds) = f x ds := id rfl
theorem v_items : oItems (some d) = itemsOf d := id rfl
theorem v_rng1 {k : Int} : oRng1 (some [.int k]) = if -4000000000000000000 ≤ k ∧ k < 4000000000000000000 then some (rngD 0 k.toNat) else none := id rfl
theorem v_lc : oLc (some ds) j tt m ρ = if ds.length ≤ sizeLine then lcGo j tt m (ρ.set j none) ds else none := id rfl
theorem it_str {cs : List Nat} : itemsOf (.str cs) = some (cs.map fun c => .str [c]) := id rfl
theorem it_lst : itemsOf (.lst ds) = some ds := id rfl
theorem it_lsk : itemsOf (.lsk ds) = some ds := id rfl
theorem it_tup : itemsOf (.tup ds) = some ds := id rfl
theorem f_ret : R.fin (.ret s) = some s := id rfl
theorem f_nx : R.fin (.nx ρ) = some (.d .non) := id rfl
theorem sd_d : slD (.d d) = d := id rfl
theorem sd_o {xs : List D} : slD (.own (.lst xs)) = .lst xs := id rfl
theorem sl_simp {n : Nat} (h : n ≤ 100000) : (n ≤ sizeLine) = True := eq_true (sl_ok n h)
theorem sl_lt {n : Nat} (h : n < 100000) : (n < sizeLine) = True := eq_true (Nat.lt_of_lt_of_le h (by decide))
theorem at0 {α : Type} (a : α) (r : List α) : atI (a :: r) 0 = some a := atI_nat (j := 0) rfl
theorem at1 {α : Type} (a b : α) (r : List α) : atI (a :: b :: r) 1 = some b := atI_nat (j := 1) rfl
theorem at2 {α : Type} (a b c : α) (r : List α) : atI (a :: b :: c :: r) 2 = some c := atI_nat (j := 2) rfl
theorem at3 {α : Type} (a b c d : α) (r : List α) : atI (a :: b :: c :: d :: r) 3 = some d := atI_nat (j := 3) rfl
theorem at4 {α : Type} (a b c d e : α) (r : List α) : atI (a :: b :: c :: d :: e :: r) 4 = some e := atI_nat (j := 4) rfl
theorem atl3 {α : Type} (a b c : α) : atI [a, b, c] (-1) = some c := id rfl
theorem atl4 {α : Type} (a b c d : α) : atI [a, b, c, d] (-1) = some d := id rfl
theorem S_inj {a b : String} : S a = S b ↔ a = b := by
  constructor
  · intro h
    unfold S at h
    have inj : ∀ (x y : List Char), x.map Char.toNat = y.map Char.toNat → x = y := by
      intro x
      induction x with
      | nil => intro y h; cases y with
        | nil => rfl
        | cons _ _ => cases h
      | cons c r ih => intro y h; cases y with
        | nil => cases h
        | cons d s =>
          rw [List.map_cons, List.map_cons] at h
          injection h with h1 h2
          have : c = d := Char.ext (UInt32.toNat_inj.mp h1)
          rw [this, ih s h2]
    have := inj _ _ h
    exact String.toList_inj.mp this
  · rintro rfl; rfl
theorem fEq_str (a b : List Nat) : fEq (.str a) (.str b) = some (.bl (decide (a = b))) := id rfl
theorem fNe_str (a b : List Nat) : fNe (.str a) (.str b) = some (.bl (!decide (a = b))) := id rfl
theorem fEq_int (a b : Int) : fEq (.int a) (.int b) = some (.bl (decide (a = b))) := id rfl
theorem fNe_int (a b : Int) : fNe (.int a) (.int b) = some (.bl (!decide (a = b))) := id rfl
theorem fEq_bl (a b : Bool) : fEq (.bl a) (.bl b) = some (.bl (decide (a = b))) := id rfl
theorem fNe_non_str (b : List Nat) : fNe .non (.str b) = some (.bl true) := id rfl
theorem dS (a b : String) : decide (S a = S b) = decide (a = b) := decide_eq_decide.mpr S_inj
theorem fCmp_int {p : Int → Int → Bool} (a b : Int) : fCmp p (.int a) (.int b) = some (.bl (p a b)) := id rfl
theorem fAdd_int (a b : Int) : fAdd (.int a) (.int b) = some (.int (a + b)) := id rfl
theorem fSub_int (a b : Int) : fSub (.int a) (.int b) = some (.int (a - b)) := id rfl
theorem fAdd_str {a b : List Nat} (h : a.length + b.length ≤ 100000) : fAdd (.str a) (.str b) = some (.str (a ++ b)) := if_pos (sl_ok _ h)
theorem fAdd_tup {a b : List D} (h : a.length + b.length ≤ 100000) : fAdd (.tup a) (.tup b) = some (.tup (a ++ b)) := if_pos (sl_ok _ h)
theorem fAdd_lst {a b : List D} (h : a.length + b.length ≤ 100000) : fAdd (.lst a) (.lst b) = some (.lst (a ++ b)) := if_pos (sl_ok _ h)
theorem fInt_int (a : Int) : fInt [.int a] = some (.int a) := id rfl
theorem fLen_str {a : List Nat} (h : a.length ≤ 100000) : fLen [.str a] = some (.int a.length) := if_pos (sl_ok _ h)
theorem fLen_lst {a : List D} : fLen [.lst a] = some (.int a.length) := id rfl
theorem fLen_lsk {a : List D} : fLen [.lsk a] = some (.int a.length) := id rfl
theorem fLen_tup {a : List D} : fLen [.tup a] = some (.int a.length) := id rfl
theorem fIx_tup {xs : List D} {k : Int} : fIx (.tup xs) (.int k) = atI xs k := id rfl
theorem fIx_lst {xs : List D} {k : Int} : fIx (.lst xs) (.int k) = atI xs k := id rfl
theorem fIx_lsk {xs : List D} {k : Int} : fIx (.lsk xs) (.int k) = atI xs k := id rfl
theorem fIx_str {xs : List Nat} {k : Int} {c : Nat} (h : xs.length ≤ 100000) (hc : atI xs k = some c) : fIx (.str xs) (.int k) = some (.str [c]) := by
  show (if xs.length ≤ sizeLine then (match atI xs k with | some c => some (D.str [c]) | none => none) else none) = _
  rw [if_pos (sl_ok _ h), hc]
end
end R
namespace K09
open PySem PySem.Spec PyProof.Rows L2 R
def topS (i : Nat) : Stmt := PySem.Challenge.pw_firsthand_k09_faults_and_pieces.main.body.getD i (.Pass ⟨0, 0, 0, 0⟩)
def kv_ITEM_COUNTS : List (List Nat × Int) := [(S "mistake", 4), (S "omit", 3), (S "double", 3), (S "merge", 3), (S "turn", 4), (S "gloss", 4), (S "leap", 3)]
section
variable {P : Program} {w : World} {K : PySem.W.Frag} {mg : Str → Option Value} {base : Heap}
/-! ### is_text -/
abbrev s_is_text : Stmt := topS 1
abbrev N_is_text : List Str := ["alphabet", "value", "char"]
theorem sc_is_text : FnScope N_is_text ["alphabet", "value"] (defScope s_is_text) := ⟨rfl, rfl, rfl, by decide +kernel, rfl, by decide +kernel, by decide +kernel⟩
def m_is_text : MS :=
  (mSeq (mFor (mItems (mVar 1)) (gN 2)
    (mIf (mT (m2 fNotIn (mBor 2) (mBor 0)))
      (mRet (mC (.bl false)))
      mNext))
  (mRet (mC (.bl true))))
def g_is_text : List D → Option Sl := gOf 3 2 m_is_text
theorem okf_is_text {f : Addr} {fd : FuncData} (F : Fun K "is_text" "is_text" s_is_text f fd) : FnOk P w K mg base CX0 1 f fd ["alphabet", "value"] (spR K g_is_text) := by
  refine fn_ok F sc_is_text (fun cdv A outer s H E hr => ?_)
  have nd := sc_is_text.nd
  unfold m_is_text
  exact
  (rss_cons (rs_for PassesOwn.never rfl (ri_data (re_v 1)) (rg_name (i := 2) nd)
    (rss_one (rs_if (rt_cmp (op_notinU (hu_of hr)) (ok_notin _) (rb_v 2) (rb_v 0))
      (rss_one (rs_ret re_bl))
      rss_nil)))
  (rss_one (rs_ret re_bl)))
theorem ok_is_text {f : Addr} {fd : FuncData} (F : Fun K "is_text" "is_text" s_is_text f fd) (hm : mg "is_text" = some (.ref f)) (hb : Binds K fd ["alphabet", "value"] []) : Cl P w K mg base "is_text" 1 ["alphabet", "value"] g_is_text :=
  ⟨f, fd, okf_is_text F, hm, F.kp, hb⟩
/-! ### frozen -/
abbrev s_frozen : Stmt := topS 2
abbrev N_frozen : List Str := ["value", "item"]
theorem sc_frozen : FnScope N_frozen ["value"] (defScope s_frozen) := ⟨rfl, rfl, rfl, by decide +kernel, rfl, by decide +kernel, by decide +kernel⟩
def g_frozen : Nat → List D → Option Sl
  | 0 => fun _ => none
  | n + 1 => gOf 2 1 (
    (mSeq (mIf (mT (mCB fIsi (mCons (mBor 0) (mCons (mTup (mCons (mC (.ty "list")) (mCons (mC (.ty "tuple")) mNil))) mNil))))
    (mRet (mCB fTuple (mCons (mF (mLc (mItems (mVar 0)) 1 mYes (mCall (g_frozen n) (mCons (mVar 1) mNil)))) mNil)))
    mNext)
  (mRet (mVar 0))))
theorem ok_frozen {f : Addr} {fd : FuncData} (F : Fun K "frozen" "frozen" s_frozen f fd) (hm : mg "frozen" = some (.ref f)) (hb : Binds K fd ["value"] []) (z_isinstance : mg "isinstance" = none) (z_list : mg "list" = none) (z_tuple : mg "tuple" = none) : ∀ n : Nat, Cl P w K mg base "frozen" (1 + n) ["value"] (g_frozen n)
  | 0 => ⟨f, fd, ⟨fun vs H Q E h => (by obtain ⟨_, _, _, _, _, e, _⟩ := h; cases e), fun _ _ _ _ _ _ _ _ _ _ _ _ _ h => (by obtain ⟨_, _, _, _, _, e, _⟩ := h; cases e)⟩, hm, F.kp, hb⟩
  | n + 1 => by
    have C_frozen := ok_frozen F hm hb z_isinstance z_list z_tuple n
    refine ⟨f, fd, fn_ok F sc_frozen (fun cdv A outer s H E hr => ?_), hm, F.kp, hb⟩
    have nd := sc_frozen.nd
    exact
    (rss_cons (rs_if (rt_val (re_cb op_isiU (ok_isi _) (by rfl) z_isinstance (by decide +kernel) (rab_cons (rb_v 0) (rab_cons (re_b (re_tup (ra_cons (re_ty (n := "list") (by rfl) z_list (by decide +kernel)) (ra_cons (re_ty (n := "tuple") (by rfl) z_tuple (by decide +kernel)) ra_nil)))) rab_nil))))
    (rss_one (rs_ret (re_ct call_tuple_of (ok_tuple _) (by rfl) z_tuple (by decide +kernel) (rab_cons (re_b (re_f (rf_lc [("item", 1)] rfl rfl nd (ri_data (re_v 0)) (blkOk_by (N := N_frozen) (sc := defScope s_frozen) (by decide +kernel)) (fun _ _ _ _ _ => pg_name (i := 1) nd rfl (Or.inl rfl)) (fun _ _ _ _ _ => rts_nil) (fun _ _ _ _ _ => (re_cl C_frozen hr (by rfl) (ra_cons (re_v 1) ra_nil)))))) rab_nil))))
    rss_nil)
  (rss_one (rs_ret (re_v 0))))
/-! ### is_letter -/
abbrev s_is_letter : Stmt := topS 5
abbrev N_is_letter : List Str := ["alphabet", "value"]
theorem sc_is_letter : FnScope N_is_letter ["alphabet", "value"] (defScope s_is_letter) := ⟨rfl, rfl, rfl, by decide +kernel, rfl, by decide +kernel, by decide +kernel⟩
def m_is_letter : MS :=
  (mRet (mAndV (m2 fEq (mCB fLen (mCons (mBor 1) mNil)) (mC (.int 1))) (m2 fIn (mBor 1) (mBor 0))))
def g_is_letter : List D → Option Sl := gOf 2 2 m_is_letter
theorem okf_is_letter {f : Addr} {fd : FuncData} (F : Fun K "is_letter" "is_letter" s_is_letter f fd) (z_len : mg "len" = none) : FnOk P w K mg base CX0 1 f fd ["alphabet", "value"] (spR K g_is_letter) := by
  refine fn_ok F sc_is_letter (fun cdv A outer s H E hr => ?_)
  have nd := sc_is_letter.nd
  unfold m_is_letter
  exact
  (rss_one (rs_ret (re_and (re_cmp (op_eqU hr.units) (ok_eq _) (re_b (re_cb call_len (ok_len _) (by rfl) z_len PySem.boot_len (rab_cons (rb_v 1) rab_nil))) (re_b re_int)) (re_one (re_cmp (op_inU (hu_of hr)) (ok_in _) (rb_v 1) (rb_v 0))))))
theorem ok_is_letter {f : Addr} {fd : FuncData} (F : Fun K "is_letter" "is_letter" s_is_letter f fd) (hm : mg "is_letter" = some (.ref f)) (hb : Binds K fd ["alphabet", "value"] []) (z_len : mg "len" = none) : Cl P w K mg base "is_letter" 1 ["alphabet", "value"] g_is_letter :=
  ⟨f, fd, okf_is_letter F z_len, hm, F.kp, hb⟩
/-! ### is_word -/
abbrev s_is_word : Stmt := topS 6
abbrev N_is_word : List Str := ["alphabet", "value"]
theorem sc_is_word : FnScope N_is_word ["alphabet", "value"] (defScope s_is_word) := ⟨rfl, rfl, rfl, by decide +kernel, rfl, by decide +kernel, by decide +kernel⟩
def m_is_word : MS :=
  (mRet (mAndV (mChain fLe fLe (mC (.int 1)) (mCB fLen (mCons (mBor 1) mNil)) (mC (.int 3))) (mCall g_is_text (mCons (mVar 0) (mCons (mVar 1) mNil)))))
def g_is_word : List D → Option Sl := gOf 2 2 m_is_word
theorem okf_is_word {f : Addr} {fd : FuncData} (F : Fun K "is_word" "is_word" s_is_word f fd) (z_len : mg "len" = none) (C_is_text : Cl P w K mg base "is_text" 1 ["alphabet", "value"] g_is_text) : FnOk P w K mg base CX0 2 f fd ["alphabet", "value"] (spR K g_is_word) := by
  refine fn_ok F sc_is_word (fun cdv A outer s H E hr => ?_)
  have nd := sc_is_word.nd
  unfold m_is_word
  exact
  (rss_one (rs_ret (re_and (re_chain op_le (ok_cmp _ _) op_le (ok_cmp _ _) (re_b re_int) (re_b (re_cb call_len (ok_len _) (by rfl) z_len PySem.boot_len (rab_cons (rb_v 1) rab_nil))) (re_b re_int)) (re_one (re_cl C_is_text (hr.mono (by decide)) (by rfl) (ra_cons (re_v 0) (ra_cons (re_v 1) ra_nil)))))))
theorem ok_is_word {f : Addr} {fd : FuncData} (F : Fun K "is_word" "is_word" s_is_word f fd) (hm : mg "is_word" = some (.ref f)) (hb : Binds K fd ["alphabet", "value"] []) (z_len : mg "len" = none) (C_is_text : Cl P w K mg base "is_text" 1 ["alphabet", "value"] g_is_text) : Cl P w K mg base "is_word" 2 ["alphabet", "value"] g_is_word :=
  ⟨f, fd, okf_is_word F z_len C_is_text, hm, F.kp, hb⟩
/-! ### is_fault -/
abbrev s_is_fault : Stmt := topS 7
abbrev N_is_fault : List Str := ["alphabet", "value", "fault"]
theorem sc_is_fault : FnScope N_is_fault ["alphabet", "value"] (defScope s_is_fault) := ⟨rfl, rfl, rfl, by decide +kernel, rfl, by decide +kernel, by decide +kernel⟩
def m_is_fault : MS :=
  (mSeq (mSet 2 (mCall (g_frozen 4) (mCons (mVar 1) mNil)))
  (mSeq (mIf (mOr (mT (m2 fEq (mCB fLen (mCons (mBor 2) mNil)) (mC (.int 0)))) (mOr (mT (m1 (fGIn kv_ITEM_COUNTS true) (m2 fIx (mBor 2) (mC (.int 0))))) (mT (m2 fNe (mCB fLen (mCons (mBor 2) mNil)) (m1 (fGIx kv_ITEM_COUNTS) (m2 fIx (mBor 2) (mC (.int 0))))))))
    (mRet (mC (.bl false)))
    mNext)
  (mSeq (mIf (mNot (mT (mChain fLe fLe (mC (.int 1)) (m2 fIx (mBor 2) (mNeg (mC (.int 1)))) (mC (.int 99)))))
    (mRet (mC (.bl false)))
    mNext)
  (mSeq (mIf (mT (m2 fEq (m2 fIx (mBor 2) (mC (.int 0))) (mC (.str (S "leap")))))
    (mRet (mCall g_is_letter (mCons (mVar 0) (mCons (m2 fIx (mBor 2) (mC (.int 1))) mNil))))
    mNext)
  (mSeq (mIf (mOr (mT (m2 fEq (m2 fIx (mBor 2) (mC (.int 0))) (mC (.str (S "mistake"))))) (mT (m2 fEq (m2 fIx (mBor 2) (mC (.int 0))) (mC (.str (S "turn"))))))
    (mRet (mAndV (mCall g_is_letter (mCons (mVar 0) (mCons (m2 fIx (mBor 2) (mC (.int 1))) mNil))) (mAndV (mCall g_is_letter (mCons (mVar 0) (mCons (m2 fIx (mBor 2) (mC (.int 2))) mNil))) (m2 fNe (m2 fIx (mBor 2) (mC (.int 1))) (m2 fIx (mBor 2) (mC (.int 2)))))))
    mNext)
  (mSeq (mIf (mT (m2 fEq (m2 fIx (mBor 2) (mC (.int 0))) (mC (.str (S "gloss")))))
    (mRet (mAndV (mCall g_is_word (mCons (mVar 0) (mCons (m2 fIx (mBor 2) (mC (.int 1))) mNil))) (mCall g_is_word (mCons (mVar 0) (mCons (m2 fIx (mBor 2) (mC (.int 2))) mNil)))))
    mNext)
  (mRet (mCall g_is_word (mCons (mVar 0) (mCons (m2 fIx (mBor 2) (mC (.int 1))) mNil))))))))))
def g_is_fault : List D → Option Sl := gOf 3 2 m_is_fault
theorem okf_is_fault {f : Addr} {fd : FuncData} {d_ITEM_COUNTS : Addr} (F : Fun K "is_fault" "is_fault" s_is_fault f fd) (z_len : mg "len" = none) (G_ITEM_COUNTS : GD K w d_ITEM_COUNTS kv_ITEM_COUNTS) (mg_ITEM_COUNTS : mg "ITEM_COUNTS" = some (.ref d_ITEM_COUNTS)) (C_frozen : Cl P w K mg base "frozen" 5 ["value"] (g_frozen 4)) (C_is_letter : Cl P w K mg base "is_letter" 1 ["alphabet", "value"] g_is_letter) (C_is_word : Cl P w K mg base "is_word" 2 ["alphabet", "value"] g_is_word) : FnOk P w K mg base CX0 6 f fd ["alphabet", "value"] (spR K g_is_fault) := by
  refine fn_ok F sc_is_fault (fun cdv A outer s H E hr => ?_)
  have nd := sc_is_fault.nd
  unfold m_is_fault
  exact
  (rss_cons (rs_set (i := 2) nd (re_cl C_frozen (hr.mono (by decide)) (by rfl) (ra_cons (re_v 1) ra_nil)))
  (rss_cons (rs_if (rt_w (rw_or (rt_cmp (op_eqU hr.units) (ok_eq _) (re_b (re_cb call_len (ok_len _) (by rfl) z_len PySem.boot_len (rab_cons (rb_v 2) rab_nil))) (re_b re_int)) (rw_or (rt_gnotin G_ITEM_COUNTS (by rfl) mg_ITEM_COUNTS (re_ix (hu_of hr) (rb_v 2) (re_b re_int))) (rw_or1 (rt_cmp (op_neU hr.units) (ok_ne _) (re_b (re_cb call_len (ok_len _) (by rfl) z_len PySem.boot_len (rab_cons (rb_v 2) rab_nil))) (re_b (re_gix G_ITEM_COUNTS (by rfl) mg_ITEM_COUNTS (re_ix (hu_of hr) (rb_v 2) (re_b re_int)))))))))
    (rss_one (rs_ret re_bl))
    rss_nil)
  (rss_cons (rs_if (rt_not (rt_chain op_le (ok_cmp _ _) op_le (ok_cmp _ _) (re_b re_int) (re_b (re_ix (hu_of hr) (rb_v 2) (re_b (re_neg re_int)))) (re_b re_int)))
    (rss_one (rs_ret re_bl))
    rss_nil)
  (rss_cons (rs_if (rt_cmp (op_eqU hr.units) (ok_eq _) (re_b (re_ix (hu_of hr) (rb_v 2) (re_b re_int))) (re_b (re_str "leap")))
    (rss_one (rs_ret (re_cl C_is_letter (hr.mono (by decide)) (by rfl) (ra_cons (re_v 0) (ra_cons (re_ix (hu_of hr) (rb_v 2) (re_b re_int)) ra_nil)))))
    rss_nil)
  (rss_cons (rs_if (rt_w (rw_or (rt_cmp (op_eqU hr.units) (ok_eq _) (re_b (re_ix (hu_of hr) (rb_v 2) (re_b re_int))) (re_b (re_str "mistake"))) (rw_or1 (rt_cmp (op_eqU hr.units) (ok_eq _) (re_b (re_ix (hu_of hr) (rb_v 2) (re_b re_int))) (re_b (re_str "turn"))))))
    (rss_one (rs_ret (re_and (re_cl C_is_letter (hr.mono (by decide)) (by rfl) (ra_cons (re_v 0) (ra_cons (re_ix (hu_of hr) (rb_v 2) (re_b re_int)) ra_nil))) (re_and (re_cl C_is_letter (hr.mono (by decide)) (by rfl) (ra_cons (re_v 0) (ra_cons (re_ix (hu_of hr) (rb_v 2) (re_b re_int)) ra_nil))) (re_one (re_cmp (op_neU hr.units) (ok_ne _) (re_b (re_ix (hu_of hr) (rb_v 2) (re_b re_int))) (re_b (re_ix (hu_of hr) (rb_v 2) (re_b re_int)))))))))
    rss_nil)
  (rss_cons (rs_if (rt_cmp (op_eqU hr.units) (ok_eq _) (re_b (re_ix (hu_of hr) (rb_v 2) (re_b re_int))) (re_b (re_str "gloss")))
    (rss_one (rs_ret (re_and (re_cl C_is_word (hr.mono (by decide)) (by rfl) (ra_cons (re_v 0) (ra_cons (re_ix (hu_of hr) (rb_v 2) (re_b re_int)) ra_nil))) (re_one (re_cl C_is_word (hr.mono (by decide)) (by rfl) (ra_cons (re_v 0) (ra_cons (re_ix (hu_of hr) (rb_v 2) (re_b re_int)) ra_nil)))))))
    rss_nil)
  (rss_one (rs_ret (re_cl C_is_word (hr.mono (by decide)) (by rfl) (ra_cons (re_v 0) (ra_cons (re_ix (hu_of hr) (rb_v 2) (re_b re_int)) ra_nil)))))))))))
theorem ok_is_fault {f : Addr} {fd : FuncData} {d_ITEM_COUNTS : Addr} (F : Fun K "is_fault" "is_fault" s_is_fault f fd) (hm : mg "is_fault" = some (.ref f)) (hb : Binds K fd ["alphabet", "value"] []) (z_len : mg "len" = none) (G_ITEM_COUNTS : GD K w d_ITEM_COUNTS kv_ITEM_COUNTS) (mg_ITEM_COUNTS : mg "ITEM_COUNTS" = some (.ref d_ITEM_COUNTS)) (C_frozen : Cl P w K mg base "frozen" 5 ["value"] (g_frozen 4)) (C_is_letter : Cl P w K mg base "is_letter" 1 ["alphabet", "value"] g_is_letter) (C_is_word : Cl P w K mg base "is_word" 2 ["alphabet", "value"] g_is_word) : Cl P w K mg base "is_fault" 6 ["alphabet", "value"] g_is_fault :=
  ⟨f, fd, okf_is_fault F z_len G_ITEM_COUNTS mg_ITEM_COUNTS C_frozen C_is_letter C_is_word, hm, F.kp, hb⟩
/-! ### exchange -/
abbrev s_exchange : Stmt := topS 8
abbrev N_exchange : List Str := ["fault", "kind", "word"]
theorem sc_exchange : FnScope N_exchange ["fault"] (defScope s_exchange) := ⟨rfl, rfl, rfl, by decide +kernel, rfl, by decide +kernel, by decide +kernel⟩
def m_exchange : MS :=
  (mSeq (mPar 1 2 (mCons (m2 fIx (mBor 0) (mC (.int 0))) (mCons (m2 fIx (mBor 0) (mC (.int 1))) mNil)))
  (mSeq (mIf (mT (m2 fEq (mBor 1) (mC (.str (S "mistake")))))
    (mRet (mTup (mCons (mVar 2) (mCons (m2 fIx (mBor 0) (mC (.int 2))) mNil))))
    mNext)
  (mSeq (mIf (mT (m2 fEq (mBor 1) (mC (.str (S "double")))))
    (mRet (mTup (mCons (mVar 2) (mCons (m2 fAdd (mBor 2) (mBor 2)) mNil))))
    mNext)
  (mSeq (mIf (mT (m2 fEq (mBor 1) (mC (.str (S "merge")))))
    (mRet (mTup (mCons (m2 fAdd (mBor 2) (mBor 2)) (mCons (mVar 2) mNil))))
    mNext)
  (mSeq (mIf (mT (m2 fEq (mBor 1) (mC (.str (S "turn")))))
    (mRet (mTup (mCons (m2 fAdd (mBor 2) (m2 fIx (mBor 0) (mC (.int 2)))) (mCons (m2 fAdd (m2 fIx (mBor 0) (mC (.int 2))) (mBor 2)) mNil))))
    mNext)
  (mSeq (mIf (mT (m2 fEq (mBor 1) (mC (.str (S "gloss")))))
    (mRet (mTup (mCons (mVar 2) (mCons (m2 fAdd (mBor 2) (m2 fIx (mBor 0) (mC (.int 2)))) mNil))))
    mNext)
  (mRet (mTup (mCons (mVar 2) (mCons (mC (.str (S ""))) mNil))))))))))
def g_exchange : List D → Option Sl := gOf 3 1 m_exchange
theorem okf_exchange {f : Addr} {fd : FuncData} (F : Fun K "exchange" "exchange" s_exchange f fd) : FnOk P w K mg base CX0 1 f fd ["fault"] (spR K g_exchange) := by
  refine fn_ok F sc_exchange (fun cdv A outer s H E hr => ?_)
  have nd := sc_exchange.nd
  unfold m_exchange
  exact
  (rss_cons (rs_par (i := 1) (j := 2) rfl nd (by decide) (ra_cons (re_ix (hu_of hr) (rb_v 0) (re_b re_int)) (ra_cons (re_ix (hu_of hr) (rb_v 0) (re_b re_int)) ra_nil)))
  (rss_cons (rs_if (rt_cmp (op_eqU hr.units) (ok_eq _) (rb_v 1) (re_b (re_str "mistake")))
    (rss_one (rs_ret (re_tup (ra_cons (re_v 2) (ra_cons (re_ix (hu_of hr) (rb_v 0) (re_b re_int)) ra_nil)))))
    rss_nil)
  (rss_cons (rs_if (rt_cmp (op_eqU hr.units) (ok_eq _) (rb_v 1) (re_b (re_str "double")))
    (rss_one (rs_ret (re_tup (ra_cons (re_v 2) (ra_cons (re_op op_addU (ok_add _) (rb_v 2) (rb_v 2)) ra_nil)))))
    rss_nil)
  (rss_cons (rs_if (rt_cmp (op_eqU hr.units) (ok_eq _) (rb_v 1) (re_b (re_str "merge")))
    (rss_one (rs_ret (re_tup (ra_cons (re_op op_addU (ok_add _) (rb_v 2) (rb_v 2)) (ra_cons (re_v 2) ra_nil)))))
    rss_nil)
  (rss_cons (rs_if (rt_cmp (op_eqU hr.units) (ok_eq _) (rb_v 1) (re_b (re_str "turn")))
    (rss_one (rs_ret (re_tup (ra_cons (re_op op_addU (ok_add _) (rb_v 2) (re_b (re_ix (hu_of hr) (rb_v 0) (re_b re_int)))) (ra_cons (re_op op_addU (ok_add _) (re_b (re_ix (hu_of hr) (rb_v 0) (re_b re_int))) (rb_v 2)) ra_nil)))))
    rss_nil)
  (rss_cons (rs_if (rt_cmp (op_eqU hr.units) (ok_eq _) (rb_v 1) (re_b (re_str "gloss")))
    (rss_one (rs_ret (re_tup (ra_cons (re_v 2) (ra_cons (re_op op_addU (ok_add _) (rb_v 2) (re_b (re_ix (hu_of hr) (rb_v 0) (re_b re_int)))) ra_nil)))))
    rss_nil)
  (rss_one (rs_ret (re_tup (ra_cons (re_v 2) (ra_cons (re_str "") ra_nil)))))))))))
theorem ok_exchange {f : Addr} {fd : FuncData} (F : Fun K "exchange" "exchange" s_exchange f fd) (hm : mg "exchange" = some (.ref f)) (hb : Binds K fd ["fault"] []) : Cl P w K mg base "exchange" 1 ["fault"] g_exchange :=
  ⟨f, fd, okf_exchange F, hm, F.kp, hb⟩
/-! ### piece_at -/
abbrev s_piece_at : Stmt := topS 9
abbrev N_piece_at : List Str := ["fault", "text", "place", "piece", "end"]
theorem sc_piece_at : FnScope N_piece_at ["fault", "text", "place"] (defScope s_piece_at) := ⟨rfl, rfl, rfl, by decide +kernel, rfl, by decide +kernel, by decide +kernel⟩
def m_piece_at : MS :=
  (mSeq (mIf (mT (m2 fEq (m2 fIx (mBor 0) (mC (.int 0))) (mC (.str (S "leap")))))
    (mSeq (mSet 4 (mMt fFind3 (mBor 1) (mCons (m2 fIx (mBor 0) (mC (.int 1))) (mCons (m2 fAdd (mBor 2) (mC (.int 1))) mNil))))
    (mSeq (mIf (mOr (mT (m2 fNe (mSl (mBor 1) (mPart (mVar 2)) (mPart (m2 fAdd (mBor 2) (mC (.int 1))))) (m2 fIx (mBor 0) (mC (.int 1))))) (mT (m2 fLt (mBor 4) (mC (.int 0)))))
      (mRet (mC .non))
      mNext)
    (mRet (mSl (mBor 1) (mPart (mVar 2)) (mPart (m2 fAdd (mBor 4) (mC (.int 1))))))))
    mNext)
  (mSeq (mSet 3 (m2 fIx (mCall g_exchange (mCons (mVar 0) mNil)) (mC (.int 0))))
  (mSeq (mIf (mT (m2 fNe (mSl (mBor 1) (mPart (mVar 2)) (mPart (m2 fAdd (mBor 2) (mCB fLen (mCons (mBor 3) mNil))))) (mBor 3)))
    (mRet (mC .non))
    mNext)
  (mRet (mVar 3)))))
def g_piece_at : List D → Option Sl := gOf 5 3 m_piece_at
theorem okf_piece_at {f : Addr} {fd : FuncData} (F : Fun K "piece_at" "piece_at" s_piece_at f fd) (z_len : mg "len" = none) (C_exchange : Cl P w K mg base "exchange" 1 ["fault"] g_exchange) : FnOk P w K mg base CX0 2 f fd ["fault", "text", "place"] (spR K g_piece_at) := by
  refine fn_ok F sc_piece_at (fun cdv A outer s H E hr => ?_)
  have nd := sc_piece_at.nd
  unfold m_piece_at
  exact
  (rss_cons (rs_if (rt_cmp (op_eqU hr.units) (ok_eq _) (re_b (re_ix (hu_of hr) (rb_v 0) (re_b re_int))) (re_b (re_str "leap")))
    (rss_cons (rs_set (i := 4) nd (re_mt PySem.F.slot_str_find PySem.F.type_str_find mt_find3 (ok_find3 _) (rb_v 1) (rab_cons (re_b (re_ix (hu_of hr) (rb_v 0) (re_b re_int))) (rab_cons (re_b (re_op op_addU (ok_add _) (rb_v 2) (re_b re_int))) rab_nil))))
    (rss_cons (rs_if (rt_w (rw_or (rt_cmp (op_neU hr.units) (ok_ne _) (re_b (re_sl (rb_v 1) (ro_some (re_v 2)) (ro_some (re_op op_addU (ok_add _) (rb_v 2) (re_b re_int))))) (re_b (re_ix (hu_of hr) (rb_v 0) (re_b re_int)))) (rw_or1 (rt_cmp op_lt (ok_cmp _ _) (rb_v 4) (re_b re_int)))))
      (rss_one (rs_ret re_non))
      rss_nil)
    (rss_one (rs_ret (re_sl (rb_v 1) (ro_some (re_v 2)) (ro_some (re_op op_addU (ok_add _) (rb_v 4) (re_b re_int))))))))
    rss_nil)
  (rss_cons (rs_set (i := 3) nd (re_ix (hu_of hr) (re_b (re_cl C_exchange (hr.mono (by decide)) (by rfl) (ra_cons (re_v 0) ra_nil))) (re_b re_int)))
  (rss_cons (rs_if (rt_cmp (op_neU hr.units) (ok_ne _) (re_b (re_sl (rb_v 1) (ro_some (re_v 2)) (ro_some (re_op op_addU (ok_add _) (rb_v 2) (re_b (re_cb call_len (ok_len _) (by rfl) z_len PySem.boot_len (rab_cons (rb_v 3) rab_nil))))))) (rb_v 3))
    (rss_one (rs_ret re_non))
    rss_nil)
  (rss_one (rs_ret (re_v 3))))))
theorem ok_piece_at {f : Addr} {fd : FuncData} (F : Fun K "piece_at" "piece_at" s_piece_at f fd) (hm : mg "piece_at" = some (.ref f)) (hb : Binds K fd ["fault", "text", "place"] []) (z_len : mg "len" = none) (C_exchange : Cl P w K mg base "exchange" 1 ["fault"] g_exchange) : Cl P w K mg base "piece_at" 2 ["fault", "text", "place"] g_piece_at :=
  ⟨f, fd, okf_piece_at F z_len C_exchange, hm, F.kp, hb⟩
/-! ### rewritten -/
abbrev s_rewritten : Stmt := topS 10
abbrev N_rewritten : List Str := ["fault", "old"]
theorem sc_rewritten : FnScope N_rewritten ["fault", "old"] (defScope s_rewritten) := ⟨rfl, rfl, rfl, by decide +kernel, rfl, by decide +kernel, by decide +kernel⟩
def m_rewritten : MS :=
  (mSeq (mIf (mOr (mT (m2 fEq (mCB fLen (mCons (mBor 1) mNil)) (mC (.int 0)))) (mT (m2 fNe (mCall g_piece_at (mCons (mVar 0) (mCons (mVar 1) (mCons (mC (.int 0)) mNil)))) (mBor 1))))
    (mRet (mC .non))
    mNext)
  (mSeq (mIf (mT (m2 fEq (m2 fIx (mBor 0) (mC (.int 0))) (mC (.str (S "leap")))))
    (mRet (m2 fIx (mBor 0) (mC (.int 1))))
    mNext)
  (mRet (m2 fIx (mCall g_exchange (mCons (mVar 0) mNil)) (mC (.int 1))))))
def g_rewritten : List D → Option Sl := gOf 2 2 m_rewritten
theorem okf_rewritten {f : Addr} {fd : FuncData} (F : Fun K "rewritten" "rewritten" s_rewritten f fd) (z_len : mg "len" = none) (C_exchange : Cl P w K mg base "exchange" 1 ["fault"] g_exchange) (C_piece_at : Cl P w K mg base "piece_at" 2 ["fault", "text", "place"] g_piece_at) : FnOk P w K mg base CX0 3 f fd ["fault", "old"] (spR K g_rewritten) := by
  refine fn_ok F sc_rewritten (fun cdv A outer s H E hr => ?_)
  have nd := sc_rewritten.nd
  unfold m_rewritten
  exact
  (rss_cons (rs_if (rt_w (rw_or (rt_cmp (op_eqU hr.units) (ok_eq _) (re_b (re_cb call_len (ok_len _) (by rfl) z_len PySem.boot_len (rab_cons (rb_v 1) rab_nil))) (re_b re_int)) (rw_or1 (rt_cmp (op_neU hr.units) (ok_ne _) (re_b (re_cl C_piece_at (hr.mono (by decide)) (by rfl) (ra_cons (re_v 0) (ra_cons (re_v 1) (ra_cons re_int ra_nil))))) (rb_v 1)))))
    (rss_one (rs_ret re_non))
    rss_nil)
  (rss_cons (rs_if (rt_cmp (op_eqU hr.units) (ok_eq _) (re_b (re_ix (hu_of hr) (rb_v 0) (re_b re_int))) (re_b (re_str "leap")))
    (rss_one (rs_ret (re_ix (hu_of hr) (rb_v 0) (re_b re_int))))
    rss_nil)
  (rss_one (rs_ret (re_ix (hu_of hr) (re_b (re_cl C_exchange (hr.mono (by decide)) (by rfl) (ra_cons (re_v 0) ra_nil))) (re_b re_int))))))
theorem ok_rewritten {f : Addr} {fd : FuncData} (F : Fun K "rewritten" "rewritten" s_rewritten f fd) (hm : mg "rewritten" = some (.ref f)) (hb : Binds K fd ["fault", "old"] []) (z_len : mg "len" = none) (C_exchange : Cl P w K mg base "exchange" 1 ["fault"] g_exchange) (C_piece_at : Cl P w K mg base "piece_at" 2 ["fault", "text", "place"] g_piece_at) : Cl P w K mg base "rewritten" 3 ["fault", "old"] g_rewritten :=
  ⟨f, fd, okf_rewritten F z_len C_exchange C_piece_at, hm, F.kp, hb⟩
/-! ### _law_cell -/
abbrev s__law_cell : Stmt := topS 12
abbrev N__law_cell : List Str := ["_law_script", "_law_k", "_law_seed", "_law_cell_here"]
theorem sc__law_cell : FnScope N__law_cell ["_law_script", "_law_k"] (defScope s__law_cell) := ⟨rfl, rfl, rfl, by decide +kernel, rfl, by decide +kernel, by decide +kernel⟩
def m__law_cell : MS :=
  (mSeq (mIf (mT (m2 fLt (mBor 1) (mCB fLen (mCons (mBor 0) mNil))))
    (mRet (m2 fIx (mBor 0) (mBor 1)))
    mNext)
  (mSeq (mSet 2 (mC (.int 17)))
  (mSeq (mFor (mItems (mVar 0)) (gN 3)
    (mSet 2 (m2 fMod (mCB fInt (mCons (m2 fAdd (m2 fMul (mBor 2) (mC (.int 31))) (m2 fMod (mCB fInt (mCons (mBor 3) mNil)) (mC (.int 1000003)))) mNil)) (mC (.int 1000003)))))
  (mRet (m2 fMod (mCB fInt (mCons (m2 fMul (m2 fMul (m2 fAdd (mBor 2) (mC (.int 7))) (m2 fAdd (mBor 1) (mC (.int 3)))) (mC (.int 69621))) mNil)) (mC (.int 2147483647)))))))
def g__law_cell : List D → Option Sl := gOf 4 2 m__law_cell
theorem okf__law_cell {f : Addr} {fd : FuncData} (F : Fun K "_law_cell" "_law_cell" s__law_cell f fd) (z_int : mg "int" = none) (z_len : mg "len" = none) : FnOk P w K mg base CX0 1 f fd ["_law_script", "_law_k"] (spR K g__law_cell) := by
  refine fn_ok F sc__law_cell (fun cdv A outer s H E hr => ?_)
  have nd := sc__law_cell.nd
  unfold m__law_cell
  exact
  (rss_cons (rs_if (rt_cmp op_lt (ok_cmp _ _) (rb_v 1) (re_b (re_cb call_len (ok_len _) (by rfl) z_len PySem.boot_len (rab_cons (rb_v 0) rab_nil))))
    (rss_one (rs_ret (re_ix (hu_of hr) (rb_v 0) (rb_v 1))))
    rss_nil)
  (rss_cons (rs_set (i := 2) nd re_int)
  (rss_cons (rs_for PassesOwn.never rfl (ri_data (re_v 0)) (rg_name (i := 3) nd)
    (rss_one (rs_set (i := 2) nd (re_op op_mod (ok_mod _) (re_b (re_ct call_int1 (ok_int _) (by rfl) z_int (by decide +kernel) (rab_cons (re_b (re_op op_addU (ok_add _) (re_b (re_op op_mulU (ok_mul _) (rb_v 2) (re_b re_int))) (re_b (re_op op_mod (ok_mod _) (re_b (re_ct call_int1 (ok_int _) (by rfl) z_int (by decide +kernel) (rab_cons (rb_v 3) rab_nil))) (re_b re_int))))) rab_nil))) (re_b re_int)))))
  (rss_one (rs_ret (re_op op_mod (ok_mod _) (re_b (re_ct call_int1 (ok_int _) (by rfl) z_int (by decide +kernel) (rab_cons (re_b (re_op op_mulU (ok_mul _) (re_b (re_op op_mulU (ok_mul _) (re_b (re_op op_addU (ok_add _) (rb_v 2) (re_b re_int))) (re_b (re_op op_addU (ok_add _) (rb_v 1) (re_b re_int))))) (re_b re_int))) rab_nil))) (re_b re_int)))))))
theorem ok__law_cell {f : Addr} {fd : FuncData} (F : Fun K "_law_cell" "_law_cell" s__law_cell f fd) (hm : mg "_law_cell" = some (.ref f)) (hb : Binds K fd ["_law_script", "_law_k"] []) (z_int : mg "int" = none) (z_len : mg "len" = none) : Cl P w K mg base "_law_cell" 1 ["_law_script", "_law_k"] g__law_cell :=
  ⟨f, fd, okf__law_cell F z_int z_len, hm, F.kp, hb⟩
/-! ### _law_digits -/
abbrev s__law_digits : Stmt := topS 13
abbrev N__law_digits : List Str := ["_law_cell_here", "_law_sizes", "_law_row", "_law_rest", "_law_seed", "_law_k", "_law_size", "_law_twice"]
theorem sc__law_digits : FnScope N__law_digits ["_law_cell_here", "_law_sizes"] (defScope s__law_digits) := ⟨rfl, rfl, rfl, by decide +kernel, rfl, by decide +kernel, by decide +kernel⟩
def m__law_digits : MS :=
  (mSeq (mSetF 2 (mLst mNil))
  (mSeq (mSet 3 (mCB fInt (mCons (mBor 0) mNil)))
  (mSeq (mIf (mT (m2 fGe (mBor 3) (m2 fPow (mC (.int 10)) (mC (.int 18)))))
    (mSeq (mSet 3 (m2 fSub (mBor 3) (m2 fPow (mC (.int 10)) (mC (.int 18)))))
    (mSeq (mFor (mItems (mVar 1)) (gN 6)
      (mSeq (mApp 2 (m2 fMod (mCB fInt (mCons (mBor 3) mNil)) (mBor 6)))
      (mSet 3 (m2 fDiv (mCB fInt (mCons (mBor 3) mNil)) (mBor 6)))))
    (mRetO 2)))
    mNext)
  (mSeq (mSet 4 (m2 fMod (mCB fInt (mCons (mBor 3) mNil)) (mC (.int 2147483629))))
  (mSeq (mFor (mRng1 (mCons (mCB fLen (mCons (mBor 1) mNil)) mNil)) (gN 5)
    (mSeq (mSet 4 (m2 fMod (mCB fInt (mCons (m2 fAdd (m2 fAdd (m2 fMul (mBor 4) (mC (.int 48271))) (m2 fMul (mC (.int 974711)) (mBor 5))) (mC (.int 12345))) mNil)) (mC (.int 2147483647))))
    (mSeq (mSet 7 (m2 fMod (mCB fInt (mCons (m2 fMul (mBor 4) (m2 fAdd (m2 fDiv (mBor 4) (mC (.int 65537))) (mC (.int 3)))) mNil)) (mC (.int 2147483629))))
    (mApp 2 (m2 fMod (m2 fDiv (mBor 7) (mC (.int 19))) (m2 fIx (mBor 1) (mBor 5)))))))
  (mRetO 2))))))
def g__law_digits : List D → Option Sl := gOf 8 2 m__law_digits
theorem okf__law_digits {f : Addr} {fd : FuncData} (F : Fun K "_law_digits" "_law_digits" s__law_digits f fd) (z_int : mg "int" = none) (z_len : mg "len" = none) (z_range : mg "range" = none) : FnOk P w K mg base CX0 1 f fd ["_law_cell_here", "_law_sizes"] (spR K g__law_digits) := by
  refine fn_ok F sc__law_digits (fun cdv A outer s H E hr => ?_)
  have nd := sc__law_digits.nd
  unfold m__law_digits
  exact
  (rss_cons (rs_setF (i := 2) nd (rf_lst ra_nil))
  (rss_cons (rs_set (i := 3) nd (re_ct call_int1 (ok_int _) (by rfl) z_int (by decide +kernel) (rab_cons (rb_v 0) rab_nil)))
  (rss_cons (rs_if (rt_cmp op_ge (ok_cmp _ _) (rb_v 3) (re_b (re_op op_pow (ok_pow _) (re_b re_int) (re_b re_int))))
    (rss_cons (rs_set (i := 3) nd (re_op op_sub (ok_sub _) (rb_v 3) (re_b (re_op op_pow (ok_pow _) (re_b re_int) (re_b re_int)))))
    (rss_cons (rs_for PassesOwn.never rfl (ri_data (re_v 1)) (rg_name (i := 6) nd)
      (rss_cons (rs_app (i := 2) (re_op op_mod (ok_mod _) (re_b (re_ct call_int1 (ok_int _) (by rfl) z_int (by decide +kernel) (rab_cons (rb_v 3) rab_nil))) (rb_v 6)))
      (rss_one (rs_set (i := 3) nd (re_op op_fdiv (ok_div _) (re_b (re_ct call_int1 (ok_int _) (by rfl) z_int (by decide +kernel) (rab_cons (rb_v 3) rab_nil))) (rb_v 6))))))
    (rss_one (rs_retO 2))))
    rss_nil)
  (rss_cons (rs_set (i := 4) nd (re_op op_mod (ok_mod _) (re_b (re_ct call_int1 (ok_int _) (by rfl) z_int (by decide +kernel) (rab_cons (rb_v 3) rab_nil))) (re_b re_int)))
  (rss_cons (rs_for PassesOwn.never rfl (ri_rng1 (by rfl) z_range (ra_cons (re_cb call_len (ok_len _) (by rfl) z_len PySem.boot_len (rab_cons (rb_v 1) rab_nil)) ra_nil)) (rg_name (i := 5) nd)
    (rss_cons (rs_set (i := 4) nd (re_op op_mod (ok_mod _) (re_b (re_ct call_int1 (ok_int _) (by rfl) z_int (by decide +kernel) (rab_cons (re_b (re_op op_addU (ok_add _) (re_b (re_op op_addU (ok_add _) (re_b (re_op op_mulU (ok_mul _) (rb_v 4) (re_b re_int))) (re_b (re_op op_mulU (ok_mul _) (re_b re_int) (rb_v 5))))) (re_b re_int))) rab_nil))) (re_b re_int)))
    (rss_cons (rs_set (i := 7) nd (re_op op_mod (ok_mod _) (re_b (re_ct call_int1 (ok_int _) (by rfl) z_int (by decide +kernel) (rab_cons (re_b (re_op op_mulU (ok_mul _) (rb_v 4) (re_b (re_op op_addU (ok_add _) (re_b (re_op op_fdiv (ok_div _) (rb_v 4) (re_b re_int))) (re_b re_int))))) rab_nil))) (re_b re_int)))
    (rss_one (rs_app (i := 2) (re_op op_mod (ok_mod _) (re_b (re_op op_fdiv (ok_div _) (rb_v 7) (re_b re_int))) (re_b (re_ix (hu_of hr) (rb_v 1) (rb_v 5)))))))))
  (rss_one (rs_retO 2)))))))
theorem ok__law_digits {f : Addr} {fd : FuncData} (F : Fun K "_law_digits" "_law_digits" s__law_digits f fd) (hm : mg "_law_digits" = some (.ref f)) (hb : Binds K fd ["_law_cell_here", "_law_sizes"] []) (z_int : mg "int" = none) (z_len : mg "len" = none) (z_range : mg "range" = none) : Cl P w K mg base "_law_digits" 1 ["_law_cell_here", "_law_sizes"] g__law_digits :=
  ⟨f, fd, okf__law_digits F z_int z_len z_range, hm, F.kp, hb⟩
/-! ### _law_letters -/
abbrev s__law_letters : Stmt := topS 14
abbrev N__law_letters : List Str := ["_law_row", "_law_letters_here", "_law_place", "_law_chosen", "_law_k"]
theorem sc__law_letters : FnScope N__law_letters ["_law_row"] (defScope s__law_letters) := ⟨rfl, rfl, rfl, by decide +kernel, rfl, by decide +kernel, by decide +kernel⟩
def m__law_letters : MS :=
  (mSeq (mSet 1 (mC (.str (S "abcdefghijklmnopqrstuvwxyz"))))
  (mSeq (mSet 2 (m2 fIx (mBor 0) (mC (.int 1))))
  (mSeq (mSet 3 (m2 fIx (mBor 1) (mBor 2)))
  (mSeq (mFor (mRng1 (mCons (m2 fSub (m2 fIx (mF (mLst (mCons (mC (.int 2)) (mCons (mC (.int 1)) (mCons (mC (.int 3)) (mCons (mC (.int 2)) (mCons (mC (.int 6)) (mCons (mC (.int 2)) (mCons (mC (.int 4)) (mCons (mC (.int 5)) mNil)))))))))) (m2 fIx (mBor 0) (mC (.int 0)))) (mC (.int 1))) mNil)) (gN 4)
    (mSeq (mSet 2 (m2 fAdd (m2 fAdd (mBor 2) (mC (.int 1))) (m2 fIx (mBor 0) (m2 fAdd (mC (.int 2)) (mBor 4)))))
    (mSet 3 (m2 fAdd (mBor 3) (m2 fIx (mBor 1) (mBor 2))))))
  (mRet (mVar 3))))))
def g__law_letters : List D → Option Sl := gOf 5 1 m__law_letters
theorem okf__law_letters {f : Addr} {fd : FuncData} (F : Fun K "_law_letters" "_law_letters" s__law_letters f fd) (z_range : mg "range" = none) : FnOk P w K mg base CX0 1 f fd ["_law_row"] (spR K g__law_letters) := by
  refine fn_ok F sc__law_letters (fun cdv A outer s H E hr => ?_)
  have nd := sc__law_letters.nd
  unfold m__law_letters
  exact
  (rss_cons (rs_set (i := 1) nd (re_str "abcdefghijklmnopqrstuvwxyz"))
  (rss_cons (rs_set (i := 2) nd (re_ix (hu_of hr) (rb_v 0) (re_b re_int)))
  (rss_cons (rs_set (i := 3) nd (re_ix (hu_of hr) (rb_v 1) (rb_v 2)))
  (rss_cons (rs_for PassesOwn.never rfl (ri_rng1 (by rfl) z_range (ra_cons (re_op op_sub (ok_sub _) (re_b (re_ix (hu_of hr) (re_b (re_f (rf_lst (ra_cons re_int (ra_cons re_int (ra_cons re_int (ra_cons re_int (ra_cons re_int (ra_cons re_int (ra_cons re_int (ra_cons re_int ra_nil))))))))))) (re_b (re_ix (hu_of hr) (rb_v 0) (re_b re_int))))) (re_b re_int)) ra_nil)) (rg_name (i := 4) nd)
    (rss_cons (rs_set (i := 2) nd (re_op op_addU (ok_add _) (re_b (re_op op_addU (ok_add _) (rb_v 2) (re_b re_int))) (re_b (re_ix (hu_of hr) (rb_v 0) (re_b (re_op op_addU (ok_add _) (re_b re_int) (rb_v 4)))))))
    (rss_one (rs_set (i := 3) nd (re_op op_addU (ok_add _) (rb_v 3) (re_b (re_ix (hu_of hr) (rb_v 1) (rb_v 2))))))))
  (rss_one (rs_ret (re_v 3)))))))
theorem ok__law_letters {f : Addr} {fd : FuncData} (F : Fun K "_law_letters" "_law_letters" s__law_letters f fd) (hm : mg "_law_letters" = some (.ref f)) (hb : Binds K fd ["_law_row"] []) (z_range : mg "range" = none) : Cl P w K mg base "_law_letters" 1 ["_law_row"] g__law_letters :=
  ⟨f, fd, okf__law_letters F z_range, hm, F.kp, hb⟩
/-! ### _law_fault -/
abbrev s__law_fault : Stmt := topS 15
abbrev N__law_fault : List Str := ["_law_alphabet", "_law_row", "_law_many", "_law_kind", "_law_word", "_law_note", "_law_other", "_law_price", "_law_k"]
theorem sc__law_fault : FnScope N__law_fault ["_law_alphabet", "_law_row"] (defScope s__law_fault) := ⟨rfl, rfl, rfl, by decide +kernel, rfl, by decide +kernel, by decide +kernel⟩
def m__law_fault : MS :=
  (mSeq (mSet 2 (mCB fLen (mCons (mBor 0) mNil)))
  (mSeq (mSet 3 (m2 fIx (mF (mLst (mCons (mC (.str (S "mistake"))) (mCons (mC (.str (S "omit"))) (mCons (mC (.str (S "double"))) (mCons (mC (.str (S "merge"))) (mCons (mC (.str (S "turn"))) (mCons (mC (.str (S "gloss"))) (mCons (mC (.str (S "leap"))) mNil))))))))) (m2 fIx (mBor 1) (mC (.int 0)))))
  (mSeq (mSet 4 (mMt fJoin (mC (.str (S ""))) (mCons (mF (mLc (mRng1 (mCons (m2 fAdd (mC (.int 1)) (m2 fIx (mBor 1) (mC (.int 1)))) mNil)) 8 mYes (m2 fIx (mBor 0) (m2 fMod (mCB fInt (mCons (m2 fIx (mBor 1) (m2 fAdd (mC (.int 2)) (mBor 8))) mNil)) (mBor 2))))) mNil)))
  (mSeq (mSet 5 (mMt fJoin (mC (.str (S ""))) (mCons (mF (mLc (mRng1 (mCons (m2 fAdd (mC (.int 1)) (m2 fIx (mBor 1) (mC (.int 5)))) mNil)) 8 mYes (m2 fIx (mBor 0) (m2 fMod (mCB fInt (mCons (m2 fIx (mBor 1) (m2 fAdd (mC (.int 6)) (mBor 8))) mNil)) (mBor 2))))) mNil)))
  (mSeq (mSet 6 (m2 fIx (mBor 0) (m2 fMod (mCB fInt (mCons (m2 fAdd (m2 fAdd (m2 fIx (mBor 1) (mC (.int 2))) (mC (.int 1))) (m2 fMod (mCB fInt (mCons (m2 fIx (mBor 1) (mC (.int 6))) mNil)) (mCB fMax2 (mCons (mC (.int 1)) (mCons (m2 fSub (mBor 2) (mC (.int 1))) mNil))))) mNil)) (mBor 2))))
  (mSeq (mSet 7 (m2 fIx (mF (mLst (mCons (mC (.int 1)) (mCons (mC (.int 2)) (mCons (mC (.int 99)) (mCons (mC (.int 3)) (mCons (m2 fAdd (mC (.int 1)) (m2 fIx (mBor 1) (mC (.int 10)))) mNil))))))) (m2 fIx (mBor 1) (mC (.int 9)))))
  (mSeq (mIf (mAnd (mT (m2 fEq (mBor 2) (mC (.int 1)))) (mOr (mT (m2 fEq (mBor 3) (mC (.str (S "mistake"))))) (mT (m2 fEq (mBor 3) (mC (.str (S "turn")))))))
    (mSet 3 (mC (.str (S "omit"))))
    mNext)
  (mSeq (mIf (mOr (mT (m2 fEq (mBor 3) (mC (.str (S "mistake"))))) (mT (m2 fEq (mBor 3) (mC (.str (S "turn"))))))
    (mRet (mTup (mCons (mVar 3) (mCons (m2 fIx (mBor 4) (mC (.int 0))) (mCons (mVar 6) (mCons (mVar 7) mNil))))))
    mNext)
  (mSeq (mIf (mT (m2 fEq (mBor 3) (mC (.str (S "gloss")))))
    (mRet (mTup (mCons (mVar 3) (mCons (mVar 4) (mCons (mVar 5) (mCons (mVar 7) mNil))))))
    mNext)
  (mSeq (mIf (mT (m2 fEq (mBor 3) (mC (.str (S "leap")))))
    (mRet (mTup (mCons (mVar 3) (mCons (m2 fIx (mBor 4) (mC (.int 0))) (mCons (mVar 7) mNil)))))
    mNext)
  (mRet (mTup (mCons (mVar 3) (mCons (mVar 4) (mCons (mVar 7) mNil)))))))))))))))
def g__law_fault : List D → Option Sl := gOf 9 2 m__law_fault
theorem okf__law_fault {f : Addr} {fd : FuncData} (F : Fun K "_law_fault" "_law_fault" s__law_fault f fd) (z_int : mg "int" = none) (z_len : mg "len" = none) (z_max : mg "max" = none) (z_range : mg "range" = none) : FnOk P w K mg base CX0 1 f fd ["_law_alphabet", "_law_row"] (spR K g__law_fault) := by
  refine fn_ok F sc__law_fault (fun cdv A outer s H E hr => ?_)
  have nd := sc__law_fault.nd
  unfold m__law_fault
  exact
  (rss_cons (rs_set (i := 2) nd (re_cb call_len (ok_len _) (by rfl) z_len PySem.boot_len (rab_cons (rb_v 0) rab_nil)))
  (rss_cons (rs_set (i := 3) nd (re_ix (hu_of hr) (re_b (re_f (rf_lst (ra_cons (re_str "mistake") (ra_cons (re_str "omit") (ra_cons (re_str "double") (ra_cons (re_str "merge") (ra_cons (re_str "turn") (ra_cons (re_str "gloss") (ra_cons (re_str "leap") ra_nil)))))))))) (re_b (re_ix (hu_of hr) (rb_v 1) (re_b re_int)))))
  (rss_cons (rs_set (i := 4) nd (re_mt PySem.F.slot_str_join PySem.F.type_str_join mt_join (ok_join _) (re_b (re_str "")) (rab_cons (re_b (re_f (rf_lc [("_law_k", 8)] rfl rfl nd (ri_rng1 (by rfl) z_range (ra_cons (re_op op_addU (ok_add _) (re_b re_int) (re_b (re_ix (hu_of hr) (rb_v 1) (re_b re_int)))) ra_nil)) (blkOk_by (N := N__law_fault) (sc := defScope s__law_fault) (by decide +kernel)) (fun _ _ _ _ _ => pg_name (i := 8) nd rfl (Or.inl rfl)) (fun _ _ _ _ _ => rts_nil) (fun _ _ _ _ _ => (re_ix (hu_of hr) (rb_v 0) (re_b (re_op op_mod (ok_mod _) (re_b (re_ct call_int1 (ok_int _) (by rfl) z_int (by decide +kernel) (rab_cons (re_b (re_ix (hu_of hr) (rb_v 1) (re_b (re_op op_addU (ok_add _) (re_b re_int) (rb_v 8))))) rab_nil))) (rb_v 2)))))))) rab_nil)))
  (rss_cons (rs_set (i := 5) nd (re_mt PySem.F.slot_str_join PySem.F.type_str_join mt_join (ok_join _) (re_b (re_str "")) (rab_cons (re_b (re_f (rf_lc [("_law_k", 8)] rfl rfl nd (ri_rng1 (by rfl) z_range (ra_cons (re_op op_addU (ok_add _) (re_b re_int) (re_b (re_ix (hu_of hr) (rb_v 1) (re_b re_int)))) ra_nil)) (blkOk_by (N := N__law_fault) (sc := defScope s__law_fault) (by decide +kernel)) (fun _ _ _ _ _ => pg_name (i := 8) nd rfl (Or.inl rfl)) (fun _ _ _ _ _ => rts_nil) (fun _ _ _ _ _ => (re_ix (hu_of hr) (rb_v 0) (re_b (re_op op_mod (ok_mod _) (re_b (re_ct call_int1 (ok_int _) (by rfl) z_int (by decide +kernel) (rab_cons (re_b (re_ix (hu_of hr) (rb_v 1) (re_b (re_op op_addU (ok_add _) (re_b re_int) (rb_v 8))))) rab_nil))) (rb_v 2)))))))) rab_nil)))
  (rss_cons (rs_set (i := 6) nd (re_ix (hu_of hr) (rb_v 0) (re_b (re_op op_mod (ok_mod _) (re_b (re_ct call_int1 (ok_int _) (by rfl) z_int (by decide +kernel) (rab_cons (re_b (re_op op_addU (ok_add _) (re_b (re_op op_addU (ok_add _) (re_b (re_ix (hu_of hr) (rb_v 1) (re_b re_int))) (re_b re_int))) (re_b (re_op op_mod (ok_mod _) (re_b (re_ct call_int1 (ok_int _) (by rfl) z_int (by decide +kernel) (rab_cons (re_b (re_ix (hu_of hr) (rb_v 1) (re_b re_int))) rab_nil))) (re_b (re_cb (call_max2 rfl) (ok_max2 _) (by rfl) z_max (by decide +kernel) (rab_cons (re_b re_int) (rab_cons (re_b (re_op op_sub (ok_sub _) (rb_v 2) (re_b re_int))) rab_nil)))))))) rab_nil))) (rb_v 2)))))
  (rss_cons (rs_set (i := 7) nd (re_ix (hu_of hr) (re_b (re_f (rf_lst (ra_cons re_int (ra_cons re_int (ra_cons re_int (ra_cons re_int (ra_cons (re_op op_addU (ok_add _) (re_b re_int) (re_b (re_ix (hu_of hr) (rb_v 1) (re_b re_int)))) ra_nil)))))))) (re_b (re_ix (hu_of hr) (rb_v 1) (re_b re_int)))))
  (rss_cons (rs_if (rt_w (rw_and (rt_cmp (op_eqU hr.units) (ok_eq _) (rb_v 2) (re_b re_int)) (rw_and1 (rt_w (rw_or (rt_cmp (op_eqU hr.units) (ok_eq _) (rb_v 3) (re_b (re_str "mistake"))) (rw_or1 (rt_cmp (op_eqU hr.units) (ok_eq _) (rb_v 3) (re_b (re_str "turn")))))))))
    (rss_one (rs_set (i := 3) nd (re_str "omit")))
    rss_nil)
  (rss_cons (rs_if (rt_w (rw_or (rt_cmp (op_eqU hr.units) (ok_eq _) (rb_v 3) (re_b (re_str "mistake"))) (rw_or1 (rt_cmp (op_eqU hr.units) (ok_eq _) (rb_v 3) (re_b (re_str "turn"))))))
    (rss_one (rs_ret (re_tup (ra_cons (re_v 3) (ra_cons (re_ix (hu_of hr) (rb_v 4) (re_b re_int)) (ra_cons (re_v 6) (ra_cons (re_v 7) ra_nil)))))))
    rss_nil)
  (rss_cons (rs_if (rt_cmp (op_eqU hr.units) (ok_eq _) (rb_v 3) (re_b (re_str "gloss")))
    (rss_one (rs_ret (re_tup (ra_cons (re_v 3) (ra_cons (re_v 4) (ra_cons (re_v 5) (ra_cons (re_v 7) ra_nil)))))))
    rss_nil)
  (rss_cons (rs_if (rt_cmp (op_eqU hr.units) (ok_eq _) (rb_v 3) (re_b (re_str "leap")))
    (rss_one (rs_ret (re_tup (ra_cons (re_v 3) (ra_cons (re_ix (hu_of hr) (rb_v 4) (re_b re_int)) (ra_cons (re_v 7) ra_nil))))))
    rss_nil)
  (rss_one (rs_ret (re_tup (ra_cons (re_v 3) (ra_cons (re_v 4) (ra_cons (re_v 7) ra_nil))))))))))))))))
theorem ok__law_fault {f : Addr} {fd : FuncData} (F : Fun K "_law_fault" "_law_fault" s__law_fault f fd) (hm : mg "_law_fault" = some (.ref f)) (hb : Binds K fd ["_law_alphabet", "_law_row"] []) (z_int : mg "int" = none) (z_len : mg "len" = none) (z_max : mg "max" = none) (z_range : mg "range" = none) : Cl P w K mg base "_law_fault" 1 ["_law_alphabet", "_law_row"] g__law_fault :=
  ⟨f, fd, okf__law_fault F z_int z_len z_max z_range, hm, F.kp, hb⟩
/-! ### _law_spoilt -/
abbrev s__law_spoilt : Stmt := topS 16
abbrev N__law_spoilt : List Str := ["_law_alphabet", "_law_value", "_law_row", "_law_spare", "_law_odd", "_law_first", "_law_strings", "_law_kinds", "_law_things", "_law_prices", "_law_at", "_law_letter"]
theorem sc__law_spoilt : FnScope N__law_spoilt ["_law_alphabet", "_law_value", "_law_row"] (defScope s__law_spoilt) := ⟨rfl, rfl, rfl, by decide +kernel, rfl, by decide +kernel, by decide +kernel⟩
def m__law_spoilt : MS :=
  (mSeq (mSetF 3 (mLc (mItems (mC (.str (S "abcdefghijklmnopqrstuvwxyz")))) 11 (mT (m2 fNotIn (mBor 11) (mBor 0))) (mVar 11)))
  (mSeq (mSet 4 (m2 fIx (mBor 3) (m2 fMod (mCB fInt (mCons (m2 fIx (mBor 2) (mC (.int 4))) mNil)) (mCB fLen (mCons (mBor 3) mNil)))))
  (mSeq (mSet 5 (m2 fIx (mBor 0) (mC (.int 0))))
  (mSeq (mSet 6 (mF (mLst (mCons (mC (.str (S ""))) (mCons (m2 fMul (mBor 5) (mC (.int 4))) (mCons (m2 fAdd (mBor 5) (m2 fIx (mBor 0) (m2 fSub (mCB fLen (mCons (mBor 0) mNil)) (mC (.int 1))))) (mCons (mVar 4) (mCons (m2 fAdd (mBor 5) (mBor 4)) (mCons (m2 fAdd (mBor 4) (mBor 5)) (mCons (mC (.str (S "A"))) (mCons (m2 fIx (mBor 1) (mC (.int 1))) (mCons (m2 fAdd (mBor 5) (mC (.str (S "\n")))) (mCons (m2 fIx (mBor 1) (m2 fSub (mCB fLen (mCons (mBor 1) mNil)) (mC (.int 2)))) (mCons (m2 fIx (mBor 1) (mC (.int 1))) (mCons (m2 fIx (mBor 1) (m2 fSub (mCB fLen (mCons (mBor 1) mNil)) (mC (.int 2)))) mNil)))))))))))))))
  (mSeq (mSet 7 (mF (mLst (mCons (mC (.str (S ""))) (mCons (mC (.str (S "Omit"))) (mCons (mC (.str (S "omits"))) (mCons (mC (.str (S "leap "))) (mCons (mC (.str (S "mis"))) (mCons (mC (.str (S "mistake"))) (mCons (mC (.str (S "omit"))) (mCons (mC (.str (S "double"))) (mCons (mC (.str (S "merge"))) (mCons (mC (.str (S "turn"))) (mCons (mC (.str (S "gloss"))) (mCons (mC (.str (S "leap"))) mNil)))))))))))))))
  (mSeq (mSet 8 (mF (mLst (mCons (mC .non) (mCons (mC (.int 7)) (mCons (mC (.str (S "a"))) (mCons (mTup mNil) (mCons (mC (.bl true)) (mCons (mNeg (mC (.int 1))) (mCons (mTup (mCons (mVar 5) (mCons (mC (.int 2)) mNil))) (mCons (mC (.str (S "leap"))) (mCons (mC (.int 0)) (mCons (mVar 5) mNil)))))))))))))
  (mSeq (mSet 9 (mF (mLst (mCons (mC (.int 0)) (mCons (mNeg (mC (.int 1))) (mCons (mC (.int 100)) (mCons (mC (.int 99)) (mCons (mC (.int 1)) (mCons (m2 fPow (mC (.int 10)) (mC (.int 20))) (mCons (mNeg (m2 fPow (mC (.int 10)) (mC (.int 20)))) (mCons (mC (.int 100)) (mCons (mC (.int 101)) (mCons (mC (.int 0)) mNil)))))))))))))
  (mSeq (mSet 10 (m2 fAdd (mC (.int 1)) (m2 fMod (mCB fInt (mCons (m2 fIx (mBor 2) (mC (.int 1))) mNil)) (m2 fSub (mCB fLen (mCons (mBor 1) mNil)) (mC (.int 2))))))
  (mSeq (mIf (mOr (mT (m2 fEq (m2 fIx (mBor 2) (mC (.int 0))) (mC (.int 5)))) (mT (m2 fEq (m2 fIx (mBor 2) (mC (.int 0))) (mC (.int 6)))))
    (mRet (m2 fAdd (m2 fAdd (mSl (mBor 1) mNo (mPart (mVar 10))) (mTup (mCons (m2 fIx (mBor 6) (m2 fIx (mBor 2) (mC (.int 2)))) mNil))) (mSl (mBor 1) (mPart (m2 fAdd (mBor 10) (mC (.int 1)))) mNo)))
    mNext)
  (mSeq (mIf (mOr (mT (m2 fEq (m2 fIx (mBor 2) (mC (.int 0))) (mC (.int 7)))) (mT (m2 fEq (m2 fIx (mBor 2) (mC (.int 0))) (mC (.int 4)))))
    (mRet (m2 fAdd (mSl (mBor 1) mNo (mPart (m2 fSub (mCB fLen (mCons (mBor 1) mNil)) (mC (.int 1))))) (mTup (mCons (m2 fIx (mBor 9) (m2 fIx (mBor 2) (mC (.int 3)))) mNil))))
    mNext)
  (mSeq (mIf (mT (m2 fEq (m2 fIx (mBor 2) (mC (.int 0))) (mC (.int 8))))
    (mSeq (mSet 10 (m2 fMod (mCB fInt (mCons (m2 fIx (mBor 2) (mC (.int 1))) mNil)) (mCB fLen (mCons (mBor 1) mNil))))
    (mRet (m2 fAdd (mSl (mBor 1) mNo (mPart (mVar 10))) (mSl (mBor 1) (mPart (m2 fAdd (mBor 10) (mC (.int 1)))) mNo))))
    mNext)
  (mSeq (mIf (mT (m2 fEq (m2 fIx (mBor 2) (mC (.int 0))) (mC (.int 9))))
    (mSeq (mSet 10 (m2 fAdd (mC (.int 1)) (m2 fMod (mCB fInt (mCons (m2 fIx (mBor 2) (mC (.int 1))) mNil)) (mCB fLen (mCons (mBor 1) mNil)))))
    (mRet (m2 fAdd (m2 fAdd (mSl (mBor 1) mNo (mPart (mVar 10))) (mTup (mCons (m2 fIx (mBor 8) (m2 fIx (mBor 2) (mC (.int 3)))) mNil))) (mSl (mBor 1) (mPart (mVar 10)) mNo))))
    mNext)
  (mSeq (mIf (mT (m2 fEq (m2 fIx (mBor 2) (mC (.int 0))) (mC (.int 10))))
    (mRet (m2 fAdd (mTup (mCons (m2 fIx (mBor 7) (m2 fIx (mBor 2) (mC (.int 2)))) mNil)) (mSl (mBor 1) (mPart (mC (.int 1))) mNo)))
    mNext)
  (mSeq (mIf (mT (m2 fEq (m2 fIx (mBor 2) (mC (.int 0))) (mC (.int 11))))
    (mRet (mSl (mBor 1) mNo (mPart (m2 fMod (mCB fInt (mCons (m2 fIx (mBor 2) (mC (.int 1))) mNil)) (mC (.int 3))))))
    mNext)
  (mRet (mVar 1))))))))))))))))
def g__law_spoilt : List D → Option Sl := gOf 12 3 m__law_spoilt
theorem okf__law_spoilt {f : Addr} {fd : FuncData} (F : Fun K "_law_spoilt" "_law_spoilt" s__law_spoilt f fd) (z_int : mg "int" = none) (z_len : mg "len" = none) : FnOk P w K mg base CX0 1 f fd ["_law_alphabet", "_law_value", "_law_row"] (spR K g__law_spoilt) := by
  refine fn_ok F sc__law_spoilt (fun cdv A outer s H E hr => ?_)
  have nd := sc__law_spoilt.nd
  unfold m__law_spoilt
  exact
  (rss_cons (rs_setLc (i := 3) [("_law_letter", 11)] rfl rfl nd rfl rfl (sw_true rfl rfl rfl (by decide +kernel)) (ri_data (re_str "abcdefghijklmnopqrstuvwxyz")) (blkOk_by (N := N__law_spoilt) (sc := defScope s__law_spoilt) (by decide +kernel)) (fun _ _ _ _ _ => pg_name (i := 11) nd rfl (Or.inl rfl)) (fun _ _ _ _ _ => pts_one (rt_cmp (op_notinU (hu_of hr)) (ok_notin _) (rb_v 11) (rb_v 0))) (fun _ _ _ _ _ => (re_v 11)))
  (rss_cons (rs_set (i := 4) nd (re_ix (hu_of hr) (rb_v 3) (re_b (re_op op_mod (ok_mod _) (re_b (re_ct call_int1 (ok_int _) (by rfl) z_int (by decide +kernel) (rab_cons (re_b (re_ix (hu_of hr) (rb_v 2) (re_b re_int))) rab_nil))) (re_b (re_cb call_len (ok_len _) (by rfl) z_len PySem.boot_len (rab_cons (rb_v 3) rab_nil)))))))
  (rss_cons (rs_set (i := 5) nd (re_ix (hu_of hr) (rb_v 0) (re_b re_int)))
  (rss_cons (rs_set (i := 6) nd (re_f (rf_lst (ra_cons (re_str "") (ra_cons (re_op op_mulU (ok_mul _) (rb_v 5) (re_b re_int)) (ra_cons (re_op op_addU (ok_add _) (rb_v 5) (re_b (re_ix (hu_of hr) (rb_v 0) (re_b (re_op op_sub (ok_sub _) (re_b (re_cb call_len (ok_len _) (by rfl) z_len PySem.boot_len (rab_cons (rb_v 0) rab_nil))) (re_b re_int)))))) (ra_cons (re_v 4) (ra_cons (re_op op_addU (ok_add _) (rb_v 5) (rb_v 4)) (ra_cons (re_op op_addU (ok_add _) (rb_v 4) (rb_v 5)) (ra_cons (re_str "A") (ra_cons (re_ix (hu_of hr) (rb_v 1) (re_b re_int)) (ra_cons (re_op op_addU (ok_add _) (rb_v 5) (re_b (re_str "\n"))) (ra_cons (re_ix (hu_of hr) (rb_v 1) (re_b (re_op op_sub (ok_sub _) (re_b (re_cb call_len (ok_len _) (by rfl) z_len PySem.boot_len (rab_cons (rb_v 1) rab_nil))) (re_b re_int)))) (ra_cons (re_ix (hu_of hr) (rb_v 1) (re_b re_int)) (ra_cons (re_ix (hu_of hr) (rb_v 1) (re_b (re_op op_sub (ok_sub _) (re_b (re_cb call_len (ok_len _) (by rfl) z_len PySem.boot_len (rab_cons (rb_v 1) rab_nil))) (re_b re_int)))) ra_nil)))))))))))))))
  (rss_cons (rs_set (i := 7) nd (re_f (rf_lst (ra_cons (re_str "") (ra_cons (re_str "Omit") (ra_cons (re_str "omits") (ra_cons (re_str "leap ") (ra_cons (re_str "mis") (ra_cons (re_str "mistake") (ra_cons (re_str "omit") (ra_cons (re_str "double") (ra_cons (re_str "merge") (ra_cons (re_str "turn") (ra_cons (re_str "gloss") (ra_cons (re_str "leap") ra_nil)))))))))))))))
  (rss_cons (rs_set (i := 8) nd (re_f (rf_lst (ra_cons re_non (ra_cons re_int (ra_cons (re_str "a") (ra_cons (re_tup ra_nil) (ra_cons re_bl (ra_cons (re_neg re_int) (ra_cons (re_tup (ra_cons (re_v 5) (ra_cons re_int ra_nil))) (ra_cons (re_str "leap") (ra_cons re_int (ra_cons (re_v 5) ra_nil)))))))))))))
  (rss_cons (rs_set (i := 9) nd (re_f (rf_lst (ra_cons re_int (ra_cons (re_neg re_int) (ra_cons re_int (ra_cons re_int (ra_cons re_int (ra_cons (re_op op_pow (ok_pow _) (re_b re_int) (re_b re_int)) (ra_cons (re_neg (re_op op_pow (ok_pow _) (re_b re_int) (re_b re_int))) (ra_cons re_int (ra_cons re_int (ra_cons re_int ra_nil)))))))))))))
  (rss_cons (rs_set (i := 10) nd (re_op op_addU (ok_add _) (re_b re_int) (re_b (re_op op_mod (ok_mod _) (re_b (re_ct call_int1 (ok_int _) (by rfl) z_int (by decide +kernel) (rab_cons (re_b (re_ix (hu_of hr) (rb_v 2) (re_b re_int))) rab_nil))) (re_b (re_op op_sub (ok_sub _) (re_b (re_cb call_len (ok_len _) (by rfl) z_len PySem.boot_len (rab_cons (rb_v 1) rab_nil))) (re_b re_int)))))))
  (rss_cons (rs_if (rt_w (rw_or (rt_cmp (op_eqU hr.units) (ok_eq _) (re_b (re_ix (hu_of hr) (rb_v 2) (re_b re_int))) (re_b re_int)) (rw_or1 (rt_cmp (op_eqU hr.units) (ok_eq _) (re_b (re_ix (hu_of hr) (rb_v 2) (re_b re_int))) (re_b re_int)))))
    (rss_one (rs_ret (re_op op_addU (ok_add _) (re_b (re_op op_addU (ok_add _) (re_b (re_sl (rb_v 1) ro_none (ro_some (re_v 10)))) (re_b (re_tup (ra_cons (re_ix (hu_of hr) (rb_v 6) (re_b (re_ix (hu_of hr) (rb_v 2) (re_b re_int)))) ra_nil))))) (re_b (re_sl (rb_v 1) (ro_some (re_op op_addU (ok_add _) (rb_v 10) (re_b re_int))) ro_none)))))
    rss_nil)
  (rss_cons (rs_if (rt_w (rw_or (rt_cmp (op_eqU hr.units) (ok_eq _) (re_b (re_ix (hu_of hr) (rb_v 2) (re_b re_int))) (re_b re_int)) (rw_or1 (rt_cmp (op_eqU hr.units) (ok_eq _) (re_b (re_ix (hu_of hr) (rb_v 2) (re_b re_int))) (re_b re_int)))))
    (rss_one (rs_ret (re_op op_addU (ok_add _) (re_b (re_sl (rb_v 1) ro_none (ro_some (re_op op_sub (ok_sub _) (re_b (re_cb call_len (ok_len _) (by rfl) z_len PySem.boot_len (rab_cons (rb_v 1) rab_nil))) (re_b re_int))))) (re_b (re_tup (ra_cons (re_ix (hu_of hr) (rb_v 9) (re_b (re_ix (hu_of hr) (rb_v 2) (re_b re_int)))) ra_nil))))))
    rss_nil)
  (rss_cons (rs_if (rt_cmp (op_eqU hr.units) (ok_eq _) (re_b (re_ix (hu_of hr) (rb_v 2) (re_b re_int))) (re_b re_int))
    (rss_cons (rs_set (i := 10) nd (re_op op_mod (ok_mod _) (re_b (re_ct call_int1 (ok_int _) (by rfl) z_int (by decide +kernel) (rab_cons (re_b (re_ix (hu_of hr) (rb_v 2) (re_b re_int))) rab_nil))) (re_b (re_cb call_len (ok_len _) (by rfl) z_len PySem.boot_len (rab_cons (rb_v 1) rab_nil)))))
    (rss_one (rs_ret (re_op op_addU (ok_add _) (re_b (re_sl (rb_v 1) ro_none (ro_some (re_v 10)))) (re_b (re_sl (rb_v 1) (ro_some (re_op op_addU (ok_add _) (rb_v 10) (re_b re_int))) ro_none))))))
    rss_nil)
  (rss_cons (rs_if (rt_cmp (op_eqU hr.units) (ok_eq _) (re_b (re_ix (hu_of hr) (rb_v 2) (re_b re_int))) (re_b re_int))
    (rss_cons (rs_set (i := 10) nd (re_op op_addU (ok_add _) (re_b re_int) (re_b (re_op op_mod (ok_mod _) (re_b (re_ct call_int1 (ok_int _) (by rfl) z_int (by decide +kernel) (rab_cons (re_b (re_ix (hu_of hr) (rb_v 2) (re_b re_int))) rab_nil))) (re_b (re_cb call_len (ok_len _) (by rfl) z_len PySem.boot_len (rab_cons (rb_v 1) rab_nil)))))))
    (rss_one (rs_ret (re_op op_addU (ok_add _) (re_b (re_op op_addU (ok_add _) (re_b (re_sl (rb_v 1) ro_none (ro_some (re_v 10)))) (re_b (re_tup (ra_cons (re_ix (hu_of hr) (rb_v 8) (re_b (re_ix (hu_of hr) (rb_v 2) (re_b re_int)))) ra_nil))))) (re_b (re_sl (rb_v 1) (ro_some (re_v 10)) ro_none))))))
    rss_nil)
  (rss_cons (rs_if (rt_cmp (op_eqU hr.units) (ok_eq _) (re_b (re_ix (hu_of hr) (rb_v 2) (re_b re_int))) (re_b re_int))
    (rss_one (rs_ret (re_op op_addU (ok_add _) (re_b (re_tup (ra_cons (re_ix (hu_of hr) (rb_v 7) (re_b (re_ix (hu_of hr) (rb_v 2) (re_b re_int)))) ra_nil))) (re_b (re_sl (rb_v 1) (ro_some re_int) ro_none)))))
    rss_nil)
  (rss_cons (rs_if (rt_cmp (op_eqU hr.units) (ok_eq _) (re_b (re_ix (hu_of hr) (rb_v 2) (re_b re_int))) (re_b re_int))
    (rss_one (rs_ret (re_sl (rb_v 1) ro_none (ro_some (re_op op_mod (ok_mod _) (re_b (re_ct call_int1 (ok_int _) (by rfl) z_int (by decide +kernel) (rab_cons (re_b (re_ix (hu_of hr) (rb_v 2) (re_b re_int))) rab_nil))) (re_b re_int))))))
    rss_nil)
  (rss_one (rs_ret (re_v 1)))))))))))))))))
theorem ok__law_spoilt {f : Addr} {fd : FuncData} (F : Fun K "_law_spoilt" "_law_spoilt" s__law_spoilt f fd) (hm : mg "_law_spoilt" = some (.ref f)) (hb : Binds K fd ["_law_alphabet", "_law_value", "_law_row"] []) (z_int : mg "int" = none) (z_len : mg "len" = none) : Cl P w K mg base "_law_spoilt" 1 ["_law_alphabet", "_law_value", "_law_row"] g__law_spoilt :=
  ⟨f, fd, okf__law_spoilt F z_int z_len, hm, F.kp, hb⟩
/-! ### _law_good -/
abbrev s__law_good : Stmt := topS 17
abbrev N__law_good : List Str := ["_law_alphabet", "_law_value", "_law_counts", "_law_item", "_law_letter"]
theorem sc__law_good : FnScope N__law_good ["_law_alphabet", "_law_value"] (defScope s__law_good) := ⟨rfl, rfl, rfl, by decide +kernel, rfl, by decide +kernel, by decide +kernel⟩
def m__law_good : MS :=
  (mSeq (mSet 2 (mDict [((mC (.str (S "mistake"))), (mC (.int 4))), ((mC (.str (S "omit"))), (mC (.int 3))), ((mC (.str (S "double"))), (mC (.int 3))), ((mC (.str (S "merge"))), (mC (.int 3))), ((mC (.str (S "turn"))), (mC (.int 4))), ((mC (.str (S "gloss"))), (mC (.int 4))), ((mC (.str (S "leap"))), (mC (.int 3)))]))
  (mSeq (mIf (mOr (mT (m2 fEq (mCB fLen (mCons (mBor 1) mNil)) (mC (.int 0)))) (mOr (mT (m2 fNotIn (m2 fIx (mBor 1) (mC (.int 0))) (mBor 2))) (mT (m2 fNe (mCB fLen (mCons (mBor 1) mNil)) (m2 fIx (mBor 2) (m2 fIx (mBor 1) (mC (.int 0))))))))
    (mRet (mC (.bl false)))
    mNext)
  (mSeq (mIf (mOr (mT (m2 fLt (m2 fIx (mBor 1) (m2 fSub (mCB fLen (mCons (mBor 1) mNil)) (mC (.int 1)))) (mC (.int 1)))) (mT (m2 fGt (m2 fIx (mBor 1) (m2 fSub (mCB fLen (mCons (mBor 1) mNil)) (mC (.int 1)))) (mC (.int 99)))))
    (mRet (mC (.bl false)))
    mNext)
  (mSeq (mFor (mItems (mSl (mBor 1) (mPart (mC (.int 1))) (mPart (m2 fSub (mCB fLen (mCons (mBor 1) mNil)) (mC (.int 1)))))) (gN 3)
    (mSeq (mIf (mOr (mT (m2 fLt (mCB fLen (mCons (mBor 3) mNil)) (mC (.int 1)))) (mOr (mT (m2 fGt (mCB fLen (mCons (mBor 3) mNil)) (mC (.int 3)))) (mAnd (mT (m2 fGt (mCB fLen (mCons (mBor 3) mNil)) (mC (.int 1)))) (mT (m2 fIn (m2 fIx (mBor 1) (mC (.int 0))) (mF (mLst (mCons (mC (.str (S "mistake"))) (mCons (mC (.str (S "turn"))) (mCons (mC (.str (S "leap"))) mNil))))))))))
      (mRet (mC (.bl false)))
      mNext)
    (mFor (mItems (mVar 3)) (gN 4)
      (mIf (mT (m2 fNotIn (mBor 4) (mBor 0)))
        (mRet (mC (.bl false)))
        mNext))))
  (mRet (mOrV (m2 fNotIn (m2 fIx (mBor 1) (mC (.int 0))) (mF (mLst (mCons (mC (.str (S "mistake"))) (mCons (mC (.str (S "turn"))) mNil))))) (m2 fNe (m2 fIx (mBor 1) (mC (.int 1))) (m2 fIx (mBor 1) (mC (.int 2))))))))))
def g__law_good : List D → Option Sl := gOf 5 2 m__law_good
theorem okf__law_good {f : Addr} {fd : FuncData} (F : Fun K "_law_good" "_law_good" s__law_good f fd) (z_len : mg "len" = none) : FnOk P w K mg base CX0 1 f fd ["_law_alphabet", "_law_value"] (spR K g__law_good) := by
  refine fn_ok F sc__law_good (fun cdv A outer s H E hr => ?_)
  have nd := sc__law_good.nd
  unfold m__law_good
  exact
  (rss_cons (rs_set (i := 2) nd (re_dict (rpp_cons (re_str "mistake") re_int (rpp_cons (re_str "omit") re_int (rpp_cons (re_str "double") re_int (rpp_cons (re_str "merge") re_int (rpp_cons (re_str "turn") re_int (rpp_cons (re_str "gloss") re_int (rpp_cons (re_str "leap") re_int rpp_nil)))))))))
  (rss_cons (rs_if (rt_w (rw_or (rt_cmp (op_eqU hr.units) (ok_eq _) (re_b (re_cb call_len (ok_len _) (by rfl) z_len PySem.boot_len (rab_cons (rb_v 1) rab_nil))) (re_b re_int)) (rw_or (rt_cmp (op_notinU (hu_of hr)) (ok_notin _) (re_b (re_ix (hu_of hr) (rb_v 1) (re_b re_int))) (rb_v 2)) (rw_or1 (rt_cmp (op_neU hr.units) (ok_ne _) (re_b (re_cb call_len (ok_len _) (by rfl) z_len PySem.boot_len (rab_cons (rb_v 1) rab_nil))) (re_b (re_ix (hu_of hr) (rb_v 2) (re_b (re_ix (hu_of hr) (rb_v 1) (re_b re_int))))))))))
    (rss_one (rs_ret re_bl))
    rss_nil)
  (rss_cons (rs_if (rt_w (rw_or (rt_cmp op_lt (ok_cmp _ _) (re_b (re_ix (hu_of hr) (rb_v 1) (re_b (re_op op_sub (ok_sub _) (re_b (re_cb call_len (ok_len _) (by rfl) z_len PySem.boot_len (rab_cons (rb_v 1) rab_nil))) (re_b re_int))))) (re_b re_int)) (rw_or1 (rt_cmp op_gt (ok_cmp _ _) (re_b (re_ix (hu_of hr) (rb_v 1) (re_b (re_op op_sub (ok_sub _) (re_b (re_cb call_len (ok_len _) (by rfl) z_len PySem.boot_len (rab_cons (rb_v 1) rab_nil))) (re_b re_int))))) (re_b re_int)))))
    (rss_one (rs_ret re_bl))
    rss_nil)
  (rss_cons (rs_for PassesOwn.never rfl (ri_data (re_sl (rb_v 1) (ro_some re_int) (ro_some (re_op op_sub (ok_sub _) (re_b (re_cb call_len (ok_len _) (by rfl) z_len PySem.boot_len (rab_cons (rb_v 1) rab_nil))) (re_b re_int))))) (rg_name (i := 3) nd)
    (rss_cons (rs_if (rt_w (rw_or (rt_cmp op_lt (ok_cmp _ _) (re_b (re_cb call_len (ok_len _) (by rfl) z_len PySem.boot_len (rab_cons (rb_v 3) rab_nil))) (re_b re_int)) (rw_or (rt_cmp op_gt (ok_cmp _ _) (re_b (re_cb call_len (ok_len _) (by rfl) z_len PySem.boot_len (rab_cons (rb_v 3) rab_nil))) (re_b re_int)) (rw_or1 (rt_w (rw_and (rt_cmp op_gt (ok_cmp _ _) (re_b (re_cb call_len (ok_len _) (by rfl) z_len PySem.boot_len (rab_cons (rb_v 3) rab_nil))) (re_b re_int)) (rw_and1 (rt_cmp (op_inU (hu_of hr)) (ok_in _) (re_b (re_ix (hu_of hr) (rb_v 1) (re_b re_int))) (re_b (re_f (rf_lst (ra_cons (re_str "mistake") (ra_cons (re_str "turn") (ra_cons (re_str "leap") ra_nil))))))))))))))
      (rss_one (rs_ret re_bl))
      rss_nil)
    (rss_one (rs_for PassesOwn.never rfl (ri_data (re_v 3)) (rg_name (i := 4) nd)
      (rss_one (rs_if (rt_cmp (op_notinU (hu_of hr)) (ok_notin _) (rb_v 4) (rb_v 0))
        (rss_one (rs_ret re_bl))
        rss_nil))))))
  (rss_one (rs_ret (re_or (re_cmp (op_notinU (hu_of hr)) (ok_notin _) (re_b (re_ix (hu_of hr) (rb_v 1) (re_b re_int))) (re_b (re_f (rf_lst (ra_cons (re_str "mistake") (ra_cons (re_str "turn") ra_nil)))))) (re_one (re_cmp (op_neU hr.units) (ok_ne _) (re_b (re_ix (hu_of hr) (rb_v 1) (re_b re_int))) (re_b (re_ix (hu_of hr) (rb_v 1) (re_b re_int))))))))))))
theorem ok__law_good {f : Addr} {fd : FuncData} (F : Fun K "_law_good" "_law_good" s__law_good f fd) (hm : mg "_law_good" = some (.ref f)) (hb : Binds K fd ["_law_alphabet", "_law_value"] []) (z_len : mg "len" = none) : Cl P w K mg base "_law_good" 1 ["_law_alphabet", "_law_value"] g__law_good :=
  ⟨f, fd, okf__law_good F z_len, hm, F.kp, hb⟩
/-! ### _law_written -/
abbrev s__law_written : Stmt := topS 18
abbrev N__law_written : List Str := ["_law_fault_here", "_law_old", "_law_word", "_law_piece", "_law_text"]
theorem sc__law_written : FnScope N__law_written ["_law_fault_here", "_law_old"] (defScope s__law_written) := ⟨rfl, rfl, rfl, by decide +kernel, rfl, by decide +kernel, by decide +kernel⟩
def m__law_written : MS :=
  (mSeq (mSet 2 (m2 fIx (mBor 0) (mC (.int 1))))
  (mSeq (mIf (mT (m2 fEq (m2 fIx (mBor 0) (mC (.int 0))) (mC (.str (S "leap")))))
    (mSeq (mIf (mAnd (mT (m2 fGe (mCB fLen (mCons (mBor 1) mNil)) (mC (.int 2)))) (mAnd (mT (m2 fEq (m2 fIx (mBor 1) (mC (.int 0))) (mBor 2))) (mAnd (mT (m2 fEq (m2 fIx (mBor 1) (m2 fSub (mCB fLen (mCons (mBor 1) mNil)) (mC (.int 1)))) (mBor 2))) (mT (m2 fEq (mMt fCount (mBor 1) (mCons (mBor 2) mNil)) (mC (.int 2)))))))
      (mRet (mVar 2))
      mNext)
    (mRet (mC .non)))
    mNext)
  (mSeq (mSet 3 (mVar 2))
  (mSeq (mSet 4 (mC (.str (S ""))))
  (mSeq (mIf (mT (m2 fEq (m2 fIx (mBor 0) (mC (.int 0))) (mC (.str (S "mistake")))))
    (mSet 4 (m2 fIx (mBor 0) (mC (.int 2))))
    mNext)
  (mSeq (mIf (mT (m2 fEq (m2 fIx (mBor 0) (mC (.int 0))) (mC (.str (S "double")))))
    (mSet 4 (m2 fAdd (mBor 2) (mBor 2)))
    mNext)
  (mSeq (mIf (mT (m2 fEq (m2 fIx (mBor 0) (mC (.int 0))) (mC (.str (S "merge")))))
    (mSeq (mSet 3 (m2 fAdd (mBor 2) (mBor 2)))
    (mSet 4 (mVar 2)))
    mNext)
  (mSeq (mIf (mT (m2 fEq (m2 fIx (mBor 0) (mC (.int 0))) (mC (.str (S "turn")))))
    (mSeq (mSet 3 (m2 fAdd (mBor 2) (m2 fIx (mBor 0) (mC (.int 2)))))
    (mSet 4 (m2 fAdd (m2 fIx (mBor 0) (mC (.int 2))) (mBor 2))))
    mNext)
  (mSeq (mIf (mT (m2 fEq (m2 fIx (mBor 0) (mC (.int 0))) (mC (.str (S "gloss")))))
    (mSet 4 (m2 fAdd (mBor 2) (m2 fIx (mBor 0) (mC (.int 2)))))
    mNext)
  (mSeq (mIf (mT (m2 fEq (mBor 1) (mBor 3)))
    (mRet (mVar 4))
    mNext)
  (mRet (mC .non))))))))))))
def g__law_written : List D → Option Sl := gOf 5 2 m__law_written
theorem okf__law_written {f : Addr} {fd : FuncData} (F : Fun K "_law_written" "_law_written" s__law_written f fd) (z_len : mg "len" = none) : FnOk P w K mg base CX0 1 f fd ["_law_fault_here", "_law_old"] (spR K g__law_written) := by
  refine fn_ok F sc__law_written (fun cdv A outer s H E hr => ?_)
  have nd := sc__law_written.nd
  unfold m__law_written
  exact
  (rss_cons (rs_set (i := 2) nd (re_ix (hu_of hr) (rb_v 0) (re_b re_int)))
  (rss_cons (rs_if (rt_cmp (op_eqU hr.units) (ok_eq _) (re_b (re_ix (hu_of hr) (rb_v 0) (re_b re_int))) (re_b (re_str "leap")))
    (rss_cons (rs_if (rt_w (rw_and (rt_cmp op_ge (ok_cmp _ _) (re_b (re_cb call_len (ok_len _) (by rfl) z_len PySem.boot_len (rab_cons (rb_v 1) rab_nil))) (re_b re_int)) (rw_and (rt_cmp (op_eqU hr.units) (ok_eq _) (re_b (re_ix (hu_of hr) (rb_v 1) (re_b re_int))) (rb_v 2)) (rw_and (rt_cmp (op_eqU hr.units) (ok_eq _) (re_b (re_ix (hu_of hr) (rb_v 1) (re_b (re_op op_sub (ok_sub _) (re_b (re_cb call_len (ok_len _) (by rfl) z_len PySem.boot_len (rab_cons (rb_v 1) rab_nil))) (re_b re_int))))) (rb_v 2)) (rw_and1 (rt_cmp (op_eqU hr.units) (ok_eq _) (re_b (re_mt PySem.F.slot_str_count PySem.F.type_str_count mt_count (ok_count _) (rb_v 1) (rab_cons (rb_v 2) rab_nil))) (re_b re_int)))))))
      (rss_one (rs_ret (re_v 2)))
      rss_nil)
    (rss_one (rs_ret re_non)))
    rss_nil)
  (rss_cons (rs_set (i := 3) nd (re_v 2))
  (rss_cons (rs_set (i := 4) nd (re_str ""))
  (rss_cons (rs_if (rt_cmp (op_eqU hr.units) (ok_eq _) (re_b (re_ix (hu_of hr) (rb_v 0) (re_b re_int))) (re_b (re_str "mistake")))
    (rss_one (rs_set (i := 4) nd (re_ix (hu_of hr) (rb_v 0) (re_b re_int))))
    rss_nil)
  (rss_cons (rs_if (rt_cmp (op_eqU hr.units) (ok_eq _) (re_b (re_ix (hu_of hr) (rb_v 0) (re_b re_int))) (re_b (re_str "double")))
    (rss_one (rs_set (i := 4) nd (re_op op_addU (ok_add _) (rb_v 2) (rb_v 2))))
    rss_nil)
  (rss_cons (rs_if (rt_cmp (op_eqU hr.units) (ok_eq _) (re_b (re_ix (hu_of hr) (rb_v 0) (re_b re_int))) (re_b (re_str "merge")))
    (rss_cons (rs_set (i := 3) nd (re_op op_addU (ok_add _) (rb_v 2) (rb_v 2)))
    (rss_one (rs_set (i := 4) nd (re_v 2))))
    rss_nil)
  (rss_cons (rs_if (rt_cmp (op_eqU hr.units) (ok_eq _) (re_b (re_ix (hu_of hr) (rb_v 0) (re_b re_int))) (re_b (re_str "turn")))
    (rss_cons (rs_set (i := 3) nd (re_op op_addU (ok_add _) (rb_v 2) (re_b (re_ix (hu_of hr) (rb_v 0) (re_b re_int)))))
    (rss_one (rs_set (i := 4) nd (re_op op_addU (ok_add _) (re_b (re_ix (hu_of hr) (rb_v 0) (re_b re_int))) (rb_v 2)))))
    rss_nil)
  (rss_cons (rs_if (rt_cmp (op_eqU hr.units) (ok_eq _) (re_b (re_ix (hu_of hr) (rb_v 0) (re_b re_int))) (re_b (re_str "gloss")))
    (rss_one (rs_set (i := 4) nd (re_op op_addU (ok_add _) (rb_v 2) (re_b (re_ix (hu_of hr) (rb_v 0) (re_b re_int))))))
    rss_nil)
  (rss_cons (rs_if (rt_cmp (op_eqU hr.units) (ok_eq _) (rb_v 1) (rb_v 3))
    (rss_one (rs_ret (re_v 4)))
    rss_nil)
  (rss_one (rs_ret re_non))))))))))))
theorem ok__law_written {f : Addr} {fd : FuncData} (F : Fun K "_law_written" "_law_written" s__law_written f fd) (hm : mg "_law_written" = some (.ref f)) (hb : Binds K fd ["_law_fault_here", "_law_old"] []) (z_len : mg "len" = none) : Cl P w K mg base "_law_written" 1 ["_law_fault_here", "_law_old"] g__law_written :=
  ⟨f, fd, okf__law_written F z_len, hm, F.kp, hb⟩
/-! ### _law_alike -/
abbrev s__law_alike : Stmt := topS 19
abbrev N__law_alike : List Str := ["_law_answer", "_law_due"]
theorem sc__law_alike : FnScope N__law_alike ["_law_answer", "_law_due"] (defScope s__law_alike) := ⟨rfl, rfl, rfl, by decide +kernel, rfl, by decide +kernel, by decide +kernel⟩
def m__law_alike : MS :=
  (mSeq (mIf (mT (m2 fIs (mBor 1) (mC .non)))
    (mRet (m2 fIs (mBor 0) (mC .non)))
    mNext)
  (mRet (mAndV (mCB fIsi (mCons (mBor 0) (mCons (mC (.ty "str")) mNil))) (m2 fEq (mBor 0) (mBor 1)))))
def g__law_alike : List D → Option Sl := gOf 2 2 m__law_alike
theorem okf__law_alike {f : Addr} {fd : FuncData} (F : Fun K "_law_alike" "_law_alike" s__law_alike f fd) (z_isinstance : mg "isinstance" = none) (z_str : mg "str" = none) : FnOk P w K mg base CX0 1 f fd ["_law_answer", "_law_due"] (spR K g__law_alike) := by
  refine fn_ok F sc__law_alike (fun cdv A outer s H E hr => ?_)
  have nd := sc__law_alike.nd
  unfold m__law_alike
  exact
  (rss_cons (rs_if (rt_cmp op_isU (ok_is _) (rb_v 1) (re_b re_non))
    (rss_one (rs_ret (re_cmp op_isU (ok_is _) (rb_v 0) (re_b re_non))))
    rss_nil)
  (rss_one (rs_ret (re_and (re_cb op_isiU (ok_isi _) (by rfl) z_isinstance (by decide +kernel) (rab_cons (rb_v 0) (rab_cons (re_b (re_ty (n := "str") (by rfl) z_str (by decide +kernel))) rab_nil))) (re_one (re_cmp (op_eqU hr.units) (ok_eq _) (rb_v 0) (rb_v 1)))))))
theorem ok__law_alike {f : Addr} {fd : FuncData} (F : Fun K "_law_alike" "_law_alike" s__law_alike f fd) (hm : mg "_law_alike" = some (.ref f)) (hb : Binds K fd ["_law_answer", "_law_due"] []) (z_isinstance : mg "isinstance" = none) (z_str : mg "str" = none) : Cl P w K mg base "_law_alike" 1 ["_law_answer", "_law_due"] g__law_alike :=
  ⟨f, fd, okf__law_alike F z_isinstance z_str, hm, F.kp, hb⟩
/-! ### _law_judged -/
abbrev s__law_judged : Stmt := topS 20
abbrev N__law_judged : List Str := ["_law_alphabet", "_law_value", "_law_answer"]
theorem sc__law_judged : FnScope N__law_judged ["_law_alphabet", "_law_value"] (defScope s__law_judged) := ⟨rfl, rfl, rfl, by decide +kernel, rfl, by decide +kernel, by decide +kernel⟩
def m__law_judged : MS :=
  (mSeq (mSet 2 (mCall g_is_fault (mCons (mVar 0) (mCons (mVar 1) mNil))))
  (mRet (mAndV (mCB fIsi (mCons (mBor 2) (mCons (mC (.ty "bool")) mNil))) (m2 fEq (mBor 2) (mCall g__law_good (mCons (mVar 0) (mCons (mVar 1) mNil)))))))
def g__law_judged : List D → Option Sl := gOf 3 2 m__law_judged
theorem okf__law_judged {f : Addr} {fd : FuncData} (F : Fun K "_law_judged" "_law_judged" s__law_judged f fd) (z_bool : mg "bool" = none) (z_isinstance : mg "isinstance" = none) (C__law_good : Cl P w K mg base "_law_good" 1 ["_law_alphabet", "_law_value"] g__law_good) (C_is_fault : Cl P w K mg base "is_fault" 6 ["alphabet", "value"] g_is_fault) : FnOk P w K mg base CX0 7 f fd ["_law_alphabet", "_law_value"] (spR K g__law_judged) := by
  refine fn_ok F sc__law_judged (fun cdv A outer s H E hr => ?_)
  have nd := sc__law_judged.nd
  unfold m__law_judged
  exact
  (rss_cons (rs_set (i := 2) nd (re_cl C_is_fault (hr.mono (by decide)) (by rfl) (ra_cons (re_v 0) (ra_cons (re_v 1) ra_nil))))
  (rss_one (rs_ret (re_and (re_cb op_isiU (ok_isi _) (by rfl) z_isinstance (by decide +kernel) (rab_cons (rb_v 2) (rab_cons (re_b (re_ty (n := "bool") (by rfl) z_bool (by decide +kernel))) rab_nil))) (re_one (re_cmp (op_eqU hr.units) (ok_eq _) (rb_v 2) (re_b (re_cl C__law_good (hr.mono (by decide)) (by rfl) (ra_cons (re_v 0) (ra_cons (re_v 1) ra_nil))))))))))
theorem ok__law_judged {f : Addr} {fd : FuncData} (F : Fun K "_law_judged" "_law_judged" s__law_judged f fd) (hm : mg "_law_judged" = some (.ref f)) (hb : Binds K fd ["_law_alphabet", "_law_value"] []) (z_bool : mg "bool" = none) (z_isinstance : mg "isinstance" = none) (C__law_good : Cl P w K mg base "_law_good" 1 ["_law_alphabet", "_law_value"] g__law_good) (C_is_fault : Cl P w K mg base "is_fault" 6 ["alphabet", "value"] g_is_fault) : Cl P w K mg base "_law_judged" 7 ["_law_alphabet", "_law_value"] g__law_judged :=
  ⟨f, fd, okf__law_judged F z_bool z_isinstance C__law_good C_is_fault, hm, F.kp, hb⟩
/-! ### _law_olds -/
abbrev s__law_olds : Stmt := topS 21
abbrev N__law_olds : List Str := ["_law_alphabet", "_law_fault_here", "_law_row", "_law_letters_here", "_law_word", "_law_note", "_law_first", "_law_others", "_law_middle", "_law_at", "_law_planted", "_law_leap", "_law_olds_here", "_law_letter", "_law_k"]
theorem sc__law_olds : FnScope N__law_olds ["_law_alphabet", "_law_fault_here", "_law_row"] (defScope s__law_olds) := ⟨rfl, rfl, rfl, by decide +kernel, rfl, by decide +kernel, by decide +kernel⟩
def m__law_olds : MS :=
  (mSeq (mSet 3 (mC (.str (S "abcdefghijklmnopqrstuvwxyz"))))
  (mSeq (mSet 4 (m2 fIx (mBor 1) (mC (.int 1))))
  (mSeq (mSet 5 (m2 fIx (mBor 1) (m2 fSub (mCB fLen (mCons (mBor 1) mNil)) (mC (.int 2)))))
  (mSeq (mSet 6 (m2 fIx (mBor 4) (mC (.int 0))))
  (mSeq (mSet 7 (mF (mLc (mItems (m2 fIx (mF (mLst (mCons (mVar 0) (mCons (mVar 3) mNil)))) (m2 fIx (mBor 2) (mC (.int 1))))) 13 (mT (m2 fNe (mBor 13) (mBor 6))) (mVar 13))))
  (mSeq (mIf (mT (m2 fEq (mCB fLen (mCons (mBor 7) mNil)) (mC (.int 0))))
    (mSet 7 (mF (mLc (mItems (mVar 3)) 13 (mT (m2 fNe (mBor 13) (mBor 6))) (mVar 13))))
    mNext)
  (mSeq (mSet 8 (mMt fJoin (mC (.str (S ""))) (mCons (mF (mLc (mRng1 (mCons (m2 fIx (mBor 2) (mC (.int 0))) mNil)) 14 mYes (m2 fIx (mBor 7) (m2 fMod (mCB fInt (mCons (m2 fIx (mBor 2) (m2 fAdd (mC (.int 4)) (mBor 14))) mNil)) (mCB fLen (mCons (mBor 7) mNil)))))) mNil)))
  (mSeq (mSet 9 (m2 fMod (mCB fInt (mCons (m2 fIx (mBor 2) (mC (.int 3))) mNil)) (m2 fAdd (mCB fLen (mCons (mBor 8) mNil)) (mC (.int 1)))))
  (mSeq (mSet 10 (m2 fAdd (m2 fAdd (m2 fAdd (m2 fAdd (mBor 6) (mSl (mBor 8) mNo (mPart (mVar 9)))) (mBor 6)) (mSl (mBor 8) (mPart (mVar 9)) mNo)) (mBor 6)))
  (mSeq (mSet 11 (m2 fAdd (m2 fAdd (mBor 6) (mBor 8)) (mBor 6)))
  (mSeq (mSet 12 (mF (mLst (mCons (mVar 4) (mCons (mVar 5) (mCons (m2 fAdd (mBor 4) (mBor 4)) (mCons (m2 fAdd (mBor 4) (mBor 5)) (mCons (m2 fAdd (mBor 5) (mBor 4)) (mCons (m2 fAdd (m2 fAdd (mBor 4) (mBor 4)) (mBor 4)) (mCons (m2 fAdd (mBor 4) (mBor 6)) (mCons (m2 fAdd (mBor 6) (mBor 4)) (mCons (mC (.str (S ""))) (mCons (mVar 6) mNil)))))))))))))
  (mSeq (mSet 12 (m2 fAdd (mBor 12) (mF (mLst (mCons (mSl (mBor 4) (mPart (mC (.int 1))) mNo) (mCons (mSl (mBor 4) mNo (mPart (m2 fSub (mCB fLen (mCons (mBor 4) mNil)) (mC (.int 1))))) (mCons (m2 fAdd (mBor 4) (mSl (mBor 4) (mPart (mC (.int 1))) mNo)) (mCons (mSl (m2 fAdd (mBor 4) (mBor 4)) (mPart (mC (.int 1))) mNo) (mCons (m2 fAdd (mBor 5) (mBor 5)) (mCons (m2 fAdd (m2 fAdd (mBor 4) (mBor 5)) (mBor 4)) mNil))))))))))
  (mRet (m2 fAdd (mBor 12) (mF (mLst (mCons (m2 fAdd (mBor 6) (mBor 6)) (mCons (m2 fMul (mBor 6) (mC (.int 3))) (mCons (mVar 11) (mCons (mVar 10) (mCons (m2 fAdd (mBor 11) (mBor 6)) (mCons (mSl (mBor 11) (mPart (mC (.int 1))) mNo) (mCons (mSl (mBor 11) mNo (mPart (m2 fSub (mCB fLen (mCons (mBor 11) mNil)) (mC (.int 1))))) (mCons (mVar 8) mNil))))))))))))))))))))))))
def g__law_olds : List D → Option Sl := gOf 15 3 m__law_olds
theorem okf__law_olds {f : Addr} {fd : FuncData} (F : Fun K "_law_olds" "_law_olds" s__law_olds f fd) (z_int : mg "int" = none) (z_len : mg "len" = none) (z_range : mg "range" = none) : FnOk P w K mg base CX0 1 f fd ["_law_alphabet", "_law_fault_here", "_law_row"] (spR K g__law_olds) := by
  refine fn_ok F sc__law_olds (fun cdv A outer s H E hr => ?_)
  have nd := sc__law_olds.nd
  unfold m__law_olds
  exact
  (rss_cons (rs_set (i := 3) nd (re_str "abcdefghijklmnopqrstuvwxyz"))
  (rss_cons (rs_set (i := 4) nd (re_ix (hu_of hr) (rb_v 1) (re_b re_int)))
  (rss_cons (rs_set (i := 5) nd (re_ix (hu_of hr) (rb_v 1) (re_b (re_op op_sub (ok_sub _) (re_b (re_cb call_len (ok_len _) (by rfl) z_len PySem.boot_len (rab_cons (rb_v 1) rab_nil))) (re_b re_int)))))
  (rss_cons (rs_set (i := 6) nd (re_ix (hu_of hr) (rb_v 4) (re_b re_int)))
  (rss_cons (rs_set (i := 7) nd (re_f (rf_lc [("_law_letter", 13)] rfl rfl nd (ri_data (re_ix (hu_of hr) (re_b (re_f (rf_lst (ra_cons (re_v 0) (ra_cons (re_v 3) ra_nil))))) (re_b (re_ix (hu_of hr) (rb_v 2) (re_b re_int))))) (blkOk_by (N := N__law_olds) (sc := defScope s__law_olds) (by decide +kernel)) (fun _ _ _ _ _ => pg_name (i := 13) nd rfl (Or.inl rfl)) (fun _ _ _ _ _ => pts_one (rt_cmp (op_neU hr.units) (ok_ne _) (rb_v 13) (rb_v 6))) (fun _ _ _ _ _ => (re_v 13)))))
  (rss_cons (rs_if (rt_cmp (op_eqU hr.units) (ok_eq _) (re_b (re_cb call_len (ok_len _) (by rfl) z_len PySem.boot_len (rab_cons (rb_v 7) rab_nil))) (re_b re_int))
    (rss_one (rs_set (i := 7) nd (re_f (rf_lc [("_law_letter", 13)] rfl rfl nd (ri_data (re_v 3)) (blkOk_by (N := N__law_olds) (sc := defScope s__law_olds) (by decide +kernel)) (fun _ _ _ _ _ => pg_name (i := 13) nd rfl (Or.inl rfl)) (fun _ _ _ _ _ => pts_one (rt_cmp (op_neU hr.units) (ok_ne _) (rb_v 13) (rb_v 6))) (fun _ _ _ _ _ => (re_v 13))))))
    rss_nil)
  (rss_cons (rs_set (i := 8) nd (re_mt PySem.F.slot_str_join PySem.F.type_str_join mt_join (ok_join _) (re_b (re_str "")) (rab_cons (re_b (re_f (rf_lc [("_law_k", 14)] rfl rfl nd (ri_rng1 (by rfl) z_range (ra_cons (re_ix (hu_of hr) (rb_v 2) (re_b re_int)) ra_nil)) (blkOk_by (N := N__law_olds) (sc := defScope s__law_olds) (by decide +kernel)) (fun _ _ _ _ _ => pg_name (i := 14) nd rfl (Or.inl rfl)) (fun _ _ _ _ _ => rts_nil) (fun _ _ _ _ _ => (re_ix (hu_of hr) (rb_v 7) (re_b (re_op op_mod (ok_mod _) (re_b (re_ct call_int1 (ok_int _) (by rfl) z_int (by decide +kernel) (rab_cons (re_b (re_ix (hu_of hr) (rb_v 2) (re_b (re_op op_addU (ok_add _) (re_b re_int) (rb_v 14))))) rab_nil))) (re_b (re_cb call_len (ok_len _) (by rfl) z_len PySem.boot_len (rab_cons (rb_v 7) rab_nil)))))))))) rab_nil)))
  (rss_cons (rs_set (i := 9) nd (re_op op_mod (ok_mod _) (re_b (re_ct call_int1 (ok_int _) (by rfl) z_int (by decide +kernel) (rab_cons (re_b (re_ix (hu_of hr) (rb_v 2) (re_b re_int))) rab_nil))) (re_b (re_op op_addU (ok_add _) (re_b (re_cb call_len (ok_len _) (by rfl) z_len PySem.boot_len (rab_cons (rb_v 8) rab_nil))) (re_b re_int)))))
  (rss_cons (rs_set (i := 10) nd (re_op op_addU (ok_add _) (re_b (re_op op_addU (ok_add _) (re_b (re_op op_addU (ok_add _) (re_b (re_op op_addU (ok_add _) (rb_v 6) (re_b (re_sl (rb_v 8) ro_none (ro_some (re_v 9)))))) (rb_v 6))) (re_b (re_sl (rb_v 8) (ro_some (re_v 9)) ro_none)))) (rb_v 6)))
  (rss_cons (rs_set (i := 11) nd (re_op op_addU (ok_add _) (re_b (re_op op_addU (ok_add _) (rb_v 6) (rb_v 8))) (rb_v 6)))
  (rss_cons (rs_set (i := 12) nd (re_f (rf_lst (ra_cons (re_v 4) (ra_cons (re_v 5) (ra_cons (re_op op_addU (ok_add _) (rb_v 4) (rb_v 4)) (ra_cons (re_op op_addU (ok_add _) (rb_v 4) (rb_v 5)) (ra_cons (re_op op_addU (ok_add _) (rb_v 5) (rb_v 4)) (ra_cons (re_op op_addU (ok_add _) (re_b (re_op op_addU (ok_add _) (rb_v 4) (rb_v 4))) (rb_v 4)) (ra_cons (re_op op_addU (ok_add _) (rb_v 4) (rb_v 6)) (ra_cons (re_op op_addU (ok_add _) (rb_v 6) (rb_v 4)) (ra_cons (re_str "") (ra_cons (re_v 6) ra_nil)))))))))))))
  (rss_cons (rs_set (i := 12) nd (re_op op_addU (ok_add _) (rb_v 12) (re_b (re_f (rf_lst (ra_cons (re_sl (rb_v 4) (ro_some re_int) ro_none) (ra_cons (re_sl (rb_v 4) ro_none (ro_some (re_op op_sub (ok_sub _) (re_b (re_cb call_len (ok_len _) (by rfl) z_len PySem.boot_len (rab_cons (rb_v 4) rab_nil))) (re_b re_int)))) (ra_cons (re_op op_addU (ok_add _) (rb_v 4) (re_b (re_sl (rb_v 4) (ro_some re_int) ro_none))) (ra_cons (re_sl (re_b (re_op op_addU (ok_add _) (rb_v 4) (rb_v 4))) (ro_some re_int) ro_none) (ra_cons (re_op op_addU (ok_add _) (rb_v 5) (rb_v 5)) (ra_cons (re_op op_addU (ok_add _) (re_b (re_op op_addU (ok_add _) (rb_v 4) (rb_v 5))) (rb_v 4)) ra_nil)))))))))))
  (rss_one (rs_ret (re_op op_addU (ok_add _) (rb_v 12) (re_b (re_f (rf_lst (ra_cons (re_op op_addU (ok_add _) (rb_v 6) (rb_v 6)) (ra_cons (re_op op_mulU (ok_mul _) (rb_v 6) (re_b re_int)) (ra_cons (re_v 11) (ra_cons (re_v 10) (ra_cons (re_op op_addU (ok_add _) (rb_v 11) (rb_v 6)) (ra_cons (re_sl (rb_v 11) (ro_some re_int) ro_none) (ra_cons (re_sl (rb_v 11) ro_none (ro_some (re_op op_sub (ok_sub _) (re_b (re_cb call_len (ok_len _) (by rfl) z_len PySem.boot_len (rab_cons (rb_v 11) rab_nil))) (re_b re_int)))) (ra_cons (re_v 8) ra_nil))))))))))))))))))))))))))
theorem ok__law_olds {f : Addr} {fd : FuncData} (F : Fun K "_law_olds" "_law_olds" s__law_olds f fd) (hm : mg "_law_olds" = some (.ref f)) (hb : Binds K fd ["_law_alphabet", "_law_fault_here", "_law_row"] []) (z_int : mg "int" = none) (z_len : mg "len" = none) (z_range : mg "range" = none) : Cl P w K mg base "_law_olds" 1 ["_law_alphabet", "_law_fault_here", "_law_row"] g__law_olds :=
  ⟨f, fd, okf__law_olds F z_int z_len z_range, hm, F.kp, hb⟩
/-! ### law -/
abbrev s_law : Stmt := topS 22
abbrev N_law : List Str := ["_law_script", "_law_alphabet", "_law_sizes", "_law_fault_here", "_law_twin", "_law_values", "_law_k", "_law_row", "_law_at", "_law_less", "_law_olds_here", "_law_turn", "_law_value", "_law_old"]
theorem sc_law : FnScope N_law ["_law_script"] (defScope s_law) := ⟨rfl, rfl, rfl, by decide +kernel, rfl, by decide +kernel, by decide +kernel⟩
def m_law : MS :=
  (mSeq (mSet 1 (mCall g__law_letters (mCons (mCall g__law_digits (mCons (mCall g__law_cell (mCons (mVar 0) (mCons (mC (.int 0)) mNil))) (mCons (mF (mLst (mCons (mC (.int 8)) (mCons (mC (.int 6)) (mCons (mC (.int 4)) (mCons (mC (.int 4)) (mCons (mC (.int 4)) (mCons (mC (.int 4)) (mCons (mC (.int 4)) mNil))))))))) mNil))) mNil)))
  (mSeq (mSet 2 (mF (mLst (mCons (mC (.int 7)) (mCons (mC (.int 3)) (mCons (mC (.int 6)) (mCons (mC (.int 6)) (mCons (mC (.int 6)) (mCons (mC (.int 3)) (mCons (mC (.int 6)) (mCons (mC (.int 6)) (mCons (mC (.int 6)) (mCons (mC (.int 5)) (mCons (mC (.int 99)) mNil))))))))))))))
  (mSeq (mSet 3 (mCall g__law_fault (mCons (mVar 1) (mCons (mCall g__law_digits (mCons (mCall g__law_cell (mCons (mVar 0) (mCons (mC (.int 1)) mNil))) (mCons (mVar 2) mNil))) mNil))))
  (mSeq (mSet 4 (mCall g__law_fault (mCons (mVar 1) (mCons (mCall g__law_digits (mCons (mCall g__law_cell (mCons (mVar 0) (mCons (mC (.int 4)) mNil))) (mCons (mVar 2) mNil))) mNil))))
  (mSeq (mSetF 5 (mLst (mCons (mVar 3) mNil)))
  (mSeq (mFor (mRng1 (mCons (mC (.int 3)) mNil)) (gN 6)
    (mApp 5 (mCall g__law_spoilt (mCons (mVar 1) (mCons (m2 fIx (mF (mLst (mCons (mVar 3) (mCons (mVar 4) mNil)))) (m2 fMod (mBor 6) (mC (.int 2)))) (mCons (mCall g__law_digits (mCons (mCall g__law_cell (mCons (mVar 0) (mCons (m2 fIx (mF (mLst (mCons (mC (.int 2)) (mCons (mC (.int 5)) (mCons (mC (.int 6)) mNil))))) (mBor 6)) mNil))) (mCons (mF (mLst (mCons (mC (.int 12)) (mCons (mC (.int 4)) (mCons (mC (.int 12)) (mCons (mC (.int 10)) (mCons (mC (.int 8)) mNil))))))) mNil))) mNil))))))
  (mSeq (mSet 7 (mCall g__law_digits (mCons (mCall g__law_cell (mCons (mVar 0) (mCons (mC (.int 3)) mNil))) (mCons (m2 fAdd (mF (mLst (mCons (mC (.int 38)) (mCons (mC (.int 2)) (mCons (mC (.int 6)) (mCons (mC (.int 41)) mNil)))))) (m2 fMul (mF (mLst (mCons (mC (.int 26)) mNil))) (mC (.int 37)))) mNil))))
  (mSeq (mSet 8 (m2 fMod (mCB fInt (mCons (m2 fIx (mBor 7) (mC (.int 2))) mNil)) (mCB fLen (mCons (mBor 1) mNil))))
  (mSeq (mSet 9 (m2 fAdd (mSl (mBor 1) mNo (mPart (mVar 8))) (mSl (mBor 1) (mPart (m2 fAdd (mBor 8) (mC (.int 1)))) mNo)))
  (mSeq (mIf (mT (m2 fEq (mCB fLen (mCons (mBor 1) mNil)) (mC (.int 1))))
    (mSet 9 (m2 fIx (mF (mLst (mCons (mC (.str (S "z"))) (mCons (mC (.str (S "y"))) mNil)))) (mCB fInt (mCons (m2 fEq (mBor 1) (mC (.str (S "z")))) mNil))))
    mNext)
  (mSeq (mSet 10 (m2 fAdd (mCall g__law_olds (mCons (mVar 1) (mCons (mVar 3) (mCons (mVar 7) mNil)))) (mCall g__law_olds (mCons (mVar 1) (mCons (mVar 4) (mCons (mVar 7) mNil))))))
  (mSeq (mFor (mRng1 (mCons (mC (.int 2)) mNil)) (gN 11)
    (mSeq (mIf (mOr (mT (m2 fIsNot (mCall g_is_fault (mCons (mVar 1) (mCons (mVar 3) mNil))) (mC (.bl true)))) (mT (m2 fIsNot (mCall g_is_fault (mCons (mVar 1) (mCons (mVar 4) mNil))) (mC (.bl true)))))
      (mRet (mC (.bl false)))
      mNext)
    (mFz 5 (mSeq (mFor (mItems (mVar 5)) (gN 12)
      (mIf (mOr (mNot (mT (mCall g__law_judged (mCons (mVar 1) (mCons (mVar 12) mNil))))) (mNot (mT (mCall g__law_judged (mCons (mVar 9) (mCons (mVar 12) mNil))))))
        (mRet (mC (.bl false)))
        mNext))
    (mFor (mItems (mVar 10)) (gN 13)
      (mSeq (mIf (mNot (mT (mCall g__law_alike (mCons (mCall g_rewritten (mCons (m2 fIx (mF (mLst (mCons (mVar 3) (mCons (mF (mCF fList (mCons (mBor 3) mNil))) mNil)))) (mBor 11)) (mCons (mVar 13) mNil))) (mCons (mCall g__law_written (mCons (mVar 3) (mCons (mVar 13) mNil))) mNil)))))
        (mRet (mC (.bl false)))
        mNext)
      (mIf (mNot (mT (mCall g__law_alike (mCons (mCall g_rewritten (mCons (m2 fIx (mF (mLst (mCons (mF (mCF fList (mCons (mBor 4) mNil))) (mCons (mVar 4) mNil)))) (mBor 11)) (mCons (mVar 13) mNil))) (mCons (mCall g__law_written (mCons (mVar 4) (mCons (mVar 13) mNil))) mNil)))))
        (mRet (mC (.bl false)))
        mNext)))))))
  (mRet (mC (.bl true)))))))))))))))
def g_law : List D → Option Sl := gOf 14 1 m_law
theorem okf_law {f : Addr} {fd : FuncData} (F : Fun K "law" "law" s_law f fd) (z_int : mg "int" = none) (z_len : mg "len" = none) (z_list : mg "list" = none) (z_range : mg "range" = none) (C__law_alike : Cl P w K mg base "_law_alike" 1 ["_law_answer", "_law_due"] g__law_alike) (C__law_cell : Cl P w K mg base "_law_cell" 1 ["_law_script", "_law_k"] g__law_cell) (C__law_digits : Cl P w K mg base "_law_digits" 1 ["_law_cell_here", "_law_sizes"] g__law_digits) (C__law_fault : Cl P w K mg base "_law_fault" 1 ["_law_alphabet", "_law_row"] g__law_fault) (C__law_judged : Cl P w K mg base "_law_judged" 7 ["_law_alphabet", "_law_value"] g__law_judged) (C__law_letters : Cl P w K mg base "_law_letters" 1 ["_law_row"] g__law_letters) (C__law_olds : Cl P w K mg base "_law_olds" 1 ["_law_alphabet", "_law_fault_here", "_law_row"] g__law_olds) (C__law_spoilt : Cl P w K mg base "_law_spoilt" 1 ["_law_alphabet", "_law_value", "_law_row"] g__law_spoilt) (C__law_written : Cl P w K mg base "_law_written" 1 ["_law_fault_here", "_law_old"] g__law_written) (C_is_fault : Cl P w K mg base "is_fault" 6 ["alphabet", "value"] g_is_fault) (C_rewritten : Cl P w K mg base "rewritten" 3 ["fault", "old"] g_rewritten) : FnOk P w K mg base CX0 8 f fd ["_law_script"] (spR K g_law) := by
  refine fn_ok F sc_law (fun cdv A outer s H E hr => ?_)
  have nd := sc_law.nd
  unfold m_law
  exact
  (rss_cons (rs_set (i := 1) nd (re_cl C__law_letters (hr.mono (by decide)) (by rfl) (ra_cons (re_cl C__law_digits (hr.mono (by decide)) (by rfl) (ra_cons (re_cl C__law_cell (hr.mono (by decide)) (by rfl) (ra_cons (re_v 0) (ra_cons re_int ra_nil))) (ra_cons (re_f (rf_lst (ra_cons re_int (ra_cons re_int (ra_cons re_int (ra_cons re_int (ra_cons re_int (ra_cons re_int (ra_cons re_int ra_nil))))))))) ra_nil))) ra_nil)))
  (rss_cons (rs_set (i := 2) nd (re_f (rf_lst (ra_cons re_int (ra_cons re_int (ra_cons re_int (ra_cons re_int (ra_cons re_int (ra_cons re_int (ra_cons re_int (ra_cons re_int (ra_cons re_int (ra_cons re_int (ra_cons re_int ra_nil))))))))))))))
  (rss_cons (rs_set (i := 3) nd (re_cl C__law_fault (hr.mono (by decide)) (by rfl) (ra_cons (re_v 1) (ra_cons (re_cl C__law_digits (hr.mono (by decide)) (by rfl) (ra_cons (re_cl C__law_cell (hr.mono (by decide)) (by rfl) (ra_cons (re_v 0) (ra_cons re_int ra_nil))) (ra_cons (re_v 2) ra_nil))) ra_nil))))
  (rss_cons (rs_set (i := 4) nd (re_cl C__law_fault (hr.mono (by decide)) (by rfl) (ra_cons (re_v 1) (ra_cons (re_cl C__law_digits (hr.mono (by decide)) (by rfl) (ra_cons (re_cl C__law_cell (hr.mono (by decide)) (by rfl) (ra_cons (re_v 0) (ra_cons re_int ra_nil))) (ra_cons (re_v 2) ra_nil))) ra_nil))))
  (rss_cons (rs_setF (i := 5) nd (rf_lst (ra_cons (re_v 3) ra_nil)))
  (rss_cons (rs_for PassesOwn.never rfl (ri_rng1 (by rfl) z_range (ra_cons re_int ra_nil)) (rg_name (i := 6) nd)
    (rss_one (rs_app (i := 5) (re_cl C__law_spoilt (hr.mono (by decide)) (by rfl) (ra_cons (re_v 1) (ra_cons (re_ix (hu_of hr) (re_b (re_f (rf_lst (ra_cons (re_v 3) (ra_cons (re_v 4) ra_nil))))) (re_b (re_op op_mod (ok_mod _) (rb_v 6) (re_b re_int)))) (ra_cons (re_cl C__law_digits (hr.mono (by decide)) (by rfl) (ra_cons (re_cl C__law_cell (hr.mono (by decide)) (by rfl) (ra_cons (re_v 0) (ra_cons (re_ix (hu_of hr) (re_b (re_f (rf_lst (ra_cons re_int (ra_cons re_int (ra_cons re_int ra_nil)))))) (rb_v 6)) ra_nil))) (ra_cons (re_f (rf_lst (ra_cons re_int (ra_cons re_int (ra_cons re_int (ra_cons re_int (ra_cons re_int ra_nil))))))) ra_nil))) ra_nil)))))))
  (rss_cons (rs_set (i := 7) nd (re_cl C__law_digits (hr.mono (by decide)) (by rfl) (ra_cons (re_cl C__law_cell (hr.mono (by decide)) (by rfl) (ra_cons (re_v 0) (ra_cons re_int ra_nil))) (ra_cons (re_op op_addU (ok_add _) (re_b (re_f (rf_lst (ra_cons re_int (ra_cons re_int (ra_cons re_int (ra_cons re_int ra_nil))))))) (re_b (re_op op_mulU (ok_mul _) (re_b (re_f (rf_lst (ra_cons re_int ra_nil)))) (re_b re_int)))) ra_nil))))
  (rss_cons (rs_set (i := 8) nd (re_op op_mod (ok_mod _) (re_b (re_ct call_int1 (ok_int _) (by rfl) z_int (by decide +kernel) (rab_cons (re_b (re_ix (hu_of hr) (rb_v 7) (re_b re_int))) rab_nil))) (re_b (re_cb call_len (ok_len _) (by rfl) z_len PySem.boot_len (rab_cons (rb_v 1) rab_nil)))))
  (rss_cons (rs_set (i := 9) nd (re_op op_addU (ok_add _) (re_b (re_sl (rb_v 1) ro_none (ro_some (re_v 8)))) (re_b (re_sl (rb_v 1) (ro_some (re_op op_addU (ok_add _) (rb_v 8) (re_b re_int))) ro_none))))
  (rss_cons (rs_if (rt_cmp (op_eqU hr.units) (ok_eq _) (re_b (re_cb call_len (ok_len _) (by rfl) z_len PySem.boot_len (rab_cons (rb_v 1) rab_nil))) (re_b re_int))
    (rss_one (rs_set (i := 9) nd (re_ix (hu_of hr) (re_b (re_f (rf_lst (ra_cons (re_str "z") (ra_cons (re_str "y") ra_nil))))) (re_b (re_ct call_int1 (ok_int _) (by rfl) z_int (by decide +kernel) (rab_cons (re_b (re_cmp (op_eqU hr.units) (ok_eq _) (rb_v 1) (re_b (re_str "z")))) rab_nil))))))
    rss_nil)
  (rss_cons (rs_set (i := 10) nd (re_op op_addU (ok_add _) (re_b (re_cl C__law_olds (hr.mono (by decide)) (by rfl) (ra_cons (re_v 1) (ra_cons (re_v 3) (ra_cons (re_v 7) ra_nil))))) (re_b (re_cl C__law_olds (hr.mono (by decide)) (by rfl) (ra_cons (re_v 1) (ra_cons (re_v 4) (ra_cons (re_v 7) ra_nil)))))))
  (rss_cons (rs_for PassesOwn.never rfl (ri_rng1 (by rfl) z_range (ra_cons re_int ra_nil)) (rg_name (i := 11) nd)
    (rss_cons (rs_if (rt_w (rw_or (rt_cmp op_isnotU (ok_isnot _) (re_b (re_cl C_is_fault (hr.mono (by decide)) (by rfl) (ra_cons (re_v 1) (ra_cons (re_v 3) ra_nil)))) (re_b re_bl)) (rw_or1 (rt_cmp op_isnotU (ok_isnot _) (re_b (re_cl C_is_fault (hr.mono (by decide)) (by rfl) (ra_cons (re_v 1) (ra_cons (re_v 4) ra_nil)))) (re_b re_bl)))))
      (rss_one (rs_ret re_bl))
      rss_nil)
    (rss_fz 5 (rss_cons (rs_for PassesOwn.never rfl (ri_data (re_v 5)) (rg_name (i := 12) nd)
      (rss_one (rs_if (rt_w (rw_or (rt_not (rt_val (re_cl C__law_judged (hr.mono (by decide)) (by rfl) (ra_cons (re_v 1) (ra_cons (re_v 12) ra_nil))))) (rw_or1 (rt_not (rt_val (re_cl C__law_judged (hr.mono (by decide)) (by rfl) (ra_cons (re_v 9) (ra_cons (re_v 12) ra_nil))))))))
        (rss_one (rs_ret re_bl))
        rss_nil)))
    (rss_one (rs_for PassesOwn.never rfl (ri_data (re_v 10)) (rg_name (i := 13) nd)
      (rss_cons (rs_if (rt_not (rt_val (re_cl C__law_alike (hr.mono (by decide)) (by rfl) (ra_cons (re_cl C_rewritten (hr.mono (by decide)) (by rfl) (ra_cons (re_ix (hu_of hr) (re_b (re_f (rf_lst (ra_cons (re_v 3) (ra_cons (re_f (rf_list (by rfl) z_list (rab_cons (rb_v 3) rab_nil))) ra_nil))))) (rb_v 11)) (ra_cons (re_v 13) ra_nil))) (ra_cons (re_cl C__law_written (hr.mono (by decide)) (by rfl) (ra_cons (re_v 3) (ra_cons (re_v 13) ra_nil))) ra_nil)))))
        (rss_one (rs_ret re_bl))
        rss_nil)
      (rss_one (rs_if (rt_not (rt_val (re_cl C__law_alike (hr.mono (by decide)) (by rfl) (ra_cons (re_cl C_rewritten (hr.mono (by decide)) (by rfl) (ra_cons (re_ix (hu_of hr) (re_b (re_f (rf_lst (ra_cons (re_f (rf_list (by rfl) z_list (rab_cons (rb_v 4) rab_nil))) (ra_cons (re_v 4) ra_nil))))) (rb_v 11)) (ra_cons (re_v 13) ra_nil))) (ra_cons (re_cl C__law_written (hr.mono (by decide)) (by rfl) (ra_cons (re_v 4) (ra_cons (re_v 13) ra_nil))) ra_nil)))))
        (rss_one (rs_ret re_bl))
        rss_nil)))))))))
  (rss_one (rs_ret re_bl))))))))))))))
theorem ok_law {f : Addr} {fd : FuncData} (F : Fun K "law" "law" s_law f fd) (hm : mg "law" = some (.ref f)) (hb : Binds K fd ["_law_script"] []) (z_int : mg "int" = none) (z_len : mg "len" = none) (z_list : mg "list" = none) (z_range : mg "range" = none) (C__law_alike : Cl P w K mg base "_law_alike" 1 ["_law_answer", "_law_due"] g__law_alike) (C__law_cell : Cl P w K mg base "_law_cell" 1 ["_law_script", "_law_k"] g__law_cell) (C__law_digits : Cl P w K mg base "_law_digits" 1 ["_law_cell_here", "_law_sizes"] g__law_digits) (C__law_fault : Cl P w K mg base "_law_fault" 1 ["_law_alphabet", "_law_row"] g__law_fault) (C__law_judged : Cl P w K mg base "_law_judged" 7 ["_law_alphabet", "_law_value"] g__law_judged) (C__law_letters : Cl P w K mg base "_law_letters" 1 ["_law_row"] g__law_letters) (C__law_olds : Cl P w K mg base "_law_olds" 1 ["_law_alphabet", "_law_fault_here", "_law_row"] g__law_olds) (C__law_spoilt : Cl P w K mg base "_law_spoilt" 1 ["_law_alphabet", "_law_value", "_law_row"] g__law_spoilt) (C__law_written : Cl P w K mg base "_law_written" 1 ["_law_fault_here", "_law_old"] g__law_written) (C_is_fault : Cl P w K mg base "is_fault" 6 ["alphabet", "value"] g_is_fault) (C_rewritten : Cl P w K mg base "rewritten" 3 ["fault", "old"] g_rewritten) : Cl P w K mg base "law" 8 ["_law_script"] g_law :=
  ⟨f, fd, okf_law F z_int z_len z_list z_range C__law_alike C__law_cell C__law_digits C__law_fault C__law_judged C__law_letters C__law_olds C__law_spoilt C__law_written C_is_fault C_rewritten, hm, F.kp, hb⟩
end
end K09
namespace K09
open PySem PySem.Spec PyProof.Rows L2 R
theorem all_mk {P : Program} {w : World} {K : PySem.W.Frag} {h : Heap} {mg : Str → Option Value} {f0 : Addr} {od0 an0 : Option Addr} {sl0 : Array (Option Value)} {oc0 kV0 dc0 pm0 cd0 ct0 : Value} {f1 : Addr} {od1 an1 : Option Addr} {sl1 : Array (Option Value)} {oc1 kV1 dc1 pm1 cd1 ct1 : Value} {f2 : Addr} {od2 an2 : Option Addr} {sl2 : Array (Option Value)} {oc2 kV2 dc2 pm2 cd2 ct2 : Value} {f3 : Addr} {od3 an3 : Option Addr} {sl3 : Array (Option Value)} {oc3 kV3 dc3 pm3 cd3 ct3 : Value} {f4 : Addr} {od4 an4 : Option Addr} {sl4 : Array (Option Value)} {oc4 kV4 dc4 pm4 cd4 ct4 : Value} {f5 : Addr} {od5 an5 : Option Addr} {sl5 : Array (Option Value)} {oc5 kV5 dc5 pm5 cd5 ct5 : Value} {f6 : Addr} {od6 an6 : Option Addr} {sl6 : Array (Option Value)} {oc6 kV6 dc6 pm6 cd6 ct6 : Value} {f7 : Addr} {od7 an7 : Option Addr} {sl7 : Array (Option Value)} {oc7 kV7 dc7 pm7 cd7 ct7 : Value} {f8 : Addr} {od8 an8 : Option Addr} {sl8 : Array (Option Value)} {oc8 kV8 dc8 pm8 cd8 ct8 : Value} {f9 : Addr} {od9 an9 : Option Addr} {sl9 : Array (Option Value)} {oc9 kV9 dc9 pm9 cd9 ct9 : Value} {f10 : Addr} {od10 an10 : Option Addr} {sl10 : Array (Option Value)} {oc10 kV10 dc10 pm10 cd10 ct10 : Value} {f11 : Addr} {od11 an11 : Option Addr} {sl11 : Array (Option Value)} {oc11 kV11 dc11 pm11 cd11 ct11 : Value} {f12 : Addr} {od12 an12 : Option Addr} {sl12 : Array (Option Value)} {oc12 kV12 dc12 pm12 cd12 ct12 : Value} {f13 : Addr} {od13 an13 : Option Addr} {sl13 : Array (Option Value)} {oc13 kV13 dc13 pm13 cd13 ct13 : Value} {f14 : Addr} {od14 an14 : Option Addr} {sl14 : Array (Option Value)} {oc14 kV14 dc14 pm14 cd14 ct14 : Value} {f15 : Addr} {od15 an15 : Option Addr} {sl15 : Array (Option Value)} {oc15 kV15 dc15 pm15 cd15 ct15 : Value} {f16 : Addr} {od16 an16 : Option Addr} {sl16 : Array (Option Value)} {oc16 kV16 dc16 pm16 cd16 ct16 : Value} {f17 : Addr} {od17 an17 : Option Addr} {sl17 : Array (Option Value)} {oc17 kV17 dc17 pm17 cd17 ct17 : Value} {f18 : Addr} {od18 an18 : Option Addr} {sl18 : Array (Option Value)} {oc18 kV18 dc18 pm18 cd18 ct18 : Value} {d_ITEM_COUNTS : Addr} {es_ITEM_COUNTS : Array DictEntry} {n_ITEM_COUNTS : Nat} {fa : Addr} (X : K.In h) (G : h.Ns mainGlobals mg) (hfa : mg "law" = some (.ref fa))
    (a0 : PySem.W.nsIn K mainGlobals "is_text" = some (some (.ref f0)))
    (l0 : K.lookup f0 = some ⟨oc0, od0, .func (PySem.W.fnOf "is_text" "is_text" (defArgs s_is_text) (defBody s_is_text) (defScope s_is_text) .none kV0 dc0 pm0 an0 cd0 ct0), sl0⟩)
    (c0 : PySem.W.codeIn K cd0 "is_text" = true)
    (k0 : PySem.W.keepIn K (.ref f0) = true)
    (a1 : PySem.W.nsIn K mainGlobals "frozen" = some (some (.ref f1)))
    (l1 : K.lookup f1 = some ⟨oc1, od1, .func (PySem.W.fnOf "frozen" "frozen" (defArgs s_frozen) (defBody s_frozen) (defScope s_frozen) .none kV1 dc1 pm1 an1 cd1 ct1), sl1⟩)
    (c1 : PySem.W.codeIn K cd1 "frozen" = true)
    (k1 : PySem.W.keepIn K (.ref f1) = true)
    (a2 : PySem.W.nsIn K mainGlobals "is_letter" = some (some (.ref f2)))
    (l2 : K.lookup f2 = some ⟨oc2, od2, .func (PySem.W.fnOf "is_letter" "is_letter" (defArgs s_is_letter) (defBody s_is_letter) (defScope s_is_letter) .none kV2 dc2 pm2 an2 cd2 ct2), sl2⟩)
    (c2 : PySem.W.codeIn K cd2 "is_letter" = true)
    (k2 : PySem.W.keepIn K (.ref f2) = true)
    (a3 : PySem.W.nsIn K mainGlobals "is_word" = some (some (.ref f3)))
    (l3 : K.lookup f3 = some ⟨oc3, od3, .func (PySem.W.fnOf "is_word" "is_word" (defArgs s_is_word) (defBody s_is_word) (defScope s_is_word) .none kV3 dc3 pm3 an3 cd3 ct3), sl3⟩)
    (c3 : PySem.W.codeIn K cd3 "is_word" = true)
    (k3 : PySem.W.keepIn K (.ref f3) = true)
    (a4 : PySem.W.nsIn K mainGlobals "is_fault" = some (some (.ref f4)))
    (l4 : K.lookup f4 = some ⟨oc4, od4, .func (PySem.W.fnOf "is_fault" "is_fault" (defArgs s_is_fault) (defBody s_is_fault) (defScope s_is_fault) .none kV4 dc4 pm4 an4 cd4 ct4), sl4⟩)
    (c4 : PySem.W.codeIn K cd4 "is_fault" = true)
    (k4 : PySem.W.keepIn K (.ref f4) = true)
    (a5 : PySem.W.nsIn K mainGlobals "exchange" = some (some (.ref f5)))
    (l5 : K.lookup f5 = some ⟨oc5, od5, .func (PySem.W.fnOf "exchange" "exchange" (defArgs s_exchange) (defBody s_exchange) (defScope s_exchange) .none kV5 dc5 pm5 an5 cd5 ct5), sl5⟩)
    (c5 : PySem.W.codeIn K cd5 "exchange" = true)
    (k5 : PySem.W.keepIn K (.ref f5) = true)
    (a6 : PySem.W.nsIn K mainGlobals "piece_at" = some (some (.ref f6)))
    (l6 : K.lookup f6 = some ⟨oc6, od6, .func (PySem.W.fnOf "piece_at" "piece_at" (defArgs s_piece_at) (defBody s_piece_at) (defScope s_piece_at) .none kV6 dc6 pm6 an6 cd6 ct6), sl6⟩)
    (c6 : PySem.W.codeIn K cd6 "piece_at" = true)
    (k6 : PySem.W.keepIn K (.ref f6) = true)
    (a7 : PySem.W.nsIn K mainGlobals "rewritten" = some (some (.ref f7)))
    (l7 : K.lookup f7 = some ⟨oc7, od7, .func (PySem.W.fnOf "rewritten" "rewritten" (defArgs s_rewritten) (defBody s_rewritten) (defScope s_rewritten) .none kV7 dc7 pm7 an7 cd7 ct7), sl7⟩)
    (c7 : PySem.W.codeIn K cd7 "rewritten" = true)
    (k7 : PySem.W.keepIn K (.ref f7) = true)
    (a8 : PySem.W.nsIn K mainGlobals "_law_cell" = some (some (.ref f8)))
    (l8 : K.lookup f8 = some ⟨oc8, od8, .func (PySem.W.fnOf "_law_cell" "_law_cell" (defArgs s__law_cell) (defBody s__law_cell) (defScope s__law_cell) .none kV8 dc8 pm8 an8 cd8 ct8), sl8⟩)
    (c8 : PySem.W.codeIn K cd8 "_law_cell" = true)
    (k8 : PySem.W.keepIn K (.ref f8) = true)
    (a9 : PySem.W.nsIn K mainGlobals "_law_digits" = some (some (.ref f9)))
    (l9 : K.lookup f9 = some ⟨oc9, od9, .func (PySem.W.fnOf "_law_digits" "_law_digits" (defArgs s__law_digits) (defBody s__law_digits) (defScope s__law_digits) .none kV9 dc9 pm9 an9 cd9 ct9), sl9⟩)
    (c9 : PySem.W.codeIn K cd9 "_law_digits" = true)
    (k9 : PySem.W.keepIn K (.ref f9) = true)
    (a10 : PySem.W.nsIn K mainGlobals "_law_letters" = some (some (.ref f10)))
    (l10 : K.lookup f10 = some ⟨oc10, od10, .func (PySem.W.fnOf "_law_letters" "_law_letters" (defArgs s__law_letters) (defBody s__law_letters) (defScope s__law_letters) .none kV10 dc10 pm10 an10 cd10 ct10), sl10⟩)
    (c10 : PySem.W.codeIn K cd10 "_law_letters" = true)
    (k10 : PySem.W.keepIn K (.ref f10) = true)
    (a11 : PySem.W.nsIn K mainGlobals "_law_fault" = some (some (.ref f11)))
    (l11 : K.lookup f11 = some ⟨oc11, od11, .func (PySem.W.fnOf "_law_fault" "_law_fault" (defArgs s__law_fault) (defBody s__law_fault) (defScope s__law_fault) .none kV11 dc11 pm11 an11 cd11 ct11), sl11⟩)
    (c11 : PySem.W.codeIn K cd11 "_law_fault" = true)
    (k11 : PySem.W.keepIn K (.ref f11) = true)
    (a12 : PySem.W.nsIn K mainGlobals "_law_spoilt" = some (some (.ref f12)))
    (l12 : K.lookup f12 = some ⟨oc12, od12, .func (PySem.W.fnOf "_law_spoilt" "_law_spoilt" (defArgs s__law_spoilt) (defBody s__law_spoilt) (defScope s__law_spoilt) .none kV12 dc12 pm12 an12 cd12 ct12), sl12⟩)
    (c12 : PySem.W.codeIn K cd12 "_law_spoilt" = true)
    (k12 : PySem.W.keepIn K (.ref f12) = true)
    (a13 : PySem.W.nsIn K mainGlobals "_law_good" = some (some (.ref f13)))
    (l13 : K.lookup f13 = some ⟨oc13, od13, .func (PySem.W.fnOf "_law_good" "_law_good" (defArgs s__law_good) (defBody s__law_good) (defScope s__law_good) .none kV13 dc13 pm13 an13 cd13 ct13), sl13⟩)
    (c13 : PySem.W.codeIn K cd13 "_law_good" = true)
    (k13 : PySem.W.keepIn K (.ref f13) = true)
    (a14 : PySem.W.nsIn K mainGlobals "_law_written" = some (some (.ref f14)))
    (l14 : K.lookup f14 = some ⟨oc14, od14, .func (PySem.W.fnOf "_law_written" "_law_written" (defArgs s__law_written) (defBody s__law_written) (defScope s__law_written) .none kV14 dc14 pm14 an14 cd14 ct14), sl14⟩)
    (c14 : PySem.W.codeIn K cd14 "_law_written" = true)
    (k14 : PySem.W.keepIn K (.ref f14) = true)
    (a15 : PySem.W.nsIn K mainGlobals "_law_alike" = some (some (.ref f15)))
    (l15 : K.lookup f15 = some ⟨oc15, od15, .func (PySem.W.fnOf "_law_alike" "_law_alike" (defArgs s__law_alike) (defBody s__law_alike) (defScope s__law_alike) .none kV15 dc15 pm15 an15 cd15 ct15), sl15⟩)
    (c15 : PySem.W.codeIn K cd15 "_law_alike" = true)
    (k15 : PySem.W.keepIn K (.ref f15) = true)
    (a16 : PySem.W.nsIn K mainGlobals "_law_judged" = some (some (.ref f16)))
    (l16 : K.lookup f16 = some ⟨oc16, od16, .func (PySem.W.fnOf "_law_judged" "_law_judged" (defArgs s__law_judged) (defBody s__law_judged) (defScope s__law_judged) .none kV16 dc16 pm16 an16 cd16 ct16), sl16⟩)
    (c16 : PySem.W.codeIn K cd16 "_law_judged" = true)
    (k16 : PySem.W.keepIn K (.ref f16) = true)
    (a17 : PySem.W.nsIn K mainGlobals "_law_olds" = some (some (.ref f17)))
    (l17 : K.lookup f17 = some ⟨oc17, od17, .func (PySem.W.fnOf "_law_olds" "_law_olds" (defArgs s__law_olds) (defBody s__law_olds) (defScope s__law_olds) .none kV17 dc17 pm17 an17 cd17 ct17), sl17⟩)
    (c17 : PySem.W.codeIn K cd17 "_law_olds" = true)
    (k17 : PySem.W.keepIn K (.ref f17) = true)
    (a18 : PySem.W.nsIn K mainGlobals "law" = some (some (.ref f18)))
    (l18 : K.lookup f18 = some ⟨oc18, od18, .func (PySem.W.fnOf "law" "law" (defArgs s_law) (defBody s_law) (defScope s_law) .none kV18 dc18 pm18 an18 cd18 ct18), sl18⟩)
    (c18 : PySem.W.codeIn K cd18 "law" = true)
    (k18 : PySem.W.keepIn K (.ref f18) = true)
    (z_bool : PySem.W.nsIn K mainGlobals "bool" = some none)
    (z_int : PySem.W.nsIn K mainGlobals "int" = some none)
    (z_isinstance : PySem.W.nsIn K mainGlobals "isinstance" = some none)
    (z_len : PySem.W.nsIn K mainGlobals "len" = some none)
    (z_list : PySem.W.nsIn K mainGlobals "list" = some none)
    (z_max : PySem.W.nsIn K mainGlobals "max" = some none)
    (z_range : PySem.W.nsIn K mainGlobals "range" = some none)
    (z_str : PySem.W.nsIn K mainGlobals "str" = some none)
    (z_tuple : PySem.W.nsIn K mainGlobals "tuple" = some none)
    (mg_ITEM_COUNTS : PySem.W.nsIn K mainGlobals "ITEM_COUNTS" = some (some (.ref d_ITEM_COUNTS)))
    (hd_ITEM_COUNTS : K.lookup d_ITEM_COUNTS = some ⟨.type "dict", none, .dict es_ITEM_COUNTS n_ITEM_COUNTS, #[]⟩)
    (he_ITEM_COUNTS : EntOk w es_ITEM_COUNTS.toList kv_ITEM_COUNTS)
    (lo_ITEM_COUNTS : (d_ITEM_COUNTS == sysModules) = false) :
    ∃ fd : FuncData, (∀ (s : Shared) (v : Value), BindsTo s fd ⟨[v], []⟩ [("_law_script", v)]) ∧ ∀ base : Heap, K.In base → base.Ns mainGlobals mg → FnOk P w K mg base CX0 8 fa fd ["_law_script"] (spR K g_law) := by
  have G_ITEM_COUNTS := gd_mk hd_ITEM_COUNTS he_ITEM_COUNTS lo_ITEM_COUNTS
  have e := hfa.symm.trans (PySem.W.mg_of X G a18)
  cases e
  have F0 := fun_mk (st := s_is_text) l0 c0 k0
  have b0 := F0.binds (ps := ["alphabet", "value"]) fun _ _ _ _ _ _ us hl => match us, hl with | [_, _], _ => rfl
  have F1 := fun_mk (st := s_frozen) l1 c1 k1
  have b1 := F1.binds (ps := ["value"]) fun _ _ _ _ _ _ us hl => match us, hl with | [_], _ => rfl
  have F2 := fun_mk (st := s_is_letter) l2 c2 k2
  have b2 := F2.binds (ps := ["alphabet", "value"]) fun _ _ _ _ _ _ us hl => match us, hl with | [_, _], _ => rfl
  have F3 := fun_mk (st := s_is_word) l3 c3 k3
  have b3 := F3.binds (ps := ["alphabet", "value"]) fun _ _ _ _ _ _ us hl => match us, hl with | [_, _], _ => rfl
  have F4 := fun_mk (st := s_is_fault) l4 c4 k4
  have b4 := F4.binds (ps := ["alphabet", "value"]) fun _ _ _ _ _ _ us hl => match us, hl with | [_, _], _ => rfl
  have F5 := fun_mk (st := s_exchange) l5 c5 k5
  have b5 := F5.binds (ps := ["fault"]) fun _ _ _ _ _ _ us hl => match us, hl with | [_], _ => rfl
  have F6 := fun_mk (st := s_piece_at) l6 c6 k6
  have b6 := F6.binds (ps := ["fault", "text", "place"]) fun _ _ _ _ _ _ us hl => match us, hl with | [_, _, _], _ => rfl
  have F7 := fun_mk (st := s_rewritten) l7 c7 k7
  have b7 := F7.binds (ps := ["fault", "old"]) fun _ _ _ _ _ _ us hl => match us, hl with | [_, _], _ => rfl
  have F8 := fun_mk (st := s__law_cell) l8 c8 k8
  have b8 := F8.binds (ps := ["_law_script", "_law_k"]) fun _ _ _ _ _ _ us hl => match us, hl with | [_, _], _ => rfl
  have F9 := fun_mk (st := s__law_digits) l9 c9 k9
  have b9 := F9.binds (ps := ["_law_cell_here", "_law_sizes"]) fun _ _ _ _ _ _ us hl => match us, hl with | [_, _], _ => rfl
  have F10 := fun_mk (st := s__law_letters) l10 c10 k10
  have b10 := F10.binds (ps := ["_law_row"]) fun _ _ _ _ _ _ us hl => match us, hl with | [_], _ => rfl
  have F11 := fun_mk (st := s__law_fault) l11 c11 k11
  have b11 := F11.binds (ps := ["_law_alphabet", "_law_row"]) fun _ _ _ _ _ _ us hl => match us, hl with | [_, _], _ => rfl
  have F12 := fun_mk (st := s__law_spoilt) l12 c12 k12
  have b12 := F12.binds (ps := ["_law_alphabet", "_law_value", "_law_row"]) fun _ _ _ _ _ _ us hl => match us, hl with | [_, _, _], _ => rfl
  have F13 := fun_mk (st := s__law_good) l13 c13 k13
  have b13 := F13.binds (ps := ["_law_alphabet", "_law_value"]) fun _ _ _ _ _ _ us hl => match us, hl with | [_, _], _ => rfl
  have F14 := fun_mk (st := s__law_written) l14 c14 k14
  have b14 := F14.binds (ps := ["_law_fault_here", "_law_old"]) fun _ _ _ _ _ _ us hl => match us, hl with | [_, _], _ => rfl
  have F15 := fun_mk (st := s__law_alike) l15 c15 k15
  have b15 := F15.binds (ps := ["_law_answer", "_law_due"]) fun _ _ _ _ _ _ us hl => match us, hl with | [_, _], _ => rfl
  have F16 := fun_mk (st := s__law_judged) l16 c16 k16
  have b16 := F16.binds (ps := ["_law_alphabet", "_law_value"]) fun _ _ _ _ _ _ us hl => match us, hl with | [_, _], _ => rfl
  have F17 := fun_mk (st := s__law_olds) l17 c17 k17
  have b17 := F17.binds (ps := ["_law_alphabet", "_law_fault_here", "_law_row"]) fun _ _ _ _ _ _ us hl => match us, hl with | [_, _, _], _ => rfl
  have F18 := fun_mk (st := s_law) l18 c18 k18
  have b18 := F18.binds (ps := ["_law_script"]) fun _ _ _ _ _ _ us hl => match us, hl with | [_], _ => rfl
  refine ⟨PySem.W.fnOf "law" "law" (defArgs s_law) (defBody s_law) (defScope s_law) .none kV18 dc18 pm18 an18 cd18 ct18, fun s v => .of_eq rfl, fun base _ _ => ?_⟩
  have C_is_text := ok_is_text (P := P) (w := w) (base := base) F0 (PySem.W.mg_of X G a0) b0
  have C_frozen := ok_frozen (P := P) (w := w) (base := base) F1 (PySem.W.mg_of X G a1) b1 (PySem.W.mg_none_of X G z_isinstance) (PySem.W.mg_none_of X G z_list) (PySem.W.mg_none_of X G z_tuple) 4
  have C_is_letter := ok_is_letter (P := P) (w := w) (base := base) F2 (PySem.W.mg_of X G a2) b2 (PySem.W.mg_none_of X G z_len)
  have C_is_word := ok_is_word (P := P) (w := w) (base := base) F3 (PySem.W.mg_of X G a3) b3 (PySem.W.mg_none_of X G z_len) C_is_text
  have C_is_fault := ok_is_fault (P := P) (w := w) (base := base) F4 (PySem.W.mg_of X G a4) b4 (PySem.W.mg_none_of X G z_len) G_ITEM_COUNTS (PySem.W.mg_of X G mg_ITEM_COUNTS) C_frozen C_is_letter C_is_word
  have C_exchange := ok_exchange (P := P) (w := w) (base := base) F5 (PySem.W.mg_of X G a5) b5
  have C_piece_at := ok_piece_at (P := P) (w := w) (base := base) F6 (PySem.W.mg_of X G a6) b6 (PySem.W.mg_none_of X G z_len) C_exchange
  have C_rewritten := ok_rewritten (P := P) (w := w) (base := base) F7 (PySem.W.mg_of X G a7) b7 (PySem.W.mg_none_of X G z_len) C_exchange C_piece_at
  have C__law_cell := ok__law_cell (P := P) (w := w) (base := base) F8 (PySem.W.mg_of X G a8) b8 (PySem.W.mg_none_of X G z_int) (PySem.W.mg_none_of X G z_len)
  have C__law_digits := ok__law_digits (P := P) (w := w) (base := base) F9 (PySem.W.mg_of X G a9) b9 (PySem.W.mg_none_of X G z_int) (PySem.W.mg_none_of X G z_len) (PySem.W.mg_none_of X G z_range)
  have C__law_letters := ok__law_letters (P := P) (w := w) (base := base) F10 (PySem.W.mg_of X G a10) b10 (PySem.W.mg_none_of X G z_range)
  have C__law_fault := ok__law_fault (P := P) (w := w) (base := base) F11 (PySem.W.mg_of X G a11) b11 (PySem.W.mg_none_of X G z_int) (PySem.W.mg_none_of X G z_len) (PySem.W.mg_none_of X G z_max) (PySem.W.mg_none_of X G z_range)
  have C__law_spoilt := ok__law_spoilt (P := P) (w := w) (base := base) F12 (PySem.W.mg_of X G a12) b12 (PySem.W.mg_none_of X G z_int) (PySem.W.mg_none_of X G z_len)
  have C__law_good := ok__law_good (P := P) (w := w) (base := base) F13 (PySem.W.mg_of X G a13) b13 (PySem.W.mg_none_of X G z_len)
  have C__law_written := ok__law_written (P := P) (w := w) (base := base) F14 (PySem.W.mg_of X G a14) b14 (PySem.W.mg_none_of X G z_len)
  have C__law_alike := ok__law_alike (P := P) (w := w) (base := base) F15 (PySem.W.mg_of X G a15) b15 (PySem.W.mg_none_of X G z_isinstance) (PySem.W.mg_none_of X G z_str)
  have C__law_judged := ok__law_judged (P := P) (w := w) (base := base) F16 (PySem.W.mg_of X G a16) b16 (PySem.W.mg_none_of X G z_bool) (PySem.W.mg_none_of X G z_isinstance) C__law_good C_is_fault
  have C__law_olds := ok__law_olds (P := P) (w := w) (base := base) F17 (PySem.W.mg_of X G a17) b17 (PySem.W.mg_none_of X G z_int) (PySem.W.mg_none_of X G z_len) (PySem.W.mg_none_of X G z_range)
  exact okf_law F18 (PySem.W.mg_none_of X G z_int) (PySem.W.mg_none_of X G z_len) (PySem.W.mg_none_of X G z_list) (PySem.W.mg_none_of X G z_range) C__law_alike C__law_cell C__law_digits C__law_fault C__law_judged C__law_letters C__law_olds C__law_spoilt C__law_written C_is_fault C_rewritten
end K09
open PySem L2 R
local macro_rules | `(tactic| walk_at "ev") => `(tactic| simp only [r_g1, r_g2, r_g3, r_g4, r_seq, r_if, r_set, r_setF, r_ret, r_retF, r_retO, r_app, r_for, r_par, r_next, r_fz, r_var, r_bor, r_c, r_2, r_1, r_cb, r_cf, r_nil, r_cons, r_t, r_and, r_or, r_not, r_andV, r_orV, r_notV, r_neg, r_ife, r_chain, r_tup, r_lst, r_f, r_no, r_part, r_sl, r_call, r_callF, r_mt, r_items, r_rng1, r_rng2, r_lc, r_yes, r_gN,
  b_nx, b_ret, b_brk, b_cnt, i_t, i_f, v_set, v_setF, v_ret, v_retF, v_retS, v_app, v_for, v_par, v_var, v_bor, v_borO, v_2, v_1, v_L, v_LF, v_cons, v_t, v_andT, v_andF, v_orT, v_orF, v_not, v_andVT, v_andVF, v_orVT, v_orVF, v_notV, v_neg, v_ifT, v_ifF, v_chT, v_chF, v_tup, v_lst, v_f, v_part, v_sl, v_mt, v_items, it_str, it_lst, it_lsk, it_tup, v_rng1, v_lc, f_ret, f_nx, sd_d, sd_o, sl_simp, sl_lt, at0, at1, at2, at3, at4, atl3, atl4, fEq_str, fNe_str, fEq_int, fNe_int, fEq_bl, fNe_non_str, dS, fCmp_int, fAdd_int, fSub_int, fInt_int, fLen_lst, fLen_lsk, fLen_tup, fIx_tup, fIx_lst, fIx_lsk,
  R.envOf, List.map_cons, List.map_nil, List.length_cons, List.length_nil, List.replicate, List.cons_append, List.nil_append, List.append_nil, List.getElem?_cons_zero, List.getElem?_cons_succ, List.set_cons_zero, List.set_cons_succ, Nat.reduceAdd, Nat.reduceSub, Nat.zero_add, if_true, if_false, reduceIte, reduceCtorEq, Nat.sub_self, Nat.reduceLeDiff, Nat.reduceLT, String.reduceEq, decide_true, decide_false, Bool.not_true, Bool.not_false, Int.reduceEq, Int.reduceLE, Int.reduceLT, Int.reduceNeg, Int.reduceAdd, Int.reduceSub, Int.cast_ofNat_Int, Int.natCast_add])
local macro_rules | `(tactic| walk_at "evh") => `(tactic| simp only [r_g1, r_g2, r_g3, r_g4, r_seq, r_if, r_set, r_setF, r_ret, r_retF, r_retO, r_app, r_for, r_par, r_next, r_fz, r_var, r_bor, r_c, r_2, r_1, r_cb, r_cf, r_nil, r_cons, r_t, r_and, r_or, r_not, r_andV, r_orV, r_notV, r_neg, r_ife, r_chain, r_tup, r_lst, r_f, r_no, r_part, r_sl, r_call, r_callF, r_mt, r_items, r_rng1, r_rng2, r_lc, r_yes, r_gN,
  b_nx, b_ret, b_brk, b_cnt, i_t, i_f, v_set, v_setF, v_ret, v_retF, v_retS, v_app, v_for, v_par, v_var, v_bor, v_borO, v_2, v_1, v_L, v_LF, v_cons, v_t, v_andT, v_andF, v_orT, v_orF, v_not, v_andVT, v_andVF, v_orVT, v_orVF, v_notV, v_neg, v_ifT, v_ifF, v_chT, v_chF, v_tup, v_lst, v_f, v_part, v_sl, v_mt, v_items, it_str, it_lst, it_lsk, it_tup, v_rng1, v_lc, f_ret, f_nx, sd_d, sd_o, sl_simp, sl_lt, at0, at1, at2, at3, at4, atl3, atl4, fEq_str, fNe_str, fEq_int, fNe_int, fEq_bl, fNe_non_str, dS, fCmp_int, fAdd_int, fSub_int, fInt_int, fLen_lst, fLen_lsk, fLen_tup, fIx_tup, fIx_lst, fIx_lsk,
  R.envOf, List.map_cons, List.map_nil, List.length_cons, List.length_nil, List.replicate, List.cons_append, List.nil_append, List.append_nil, List.getElem?_cons_zero, List.getElem?_cons_succ, List.set_cons_zero, List.set_cons_succ, Nat.reduceAdd, Nat.reduceSub, Nat.zero_add, if_true, if_false, reduceIte, reduceCtorEq, Nat.sub_self, Nat.reduceLeDiff, Nat.reduceLT, String.reduceEq, decide_true, decide_false, Bool.not_true, Bool.not_false, Int.reduceEq, Int.reduceLE, Int.reduceLT, Int.reduceNeg, Int.reduceAdd, Int.reduceSub, Int.cast_ofNat_Int, Int.natCast_add, *])
namespace K09
open PySem L2 R
def isT (al v : List Nat) : Bool := v.all fun c => decide (c ∈ al)
theorem is_text_eq (al v : List Nat) : g_is_text [.str al, .str v] = some (.d (.bl (isT al v))) := by
  unfold g_is_text m_is_text
  walk_at "ev"
  let P : Slots → Prop := fun ρ => ∃ x, ρ = [some (.d (.str al)), some (.d (.str v)), x]
  have good : ∀ (c : Nat) (ρ : Slots), c ∈ al → P ρ → ∃ ρ1 ρ2, gN 2 (.str [c]) ρ = some ρ1 ∧ (mIf (mT (m2 fNotIn (mBor 2) (mBor 0))) (mRet (mC (.bl false))) mNext) ρ1 = .nx ρ2 ∧ P ρ2 := by
    rintro c _ hc ⟨x, rfl⟩
    refine ⟨_, _, rfl, ?_, ⟨some (.d (.str [c])), rfl⟩⟩
    refine if_ff ?_
    have e : fNotIn (.str [c]) (.str al) = some (.bl false) := by simp [fNotIn, inB, hc]
    walk_at "evh"
  cases h : isT al v with
  | true =>
    unfold isT at h
    rw [List.all_eq_true] at h
    obtain ⟨ρ', h1, _⟩ := for_thru (mg := gN 2) (b := mIf (mT (m2 fNotIn (mBor 2) (mBor 0))) (mRet (mC (.bl false))) mNext) (xs := v.map fun c => D.str [c]) (ρ := [some (.d (.str al)), some (.d (.str v)), none]) P ⟨none, rfl⟩ (fun x ρ hx hp => by
      obtain ⟨c, hc, rfl⟩ := List.mem_map.mp hx
      exact good c ρ (of_decide_eq_true (h c hc)) hp)
    rw [h1]
    rfl
  | false =>
    unfold isT at h
    obtain ⟨pre, c, post, e1, e2, e3⟩ := first_bad _ v h
    have := for_ret (mg := gN 2) (b := mIf (mT (m2 fNotIn (mBor 2) (mBor 0))) (mRet (mC (.bl false))) mNext) (s := .d (.bl false)) P (pre.map fun c => D.str [c]) (.str [c]) (post.map fun c => D.str [c]) [some (.d (.str al)), some (.d (.str v)), none] ⟨none, rfl⟩ (fun x ρ hx hp => by
      obtain ⟨c, hc, rfl⟩ := List.mem_map.mp hx
      exact good c ρ (of_decide_eq_true (e2 c hc)) hp) (fun ρ hp => by
      obtain ⟨x, rfl⟩ := hp
      refine ⟨_, rfl, ?_⟩
      have hc : c ∉ al := of_decide_eq_false e3
      have e : fNotIn (.str [c]) (.str al) = some (.bl true) := by simp [fNotIn, inB, hc]
      refine (if_tt ?_).trans rfl
      walk_at "evh")
    rw [← List.map_cons (f := fun c => D.str [c]), ← List.map_append, ← e1] at this
    rw [this]
    rfl
def isL (al v : List Nat) : Bool := match v with | [c] => decide (c ∈ al) | _ => false
theorem is_letter_eq (al v : List Nat) (hv : v.length ≤ 100000) : g_is_letter [.str al, .str v] = some (.d (.bl (isL al v))) := by
  have hl := fLen_str hv
  unfold g_is_letter m_is_letter
  walk_at "evh"
  cases v with
  | nil => rfl
  | cons c r =>
    cases r with
    | nil =>
      have e : fIn (.str [c]) (.str al) = some (.bl (decide (c ∈ al))) := rfl
      walk_at "evh"
      rfl
    | cons d r =>
      have : decide (((c :: d :: r).length : Int) = 1) = false := decide_eq_false (by simp only [List.length_cons]; omega)
      walk_at "evh"
      rfl
def isW (al v : List Nat) : Bool := decide (1 ≤ v.length) && decide (v.length ≤ 3) && isT al v
theorem is_word_eq (al v : List Nat) (hv : v.length ≤ 100000) : g_is_word [.str al, .str v] = some (.d (.bl (isW al v))) := by
  have hl := fLen_str hv
  have ht := v_call (is_text_eq al v)
  unfold isW
  unfold g_is_word m_is_word
  by_cases h1 : 1 ≤ v.length
  · have e1 : decide ((1 : Int) ≤ (v.length : Int)) = true := decide_eq_true (by omega)
    by_cases h2 : v.length ≤ 3
    · have e2 : decide ((v.length : Int) ≤ 3) = true := decide_eq_true (by omega)
      rw [decide_eq_true h1, decide_eq_true h2, Bool.true_and, Bool.true_and]
      clear h1 h2
      walk_at "evh"
    · have e2 : decide ((v.length : Int) ≤ 3) = false := decide_eq_false (by omega)
      rw [decide_eq_true h1, decide_eq_false h2, Bool.true_and, Bool.false_and]
      clear h1 h2
      walk_at "evh"
  · have e1 : decide ((1 : Int) ≤ (v.length : Int)) = false := decide_eq_false (by omega)
    rw [decide_eq_false h1, Bool.false_and, Bool.false_and]
    clear h1
    walk_at "evh"
/-! frozen -/
/-- flat data, or a tuple of flat data -/
def calm : D → Bool
  | .tup xs => xs.all flatD
  | d => flatD d
theorem isi_flat {d : D} (h : flatD d = true) : fIsi [d, .tup [.ty "list", .ty "tuple"]] = some (.bl false) := by
  cases d <;> first | (cases h; done) | skip
  · show (match kitAll "NoneType" ["list", "tuple"] with | some b => some (D.bl b) | none => none) = _
    have : kitAll "NoneType" ["list", "tuple"] = some false := by decide +kernel
    rw [this]
  · show (match kitAll "bool" ["list", "tuple"] with | some b => some (D.bl b) | none => none) = _
    have : kitAll "bool" ["list", "tuple"] = some false := by decide +kernel
    rw [this]
  · show (match kitAll "int" ["list", "tuple"] with | some b => some (D.bl b) | none => none) = _
    have : kitAll "int" ["list", "tuple"] = some false := by decide +kernel
    rw [this]
  · show (match kitAll "str" ["list", "tuple"] with | some b => some (D.bl b) | none => none) = _
    have : kitAll "str" ["list", "tuple"] = some false := by decide +kernel
    rw [this]
theorem isi_tup (xs : List D) : fIsi [.tup xs, .tup [.ty "list", .ty "tuple"]] = some (.bl true) := by
  show (match kitAll "tuple" ["list", "tuple"] with | some b => some (D.bl b) | none => none) = _
  have : kitAll "tuple" ["list", "tuple"] = some true := by decide +kernel
  rw [this]
theorem frozen_flat {d : D} (h : flatD d = true) (n : Nat) : g_frozen (n + 1) [d] = some (.d d) := by
  have e := isi_flat h
  unfold g_frozen
  walk_at "evh"
theorem map_self {xs : List D} : xs.map (fun d => d) = xs := List.map_id' xs
theorem frozen_tup {xs : List D} {n : Nat} (hl : xs.length ≤ 100000) (h : ∀ d ∈ xs, g_frozen n [d] = some (.d d)) : g_frozen (n + 1) [.tup xs] = some (.d (.tup xs)) := by
  have e := isi_tup xs
  have e2 : lcGo 1 mYes (mCall (g_frozen n) (mCons (mVar 1) mNil)) [some (.d (.tup xs)), none] xs = some xs := by
    rw [lc_map (fun d => d) xs (fun d hd => by
      have := v_call (h d hd)
      walk_at "ev"
      rw [this]
      rfl), map_self]
  have e3 : fTuple [.lst xs] = some (.tup xs) := rfl
  have e4 := sl_ok _ hl
  clear h hl
  unfold g_frozen
  walk_at "evh"
theorem frozen_calm {d : D} (h : calm d = true) (hl : ∀ xs, d = .tup xs → xs.length ≤ 100000) : g_frozen 3 [d] = some (.d d) := by
  cases d with
  | tup xs =>
    refine frozen_tup (hl xs rfl) fun d hd => ?_
    exact frozen_flat (List.all_eq_true.mp h d hd) 1
  | non => exact frozen_flat rfl 2
  | bl _ => exact frozen_flat rfl 2
  | int _ => exact frozen_flat rfl 2
  | str _ => exact frozen_flat rfl 2
  | lst _ => cases h
  | lsk _ => cases h
  | dct _ _ => cases h
  | ty _ => cases h
theorem frozen_val {xs : List D} (hl : xs.length ≤ 100) (h : ∀ d ∈ xs, calm d = true ∧ ∀ ys, d = .tup ys → ys.length ≤ 100000) : g_frozen 4 [.tup xs] = some (.d (.tup xs)) :=
  frozen_tup (by omega) fun d hd => frozen_calm (h d hd).1 (h d hd).2
end K09
namespace K09
open PySem L2 R
inductive Kd where
  | mistake | omit | double | merge | turn | gloss | leap
def kn : Kd → String
  | .mistake => "mistake"
  | .omit => "omit"
  | .double => "double"
  | .merge => "merge"
  | .turn => "turn"
  | .gloss => "gloss"
  | .leap => "leap"
def four : Kd → Bool
  | .mistake => true
  | .turn => true
  | .gloss => true
  | _ => false
theorem lk (k : Kd) : kv_ITEM_COUNTS.lookup (S (kn k)) = some (if four k = true then 4 else 3) := by cases k <;> decide +kernel
def good3 (k : Kd) (al s : List Nat) (p : Int) : Bool := decide (1 ≤ p) && decide (p ≤ 99) && (match k with | .leap => isL al s | _ => isW al s)
def good4 (k : Kd) (al s t : List Nat) (p : Int) : Bool := decide (1 ≤ p) && decide (p ≤ 99) && (match k with | .gloss => isW al s && isW al t | _ => isL al s && (isL al t && !decide (s = t)))
theorem flat_ok {d : D} (h : flatD d = true) : calm d = true ∧ ∀ ys, d = .tup ys → ys.length ≤ 100000 := by
  cases d <;> first | (cases h; done) | exact ⟨rfl, fun _ e => nomatch e⟩
theorem fz3 (k s : List Nat) (p : Int) : g_frozen 4 [.tup [.str k, .str s, .int p]] = some (.d (.tup [.str k, .str s, .int p])) := frozen_val (by simp) (by
  intro d hd
  apply flat_ok
  simp only [List.mem_cons, List.not_mem_nil, or_false] at hd
  rcases hd with rfl | rfl | rfl <;> rfl)
theorem fz4 (k s t : List Nat) (p : Int) : g_frozen 4 [.tup [.str k, .str s, .str t, .int p]] = some (.d (.tup [.str k, .str s, .str t, .int p])) := frozen_val (by simp) (by
  intro d hd
  apply flat_ok
  simp only [List.mem_cons, List.not_mem_nil, or_false] at hd
  rcases hd with rfl | rfl | rfl | rfl <;> rfl)
theorem gin (k : Kd) : fGIn kv_ITEM_COUNTS true (.str (S (kn k))) = some (.bl false) := by
  show some (D.bl (!(kv_ITEM_COUNTS.lookup (S (kn k))).isSome)) = _
  rw [lk]
  rfl
theorem gix (k : Kd) : fGIx kv_ITEM_COUNTS (.str (S (kn k))) = some (.int (if four k = true then 4 else 3)) := by
  show (match kv_ITEM_COUNTS.lookup (S (kn k)) with | some i => some (D.int i) | none => none) = _
  rw [lk]
theorem is_fault3 (k : Kd) (al s : List Nat) (p : Int) (h : four k = false) (hs : s.length ≤ 1000) : g_is_fault [.str al, .tup [.str (S (kn k)), .str s, .int p]] = some (.d (.bl (good3 k al s p))) := by
  have hf := v_call (fz3 (S (kn k)) s p)
  have h1 := gin k
  have h2 := gix k
  have h3 := v_call (is_letter_eq al s (by omega))
  have h4 := v_call (is_word_eq al s (by omega))
  rw [sd_d] at hf h3 h4
  clear hs
  unfold g_is_fault m_is_fault good3
  by_cases p1 : 1 ≤ p
  · by_cases p2 : p ≤ 99
    · have e1 := decide_eq_true p1
      have e2 := decide_eq_true p2
      rw [e1, e2]
      clear p1 p2
      cases k <;> first | (cases h; done) | skip
      all_goals
        simp only [kn, four] at hf h1 h2 ⊢
        clear h
        walk_at "evh"
        first | done | rfl | simp
    · have e1 := decide_eq_true p1
      have e2 := decide_eq_false p2
      rw [e1, e2]
      rw [h] at h2
      clear p1 p2
      walk_at "evh"
      simp
  · have e1 := decide_eq_false p1
    rw [e1]
    clear p1
    rw [h] at h2
    walk_at "evh"
    simp
theorem is_fault4 (k : Kd) (al s t : List Nat) (p : Int) (h : four k = true) (hs : s.length ≤ 1000) (ht : t.length ≤ 1000) : g_is_fault [.str al, .tup [.str (S (kn k)), .str s, .str t, .int p]] = some (.d (.bl (good4 k al s t p))) := by
  have hf := v_call (fz4 (S (kn k)) s t p)
  have h1 := gin k
  have h2 := gix k
  have h3 := v_call (is_letter_eq al s (by omega))
  have h4 := v_call (is_word_eq al s (by omega))
  have h5 := v_call (is_letter_eq al t (by omega))
  have h6 := v_call (is_word_eq al t (by omega))
  rw [sd_d] at hf h3 h4 h5 h6
  clear hs ht
  unfold g_is_fault m_is_fault good4
  by_cases p1 : 1 ≤ p
  · by_cases p2 : p ≤ 99
    · have e1 := decide_eq_true p1
      have e2 := decide_eq_true p2
      rw [e1, e2]
      clear p1 p2
      cases k <;> first | (cases h; done) | skip
      · simp only [kn, four] at hf h1 h2 ⊢
        clear h
        cases a1 : isL al s <;> cases a2 : isL al t <;> rw [a1] at h3 <;> rw [a2] at h5 <;> clear a1 a2 <;> (walk_at "evh"; first | done | rfl | simp)
      · simp only [kn, four] at hf h1 h2 ⊢
        clear h
        cases a1 : isL al s <;> cases a2 : isL al t <;> rw [a1] at h3 <;> rw [a2] at h5 <;> clear a1 a2 <;> (walk_at "evh"; first | done | rfl | simp)
      · simp only [kn, four] at hf h1 h2 ⊢
        clear h
        cases a1 : isW al s <;> cases a2 : isW al t <;> rw [a1] at h4 <;> rw [a2] at h6 <;> clear a1 a2 <;> (walk_at "evh"; first | done | rfl | simp)
    · have e1 := decide_eq_true p1
      have e2 := decide_eq_false p2
      rw [e1, e2]
      rw [h] at h2
      clear p1 p2
      walk_at "evh"
      simp
  · have e1 := decide_eq_false p1
    rw [e1]
    clear p1
    rw [h] at h2
    walk_at "evh"
    simp
/-! values that are no faults for their first item or their length -/
def okv (xs : List D) : Prop := xs.length ≤ 100 ∧ ∀ d ∈ xs, calm d = true ∧ ∀ ys, d = .tup ys → ys.length ≤ 100000
theorem is_fault_nil (al : List Nat) : g_is_fault [.str al, .tup []] = some (.d (.bl false)) := by
  have hf := v_call (frozen_val (xs := []) (by simp) (fun d hd => by cases hd))
  rw [sd_d] at hf
  unfold g_is_fault m_is_fault
  walk_at "evh"
theorem is_fault_no (al k : List Nat) (r : List D) (ho : okv (.str k :: r)) (hk : kv_ITEM_COUNTS.lookup k = none) : g_is_fault [.str al, .tup (.str k :: r)] = some (.d (.bl false)) := by
  have hf := v_call (frozen_val ho.1 ho.2)
  have h1 : fGIn kv_ITEM_COUNTS true (.str k) = some (.bl true) := by
    show some (D.bl (!(kv_ITEM_COUNTS.lookup k).isSome)) = _
    rw [hk]
    rfl
  have e : decide (((r.length : Int) + 1) = 0) = false := decide_eq_false (by omega)
  rw [sd_d] at hf
  clear ho hk
  unfold g_is_fault m_is_fault
  walk_at "evh"
theorem is_fault_len (k : Kd) (al : List Nat) (r : List D) (ho : okv (.str (S (kn k)) :: r)) (hl : ((r.length : Int) + 1) ≠ if four k = true then 4 else 3) : g_is_fault [.str al, .tup (.str (S (kn k)) :: r)] = some (.d (.bl false)) := by
  have hf := v_call (frozen_val ho.1 ho.2)
  have h1 := gin k
  have h2 := gix k
  have e : decide (((r.length : Int) + 1) = 0) = false := decide_eq_false (by omega)
  have e2 : decide (((r.length : Int) + 1) = if four k = true then 4 else 3) = false := decide_eq_false hl
  rw [sd_d] at hf
  clear ho hl
  unfold g_is_fault m_is_fault
  walk_at "evh"
end K09
namespace K09
open PySem L2 R
def cks (kvs : List (List Nat × Int)) : List Key := kvs.map fun p => .inr ⟨p.1.toArray⟩
def cds (kvs : List (List Nat × Int)) : List D := kvs.map fun p => .int p.2
theorem dl (k : List Nat) : ∀ kvs : List (List Nat × Int), dlook (cks kvs) (cds kvs) (.inr ⟨k.toArray⟩) = (kvs.lookup k).map D.int
  | [] => rfl
  | (x, i) :: r => by
    show (if (Sum.inr ⟨x.toArray⟩ : Key) = .inr ⟨k.toArray⟩ then some (D.int i) else dlook (cks r) (cds r) (.inr ⟨k.toArray⟩)) = _
    rw [List.lookup_cons]
    by_cases h : x = k
    · subst h
      rw [if_pos rfl, beq_self_eq_true]
      rfl
    · rw [if_neg (fun z => h (sinj.mp (Sum.inr.inj z))), dl k r, show (k == x) = false from beq_eq_false_iff_ne.mpr fun z => h z.symm]
def CT : D := .dct (cks kv_ITEM_COUNTS) (cds kv_ITEM_COUNTS)
theorem dict_eq (ρ : Slots) : mDict [((mC (.str (S "mistake"))), (mC (.int 4))), ((mC (.str (S "omit"))), (mC (.int 3))), ((mC (.str (S "double"))), (mC (.int 3))), ((mC (.str (S "merge"))), (mC (.int 3))), ((mC (.str (S "turn"))), (mC (.int 4))), ((mC (.str (S "gloss"))), (mC (.int 4))), ((mC (.str (S "leap"))), (mC (.int 3)))] ρ = some CT := by
  show (if (cks kv_ITEM_COUNTS).Nodup ∧ 7 ≤ 15 then some CT else none) = some CT
  rw [if_pos ⟨by decide +kernel, by decide⟩]
theorem ct_in (k : List Nat) : fNotIn (.str k) CT = some (.bl (!(kv_ITEM_COUNTS.lookup k).isSome)) := by
  have : inB (.str k) CT = some (dlook (cks kv_ITEM_COUNTS) (cds kv_ITEM_COUNTS) (.inr ⟨k.toArray⟩)).isSome := by
    unfold CT
    cases k with
    | nil => rfl
    | cons c r => cases r <;> rfl
  unfold fNotIn
  rw [this, dl]
  cases kv_ITEM_COUNTS.lookup k <;> rfl
theorem ct_ix (k : List Nat) : fIx CT (.str k) = (kv_ITEM_COUNTS.lookup k).map D.int := dl k _
def oneK : Kd → Bool
  | .mistake => true
  | .turn => true
  | .leap => true
  | _ => false
theorem in3 (k : Kd) : fIn (.str (S (kn k))) (.lst [.str (S "mistake"), .str (S "turn"), .str (S "leap")]) = some (.bl (oneK k)) := by
  have h : inD (.str (S (kn k))) [.str (S "mistake"), .str (S "turn"), .str (S "leap")] = oneK k := by cases k <;> decide +kernel
  rw [← h]
  cases k <;> rfl
def twoK : Kd → Bool
  | .mistake => true
  | .turn => true
  | _ => false
theorem in2 (k : Kd) : fNotIn (.str (S (kn k))) (.lst [.str (S "mistake"), .str (S "turn")]) = some (.bl (!twoK k)) := by
  have h : inD (.str (S (kn k))) [.str (S "mistake"), .str (S "turn")] = twoK k := by cases k <;> decide +kernel
  rw [← h]
  cases k <;> rfl
abbrev mLet : MS := (mIf (mT (m2 fNotIn (mBor 4) (mBor 0)))
        (mRet (mC (.bl false)))
        mNext)
theorem let_go (al s : List Nat) (v c i : D) (y : Option Sl) : (isT al s = true → ∃ y', forGo (gN 4) mLet (s.map fun c => D.str [c]) [some (.d (.str al)), some (.d v), some (.d c), some (.d i), y] = .nx [some (.d (.str al)), some (.d v), some (.d c), some (.d i), y']) ∧
    (isT al s = false → forGo (gN 4) mLet (s.map fun c => D.str [c]) [some (.d (.str al)), some (.d v), some (.d c), some (.d i), y] = .ret (.d (.bl false))) := by
  let P : Slots → Prop := fun ρ => ∃ x, ρ = [some (.d (.str al)), some (.d v), some (.d c), some (.d i), x]
  have good : ∀ (c : Nat) (ρ : Slots), c ∈ al → P ρ → ∃ ρ1 ρ2, gN 4 (.str [c]) ρ = some ρ1 ∧ mLet ρ1 = .nx ρ2 ∧ P ρ2 := by
    rintro c _ hc ⟨x, rfl⟩
    refine ⟨_, _, rfl, ?_, ⟨some (.d (.str [c])), rfl⟩⟩
    refine if_ff ?_
    have e : fNotIn (.str [c]) (.str al) = some (.bl false) := by simp [fNotIn, inB, hc]
    walk_at "evh"
  refine ⟨fun h => ?_, fun h => ?_⟩
  · unfold isT at h
    rw [List.all_eq_true] at h
    obtain ⟨ρ', h1, y', h2⟩ := for_thru (mg := gN 4) (b := mLet) (xs := s.map fun c => D.str [c]) (ρ := [some (.d (.str al)), some (.d v), some (.d c), some (.d i), y]) P ⟨y, rfl⟩ (fun x ρ hx hp => by
      obtain ⟨c, hc, rfl⟩ := List.mem_map.mp hx
      exact good c ρ (of_decide_eq_true (h c hc)) hp)
    exact ⟨y', by rw [h1, h2]⟩
  · unfold isT at h
    obtain ⟨pre, c, post, e1, e2, e3⟩ := first_bad _ s h
    have := for_ret (mg := gN 4) (b := mLet) (s := .d (.bl false)) P (pre.map fun c => D.str [c]) (.str [c]) (post.map fun c => D.str [c]) _ ⟨y, rfl⟩ (fun x ρ hx hp => by
      obtain ⟨c, hc, rfl⟩ := List.mem_map.mp hx
      exact good c ρ (of_decide_eq_true (e2 c hc)) hp) (fun ρ hp => by
      obtain ⟨x, rfl⟩ := hp
      refine ⟨_, rfl, ?_⟩
      have hc : c ∉ al := of_decide_eq_false e3
      have e : fNotIn (.str [c]) (.str al) = some (.bl true) := by simp [fNotIn, inB, hc]
      refine (if_tt ?_).trans rfl
      walk_at "evh")
    rw [← List.map_cons (f := fun c => D.str [c]), ← List.map_append, ← e1] at this
    exact this
abbrev mItem : MS := (mSeq (mIf (mOr (mT (m2 fLt (mCB fLen (mCons (mBor 3) mNil)) (mC (.int 1)))) (mOr (mT (m2 fGt (mCB fLen (mCons (mBor 3) mNil)) (mC (.int 3)))) (mAnd (mT (m2 fGt (mCB fLen (mCons (mBor 3) mNil)) (mC (.int 1)))) (mT (m2 fIn (m2 fIx (mBor 1) (mC (.int 0))) (mF (mLst (mCons (mC (.str (S "mistake"))) (mCons (mC (.str (S "turn"))) (mCons (mC (.str (S "leap"))) mNil))))))))))
      (mRet (mC (.bl false)))
      mNext)
    (mFor (mItems (mVar 3)) (gN 4) mLet))
def itemOk (k : Kd) (al s : List Nat) : Bool := if oneK k = true then isL al s else isW al s
theorem isL_eq (al s : List Nat) : isL al s = (decide (s.length = 1) && isT al s) := by
  cases s with
  | nil => rfl
  | cons c r => cases r with
    | nil => simp [isL, isT]
    | cons d r => simp [isL]
theorem item_go (k : Kd) (al s : List Nat) (r : List D) (hs : s.length ≤ 1000) (y : Option Sl) :
    (itemOk k al s = true → ∃ y', mItem [some (.d (.str al)), some (.d (.tup (.str (S (kn k)) :: r))), some (.d CT), some (.d (.str s)), y] = .nx [some (.d (.str al)), some (.d (.tup (.str (S (kn k)) :: r))), some (.d CT), some (.d (.str s)), y']) ∧
    (itemOk k al s = false → mItem [some (.d (.str al)), some (.d (.tup (.str (S (kn k)) :: r))), some (.d CT), some (.d (.str s)), y] = .ret (.d (.bl false))) := by
  have hl := fLen_str (show s.length ≤ 100000 by omega)
  have h3 := in3 k
  obtain ⟨g1, g2⟩ := let_go al s (.tup (.str (S (kn k)) :: r)) CT (.str s) y
  by_cases a1 : 1 ≤ s.length
  · have e1 : decide ((s.length : Int) < 1) = false := decide_eq_false (by omega)
    by_cases a2 : s.length ≤ 3
    · have e2 : decide ((3 : Int) < (s.length : Int)) = false := decide_eq_false (by omega)
      by_cases a3 : s.length = 1
      · have e3 : decide ((1 : Int) < (s.length : Int)) = false := decide_eq_false (by omega)
        have ei : itemOk k al s = isT al s := by
          unfold itemOk isW
          rw [isL_eq]
          simp [a3]
        rw [ei]
        clear ei hs a1 a2 a3
        refine ⟨fun h => ?_, fun h => ?_⟩
        · obtain ⟨y', g1⟩ := g1 h
          clear g2 h
          exact ⟨y', by walk_at "evh"⟩
        · have g2 := g2 h
          clear g1 h
          walk_at "evh"
      · have e3 : decide ((1 : Int) < (s.length : Int)) = true := decide_eq_true (by omega)
        cases hk : oneK k with
        | true =>
          have ei : itemOk k al s = false := by
            unfold itemOk
            rw [hk, if_pos rfl, isL_eq]
            simp [a3]
          rw [hk] at h3
          rw [ei]
          clear ei hs a1 a2 a3 g1 g2 hk
          refine ⟨fun h => (nomatch h), fun _ => ?_⟩
          walk_at "evh"
        | false =>
          have ei : itemOk k al s = isT al s := by
            unfold itemOk isW
            rw [hk]
            simp [a1, a2]
          rw [hk] at h3
          rw [ei]
          clear ei hs a1 a2 a3 hk
          refine ⟨fun h => ?_, fun h => ?_⟩
          · obtain ⟨y', g1⟩ := g1 h
            clear g2 h
            exact ⟨y', by walk_at "evh"⟩
          · have g2 := g2 h
            clear g1 h
            walk_at "evh"
    · have e2 : decide ((3 : Int) < (s.length : Int)) = true := decide_eq_true (by omega)
      have ei : itemOk k al s = false := by
        unfold itemOk isW
        rw [isL_eq]
        have : ¬ s.length = 1 := by omega
        simp [this, a2]
      rw [ei]
      clear ei hs a1 a2 g1 g2 h3
      refine ⟨fun h => (nomatch h), fun _ => ?_⟩
      walk_at "evh"
  · have e1 : decide ((s.length : Int) < 1) = true := decide_eq_true (by omega)
    have ei : itemOk k al s = false := by
      unfold itemOk isW
      rw [isL_eq]
      have : ¬ s.length = 1 := by omega
      simp [this, a1]
    rw [ei]
    clear ei hs a1 g1 g2 h3
    refine ⟨fun h => (nomatch h), fun _ => ?_⟩
    walk_at "evh"
end K09
namespace K09
open PySem L2 R
theorem fg_nx {mg : D → Slots → Option Slots} {b : MS} {x : D} {xs : List D} {ρ ρ1 ρ2 : Slots} (h1 : mg x ρ = some ρ1) (h2 : b ρ1 = .nx ρ2) : forGo mg b (x :: xs) ρ = forGo mg b xs ρ2 := by
  conv => lhs; unfold forGo
  simp only [h1, h2]
theorem fg_ret {mg : D → Slots → Option Slots} {b : MS} {x : D} {xs : List D} {ρ ρ1 : Slots} {s : Sl} (h1 : mg x ρ = some ρ1) (h2 : b ρ1 = .ret s) : forGo mg b (x :: xs) ρ = .ret s := by
  unfold forGo
  simp only [h1, h2]
theorem fg_nil {mg : D → Slots → Option Slots} {b : MS} {ρ : Slots} : forGo mg b [] ρ = .nx ρ := by unfold forGo; rfl
theorem sl3 (a b c : D) : fSl (.tup [a, b, c]) (some 1) (some 2) = some (.tup [b]) := rfl
theorem sl4 (a b c d : D) : fSl (.tup [a, b, c, d]) (some 1) (some 3) = some (.tup [b, c]) := rfl
theorem ctk (k : Kd) : fNotIn (.str (S (kn k))) CT = some (.bl false) := by
  rw [ct_in, lk]
  rfl
theorem ctx (k : Kd) : fIx CT (.str (S (kn k))) = some (.int (if four k = true then 4 else 3)) := by
  rw [ct_ix, lk]
  rfl
theorem good3_eq (k : Kd) (al s : List Nat) (p : Int) (h : four k = false) : good3 k al s p = (decide (1 ≤ p) && decide (p ≤ 99) && itemOk k al s) := by
  cases k <;> first | (cases h; done) | rfl
theorem law_good3 (k : Kd) (al s : List Nat) (p : Int) (h : four k = false) (hs : s.length ≤ 1000) : g__law_good [.str al, .tup [.str (S (kn k)), .str s, .int p]] = some (.d (.bl (good3 k al s p))) := by
  rw [good3_eq k al s p h]
  have hd := dict_eq (R.envOf 5 [.str al, .tup [.str (S (kn k)), .str s, .int p]])
  have h1 := ctk k
  have h2 := ctx k
  have h3 := in2 k
  have ht : twoK k = false := by cases k <;> first | (cases h; done) | rfl
  rw [h] at h2
  rw [ht] at h3
  clear ht
  have hc := sl3 (.str (S (kn k))) (.str s) (.int p)
  obtain ⟨i1, i2⟩ := item_go k al s [.str s, .int p] hs none
  unfold g__law_good m__law_good
  simp only [R.envOf, List.map_cons, List.map_nil, List.length_cons, List.length_nil, List.replicate, List.cons_append, List.nil_append, Nat.reduceAdd, Nat.reduceSub] at hd
  clear h hs
  by_cases p1 : 1 ≤ p
  · have e1 : decide (p < 1) = false := decide_eq_false (by omega)
    by_cases p2 : p ≤ 99
    · have e2 : decide (99 < p) = false := decide_eq_false (by omega)
      rw [decide_eq_true p1, decide_eq_true p2, Bool.true_and, Bool.true_and]
      clear p1 p2
      cases hi : itemOk k al s with
      | true =>
        obtain ⟨y', i1⟩ := i1 hi
        have hg : forGo (gN 3) mItem [.str s] [some (.d (.str al)), some (.d (.tup [.str (S (kn k)), .str s, .int p])), some (.d CT), none, none] = .nx [some (.d (.str al)), some (.d (.tup [.str (S (kn k)), .str s, .int p])), some (.d CT), some (.d (.str s)), y'] := (fg_nx rfl i1).trans fg_nil
        clear i1 i2 hi
        walk_at "evh"
      | false =>
        have i2 := i2 hi
        have hg : forGo (gN 3) mItem [.str s] [some (.d (.str al)), some (.d (.tup [.str (S (kn k)), .str s, .int p])), some (.d CT), none, none] = .ret (.d (.bl false)) := fg_ret rfl i2
        clear i1 i2 hi
        walk_at "evh"
    · have e2 : decide (99 < p) = true := decide_eq_true (by omega)
      rw [decide_eq_true p1, decide_eq_false p2, Bool.true_and, Bool.false_and]
      clear p1 p2 i1 i2
      walk_at "evh"
  · have e1 : decide (p < 1) = true := decide_eq_true (by omega)
    rw [decide_eq_false p1, Bool.false_and, Bool.false_and]
    clear p1 i1 i2
    walk_at "evh"
theorem good4_eq (k : Kd) (al s t : List Nat) (p : Int) (h : four k = true) : good4 k al s t p = (decide (1 ≤ p) && decide (p ≤ 99) && (itemOk k al s && (itemOk k al t && (!twoK k || !decide (s = t))))) := by
  cases k <;> first | (cases h; done) | skip
  · simp [good4, itemOk, oneK, twoK]
  · simp [good4, itemOk, oneK, twoK]
  · simp [good4, itemOk, oneK, twoK]
theorem law_good4 (k : Kd) (al s t : List Nat) (p : Int) (h : four k = true) (hs : s.length ≤ 1000) (ht : t.length ≤ 1000) : g__law_good [.str al, .tup [.str (S (kn k)), .str s, .str t, .int p]] = some (.d (.bl (good4 k al s t p))) := by
  rw [good4_eq k al s t p h]
  have hd := dict_eq (R.envOf 5 [.str al, .tup [.str (S (kn k)), .str s, .str t, .int p]])
  have h1 := ctk k
  have h2 := ctx k
  have h3 := in2 k
  rw [h] at h2
  have hc := sl4 (.str (S (kn k))) (.str s) (.str t) (.int p)
  obtain ⟨i1, i2⟩ := item_go k al s [.str s, .str t, .int p] hs none
  have jj := fun y => item_go k al t [.str s, .str t, .int p] ht y
  unfold g__law_good m__law_good
  simp only [R.envOf, List.map_cons, List.map_nil, List.length_cons, List.length_nil, List.replicate, List.cons_append, List.nil_append, Nat.reduceAdd, Nat.reduceSub] at hd
  clear h hs ht
  by_cases p1 : 1 ≤ p
  · have e1 : decide (p < 1) = false := decide_eq_false (by omega)
    by_cases p2 : p ≤ 99
    · have e2 : decide (99 < p) = false := decide_eq_false (by omega)
      rw [decide_eq_true p1, decide_eq_true p2, Bool.true_and, Bool.true_and]
      clear p1 p2
      cases hi : itemOk k al s with
      | true =>
        obtain ⟨y', i1⟩ := i1 hi
        obtain ⟨j1, j2⟩ := jj y'
        clear i2 hi jj
        cases hj : itemOk k al t with
        | true =>
          obtain ⟨y2, j1⟩ := j1 hj
          have hg : forGo (gN 3) mItem [.str s, .str t] [some (.d (.str al)), some (.d (.tup [.str (S (kn k)), .str s, .str t, .int p])), some (.d CT), none, none] = .nx [some (.d (.str al)), some (.d (.tup [.str (S (kn k)), .str s, .str t, .int p])), some (.d CT), some (.d (.str t)), y2] := ((fg_nx rfl i1).trans (fg_nx rfl j1)).trans fg_nil
          clear i1 j1 j2 hj
          cases hk : twoK k with
          | true =>
            rw [hk] at h3
            clear hk
            walk_at "evh"
            rfl
          | false =>
            rw [hk] at h3
            clear hk
            walk_at "evh"
            rfl
        | false =>
          have j2 := j2 hj
          have hg : forGo (gN 3) mItem [.str s, .str t] [some (.d (.str al)), some (.d (.tup [.str (S (kn k)), .str s, .str t, .int p])), some (.d CT), none, none] = .ret (.d (.bl false)) := (fg_nx rfl i1).trans (fg_ret rfl j2)
          clear i1 j1 j2 hj h3
          walk_at "evh"
          rfl
      | false =>
        have i2 := i2 hi
        have hg : forGo (gN 3) mItem [.str s, .str t] [some (.d (.str al)), some (.d (.tup [.str (S (kn k)), .str s, .str t, .int p])), some (.d CT), none, none] = .ret (.d (.bl false)) := fg_ret rfl i2
        clear i1 i2 hi jj h3
        walk_at "evh"
        rfl
    · have e2 : decide (99 < p) = true := decide_eq_true (by omega)
      rw [decide_eq_true p1, decide_eq_false p2, Bool.true_and, Bool.false_and]
      clear p1 p2 i1 i2 jj h3
      walk_at "evh"
  · have e1 : decide (p < 1) = true := decide_eq_true (by omega)
    rw [decide_eq_false p1, Bool.false_and, Bool.false_and]
    clear p1 i1 i2 jj h3
    walk_at "evh"
theorem law_good_nil (al : List Nat) : g__law_good [.str al, .tup []] = some (.d (.bl false)) := by
  have hd := dict_eq [some (.d (.str al)), some (.d (.tup [])), none, none, none]
  unfold g__law_good m__law_good
  walk_at "evh"
theorem law_good_no (al k : List Nat) (r : List D) (hk : kv_ITEM_COUNTS.lookup k = none) : g__law_good [.str al, .tup (.str k :: r)] = some (.d (.bl false)) := by
  have hd := dict_eq [some (.d (.str al)), some (.d (.tup (.str k :: r))), none, none, none]
  have h1 : fNotIn (D.str k) CT = some (D.bl true) := by
    rw [ct_in, hk]
    rfl
  have e : decide (((r.length : Int) + 1) = 0) = false := decide_eq_false (by omega)
  clear hk
  unfold g__law_good m__law_good
  walk_at "evh"
theorem law_good_len (k : Kd) (al : List Nat) (r : List D) (hl : ((r.length : Int) + 1) ≠ if four k = true then 4 else 3) : g__law_good [.str al, .tup (.str (S (kn k)) :: r)] = some (.d (.bl false)) := by
  have hd := dict_eq [some (.d (.str al)), some (.d (.tup (.str (S (kn k)) :: r))), none, none, none]
  have h1 := ctk k
  have h2 := ctx k
  have e : decide (((r.length : Int) + 1) = 0) = false := decide_eq_false (by omega)
  have e2 : decide (((r.length : Int) + 1) = if four k = true then 4 else 3) = false := decide_eq_false hl
  clear hl
  unfold g__law_good m__law_good
  walk_at "evh"
theorem isi_bool (b : Bool) : fIsi [.bl b, .ty "bool"] = some (.bl true) := by
  show (match kitB "bool" "bool" with | some b => some (D.bl b) | none => none) = _
  have : kitB "bool" "bool" = some true := by decide +kernel
  rw [this]
theorem judged_of {al : List Nat} {v : D} {b : Bool} (h1 : g_is_fault [.str al, v] = some (.d (.bl b))) (h2 : g__law_good [.str al, v] = some (.d (.bl b))) : g__law_judged [.str al, v] = some (.d (.bl true)) := by
  have e1 := v_call h1
  have e2 := v_call h2
  have e3 := isi_bool b
  clear h1 h2
  unfold g__law_judged m__law_judged
  walk_at "evh"
/-- what the law judges -/
inductive Val : List D → Prop
  | three (k : Kd) (s : List Nat) (p : Int) : four k = false → s.length ≤ 1000 → Val [.str (S (kn k)), .str s, .int p]
  | four (k : Kd) (s t : List Nat) (p : Int) : four k = true → s.length ≤ 1000 → t.length ≤ 1000 → Val [.str (S (kn k)), .str s, .str t, .int p]
  | nil : Val []
  | no (k : List Nat) (r : List D) : okv (.str k :: r) → kv_ITEM_COUNTS.lookup k = none → Val (.str k :: r)
  | len (k : Kd) (r : List D) : okv (.str (S (kn k)) :: r) → ((r.length : Int) + 1) ≠ (if K09.four k = true then 4 else 3) → Val (.str (S (kn k)) :: r)
theorem judged {xs : List D} (h : Val xs) (al : List Nat) : g__law_judged [.str al, .tup xs] = some (.d (.bl true)) := by
  cases h with
  | three k s p h hs => exact judged_of (is_fault3 k al s p h hs) (law_good3 k al s p h hs)
  | four k s t p h hs ht => exact judged_of (is_fault4 k al s t p h hs ht) (law_good4 k al s t p h hs ht)
  | nil => exact judged_of (is_fault_nil al) (law_good_nil al)
  | no k r ho hk => exact judged_of (is_fault_no al k r ho hk) (law_good_no al k r hk)
  | len k r ho hl => exact judged_of (is_fault_len k al r ho hl) (law_good_len k al r hl)
end K09
namespace K09
open PySem L2 R
/-! one sign in a text -/
theorem at_iff1 (x : List Nat) (c i : Nat) : StrLaws.At ⟨x.toArray⟩ ⟨#[c]⟩ (⟨x.toArray⟩ : Str).length i ↔ x[i]? = some c := by
  have h := StrLaws.subAt_one ⟨x.toArray⟩ c i
  unfold StrLaws.At
  simpa using h
theorem find_one (x : List Nat) (c : Nat) (i : Nat) : (Txt.find3 ⟨x.toArray⟩ ⟨[c].toArray⟩ (i : Int) = -1 ∧ ∀ v, i ≤ v → x[v]? ≠ some c) ∨
    ∃ k : Nat, Txt.find3 ⟨x.toArray⟩ ⟨[c].toArray⟩ (i : Int) = (k : Int) ∧ i ≤ k ∧ x[k]? = some c ∧ ∀ v, i ≤ v → v < k → x[v]? ≠ some c := by
  have hf : StrLaws.find3_spec ⟨x.toArray⟩ c (i : Int) = StrLaws.find3_spec ⟨x.toArray⟩ c (i : Int) := rfl
  have h := StrLaws.find3_spec ⟨x.toArray⟩ c (i : Int)
  have e : fromIndex (⟨x.toArray⟩ : Str).length (i : Int) = i := by
    unfold fromIndex
    rw [if_neg (by omega)]
    omega
  have g : ∀ v, v < x.length → (⟨x.toArray⟩ : Str).cps.getD v 0 = c → x[v]? = some c := fun v hv hc => by
    have := StrLaws.getElem?_of_getD (x := ⟨x.toArray⟩) (by rw [slen]; exact hv) hc
    simpa using this
  have g' : ∀ v, x[v]? = some c → v < x.length ∧ (⟨x.toArray⟩ : Str).cps.getD v 0 = c := fun v hv => by
    have hl := (List.getElem?_eq_some_iff.mp hv).1
    refine ⟨hl, ?_⟩
    have := StrLaws.getD_of_getElem? (x := ⟨x.toArray⟩) (v := v) (c := c) (by simpa using hv)
    exact this
  rw [e, slen] at h
  rcases h with ⟨h1, h2⟩ | ⟨k, h1, h2, h3, h4, h5⟩
  · exact .inl ⟨h1, fun v hv hc => h2 v hv (g' v hc).1 (g' v hc).2⟩
  · exact .inr ⟨k, h1, h2, g k h3 h4, fun v hv hk hc => h5 v hv hk (g' v hc).2⟩
theorem count_two (x : List Nat) (c : Nat) (h0 : x[0]? = some c) (hl : 2 ≤ x.length) : (x[x.length - 1]? = some c ∧ Txt.count ⟨x.toArray⟩ ⟨[c].toArray⟩ = 2) ↔ Txt.find3 ⟨x.toArray⟩ ⟨[c].toArray⟩ 1 = ((x.length - 1 : Nat) : Int) := by
  obtain ⟨f, hc, hn⟩ := StrLaws.occ_tight ⟨x.toArray⟩ ⟨#[c]⟩ (Nat.le_refl 1)
  have ef : ((1 : Nat) : Int) = 1 := rfl
  have hfind := find_one x c 1
  rw [ef] at hfind
  have ec : Txt.count ⟨x.toArray⟩ ⟨[c].toArray⟩ = ((Builtin.Str.occurrences ⟨x.toArray⟩ ⟨#[c]⟩ 0 (⟨x.toArray⟩ : Str).length ((⟨x.toArray⟩ : Str).length + 1)).length : Int) := rfl
  rw [ec]
  generalize Builtin.Str.occurrences ⟨x.toArray⟩ ⟨#[c]⟩ 0 (⟨x.toArray⟩ : Str).length ((⟨x.toArray⟩ : Str).length + 1) = l at hc
  have e1 : (⟨#[c]⟩ : Str).length = 1 := rfl
  -- the first one is at 0
  cases l with
  | nil =>
    have hf : f = 0 := hc
    exact absurd ((at_iff1 x c 0).mpr h0) (hn 0 (by omega))
  | cons a r =>
    obtain ⟨_, ha, hb, hr⟩ := hc
    have ha0 : a = 0 := by
      cases a with
      | zero => rfl
      | succ a => exact absurd ((at_iff1 x c 0).mpr h0) (hb 0 (Nat.le_refl _) (by omega))
    subst ha0
    rw [e1] at hr
    have bound : ∀ k, x[k]? = some c → k < x.length := fun k hk => (List.getElem?_eq_some_iff.mp hk).1
    cases r with
    | nil =>
      have hf : f = 0 + 1 := hr
      constructor
      · rintro ⟨_, h⟩
        exact absurd h (by simp)
      · intro h
        rcases hfind with ⟨h1, _⟩ | ⟨k, h1, h2, h3, _⟩
        · omega
        · exact absurd ((at_iff1 x c k).mpr h3) (hn k (by omega))
    | cons k r =>
      obtain ⟨hk1, hk2, hk3, hr⟩ := hr
      have hk2 := (at_iff1 x c k).mp hk2
      rw [e1] at hr
      have hk : Txt.find3 ⟨x.toArray⟩ ⟨[c].toArray⟩ 1 = (k : Int) := by
        rcases hfind with ⟨_, h2⟩ | ⟨k', h1, h2, h3, h4⟩
        · exact absurd hk2 (h2 k (by omega))
        · rw [h1]
          have : k' = k := by
            by_cases q : k' < k
            · exact absurd ((at_iff1 x c k').mpr h3) (hk3 k' (by omega) q)
            · by_cases q2 : k < k'
              · exact absurd hk2 (h4 k (by omega) q2)
              · omega
          rw [this]
      rw [hk]
      constructor
      · rintro ⟨h1, h2⟩
        cases r with
        | nil =>
          have hf : f = k + 1 := hr
          have : ¬ k + 1 ≤ x.length - 1 := fun q => hn (x.length - 1) (by omega) ((at_iff1 x c _).mpr h1)
          have := bound k hk2
          omega
        | cons m r => exact absurd h2 (by simp only [List.length_cons]; omega)
      · intro h
        have hkl : k = x.length - 1 := by omega
        refine ⟨by rw [← hkl]; exact hk2, ?_⟩
        cases r with
        | nil => rfl
        | cons m r =>
          obtain ⟨hm1, hm2, _⟩ := hr
          have := bound m ((at_iff1 x c m).mp hm2)
          omega
/-! the two texts of an exchange -/
def ex : Kd → List Nat → List Nat → List Nat × List Nat
  | .mistake, s, t => (s, t)
  | .double, s, _ => (s, s ++ s)
  | .merge, s, _ => (s ++ s, s)
  | .turn, s, t => (s ++ t, t ++ s)
  | .gloss, s, t => (s, s ++ t)
  | _, s, _ => (s, [])
def items (k : Kd) (s t : List Nat) (p : Int) : List D := if four k = true then [.str (S (kn k)), .str s, .str t, .int p] else [.str (S (kn k)), .str s, .int p]
structure Has (F : D) (k : Kd) (s t : List Nat) : Prop where
  a0 : fIx F (.int 0) = some (.str (S (kn k)))
  a1 : fIx F (.int 1) = some (.str s)
  a2 : four k = true → fIx F (.int 2) = some (.str t)
theorem has_tup (k : Kd) (s t : List Nat) (p : Int) : Has (.tup (items k s t p)) k s t := by
  cases k <;> exact ⟨rfl, rfl, fun h => by first | rfl | cases h⟩
theorem has_lst (k : Kd) (s t : List Nat) (p : Int) : Has (.lst (items k s t p)) k s t := by
  cases k <;> exact ⟨rfl, rfl, fun h => by first | rfl | cases h⟩
theorem exchange_eq {F : D} {k : Kd} {s t : List Nat} (h : Has F k s t) (hs : s.length ≤ 1000) (ht : t.length ≤ 1000) : g_exchange [F] = some (.d (.tup [.str (ex k s t).1, .str (ex k s t).2])) := by
  have f1 : fAdd (.str s) (.str s) = some (.str (s ++ s)) := fAdd_str (by omega)
  have f2 : fAdd (.str s) (.str t) = some (.str (s ++ t)) := fAdd_str (by omega)
  have f3 : fAdd (.str t) (.str s) = some (.str (t ++ s)) := fAdd_str (by omega)
  have h0 := h.a0
  have h1 := h.a1
  have h2 := h.a2
  clear h hs ht
  unfold g_exchange m_exchange
  cases k <;> simp only [kn, four] at h0 h2
  all_goals try (have h2 := h2 rfl)
  all_goals (simp only [ex]; walk_at "evh")
  all_goals rfl
theorem cut_take (x : List Nat) (n : Nat) : cutL x (some 0) (some (n : Int)) = x.take n := by
  unfold cutL
  rw [show HT.sIx x.length 0 (some 0) = 0 from by simpa using HT.sIx_nat x.length 0 0, HT.sIx_nat]
  simp
theorem fSl_str {x : List Nat} (h : x.length ≤ 100000) (lo hi : Option Int) : fSl (.str x) lo hi = some (.str (cutL x lo hi)) := if_pos (sl_ok _ h)
def leapAns (c : Nat) (x : List Nat) : D := if 2 ≤ x.length ∧ x[0]? = some c ∧ Txt.find3 ⟨x.toArray⟩ ⟨[c].toArray⟩ 1 = ((x.length - 1 : Nat) : Int) then .str [c] else .non
theorem fFind_eq (x y : List Nat) (i : Int) : fFind3 x [.str y, .int i] = some (.int (Txt.find3 ⟨x.toArray⟩ ⟨y.toArray⟩ i)) := rfl
theorem fCount_eq (x y : List Nat) : fCount x [.str y] = some (.int (Txt.count ⟨x.toArray⟩ ⟨y.toArray⟩)) := rfl
theorem written_leap {F : D} {c : Nat} (h : Has F .leap [c] []) (x : List Nat) (hx : x.length ≤ 1000) : g__law_written [F, .str x] = some (.d (leapAns c x)) := by
  have h0 := h.a0
  have h1 := h.a1
  have hl := fLen_str (show x.length ≤ 100000 by omega)
  have hc := fCount_eq x [c]
  simp only [kn] at h0
  unfold g__law_written m__law_written
  by_cases a1 : 2 ≤ x.length
  · have e1 : decide ((2 : Int) ≤ (x.length : Int)) = true := decide_eq_true (by omega)
    obtain ⟨x0, e0⟩ : ∃ x0, x[0]? = some x0 := ⟨_, List.getElem?_eq_getElem (by omega)⟩
    obtain ⟨xl, el⟩ : ∃ xl, x[x.length - 1]? = some xl := ⟨_, List.getElem?_eq_getElem (by omega)⟩
    have f0 : fIx (.str x) (.int 0) = some (.str [x0]) := fIx_str (by omega) (atI_nat (j := 0) e0)
    have fl : fIx (.str x) (.int ((x.length : Int) - 1)) = some (.str [xl]) := fIx_str (by omega) (by
      have := atI_nat (xs := x) (j := x.length - 1) el
      rw [show (((x.length - 1 : Nat) : Int)) = (x.length : Int) - 1 by omega] at this
      exact this)
    by_cases b0 : x0 = c
    · subst b0
      have iff := count_two x x0 e0 a1
      rw [el] at iff
      by_cases bl : xl = x0
      · subst bl
        simp only [true_and] at iff
        by_cases b2 : Txt.count ⟨x.toArray⟩ ⟨[xl].toArray⟩ = 2
        · have e3 : decide (Txt.count ⟨x.toArray⟩ ⟨[xl].toArray⟩ = 2) = true := decide_eq_true b2
          have ea : leapAns xl x = .str [xl] := if_pos ⟨a1, e0, iff.mp b2⟩
          rw [ea]
          clear iff b2 ea a1 hx h
          walk_at "evh"
        · have e3 : decide (Txt.count ⟨x.toArray⟩ ⟨[xl].toArray⟩ = 2) = false := decide_eq_false b2
          have ea : leapAns xl x = .non := if_neg fun z => b2 (iff.mpr z.2.2)
          rw [ea]
          clear iff b2 ea a1 hx h
          walk_at "evh"
      · have e2 : decide ([xl] = [x0]) = false := decide_eq_false fun z => bl (by injection z)
        have ea : leapAns x0 x = .non := if_neg fun z => bl (Option.some.inj (iff.mpr z.2.2).1)
        rw [ea]
        clear iff ea a1 hx h bl
        walk_at "evh"
    · have e2 : decide ([x0] = [c]) = false := decide_eq_false fun z => b0 (by injection z)
      have ea : leapAns c x = .non := if_neg fun z => b0 (Option.some.inj (e0.symm.trans z.2.1))
      rw [ea]
      clear ea a1 hx h b0
      walk_at "evh"
  · have e1 : decide ((2 : Int) ≤ (x.length : Int)) = false := decide_eq_false (by omega)
    have ea : leapAns c x = .non := if_neg fun z => a1 z.1
    rw [ea]
    clear ea a1 hx h
    walk_at "evh"
theorem piece_leap {F : D} {c : Nat} (h : Has F .leap [c] []) (x : List Nat) (hx : x.length ≤ 1000) (x0 : Nat) (e0 : x[0]? = some x0) :
    ∃ a, g_piece_at [F, .str x, .int 0] = some (.d a) ∧ ((leapAns c x = .non ∧ ∃ r, fNe a (.str x) = some (.bl r) ∧ r = true) ∨ (leapAns c x = .str [c] ∧ fNe a (.str x) = some (.bl false))) := by
  have h0 := h.a0
  have h1 := h.a1
  simp only [kn] at h0
  have hf := fFind_eq x [c] 1
  have s1 : fSl (.str x) (some 0) (some 1) = some (.str [x0]) := by
    rw [fSl_str (by omega)]
    have := cut_take x 1
    rw [show ((1 : Nat) : Int) = 1 from rfl] at this
    rw [this]
    cases x with
    | nil => cases e0
    | cons y r =>
      have : y = x0 := by simpa using e0
      rw [this]
      rfl
  unfold g_piece_at m_piece_at
  by_cases b0 : x0 = c
  · subst b0
    have find := find_one x x0 1
    rw [show ((1 : Nat) : Int) = 1 from rfl] at find
    rcases find with ⟨q1, _⟩ | ⟨k, q1, q2, q3, _⟩
    · rw [q1] at hf
      refine ⟨.non, ?_, .inl ⟨if_neg fun z => ?_, true, rfl, rfl⟩⟩
      · clear hx h
        walk_at "evh"
      · have := z.2.2
        rw [q1] at this
        omega
    · rw [q1] at hf
      have kl : k < x.length := (List.getElem?_eq_some_iff.mp q3).1
      have e1 : decide ((k : Int) < 0) = false := decide_eq_false (by omega)
      have s2 : fSl (.str x) (some 0) (some ((k : Int) + 1)) = some (.str (x.take (k + 1))) := by
        rw [fSl_str (by omega), show ((k : Int) + 1) = ((k + 1 : Nat) : Int) by omega, cut_take]
      refine ⟨.str (x.take (k + 1)), ?_, ?_⟩
      · clear hx h
        walk_at "evh"
      · by_cases b1 : k = x.length - 1
        · refine .inr ⟨if_pos ⟨by omega, e0, by rw [q1, b1]⟩, ?_⟩
          rw [show k + 1 = x.length by omega, List.take_length, fNe_str]
          simp
        · refine .inl ⟨if_neg fun z => ?_, true, ?_, rfl⟩
          · have := z.2.2
            rw [q1] at this
            omega
          · rw [fNe_str]
            have : ¬ x.take (k + 1) = x := fun z => by
              have := congrArg List.length z
              rw [List.length_take] at this
              omega
            rw [decide_eq_false this]
            rfl
  · have e2 : decide ([x0] = [c]) = false := decide_eq_false fun z => b0 (by injection z)
    refine ⟨.non, ?_, .inl ⟨if_neg fun z => b0 (Option.some.inj (e0.symm.trans z.2.1)), true, rfl, rfl⟩⟩
    clear hx h b0
    walk_at "evh"
theorem rewritten_leap {F : D} {c : Nat} (h : Has F .leap [c] []) (x : List Nat) (hx : x.length ≤ 1000) : g_rewritten [F, .str x] = some (.d (leapAns c x)) := by
  have hl := fLen_str (show x.length ≤ 100000 by omega)
  cases hx0 : x[0]? with
  | none =>
    have : x = [] := by
      cases x with
      | nil => rfl
      | cons y r => cases hx0
    subst this
    have ea : leapAns c [] = .non := if_neg fun z => by simp at z
    rw [ea]
    unfold g_rewritten m_rewritten
    clear ea hx0 hx h
    walk_at "evh"
  | some x0 =>
    have e0 : decide ((x.length : Int) = 0) = false := decide_eq_false (by
      have := (List.getElem?_eq_some_iff.mp hx0).1
      omega)
    obtain ⟨a, p1, p2⟩ := piece_leap h x hx x0 hx0
    have p1 := v_call p1
    have h0 := h.a0
    have h1 := h.a1
    simp only [kn] at h0
    unfold g_rewritten m_rewritten
    rcases p2 with ⟨q1, r, q2, q3⟩ | ⟨q1, q2⟩
    · subst q3
      rw [q1]
      clear hx hx0 h q1
      walk_at "evh"
    · rw [q1]
      clear hx hx0 h q1
      walk_at "evh"
end K09
namespace K09
open PySem L2 R
def exAns (k : Kd) (s t x : List Nat) : D := if x = (ex k s t).1 then .str (ex k s t).2 else .non
theorem written_ex {F : D} {k : Kd} {s t : List Nat} (h : Has F k s t) (hk : k ≠ .leap) (hs : s.length ≤ 1000) (ht : t.length ≤ 1000) (x : List Nat) : g__law_written [F, .str x] = some (.d (exAns k s t x)) := by
  have f1 : fAdd (.str s) (.str s) = some (.str (s ++ s)) := fAdd_str (by omega)
  have f2 : fAdd (.str s) (.str t) = some (.str (s ++ t)) := fAdd_str (by omega)
  have f3 : fAdd (.str t) (.str s) = some (.str (t ++ s)) := fAdd_str (by omega)
  have h0 := h.a0
  have h1 := h.a1
  have h2 := h.a2
  clear h hs ht
  unfold g__law_written m__law_written
  by_cases e : x = (ex k s t).1
  · rw [show exAns k s t x = .str (ex k s t).2 from if_pos e]
    cases k <;> first | exact absurd rfl hk | skip
    all_goals simp only [kn, four, forall_const] at h0 h2
    all_goals simp only [ex] at e ⊢
    all_goals (have e' := decide_eq_true e; clear hk e; walk_at "evh"; try rfl)
  · rw [show exAns k s t x = .non from if_neg e]
    cases k <;> first | exact absurd rfl hk | skip
    all_goals simp only [kn, four, forall_const] at h0 h2
    all_goals simp only [ex] at e
    all_goals (have e' := decide_eq_false e; clear hk e; walk_at "evh"; try rfl)
theorem ex_len (k : Kd) (s t : List Nat) (hs : s.length ≤ 1000) (ht : t.length ≤ 1000) (h1 : 1 ≤ s.length) : 1 ≤ (ex k s t).1.length ∧ (ex k s t).1.length ≤ 2000 := by
  cases k <;> simp only [ex, List.length_append] <;> omega
theorem kleap (k : Kd) (hk : k ≠ .leap) : decide (S (kn k) = S "leap") = false := by
  cases k <;> first | exact absurd rfl hk | (rw [kn, dS]; rfl)
theorem piece_ex {F : D} {k : Kd} {s t : List Nat} (h : Has F k s t) (hk : k ≠ .leap) (hs : s.length ≤ 1000) (ht : t.length ≤ 1000) (h1 : 1 ≤ s.length) (x : List Nat) (hx : x.length ≤ 1000) :
    g_piece_at [F, .str x, .int 0] = some (.d (if x.take (ex k s t).1.length = (ex k s t).1 then .str (ex k s t).1 else .non)) := by
  have he := v_call (exchange_eq h hs ht)
  have hn := ex_len k s t hs ht h1
  have h0 := h.a0
  have hkl := kleap k hk
  generalize ex k s t = pq at *
  obtain ⟨p, q⟩ := pq
  simp only at he hn ⊢
  have hl := fLen_str (show p.length ≤ 100000 by omega)
  have s1 : fSl (.str x) (some 0) (some (0 + (p.length : Int))) = some (.str (x.take p.length)) := by
    rw [fSl_str (by omega), Int.zero_add, cut_take]
  unfold g_piece_at m_piece_at
  clear h hk hs ht h1 hx hn
  by_cases e : x.take p.length = p
  · have e' := decide_eq_true e
    rw [if_pos e]
    clear e
    walk_at "evh"
  · have e' := decide_eq_false e
    rw [if_neg e]
    clear e
    walk_at "evh"
theorem rewritten_ex {F : D} {k : Kd} {s t : List Nat} (h : Has F k s t) (hk : k ≠ .leap) (hs : s.length ≤ 1000) (ht : t.length ≤ 1000) (h1 : 1 ≤ s.length) (x : List Nat) (hx : x.length ≤ 1000) : g_rewritten [F, .str x] = some (.d (exAns k s t x)) := by
  have hl := fLen_str (show x.length ≤ 100000 by omega)
  have he := v_call (exchange_eq h hs ht)
  have hp := v_call (piece_ex h hk hs ht h1 x hx)
  have hn := ex_len k s t hs ht h1
  have h0 := h.a0
  have hkl := kleap k hk
  unfold exAns
  generalize ex k s t = pq at *
  obtain ⟨p, q⟩ := pq
  simp only at he hn hp ⊢
  unfold g_rewritten m_rewritten
  clear h hk hs ht h1 hx
  by_cases e : x = p
  · subst e
    rw [if_pos rfl]
    rw [List.take_length, if_pos rfl] at hp
    have e0 : decide ((x.length : Int) = 0) = false := decide_eq_false (by omega)
    clear hn
    walk_at "evh"
  · rw [if_neg e]
    cases x with
    | nil =>
      clear e hn hp
      walk_at "evh"
    | cons y r =>
      have e0 : decide (((y :: r).length : Int) = 0) = false := decide_eq_false (by simp only [List.length_cons]; omega)
      by_cases e2 : (y :: r).take p.length = p
      · rw [if_pos e2] at hp
        have e3 : decide (p = y :: r) = false := decide_eq_false fun z => e z.symm
        clear hn e e2
        generalize y :: r = x at *
        walk_at "evh"
      · rw [if_neg e2] at hp
        clear hn e e2
        generalize y :: r = x at *
        walk_at "evh"
theorem isi_str (x : List Nat) : fIsi [.str x, .ty "str"] = some (.bl true) := by
  show (match kitB "str" "str" with | some b => some (D.bl b) | none => none) = _
  have : kitB "str" "str" = some true := by decide +kernel
  rw [this]
theorem alike_non : g__law_alike [.non, .non] = some (.d (.bl true)) := rfl
theorem alike_str (x : List Nat) : g__law_alike [.str x, .str x] = some (.d (.bl true)) := by
  have e := isi_str x
  have e1 : fIs (.str x) .non = some (.bl false) := rfl
  unfold g__law_alike m__law_alike
  walk_at "evh"
/-- a fault of the law's own -/
structure Flt (al : List Nat) (k : Kd) (s t : List Nat) (p : Int) : Prop where
  s1 : 1 ≤ s.length
  s2 : s.length ≤ 3
  t1 : t.length ≤ 3
  lp : k = .leap → ∃ c, s = [c] ∧ t = []
  good : g_is_fault [.str al, .tup (items k s t p)] = some (.d (.bl true))
theorem same_ans {al : List Nat} {k : Kd} {s t : List Nat} {p : Int} (f : Flt al k s t p) {F : D} (h : Has F k s t) (x : List Nat) (hx : x.length ≤ 1000) :
    ∃ a, g_rewritten [F, .str x] = some (.d a) ∧ g__law_written [.tup (items k s t p), .str x] = some (.d a) ∧ g__law_alike [a, a] = some (.d (.bl true)) := by
  by_cases hk : k = .leap
  · obtain ⟨c, rfl, rfl⟩ := f.lp hk
    subst hk
    refine ⟨_, rewritten_leap h x hx, written_leap (has_tup _ _ _ _) x hx, ?_⟩
    unfold leapAns
    split
    · exact alike_str _
    · exact alike_non
  · have := f.s1
    have := f.s2
    have := f.t1
    refine ⟨_, rewritten_ex h hk (by omega) (by omega) (by omega) x hx, written_ex (has_tup _ _ _ _) hk (by omega) (by omega) x, ?_⟩
    unfold exAns
    split
    · exact alike_str _
    · exact alike_non
end K09
namespace K09
open PySem L2 R
theorem fMul_r {i j : Int} (h1 : -18446744073709551616 < j) (h2 : j < 18446744073709551616) : fMul (.int i) (.int j) = some (.int (i * j)) := by
  show (if cmulB i j = true then _ else _) = _
  have hc : cmulB i j = true := decide_eq_true (.inr ⟨by omega, by omega⟩)
  rw [if_pos hc]
theorem fMul_l {i j : Int} (h1 : -18446744073709551616 < i) (h2 : i < 18446744073709551616) : fMul (.int i) (.int j) = some (.int (i * j)) := by
  show (if cmulB i j = true then _ else _) = _
  have hc : cmulB i j = true := decide_eq_true (.inl ⟨by omega, by omega⟩)
  rw [if_pos hc]
theorem fMod_int {i j : Int} (h : 0 < j) : fMod (.int i) (.int j) = some (.int (i % j)) := if_pos h
theorem fDiv_int {i j : Int} (h : 0 < j) (h2 : j < 1073741824) : fDiv (.int i) (.int j) = some (.int (i / j)) := if_pos ⟨h, h2⟩
theorem ix_map {ns : List Int} {k : Nat} {z : Int} (h : ns[k]? = some z) : atI (ns.map D.int) (k : Int) = some (.int z) := atI_nat (by rw [List.getElem?_map, h]; rfl)
theorem cell_ok (ns : List Int) (k : Nat) (hk : k < 1000) : ∃ c, g__law_cell [.lsk (ns.map .int), .int (k : Int)] = some (.d (.int c)) := by
  unfold g__law_cell m__law_cell
  by_cases h : k < ns.length
  · obtain ⟨z, hz⟩ : ∃ z, ns[k]? = some z := ⟨_, List.getElem?_eq_getElem h⟩
    have e1 : decide ((k : Int) < ((ns.map D.int).length : Int)) = true := decide_eq_true (by rw [List.length_map]; omega)
    have e2 := ix_map hz
    refine ⟨z, ?_⟩
    clear hk h hz
    walk_at "evh"
  · have e1 : decide ((k : Int) < ((ns.map D.int).length : Int)) = false := decide_eq_false (by rw [List.length_map]; omega)
    let P : Slots → Prop := fun ρ => ∃ (sd : Int) (x : Option Sl), 0 ≤ sd ∧ sd < 1000003 ∧ ρ = [some (.d (.lsk (ns.map .int))), some (.d (.int (k : Int))), some (.d (.int sd)), x]
    obtain ⟨ρ', h1, sd, x, q1, q2, q3⟩ := for_thru (mg := gN 3) (b := (mSet 2 (m2 fMod (mCB fInt (mCons (m2 fAdd (m2 fMul (mBor 2) (mC (.int 31))) (m2 fMod (mCB fInt (mCons (mBor 3) mNil)) (mC (.int 1000003)))) mNil)) (mC (.int 1000003))))) (xs := ns.map D.int)
      (ρ := [some (.d (.lsk (ns.map .int))), some (.d (.int (k : Int))), some (.d (.int 17)), none]) P ⟨17, none, by decide, by decide, rfl⟩ (fun y ρ hy hp => by
        obtain ⟨n, _, rfl⟩ := List.mem_map.mp hy
        obtain ⟨sd, x, q1, q2, rfl⟩ := hp
        have f1 : fMul (.int sd) (.int 31) = some (.int (sd * 31)) := fMul_r (by omega) (by omega)
        have f2 : fMod (.int n) (.int 1000003) = some (.int (n % 1000003)) := fMod_int (by omega)
        have f3 : fMod (.int (sd * 31 + n % 1000003)) (.int 1000003) = some (.int ((sd * 31 + n % 1000003) % 1000003)) := fMod_int (by omega)
        refine ⟨_, [some (.d (.lsk (ns.map .int))), some (.d (.int (k : Int))), some (.d (.int ((sd * 31 + n % 1000003) % 1000003))), some (.d (.int n))], rfl, ?_, ⟨_, _, by omega, by omega, rfl⟩⟩
        clear q1 q2 hy e1 h hk
        walk_at "evh")
    have f1 : fMul (.int (sd + 7)) (.int ((k : Int) + 3)) = some (.int ((sd + 7) * ((k : Int) + 3))) := fMul_r (by omega) (by omega)
    have f2 : fMul (.int ((sd + 7) * ((k : Int) + 3))) (.int 69621) = some (.int ((sd + 7) * ((k : Int) + 3) * 69621)) := fMul_r (by omega) (by omega)
    have f3 : fMod (.int ((sd + 7) * ((k : Int) + 3) * 69621)) (.int 2147483647) = some (.int ((sd + 7) * ((k : Int) + 3) * 69621 % 2147483647)) := fMod_int (by omega)
    refine ⟨(sd + 7) * ((k : Int) + 3) * 69621 % 2147483647, ?_⟩
    clear q1 q2 h hk
    subst q3
    walk_at "evh"
/-! digits -/
def Dg (row sizes : List Int) : Prop := ∀ (j : Nat) (d z : Int), row[j]? = some d → sizes[j]? = some z → 0 ≤ d ∧ d < z
theorem Dg.snoc {row sizes : List Int} {d z : Int} (h : Dg row sizes) (hz : sizes[row.length]? = some z) (h0 : 0 ≤ d) (h1 : d < z) : Dg (row ++ [d]) sizes := by
  intro j d' z' hj hs
  rw [List.getElem?_append] at hj
  split at hj
  · exact h j d' z' hj hs
  · rename_i hl
    have : j = row.length := by
      have := (List.getElem?_eq_some_iff.mp hj).1
      simp at this
      omega
    subst this
    simp at hj
    subst hj
    rw [hz] at hs
    cases hs
    exact ⟨h0, h1⟩
theorem pow18 : fPow (.int 10) (.int 18) = some (.int 1000000000000000000) := by
  have hc : (0 : Int) ≤ 18 ∧ (18 : Int) ≤ 1000000 ∧ (10 : Int).natAbs < 2 ^ 64 := ⟨by decide, by decide, by decide⟩
  show (if (0 : Int) ≤ 18 ∧ (18 : Int) ≤ 1000000 ∧ (10 : Int).natAbs < 2 ^ 64 then some (D.int ((10 : Int) ^ (18 : Int).toNat)) else none) = _
  rw [if_pos hc]
  rfl
theorem digits_hi (c : Int) (h : (1000000000000000000 : Int) ≤ c) (sizes : List Int) (hs : ∀ z ∈ sizes, 0 < z ∧ z < 1073741824) (hl : sizes.length ≤ 1000) : ∃ row : List Int, g__law_digits [.int c, .lst (sizes.map .int)] = some (.own (.lst (row.map .int))) ∧ row.length = sizes.length ∧ Dg row sizes := by
  have hp := pow18
  unfold g__law_digits m__law_digits
  have e1 : decide ((1000000000000000000 : Int) ≤ c) = true := decide_eq_true h
  let P : Nat → Slots → Prop := fun i ρ => ∃ (row : List Int) (r : Int) (x : Option Sl), row.length = i ∧ Dg row sizes ∧ ρ = [some (.d (.int c)), some (.d (.lst (sizes.map .int))), some (.own (.lst (row.map .int))), some (.d (.int r)), none, none, x, none]
  obtain ⟨ρ', h1, row, r, x, q1, q2, q3⟩ := for_ix (mg := gN 6) (b := (mSeq (mApp 2 (m2 fMod (mCB fInt (mCons (mBor 3) mNil)) (mBor 6)))
    (mSet 3 (m2 fDiv (mCB fInt (mCons (mBor 3) mNil)) (mBor 6))))) (ρ := []) P (sizes.map D.int) 0
    [some (.d (.int c)), some (.d (.lst (sizes.map .int))), some (.own (.lst [])), some (.d (.int (c - 1000000000000000000))), none, none, none, none] ⟨[], c - 1000000000000000000, none, rfl, fun j d z hj => by simp at hj, rfl⟩ (fun i y ρ hy hp => by
      rw [Nat.zero_add] at hp ⊢
      obtain ⟨row, r, x, q1, q2, rfl⟩ := hp
      rw [List.getElem?_map] at hy
      cases hz : sizes[i]? with
      | none => rw [hz] at hy; cases hy
      | some z =>
        rw [hz] at hy
        cases hy
        obtain ⟨z1, z2⟩ := hs z (List.mem_of_getElem? hz)
        have hi : i < sizes.length := (List.getElem?_eq_some_iff.mp hz).1
        have f1 : fMod (.int r) (.int z) = some (.int (r % z)) := fMod_int z1
        have f2 : fDiv (.int r) (.int z) = some (.int (r / z)) := fDiv_int z1 z2
        have f3 : (row.map D.int).length < sizeLine := Nat.lt_of_lt_of_le (show (row.map D.int).length < 100000 by rw [List.length_map]; omega) (by decide)
        have m1 := Int.emod_nonneg r (show z ≠ 0 by omega)
        have m2 := Int.emod_lt_of_pos r z1
        refine ⟨_, [some (.d (.int c)), some (.d (.lst (sizes.map .int))), some (.own (.lst ((row ++ [r % z]).map .int))), some (.d (.int (r / z))), none, none, some (.d (.int z)), none], rfl, ?_, ⟨_, _, _, by rw [List.length_append, q1]; rfl, q2.snoc (by rw [q1]; exact hz) m1 m2, rfl⟩⟩
        rw [List.map_append]
        clear m1 m2 q1 q2 hz hi z1 z2 hs hl e1 h
        walk_at "evh")
  rw [Nat.zero_add, List.length_map] at q1
  refine ⟨row, ?_, q1, q2⟩
  clear q1 q2 hs hl h
  subst q3
  walk_at "evh"
abbrev mLo : MS := (mSeq (mSet 4 (m2 fMod (mCB fInt (mCons (m2 fAdd (m2 fAdd (m2 fMul (mBor 4) (mC (.int 48271))) (m2 fMul (mC (.int 974711)) (mBor 5))) (mC (.int 12345))) mNil)) (mC (.int 2147483647))))
    (mSeq (mSet 7 (m2 fMod (mCB fInt (mCons (m2 fMul (mBor 4) (m2 fAdd (m2 fDiv (mBor 4) (mC (.int 65537))) (mC (.int 3)))) mNil)) (mC (.int 2147483629))))
    (mApp 2 (m2 fMod (m2 fDiv (mBor 7) (mC (.int 19))) (m2 fIx (mBor 1) (mBor 5))))))
theorem lo_turn {c sd z A B i : Int} {sizes : List Int} {row : List D} {x y : Option Sl} (f1 : fMul (.int sd) (.int 48271) = some (.int (sd * 48271))) (f2 : fMul (.int 974711) (.int i) = some (.int (974711 * i)))
    (f3 : fMod (.int (sd * 48271 + 974711 * i + 12345)) (.int 2147483647) = some (.int A)) (f4 : fDiv (.int A) (.int 65537) = some (.int (A / 65537))) (f5 : fMul (.int A) (.int (A / 65537 + 3)) = some (.int (A * (A / 65537 + 3))))
    (f6 : fMod (.int (A * (A / 65537 + 3))) (.int 2147483629) = some (.int B)) (f7 : fDiv (.int B) (.int 19) = some (.int (B / 19))) (f8 : fMod (.int (B / 19)) (.int z) = some (.int (B / 19 % z))) (f9 : row.length < sizeLine) (g1 : atI (sizes.map D.int) i = some (.int z)) :
    mLo [some (.d (.int c)), some (.d (.lst (sizes.map .int))), some (.own (.lst row)), some (.d (.int c)), some (.d (.int sd)), some (.d (.int i)), none, y] =
      .nx [some (.d (.int c)), some (.d (.lst (sizes.map .int))), some (.own (.lst (row ++ [.int (B / 19 % z)]))), some (.d (.int c)), some (.d (.int A)), some (.d (.int i)), none, some (.d (.int B))] := by
  walk_at "evh"
theorem lo_step {c sd z : Int} {i : Nat} {sizes : List Int} {row : List D} {x y : Option Sl} (q3 : 0 ≤ sd) (q4 : sd < 2147483647) (z1 : 0 < z) (f9 : row.length < sizeLine) (g1 : atI (sizes.map D.int) (i : Int) = some (.int z)) :
    ∃ A B : Int, 0 ≤ A ∧ A < 2147483647 ∧ mLo [some (.d (.int c)), some (.d (.lst (sizes.map .int))), some (.own (.lst row)), some (.d (.int c)), some (.d (.int sd)), some (.d (.int (i : Int))), none, y] =
      .nx [some (.d (.int c)), some (.d (.lst (sizes.map .int))), some (.own (.lst (row ++ [.int (B / 19 % z)]))), some (.d (.int c)), some (.d (.int A)), some (.d (.int (i : Int))), none, some (.d (.int B))] := by
  have A1 : 0 ≤ (sd * 48271 + 974711 * (i : Int) + 12345) % 2147483647 := Int.emod_nonneg _ (by decide)
  have A2 : (sd * 48271 + 974711 * (i : Int) + 12345) % 2147483647 < 2147483647 := Int.emod_lt_of_pos _ (by decide)
  refine ⟨_, _, A1, A2, lo_turn (x := x) (fMul_r (by decide) (by decide)) (fMul_l (by decide) (by decide)) (fMod_int (by decide)) (fDiv_int (by decide) (by decide)) (fMul_l (by omega) (by omega)) (fMod_int (by decide)) (fDiv_int (by decide) (by decide)) (fMod_int z1) f9 g1⟩
theorem lo_loop {c : Int} {sizes : List Int} (hs : ∀ z ∈ sizes, 0 < z ∧ z < 1073741824) (hl : sizes.length ≤ 1000) (sd0 : Int) (s1 : 0 ≤ sd0) (s2 : sd0 < 2147483647) : ∃ ρ', forGo (gN 5) mLo (rngD 0 sizes.length) [some (.d (.int c)), some (.d (.lst (sizes.map .int))), some (.own (.lst [])), some (.d (.int c)), some (.d (.int sd0)), none, none, none] = .nx ρ' ∧
    ∃ (row : List Int) (sd : Int) (x y : Option Sl), row.length = sizes.length ∧ Dg row sizes ∧ ρ' = [some (.d (.int c)), some (.d (.lst (sizes.map .int))), some (.own (.lst (row.map .int))), some (.d (.int c)), some (.d (.int sd)), x, none, y] := by
  let P : Nat → Slots → Prop := fun i ρ => ∃ (row : List Int) (sd : Int) (x y : Option Sl), row.length = i ∧ Dg row sizes ∧ 0 ≤ sd ∧ sd < 2147483647 ∧ ρ = [some (.d (.int c)), some (.d (.lst (sizes.map .int))), some (.own (.lst (row.map .int))), some (.d (.int c)), some (.d (.int sd)), x, none, y]
  have hrl : (rngD 0 sizes.length).length = sizes.length := by unfold rngD; rw [List.length_map, List.length_range]
  obtain ⟨ρ', h1, row, sd, x, y, q1, q2, q3, q4, q5⟩ := for_ix (mg := gN 5) (b := mLo) (ρ := []) P (rngD 0 sizes.length) 0
      [some (.d (.int c)), some (.d (.lst (sizes.map .int))), some (.own (.lst [])), some (.d (.int c)), some (.d (.int sd0)), none, none, none] ⟨[], sd0, none, none, rfl, fun j d z hj => by simp at hj, s1, s2, rfl⟩ (fun i y ρ hy hp => by
    rw [Nat.zero_add] at hp ⊢
    obtain ⟨row, sd, x, y2, q1, q2, q3, q4, rfl⟩ := hp
    unfold rngD at hy
    rw [List.getElem?_map] at hy
    by_cases hi : i < sizes.length
    · rw [List.getElem?_range hi] at hy
      have hy : some (D.int (0 + (i : Int))) = some y := hy
      rw [Int.zero_add] at hy
      cases hy
      obtain ⟨z, hz⟩ : ∃ z, sizes[i]? = some z := ⟨_, List.getElem?_eq_getElem hi⟩
      obtain ⟨z1, z2⟩ := hs z (List.mem_of_getElem? hz)
      have f9 : (row.map D.int).length < sizeLine := Nat.lt_of_lt_of_le (show (row.map D.int).length < 100000 by rw [List.length_map]; omega) (by decide)
      obtain ⟨A, B, A1, A2, e⟩ := lo_step (c := c) (x := x) (y := y2) (i := i) (sizes := sizes) q3 q4 z1 f9 (ix_map hz)
      refine ⟨_, _, rfl, e, row ++ [B / 19 % z], A, some (.d (.int (i : Int))), some (.d (.int B)), by rw [List.length_append, q1]; rfl, q2.snoc (by rw [q1]; exact hz) (Int.emod_nonneg _ (by omega)) (Int.emod_lt_of_pos _ z1), A1, A2, ?_⟩
      rw [List.map_append]
      rfl
    · rw [List.getElem?_eq_none (by rw [List.length_range]; omega)] at hy
      cases hy)
  rw [Nat.zero_add, hrl] at q1
  exact ⟨ρ', h1, row, sd, x, y, q1, q2, q5⟩
theorem rng_if (n : Nat) (h : n ≤ 1000) : (if -4000000000000000000 ≤ (n : Int) ∧ (n : Int) < 4000000000000000000 then some (rngD 0 (n : Int).toNat) else none) = some (rngD 0 n) := by
  rw [if_pos ⟨by omega, by omega⟩, Int.toNat_natCast]
theorem digits_lo (c : Int) (h : ¬ (1000000000000000000 : Int) ≤ c) (sizes : List Int) (hs : ∀ z ∈ sizes, 0 < z ∧ z < 1073741824) (hl : sizes.length ≤ 1000) : ∃ row : List Int, g__law_digits [.int c, .lst (sizes.map .int)] = some (.own (.lst (row.map .int))) ∧ row.length = sizes.length ∧ Dg row sizes := by
  have hp := pow18
  unfold g__law_digits m__law_digits
  have e1 : decide ((1000000000000000000 : Int) ≤ c) = false := decide_eq_false h
  have f0 : fMod (.int c) (.int 2147483629) = some (.int (c % 2147483629)) := fMod_int (by decide)
  have er := rng_if (sizes.map D.int).length (by rw [List.length_map]; exact hl)
  obtain ⟨ρ', h1, row, sd, x, y, q1, q2, q3⟩ := lo_loop (c := c) hs hl (c % 2147483629) (Int.emod_nonneg _ (by decide)) (Int.lt_trans (Int.emod_lt_of_pos _ (by decide)) (by decide))
  refine ⟨row, ?_, q1, q2⟩
  rw [← List.length_map (as := sizes) D.int] at h1
  clear q1 q2 hs hl h
  subst q3
  walk_at "evh"
theorem digits_ok (c : Int) (sizes : List Int) (hs : ∀ z ∈ sizes, 0 < z ∧ z < 1073741824) (hl : sizes.length ≤ 1000) : ∃ row : List Int, g__law_digits [.int c, .lst (sizes.map .int)] = some (.own (.lst (row.map .int))) ∧ row.length = sizes.length ∧ Dg row sizes := by
  by_cases h : (1000000000000000000 : Int) ≤ c
  · exact digits_hi c h sizes hs hl
  · exact digits_lo c h sizes hs hl
end K09
namespace K09
open PySem L2 R
def abc : List Nat := S "abcdefghijklmnopqrstuvwxyz"
theorem abc_len : abc.length = 26 := by decide +kernel
theorem abc_at : ∀ p, p < 26 → abc[p]? = some (97 + p) := by decide +kernel
theorem abc_ix (p : Nat) (h : p < 26) : fIx (.str abc) (.int (p : Int)) = some (.str [97 + p]) := fIx_str (by rw [abc_len]; decide) (atI_nat (abc_at p h))
theorem pick8 (r : Int) (h0 : 0 ≤ r) (h1 : r < 8) : ∃ n : Nat, atI [D.int 2, .int 1, .int 3, .int 2, .int 6, .int 2, .int 4, .int 5] r = some (.int ((n : Int) + 1)) ∧ n ≤ 5 := by
  have : r = 0 ∨ r = 1 ∨ r = 2 ∨ r = 3 ∨ r = 4 ∨ r = 5 ∨ r = 6 ∨ r = 7 := by omega
  rcases this with rfl | rfl | rfl | rfl | rfl | rfl | rfl | rfl
  · exact ⟨1, rfl, by decide⟩
  · exact ⟨0, rfl, by decide⟩
  · exact ⟨2, rfl, by decide⟩
  · exact ⟨1, rfl, by decide⟩
  · exact ⟨5, rfl, by decide⟩
  · exact ⟨1, rfl, by decide⟩
  · exact ⟨3, rfl, by decide⟩
  · exact ⟨4, rfl, by decide⟩
theorem dig {row sizes : List Int} (h : Dg row sizes) (hl : row.length = sizes.length) {j : Nat} {z : Int} (hz : sizes[j]? = some z) : ∃ d, row[j]? = some d ∧ 0 ≤ d ∧ d < z := by
  have hj : j < row.length := by
    have := (List.getElem?_eq_some_iff.mp hz).1
    omega
  exact ⟨_, List.getElem?_eq_getElem hj, h j _ z (List.getElem?_eq_getElem hj) hz⟩
abbrev mLet2 : MS := (mSeq (mSet 2 (m2 fAdd (m2 fAdd (mBor 2) (mC (.int 1))) (m2 fIx (mBor 0) (m2 fAdd (mC (.int 2)) (mBor 4)))))
    (mSet 3 (m2 fAdd (mBor 3) (m2 fIx (mBor 1) (mBor 2)))))
theorem let2_turn {row : List D} {pl d : Int} {i : Int} {ch : List Nat} {q : Nat} {x : Option Sl} (g1 : atI row (2 + i) = some (.int d)) (g2 : fIx (.str abc) (.int (pl + 1 + d)) = some (.str [q])) (g3 : fAdd (.str ch) (.str [q]) = some (.str (ch ++ [q]))) :
    mLet2 [some (.d (.lst row)), some (.d (.str abc)), some (.d (.int pl)), some (.d (.str ch)), some (.d (.int i))] = .nx [some (.d (.lst row)), some (.d (.str abc)), some (.d (.int (pl + 1 + d))), some (.d (.str (ch ++ [q]))), some (.d (.int i))] := by
  walk_at "evh"
theorem letters_ok (row : List Int) (hl : row.length = 7) (h : Dg row [8, 6, 4, 4, 4, 4, 4]) : ∃ al : List Nat, g__law_letters [.lst (row.map .int)] = some (.d (.str al)) ∧ al.Nodup ∧ 1 ≤ al.length ∧ al.length ≤ 6 := by
  obtain ⟨r0, a0, b0, c0⟩ := dig (j := 0) h hl rfl
  obtain ⟨r1, a1, b1, c1⟩ := dig (j := 1) h hl rfl
  obtain ⟨n, p1, p2⟩ := pick8 r0 b0 c0
  have i0 := ix_map a0
  have i1 := ix_map a1
  have e1 : r1 = ((r1.toNat : Nat) : Int) := by omega
  have x1 := abc_ix r1.toNat (by omega)
  rw [← e1] at x1
  let P : Nat → Slots → Prop := fun i ρ => ∃ (pl : Nat) (ch : List Nat) (x : Option Sl), pl ≤ 5 + 4 * i ∧ ch.length = i + 1 ∧ ch.Nodup ∧ (∀ c ∈ ch, c ≤ 97 + pl) ∧ ρ = [some (.d (.lst (row.map .int))), some (.d (.str abc)), some (.d (.int (pl : Int))), some (.d (.str ch)), x]
  have hrl : (rngD 0 n).length = n := by unfold rngD; rw [List.length_map, List.length_range]
  obtain ⟨ρ', h1, pl, ch, x, q1, q2, q3, q4, q5⟩ := for_ix (mg := gN 4) (b := mLet2) (ρ := []) P (rngD 0 n) 0 [some (.d (.lst (row.map .int))), some (.d (.str abc)), some (.d (.int r1)), some (.d (.str [97 + r1.toNat])), none]
    ⟨r1.toNat, [97 + r1.toNat], none, by omega, rfl, List.nodup_cons.mpr ⟨by simp, List.nodup_nil⟩, fun c hc => by simp at hc; omega, by rw [← e1]⟩ (fun i y ρ hy hp => by
      rw [Nat.zero_add] at hp ⊢
      obtain ⟨pl, ch, x, q1, q2, q3, q4, rfl⟩ := hp
      unfold rngD at hy
      rw [List.getElem?_map] at hy
      by_cases hi : i < n
      · rw [List.getElem?_range hi] at hy
        have hy : some (D.int (0 + (i : Int))) = some y := hy
        rw [Int.zero_add] at hy
        cases hy
        have hz : ([8, 6, 4, 4, 4, 4, 4] : List Int)[2 + i]? = some 4 := by
          have : i = 0 ∨ i = 1 ∨ i = 2 ∨ i = 3 ∨ i = 4 := by omega
          rcases this with rfl | rfl | rfl | rfl | rfl <;> rfl
        obtain ⟨d, d0, d1, d2⟩ := dig h hl hz
        have g1 := ix_map d0
        rw [show (((2 + i : Nat)) : Int) = 2 + (i : Int) by omega] at g1
        have ep : (pl : Int) + 1 + d = ((pl + 1 + d.toNat : Nat) : Int) := by omega
        have g2 := abc_ix (pl + 1 + d.toNat) (by omega)
        rw [← ep] at g2
        have g3 : fAdd (.str ch) (.str [97 + (pl + 1 + d.toNat)]) = some (.str (ch ++ [97 + (pl + 1 + d.toNat)])) := fAdd_str (by rw [q2, List.length_singleton]; omega)
        refine ⟨_, _, rfl, let2_turn (x := none) g1 g2 g3, pl + 1 + d.toNat, ch ++ [97 + (pl + 1 + d.toNat)], some (.d (.int (i : Int))), by omega, by rw [List.length_append, q2]; rfl, ?_, fun c hc => ?_, by rw [ep]⟩
        · rw [List.nodup_append]
          refine ⟨q3, List.nodup_cons.mpr ⟨by simp, List.nodup_nil⟩, fun a ha b hb => ?_⟩
          have := q4 a ha
          simp at hb
          omega
        · rcases List.mem_append.mp hc with hc | hc
          · have := q4 c hc
            omega
          · simp at hc
            omega
      · rw [List.getElem?_eq_none (by rw [List.length_range]; omega)] at hy
        cases hy)
  rw [Nat.zero_add, hrl] at q2
  refine ⟨ch, ?_, q3, by omega, by omega⟩
  have er := rng_if n (by omega)
  have es : ((n : Int) + 1 - 1) = (n : Int) := by omega
  clear q1 q2 q3 q4 hrl h hl a0 b0 c0 a1 b1 c1 e1 p2
  subst q5
  unfold g__law_letters m__law_letters
  have hab : S "abcdefghijklmnopqrstuvwxyz" = abc := rfl
  rw [hab]
  have i0 : atI (List.map D.int row) 0 = some (D.int r0) := i0
  have i1 : atI (List.map D.int row) 1 = some (D.int r1) := i1
  walk_at "evh"
/-! comprehensions over a range -/
theorem lc_rng {j : Nat} {me : ME} {ρ : Slots} {n : Nat} (g : Nat → D) (h : ∀ k, k < n → me (ρ.set j (some (.d (.int (k : Int))))) = some (g k)) : lcGo j mYes me ρ (rngD 0 n) = some ((List.range n).map g) := by
  have e : (rngD 0 n).map (fun d => match d with | .int k => g k.toNat | _ => .non) = (List.range n).map g := by
    unfold rngD
    rw [List.map_map]
    refine List.map_congr_left fun k _ => ?_
    show g (0 + (k : Int)).toNat = g k
    rw [Int.zero_add, Int.toNat_natCast]
  rw [← e]
  refine lc_map _ _ fun x hx => ?_
  unfold rngD at hx
  obtain ⟨k, hk, rfl⟩ := List.mem_map.mp hx
  have := h k (List.mem_range.mp hk)
  rw [Int.zero_add]
  rw [this]
  show some (g k) = some (g (k : Int).toNat)
  rw [Int.toNat_natCast]
theorem strs_one (f : Nat → Nat) : ∀ l : List Nat, strsOf (l.map fun k => D.str [f k]) = some (l.map fun k => [f k])
  | [] => rfl
  | k :: l => by
    rw [List.map_cons, List.map_cons]
    unfold strsOf
    rw [strs_one f l]
theorem flat_one (f : Nat → Nat) : ∀ l : List Nat, (l.map fun k => [f k]).flatten = l.map f
  | [] => rfl
  | k :: l => by rw [List.map_cons, List.flatten_cons, flat_one f l]; rfl
theorem sum_one (f : Nat → Nat) : ∀ l : List Nat, ((l.map fun k => [f k]).map List.length).sum = l.length
  | [] => rfl
  | k :: l => by
    rw [List.map_cons, List.map_cons, List.sum_cons, sum_one f l, List.length_cons, List.length_cons, List.length_nil]
    omega
theorem join_one (f : Nat → Nat) (l : List Nat) (h : l.length ≤ 1000) : fJoin (S "") [.lst (l.map fun k => D.str [f k])] = some (.str (l.map f)) := by
  show joinE (l.map fun k => D.str [f k]) = _
  unfold joinE
  rw [strs_one]
  show (if ((l.map fun k => [f k]).map List.length).sum ≤ 16777216 then _ else _) = _
  rw [sum_one, if_pos (by omega), flat_one]
end K09
namespace K09
open PySem L2 R
theorem pick7 (r : Int) (h0 : 0 ≤ r) (h1 : r < 7) : ∃ k : Kd, atI [D.str (S "mistake"), .str (S "omit"), .str (S "double"), .str (S "merge"), .str (S "turn"), .str (S "gloss"), .str (S "leap")] r = some (.str (S (kn k))) := by
  have : r = 0 ∨ r = 1 ∨ r = 2 ∨ r = 3 ∨ r = 4 ∨ r = 5 ∨ r = 6 := by omega
  rcases this with rfl | rfl | rfl | rfl | rfl | rfl | rfl
  · exact ⟨.mistake, rfl⟩
  · exact ⟨.omit, rfl⟩
  · exact ⟨.double, rfl⟩
  · exact ⟨.merge, rfl⟩
  · exact ⟨.turn, rfl⟩
  · exact ⟨.gloss, rfl⟩
  · exact ⟨.leap, rfl⟩
theorem pick5 (r p : Int) (h0 : 0 ≤ r) (h1 : r < 5) (p0 : 0 ≤ p) (p1 : p < 99) : ∃ q : Int, atI [D.int 1, .int 2, .int 99, .int 3, .int (1 + p)] r = some (.int q) ∧ 1 ≤ q ∧ q ≤ 99 := by
  have : r = 0 ∨ r = 1 ∨ r = 2 ∨ r = 3 ∨ r = 4 := by omega
  rcases this with rfl | rfl | rfl | rfl | rfl
  · exact ⟨1, rfl, by decide, by decide⟩
  · exact ⟨2, rfl, by decide, by decide⟩
  · exact ⟨99, rfl, by decide, by decide⟩
  · exact ⟨3, rfl, by decide, by decide⟩
  · exact ⟨1 + p, rfl, by omega, by omega⟩
/-- the letter of the alphabet that a digit picks -/
def lt (al : List Nat) (r : Int) : Nat := al.getD (r % (al.length : Int)).toNat 0
theorem lt_at (al : List Nat) (r : Int) (h1 : 1 ≤ al.length) : al[(r % (al.length : Int)).toNat]? = some (lt al r) := by
  have a := Int.emod_nonneg r (show (al.length : Int) ≠ 0 by omega)
  have b := Int.emod_lt_of_pos r (show (0 : Int) < al.length by omega)
  have hj : (r % (al.length : Int)).toNat < al.length := by omega
  unfold lt
  rw [List.getD_eq_getElem?_getD, List.getElem?_eq_getElem hj]
  rfl
theorem lt_mem (al : List Nat) (r : Int) (h1 : 1 ≤ al.length) : lt al r ∈ al := List.mem_of_getElem? (lt_at al r h1)
theorem lt_ix (al : List Nat) (r : Int) (h1 : 1 ≤ al.length) (h2 : al.length ≤ 1000) : fIx (.str al) (.int (r % (al.length : Int))) = some (.str [lt al r]) := by
  refine fIx_str (by omega) ?_
  have a := Int.emod_nonneg r (show (al.length : Int) ≠ 0 by omega)
  have := atI_nat (lt_at al r h1)
  rw [Int.toNat_of_nonneg a] at this
  exact this
theorem lt_ne (al : List Nat) (hn : al.Nodup) (h1 : 2 ≤ al.length) (h2 : al.length ≤ 6) (a b : Int) (ha : 0 ≤ a) (hb : 0 ≤ b) : lt al a ≠ lt al (a + 1 + b % (if (al.length : Int) - 1 > 1 then (al.length : Int) - 1 else 1)) := by
  intro e
  have x := lt_at al a (by omega)
  have y := lt_at al (a + 1 + b % (if (al.length : Int) - 1 > 1 then (al.length : Int) - 1 else 1)) (by omega)
  rw [← e] at y
  have := nd_ix hn x y
  have hm : al.length = 2 ∨ al.length = 3 ∨ al.length = 4 ∨ al.length = 5 ∨ al.length = 6 := by omega
  rcases hm with hm | hm | hm | hm | hm <;> rw [hm] at this
  · rw [if_neg (by decide)] at this
    omega
  · rw [if_pos (by decide)] at this
    omega
  · rw [if_pos (by decide)] at this
    omega
  · rw [if_pos (by decide)] at this
    omega
  · rw [if_pos (by decide)] at this
    omega
def wd (al : List Nat) (row : List Int) (j n : Nat) : List Nat := (List.range n).map fun k => lt al (row.getD (j + k) 0)
theorem wd_len (al : List Nat) (row : List Int) (j n : Nat) : (wd al row j n).length = n := by unfold wd; rw [List.length_map, List.length_range]
theorem wd_isT (al : List Nat) (row : List Int) (j n : Nat) (h1 : 1 ≤ al.length) : isT al (wd al row j n) = true := by
  unfold isT wd
  rw [List.all_eq_true]
  intro c hc
  obtain ⟨k, _, rfl⟩ := List.mem_map.mp hc
  exact decide_eq_true (lt_mem al _ h1)
theorem wd_isW (al : List Nat) (row : List Int) (j n : Nat) (h1 : 1 ≤ al.length) (a : 1 ≤ n) (b : n ≤ 3) : isW al (wd al row j n) = true := by
  unfold isW
  rw [wd_isT al row j n h1, wd_len, decide_eq_true a, decide_eq_true b]
  rfl
theorem lt_isL (al : List Nat) (r : Int) (h1 : 1 ≤ al.length) : isL al [lt al r] = true := decide_eq_true (lt_mem al r h1)
/-- the body of the two comprehensions -/
theorem wd_go {al : List Nat} {row : List Int} {j n : Nat} {ρ : Slots} {rest : Slots} (h1 : 1 ≤ al.length) (h2 : al.length ≤ 1000) (hl : j + n ≤ row.length) {me : ME}
    (hme : ∀ (k : Nat) (d : Int), k < n → row[j + k]? = some d → me (ρ.set 8 (some (.d (.int (k : Int))))) = some (.str [lt al d])) : lcGo 8 mYes me ρ (rngD 0 n) = some ((List.range n).map fun k => D.str [lt al (row.getD (j + k) 0)]) := by
  refine lc_rng _ fun k hk => ?_
  have hj : j + k < row.length := by omega
  rw [hme k row[j + k] hk (List.getElem?_eq_getElem hj)]
  congr 3
  rw [List.getD_eq_getElem?_getD, List.getElem?_eq_getElem hj]
  rfl
abbrev mPick (c : Int) : ME := (m2 fIx (mBor 0) (m2 fMod (mCB fInt (mCons (m2 fIx (mBor 1) (m2 fAdd (mC (.int c)) (mBor 8))) mNil)) (mBor 2)))
theorem pick_eq {al : List Nat} {row : List Int} {j k : Nat} {d : Int} {x3 x4 x5 x6 x7 : Option Sl} (h1 : 1 ≤ al.length) (h2 : al.length ≤ 1000) (hd : row[j + k]? = some d) :
    mPick (j : Int) [some (.d (.str al)), some (.d (.lst (row.map .int))), some (.d (.int (al.length : Int))), x3, x4, x5, x6, x7, some (.d (.int (k : Int)))] = some (.str [lt al d]) := by
  have g1 := ix_map hd
  rw [show (((j + k : Nat)) : Int) = (j : Int) + (k : Int) by omega] at g1
  have g2 : fMod (.int d) (.int (al.length : Int)) = some (.int (d % (al.length : Int))) := fMod_int (by omega)
  have g3 := lt_ix al d h1 h2
  clear hd h1 h2
  walk_at "evh"
abbrev mFaultEnd : MS := (mSeq (mIf (mAnd (mT (m2 fEq (mBor 2) (mC (.int 1)))) (mOr (mT (m2 fEq (mBor 3) (mC (.str (S "mistake"))))) (mT (m2 fEq (mBor 3) (mC (.str (S "turn")))))))
    (mSet 3 (mC (.str (S "omit"))))
    mNext)
  (mSeq (mIf (mOr (mT (m2 fEq (mBor 3) (mC (.str (S "mistake"))))) (mT (m2 fEq (mBor 3) (mC (.str (S "turn"))))))
    (mRet (mTup (mCons (mVar 3) (mCons (m2 fIx (mBor 4) (mC (.int 0))) (mCons (mVar 6) (mCons (mVar 7) mNil))))))
    mNext)
  (mSeq (mIf (mT (m2 fEq (mBor 3) (mC (.str (S "gloss")))))
    (mRet (mTup (mCons (mVar 3) (mCons (mVar 4) (mCons (mVar 5) (mCons (mVar 7) mNil))))))
    mNext)
  (mSeq (mIf (mT (m2 fEq (mBor 3) (mC (.str (S "leap")))))
    (mRet (mTup (mCons (mVar 3) (mCons (m2 fIx (mBor 4) (mC (.int 0))) (mCons (mVar 7) mNil)))))
    mNext)
  (mRet (mTup (mCons (mVar 3) (mCons (mVar 4) (mCons (mVar 7) mNil)))))))))
theorem fault_end {al : List Nat} (hn : al.Nodup) (h1 : 1 ≤ al.length) (h2 : al.length ≤ 6) (rw : D) (k : Kd) (w v : List Nat) (w0 o : Nat) (p : Int) (p1 : 1 ≤ p) (p2 : p ≤ 99)
    (hw : w[0]? = some w0) (w1 : w.length ≤ 3) (hv1 : 1 ≤ v.length) (hv2 : v.length ≤ 3) (ww : isW al w = true) (wv : isW al v = true) (lw : isL al [w0] = true) (lo : isL al [o] = true) (ne : 2 ≤ al.length → w0 ≠ o) :
    ∃ k' s t, mFaultEnd [some (.d (.str al)), some (.d rw), some (.d (.int (al.length : Int))), some (.d (.str (S (kn k)))), some (.d (.str w)), some (.d (.str v)), some (.d (.str [o])), some (.d (.int p)), none] = .ret (.d (.tup (items k' s t p))) ∧ Flt al k' s t p := by
  have w0' : 1 ≤ w.length := by
    have := (List.getElem?_eq_some_iff.mp hw).1
    omega
  have gw : fIx (.str w) (.int 0) = some (.str [w0]) := fIx_str (by omega) (atI_nat (j := 0) hw)
  have q1 := decide_eq_true p1
  have q2 := decide_eq_true p2
  have g3 : ∀ k s, four k = false → s.length ≤ 3 → itemOk k al s = true → g_is_fault [.str al, .tup (items k s [] p)] = some (.d (.bl true)) := fun k s hk hs hi => by
    have := is_fault3 k al s p hk (by omega)
    rw [good3_eq k al s p hk, q1, q2, hi] at this
    unfold items
    rw [hk]
    exact this
  have g4 : ∀ k s t, four k = true → s.length ≤ 3 → t.length ≤ 3 → itemOk k al s = true → itemOk k al t = true → (!twoK k || !decide (s = t)) = true → g_is_fault [.str al, .tup (items k s t p)] = some (.d (.bl true)) := fun k s t hk hs ht hi hj he => by
    have := is_fault4 k al s t p hk (by omega) (by omega)
    rw [good4_eq k al s t p hk, q1, q2, hi, hj, he] at this
    unfold items
    rw [hk]
    exact this
  by_cases hm : al.length = 1
  · have em : decide ((al.length : Int) = 1) = true := decide_eq_true (by omega)
    cases k
    · exact ⟨.omit, w, [], by clear g3 g4 q1 q2; simp only [kn]; walk_at "evh"; rfl, w0', w1, by decide, fun h => (nomatch h), g3 .omit w rfl w1 ww⟩
    · exact ⟨.omit, w, [], by clear g3 g4 q1 q2; simp only [kn]; walk_at "evh"; rfl, w0', w1, by decide, fun h => (nomatch h), g3 .omit w rfl w1 ww⟩
    · exact ⟨.double, w, [], by clear g3 g4 q1 q2; simp only [kn]; walk_at "evh"; rfl, w0', w1, by decide, fun h => (nomatch h), g3 .double w rfl w1 ww⟩
    · exact ⟨.merge, w, [], by clear g3 g4 q1 q2; simp only [kn]; walk_at "evh"; rfl, w0', w1, by decide, fun h => (nomatch h), g3 .merge w rfl w1 ww⟩
    · exact ⟨.omit, w, [], by clear g3 g4 q1 q2; simp only [kn]; walk_at "evh"; rfl, w0', w1, by decide, fun h => (nomatch h), g3 .omit w rfl w1 ww⟩
    · exact ⟨.gloss, w, v, by clear g3 g4 q1 q2; simp only [kn]; walk_at "evh"; rfl, w0', w1, hv2, fun h => (nomatch h), g4 .gloss w v rfl w1 hv2 ww wv rfl⟩
    · exact ⟨.leap, [w0], [], by clear g3 g4 q1 q2; simp only [kn]; walk_at "evh"; rfl, by simp, by simp, by simp, fun _ => ⟨w0, rfl, rfl⟩, g3 .leap [w0] rfl (by simp) lw⟩
  · have em : decide ((al.length : Int) = 1) = false := decide_eq_false (by omega)
    have en : decide ([w0] = [o]) = false := decide_eq_false fun z => ne (by omega) (by injection z)
    cases k
    · exact ⟨.mistake, [w0], [o], by clear g3 g4 q1 q2 hm; simp only [kn]; walk_at "evh"; rfl, by simp, by simp, by simp, fun h => (nomatch h), g4 .mistake [w0] [o] rfl (by simp) (by simp) lw lo (by rw [en]; rfl)⟩
    · exact ⟨.omit, w, [], by clear g3 g4 q1 q2 hm; simp only [kn]; walk_at "evh"; rfl, w0', w1, by decide, fun h => (nomatch h), g3 .omit w rfl w1 ww⟩
    · exact ⟨.double, w, [], by clear g3 g4 q1 q2 hm; simp only [kn]; walk_at "evh"; rfl, w0', w1, by decide, fun h => (nomatch h), g3 .double w rfl w1 ww⟩
    · exact ⟨.merge, w, [], by clear g3 g4 q1 q2 hm; simp only [kn]; walk_at "evh"; rfl, w0', w1, by decide, fun h => (nomatch h), g3 .merge w rfl w1 ww⟩
    · exact ⟨.turn, [w0], [o], by clear g3 g4 q1 q2 hm; simp only [kn]; walk_at "evh"; rfl, by simp, by simp, by simp, fun h => (nomatch h), g4 .turn [w0] [o] rfl (by simp) (by simp) lw lo (by rw [en]; rfl)⟩
    · exact ⟨.gloss, w, v, by clear g3 g4 q1 q2 hm; simp only [kn]; walk_at "evh"; rfl, w0', w1, hv2, fun h => (nomatch h), g4 .gloss w v rfl w1 hv2 ww wv rfl⟩
    · exact ⟨.leap, [w0], [], by clear g3 g4 q1 q2 hm; simp only [kn]; walk_at "evh"; rfl, by simp, by simp, by simp, fun _ => ⟨w0, rfl, rfl⟩, g3 .leap [w0] rfl (by simp) lw⟩
def mFE : MS := mFaultEnd
theorem fault_split : m__law_fault = (mSeq (mSet 2 (mCB fLen (mCons (mBor 0) mNil)))
  (mSeq (mSet 3 (m2 fIx (mF (mLst (mCons (mC (.str (S "mistake"))) (mCons (mC (.str (S "omit"))) (mCons (mC (.str (S "double"))) (mCons (mC (.str (S "merge"))) (mCons (mC (.str (S "turn"))) (mCons (mC (.str (S "gloss"))) (mCons (mC (.str (S "leap"))) mNil))))))))) (m2 fIx (mBor 1) (mC (.int 0)))))
  (mSeq (mSet 4 (mMt fJoin (mC (.str (S ""))) (mCons (mF (mLc (mRng1 (mCons (m2 fAdd (mC (.int 1)) (m2 fIx (mBor 1) (mC (.int 1)))) mNil)) 8 mYes (mPick 2))) mNil)))
  (mSeq (mSet 5 (mMt fJoin (mC (.str (S ""))) (mCons (mF (mLc (mRng1 (mCons (m2 fAdd (mC (.int 1)) (m2 fIx (mBor 1) (mC (.int 5)))) mNil)) 8 mYes (mPick 6))) mNil)))
  (mSeq (mSet 6 (m2 fIx (mBor 0) (m2 fMod (mCB fInt (mCons (m2 fAdd (m2 fAdd (m2 fIx (mBor 1) (mC (.int 2))) (mC (.int 1))) (m2 fMod (mCB fInt (mCons (m2 fIx (mBor 1) (mC (.int 6))) mNil)) (mCB fMax2 (mCons (mC (.int 1)) (mCons (m2 fSub (mBor 2) (mC (.int 1))) mNil))))) mNil)) (mBor 2))))
  (mSeq (mSet 7 (m2 fIx (mF (mLst (mCons (mC (.int 1)) (mCons (mC (.int 2)) (mCons (mC (.int 99)) (mCons (mC (.int 3)) (mCons (m2 fAdd (mC (.int 1)) (m2 fIx (mBor 1) (mC (.int 10)))) mNil))))))) (m2 fIx (mBor 1) (mC (.int 9)))))
  mFE)))))) := rfl
theorem rng_i (i : Int) (h0 : 0 ≤ i) (h : i ≤ 1000) : (if -4000000000000000000 ≤ i ∧ i < 4000000000000000000 then some (rngD 0 i.toNat) else none) = some (rngD 0 i.toNat) := if_pos ⟨by omega, by omega⟩
theorem rngD_sz (n : Nat) (h : n ≤ 1000) : (rngD 0 n).length ≤ sizeLine := by
  unfold rngD
  rw [List.length_map, List.length_range]
  exact sl_ok _ (by omega)
theorem fault_ok {al : List Nat} (hn : al.Nodup) (h1 : 1 ≤ al.length) (h2 : al.length ≤ 6) (row : List Int) (hl : row.length = 11) (h : Dg row [7, 3, 6, 6, 6, 3, 6, 6, 6, 5, 99]) :
    ∃ k s t p, g__law_fault [.str al, .lst (row.map .int)] = some (.d (.tup (items k s t p))) ∧ Flt al k s t p := by
  obtain ⟨r0, a0, b0, c0⟩ := dig (j := 0) h hl rfl
  obtain ⟨r1, a1, b1, c1⟩ := dig (j := 1) h hl rfl
  obtain ⟨r2, a2, b2, c2⟩ := dig (j := 2) h hl rfl
  obtain ⟨r5, a5, b5, c5⟩ := dig (j := 5) h hl rfl
  obtain ⟨r6, a6, b6, c6⟩ := dig (j := 6) h hl rfl
  obtain ⟨r9, a9, b9, c9⟩ := dig (j := 9) h hl rfl
  obtain ⟨r10, a10, b10, c10⟩ := dig (j := 10) h hl rfl
  obtain ⟨k, pk⟩ := pick7 r0 b0 c0
  obtain ⟨p, pp, pp1, pp2⟩ := pick5 r9 r10 b9 c9 b10 c10
  have i0 : atI (row.map D.int) 0 = some (.int r0) := ix_map a0
  have i1 : atI (row.map D.int) 1 = some (.int r1) := ix_map a1
  have i2 : atI (row.map D.int) 2 = some (.int r2) := ix_map a2
  have i5 : atI (row.map D.int) 5 = some (.int r5) := ix_map a5
  have i6 : atI (row.map D.int) 6 = some (.int r6) := ix_map a6
  have i9 : atI (row.map D.int) 9 = some (.int r9) := ix_map a9
  have i10 : atI (row.map D.int) 10 = some (.int r10) := ix_map a10
  have hlen := fLen_str (show al.length ≤ 100000 by omega)
  have e1 := rng_i (1 + r1) (by omega) (by omega)
  have e5 := rng_i (1 + r5) (by omega) (by omega)
  have z1 := rngD_sz (1 + r1).toNat (by omega)
  have z5 := rngD_sz (1 + r5).toNat (by omega)
  generalize hN1 : (1 + r1).toNat = n1 at *
  generalize hN5 : (1 + r5).toNat = n5 at *
  have w1 := wd_go (al := al) (row := row) (j := 2) (n := n1) (rest := []) (ρ := [some (.d (.str al)), some (.d (.lst (row.map .int))), some (.d (.int (al.length : Int))), some (.d (.str (S (kn k)))), none, none, none, none, none]) (me := mPick 2) h1 (by omega) (by omega)
    (fun kk d _ hd => pick_eq (j := 2) h1 (by omega) hd)
  have j1 := join_one (fun kk => lt al (row.getD (2 + kk) 0)) (List.range n1) (by rw [List.length_range]; omega)
  have w5 := wd_go (al := al) (row := row) (j := 6) (n := n5) (rest := []) (ρ := [some (.d (.str al)), some (.d (.lst (row.map .int))), some (.d (.int (al.length : Int))), some (.d (.str (S (kn k)))), some (.d (.str (wd al row 2 n1))), none, none, none, none]) (me := mPick 6) h1 (by omega) (by omega)
    (fun kk d _ hd => pick_eq (j := 6) h1 (by omega) hd)
  have j5 := join_one (fun kk => lt al (row.getD (6 + kk) 0)) (List.range n5) (by rw [List.length_range]; omega)
  have m1 : fMax2 [.int 1, .int ((al.length : Int) - 1)] = some (.int (if (al.length : Int) - 1 > 1 then (al.length : Int) - 1 else 1)) := rfl
  have M1 : 0 < (if (al.length : Int) - 1 > 1 then (al.length : Int) - 1 else 1) := by split <;> omega
  have ne := fun q => lt_ne al hn q h2 r2 r6 b2 b6
  generalize (if (al.length : Int) - 1 > 1 then (al.length : Int) - 1 else 1) = M at *
  have m2 : fMod (.int r6) (.int M) = some (.int (r6 % M)) := fMod_int M1
  have m3 : fMod (.int (r2 + 1 + r6 % M)) (.int (al.length : Int)) = some (.int ((r2 + 1 + r6 % M) % (al.length : Int))) := fMod_int (by omega)
  have m4 := lt_ix al (r2 + 1 + r6 % M) h1 (by omega)
  have hw0 : (wd al row 2 n1)[0]? = some (lt al r2) := by
    unfold wd
    rw [List.getElem?_map, List.getElem?_range (by omega)]
    show some (lt al (row.getD 2 0)) = _
    rw [List.getD_eq_getElem?_getD, a2]
    rfl
  obtain ⟨k', s, t, q1, q2⟩ := fault_end hn h1 h2 (.lst (row.map .int)) k (wd al row 2 n1) (wd al row 6 n5) (lt al r2) (lt al (r2 + 1 + r6 % M)) p pp1 pp2 hw0 (by rw [wd_len]; omega) (by rw [wd_len]; omega) (by rw [wd_len]; omega)
    (wd_isW al row 2 n1 h1 (by omega) (by omega)) (wd_isW al row 6 n5 h1 (by omega) (by omega)) (lt_isL al _ h1) (lt_isL al _ h1) ne
  have q1 : mFE _ = _ := q1
  refine ⟨k', s, t, p, ?_, q2⟩
  have ew1 : List.map (fun kk => lt al (row.getD (2 + kk) 0)) (List.range n1) = wd al row 2 n1 := rfl
  have ew5 : List.map (fun kk => lt al (row.getD (6 + kk) 0)) (List.range n5) = wd al row 6 n5 := rfl
  rw [ew1] at j1
  rw [ew5] at j5
  clear ew1 ew5 q2 ne hw0 M1 pp1 pp2 h hl hn h1 h2 a0 b0 c0 a1 b1 c1 a2 b2 c2 a5 b5 c5 a6 b6 c6 a9 b9 c9 a10 b10 c10
  unfold g__law_fault
  rw [fault_split]
  walk_at "evh"
end K09
namespace K09
open PySem L2 R
def mSpEnd : MS := (mSeq (mIf (mOr (mT (m2 fEq (m2 fIx (mBor 2) (mC (.int 0))) (mC (.int 5)))) (mT (m2 fEq (m2 fIx (mBor 2) (mC (.int 0))) (mC (.int 6)))))
    (mRet (m2 fAdd (m2 fAdd (mSl (mBor 1) mNo (mPart (mVar 10))) (mTup (mCons (m2 fIx (mBor 6) (m2 fIx (mBor 2) (mC (.int 2)))) mNil))) (mSl (mBor 1) (mPart (m2 fAdd (mBor 10) (mC (.int 1)))) mNo)))
    mNext)
  (mSeq (mIf (mOr (mT (m2 fEq (m2 fIx (mBor 2) (mC (.int 0))) (mC (.int 7)))) (mT (m2 fEq (m2 fIx (mBor 2) (mC (.int 0))) (mC (.int 4)))))
    (mRet (m2 fAdd (mSl (mBor 1) mNo (mPart (m2 fSub (mCB fLen (mCons (mBor 1) mNil)) (mC (.int 1))))) (mTup (mCons (m2 fIx (mBor 9) (m2 fIx (mBor 2) (mC (.int 3)))) mNil))))
    mNext)
  (mSeq (mIf (mT (m2 fEq (m2 fIx (mBor 2) (mC (.int 0))) (mC (.int 8))))
    (mSeq (mSet 10 (m2 fMod (mCB fInt (mCons (m2 fIx (mBor 2) (mC (.int 1))) mNil)) (mCB fLen (mCons (mBor 1) mNil))))
    (mRet (m2 fAdd (mSl (mBor 1) mNo (mPart (mVar 10))) (mSl (mBor 1) (mPart (m2 fAdd (mBor 10) (mC (.int 1)))) mNo))))
    mNext)
  (mSeq (mIf (mT (m2 fEq (m2 fIx (mBor 2) (mC (.int 0))) (mC (.int 9))))
    (mSeq (mSet 10 (m2 fAdd (mC (.int 1)) (m2 fMod (mCB fInt (mCons (m2 fIx (mBor 2) (mC (.int 1))) mNil)) (mCB fLen (mCons (mBor 1) mNil)))))
    (mRet (m2 fAdd (m2 fAdd (mSl (mBor 1) mNo (mPart (mVar 10))) (mTup (mCons (m2 fIx (mBor 8) (m2 fIx (mBor 2) (mC (.int 3)))) mNil))) (mSl (mBor 1) (mPart (mVar 10)) mNo))))
    mNext)
  (mSeq (mIf (mT (m2 fEq (m2 fIx (mBor 2) (mC (.int 0))) (mC (.int 10))))
    (mRet (m2 fAdd (mTup (mCons (m2 fIx (mBor 7) (m2 fIx (mBor 2) (mC (.int 2)))) mNil)) (mSl (mBor 1) (mPart (mC (.int 1))) mNo)))
    mNext)
  (mSeq (mIf (mT (m2 fEq (m2 fIx (mBor 2) (mC (.int 0))) (mC (.int 11))))
    (mRet (mSl (mBor 1) mNo (mPart (m2 fMod (mCB fInt (mCons (m2 fIx (mBor 2) (mC (.int 1))) mNil)) (mC (.int 3))))))
    mNext)
  (mRet (mVar 1))))))))
theorem fSl_tup {xs : List D} {lo hi : Option Int} : fSl (.tup xs) lo hi = some (.tup (cutL xs lo hi)) := id rfl
/-- a text that is no kind -/
theorem short_no (s : List Nat) (h : s.length ≤ 3) : kv_ITEM_COUNTS.lookup s = none := by
  have : ∀ kvs : List (List Nat × Int), (∀ p ∈ kvs, 4 ≤ p.1.length) → kvs.lookup s = none := by
    intro kvs
    induction kvs with
    | nil => intro _; rfl
    | cons p r ih =>
      intro hp
      obtain ⟨a, b⟩ := p
      rw [List.lookup_cons]
      have h1 := hp (a, b) List.mem_cons_self
      have : (s == a) = false := beq_eq_false_iff_ne.mpr fun z => by
        subst z
        simp only at h1
        omega
      rw [this]
      exact ih fun q hq => hp q (List.mem_cons_of_mem _ hq)
  exact this _ (by decide +kernel)
structure SpIn (al : List Nat) (row sts kinds things prices : List D) (r0 r1 r2 r3 : Int) (z kk : List Nat) (th : D) (pp : Int) : Prop where
  i0 : atI row 0 = some (.int r0)
  i1 : atI row 1 = some (.int r1)
  i2 : atI row 2 = some (.int r2)
  i3 : atI row 3 = some (.int r3)
  b0 : 0 ≤ r0 ∧ r0 < 12
  b1 : 0 ≤ r1 ∧ r1 < 4
  xz : atI sts r2 = some (.str z)
  lz : z.length ≤ 1000
  xk : atI kinds r2 = some (.str kk)
  hkk : (∃ k, kk = S (kn k)) ∨ kv_ITEM_COUNTS.lookup kk = none
  xt : atI things r3 = some th
  tc : calm th = true ∧ ∀ ys, th = .tup ys → ys.length ≤ 100000
  xp : atI prices r3 = some (.int pp)
theorem okv_of {xs : List D} (hl : xs.length ≤ 100) (h : ∀ d ∈ xs, calm d = true ∧ ∀ ys, d = .tup ys → ys.length ≤ 100000) : okv xs := ⟨hl, h⟩
theorem ok_str (s : List Nat) : calm (.str s) = true ∧ ∀ ys, (D.str s) = .tup ys → ys.length ≤ 100000 := ⟨rfl, fun _ e => nomatch e⟩
theorem ok_int (p : Int) : calm (.int p) = true ∧ ∀ ys, (D.int p) = .tup ys → ys.length ≤ 100000 := ⟨rfl, fun _ e => nomatch e⟩
theorem okv_nil : okv [] := ⟨by simp, fun d h => by cases h⟩
theorem okv_cons {d : D} {r : List D} (h : calm d = true ∧ ∀ ys, d = .tup ys → ys.length ≤ 100000) (hr : okv r) (hl : r.length < 100) : okv (d :: r) := ⟨by rw [List.length_cons]; omega, fun x hx => by
  rcases List.mem_cons.mp hx with e | hx
  · rw [e]; exact h
  · exact hr.2 x hx⟩
/-- a kind with the rest of a value -/
theorem val_kind {kk : List Nat} (h : (∃ k, kk = S (kn k)) ∨ kv_ITEM_COUNTS.lookup kk = none) {s : List Nat} {p : Int} (hs : s.length ≤ 1000) : Val [.str kk, .str s, .int p] := by
  rcases h with ⟨k, rfl⟩ | h
  · cases hk : four k with
    | false => exact .three k s p hk hs
    | true => exact .len k _ (okv_cons (ok_str _) (okv_cons (ok_str _) (okv_cons (ok_int _) okv_nil (by simp)) (by simp)) (by simp)) (by rw [hk]; simp)
  · exact .no kk _ (okv_cons (ok_str _) (okv_cons (ok_str _) (okv_cons (ok_int _) okv_nil (by simp)) (by simp)) (by simp)) h
theorem val_kind4 {kk : List Nat} (h : (∃ k, kk = S (kn k)) ∨ kv_ITEM_COUNTS.lookup kk = none) {s t : List Nat} {p : Int} (hs : s.length ≤ 1000) (ht : t.length ≤ 1000) : Val [.str kk, .str s, .str t, .int p] := by
  rcases h with ⟨k, rfl⟩ | h
  · cases hk : four k with
    | true => exact .four k s t p hk hs ht
    | false => exact .len k _ (okv_cons (ok_str _) (okv_cons (ok_str _) (okv_cons (ok_str _) (okv_cons (ok_int _) okv_nil (by simp)) (by simp)) (by simp)) (by simp)) (by rw [hk]; simp)
  · exact .no kk _ (okv_cons (ok_str _) (okv_cons (ok_str _) (okv_cons (ok_str _) (okv_cons (ok_int _) okv_nil (by simp)) (by simp)) (by simp)) (by simp)) h
theorem sp_end3 {al : List Nat} {row sts kinds things prices : List D} {r0 r1 r2 r3 : Int} {z kk : List Nat} {th : D} {pp : Int} (I : SpIn al row sts kinds things prices r0 r1 r2 r3 z kk th pp) {k : Kd} (hk : four k = false) {s : List Nat} {p : Int} (hs : s.length ≤ 3)
    {s3 : Option Sl} {s4 s5 : D} : ∃ xs, mSpEnd [some (.d (.str al)), some (.d (.tup [.str (S (kn k)), .str s, .int p])), some (.d (.lst row)), s3, some (.d s4), some (.d s5), some (.d (.lst sts)), some (.d (.lst kinds)), some (.d (.lst things)), some (.d (.lst prices)), some (.d (.int 1)), none] = .ret (.d (.tup xs)) ∧ Val xs := by
  obtain ⟨i0, i1, i2, i3, b0, b1, xz, lz, xk, hkk, xt, tc, xp⟩ := I
  have f3 : fMod (.int r1) (.int 3) = some (.int (r1 % 3)) := fMod_int (by decide)
  have hs' : s.length ≤ 1000 := by omega
  have c0 : cutL [D.str (S (kn k)), .str s, .int p] none (some 0) = [] := rfl
  have c1 : cutL [D.str (S (kn k)), .str s, .int p] none (some 1) = [.str (S (kn k))] := rfl
  have c2 : cutL [D.str (S (kn k)), .str s, .int p] none (some 2) = [.str (S (kn k)), .str s] := rfl
  have c3 : cutL [D.str (S (kn k)), .str s, .int p] none (some 3) = [.str (S (kn k)), .str s, .int p] := rfl
  have d1 : cutL [D.str (S (kn k)), .str s, .int p] (some 1) none = [.str s, .int p] := rfl
  have d2 : cutL [D.str (S (kn k)), .str s, .int p] (some 2) none = [.int p] := rfl
  have d3 : cutL [D.str (S (kn k)), .str s, .int p] (some 3) none = [] := rfl
  have a11 : ∀ a b : D, fAdd (.tup [a]) (.tup [b]) = some (.tup [a, b]) := fun a b => fAdd_tup (by simp)
  have a12 : ∀ a b c : D, fAdd (.tup [a]) (.tup [b, c]) = some (.tup [a, b, c]) := fun a b c => fAdd_tup (by simp)
  have a21 : ∀ a b c : D, fAdd (.tup [a, b]) (.tup [c]) = some (.tup [a, b, c]) := fun a b c => fAdd_tup (by simp)
  have a22 : ∀ a b c d : D, fAdd (.tup [a, b]) (.tup [c, d]) = some (.tup [a, b, c, d]) := fun a b c d => fAdd_tup (by simp)
  have a31 : ∀ a b c d : D, fAdd (.tup [a, b, c]) (.tup [d]) = some (.tup [a, b, c, d]) := fun a b c d => fAdd_tup (by simp)
  have a02 : ∀ a b : D, fAdd (.tup []) (.tup [a, b]) = some (.tup [a, b]) := fun a b => fAdd_tup (by simp)
  have a20 : ∀ a b : D, fAdd (.tup [a, b]) (.tup []) = some (.tup [a, b]) := fun a b => fAdd_tup (by simp)
  have a40 : ∀ a b c d : D, fAdd (.tup [a, b, c, d]) (.tup []) = some (.tup [a, b, c, d]) := fun a b c d => fAdd_tup (by simp)
  have sw := @fSl_tup
  have V3 : okv [D.str (S (kn k)), .str s, .int p] := okv_cons (ok_str _) (okv_cons (ok_str _) (okv_cons (ok_int _) okv_nil (by simp)) (by simp)) (by simp)
  have hr : r0 = 0 ∨ r0 = 1 ∨ r0 = 2 ∨ r0 = 3 ∨ r0 = 4 ∨ r0 = 5 ∨ r0 = 6 ∨ r0 = 7 ∨ r0 = 8 ∨ r0 = 9 ∨ r0 = 10 ∨ r0 = 11 := by omega
  unfold mSpEnd
  rcases hr with rfl | rfl | rfl | rfl | rfl | rfl | rfl | rfl | rfl | rfl | rfl | rfl
  · exact ⟨_, by clear tc hkk V3; walk_at "evh", .three k s p hk hs'⟩
  · exact ⟨_, by clear tc hkk V3; walk_at "evh", .three k s p hk hs'⟩
  · exact ⟨_, by clear tc hkk V3; walk_at "evh", .three k s p hk hs'⟩
  · exact ⟨_, by clear tc hkk V3; walk_at "evh", .three k s p hk hs'⟩
  · exact ⟨_, by clear tc hkk V3; walk_at "evh", .three k s pp hk hs'⟩
  · exact ⟨_, by clear tc hkk V3; walk_at "evh", .three k z p hk lz⟩
  · exact ⟨_, by clear tc hkk V3; walk_at "evh", .three k z p hk lz⟩
  · exact ⟨_, by clear tc hkk V3; walk_at "evh", .three k s pp hk hs'⟩
  · have f4 : fMod (.int r1) (.int 3) = some (.int (r1 % 3)) := f3
    have hq : r1 % 3 = 0 ∨ r1 % 3 = 1 ∨ r1 % 3 = 2 := by omega
    rcases hq with hq | hq | hq
    · exact ⟨[.str s, .int p], by clear tc hkk V3; walk_at "evh", .no s _ (okv_cons (ok_str _) (okv_cons (ok_int _) okv_nil (by simp)) (by simp)) (short_no s hs)⟩
    · exact ⟨[.str (S (kn k)), .int p], by clear tc hkk V3; walk_at "evh", .len k _ (okv_cons (ok_str _) (okv_cons (ok_int _) okv_nil (by simp)) (by simp)) (by rw [hk]; simp)⟩
    · exact ⟨[.str (S (kn k)), .str s], by clear tc hkk V3; walk_at "evh", .len k _ (okv_cons (ok_str _) (okv_cons (ok_str _) okv_nil (by simp)) (by simp)) (by rw [hk]; simp)⟩
  · have hq : r1 % 3 = 0 ∨ r1 % 3 = 1 ∨ r1 % 3 = 2 := by omega
    rcases hq with hq | hq | hq
    · exact ⟨[.str (S (kn k)), th, .str s, .int p], by clear tc hkk V3; walk_at "evh", .len k _ (okv_cons (ok_str _) (okv_cons tc (okv_cons (ok_str _) (okv_cons (ok_int _) okv_nil (by simp)) (by simp)) (by simp)) (by simp)) (by rw [hk]; simp)⟩
    · exact ⟨[.str (S (kn k)), .str s, th, .int p], by clear tc hkk V3; walk_at "evh", .len k _ (okv_cons (ok_str _) (okv_cons (ok_str _) (okv_cons tc (okv_cons (ok_int _) okv_nil (by simp)) (by simp)) (by simp)) (by simp)) (by rw [hk]; simp)⟩
    · exact ⟨[.str (S (kn k)), .str s, .int p, th], by clear tc hkk V3; walk_at "evh", .len k _ (okv_cons (ok_str _) (okv_cons (ok_str _) (okv_cons (ok_int _) (okv_cons tc okv_nil (by simp)) (by simp)) (by simp)) (by simp)) (by rw [hk]; simp)⟩
  · exact ⟨[.str kk, .str s, .int p], by clear tc hkk V3; walk_at "evh", val_kind hkk hs'⟩
  · have hq : r1 % 3 = 0 ∨ r1 % 3 = 1 ∨ r1 % 3 = 2 := by omega
    rcases hq with hq | hq | hq
    · exact ⟨_, by clear tc hkk V3; walk_at "evh", .nil⟩
    · exact ⟨[.str (S (kn k))], by clear tc hkk V3; walk_at "evh", .len k _ (okv_cons (ok_str _) okv_nil (by simp)) (by rw [hk]; simp)⟩
    · exact ⟨[.str (S (kn k)), .str s], by clear tc hkk V3; walk_at "evh", .len k _ (okv_cons (ok_str _) (okv_cons (ok_str _) okv_nil (by simp)) (by simp)) (by rw [hk]; simp)⟩
theorem sp_end4 {al : List Nat} {row sts kinds things prices : List D} {r0 r1 r2 r3 : Int} {z kk : List Nat} {th : D} {pp : Int} (I : SpIn al row sts kinds things prices r0 r1 r2 r3 z kk th pp) {k : Kd} (hk : four k = true) {s t : List Nat} {p : Int} (hs : s.length ≤ 3) (ht : t.length ≤ 3)
    {s3 : Option Sl} {s4 s5 : D} : ∃ xs, mSpEnd [some (.d (.str al)), some (.d (.tup [.str (S (kn k)), .str s, .str t, .int p])), some (.d (.lst row)), s3, some (.d s4), some (.d s5), some (.d (.lst sts)), some (.d (.lst kinds)), some (.d (.lst things)), some (.d (.lst prices)), some (.d (.int (1 + r1 % 2))), none] = .ret (.d (.tup xs)) ∧ Val xs := by
  obtain ⟨i0, i1, i2, i3, b0, b1, xz, lz, xk, hkk, xt, tc, xp⟩ := I
  have f3 : fMod (.int r1) (.int 3) = some (.int (r1 % 3)) := fMod_int (by decide)
  have f4 : fMod (.int r1) (.int 4) = some (.int (r1 % 4)) := fMod_int (by decide)
  have hs' : s.length ≤ 1000 := by omega
  have ht' : t.length ≤ 1000 := by omega
  have c0 : cutL [D.str (S (kn k)), .str s, .str t, .int p] none (some 0) = [] := rfl
  have c1 : cutL [D.str (S (kn k)), .str s, .str t, .int p] none (some 1) = [.str (S (kn k))] := rfl
  have c2 : cutL [D.str (S (kn k)), .str s, .str t, .int p] none (some 2) = [.str (S (kn k)), .str s] := rfl
  have c3 : cutL [D.str (S (kn k)), .str s, .str t, .int p] none (some 3) = [.str (S (kn k)), .str s, .str t] := rfl
  have c4 : cutL [D.str (S (kn k)), .str s, .str t, .int p] none (some 4) = [.str (S (kn k)), .str s, .str t, .int p] := rfl
  have d1 : cutL [D.str (S (kn k)), .str s, .str t, .int p] (some 1) none = [.str s, .str t, .int p] := rfl
  have d2 : cutL [D.str (S (kn k)), .str s, .str t, .int p] (some 2) none = [.str t, .int p] := rfl
  have d3 : cutL [D.str (S (kn k)), .str s, .str t, .int p] (some 3) none = [.int p] := rfl
  have d4 : cutL [D.str (S (kn k)), .str s, .str t, .int p] (some 4) none = [] := rfl
  have a03 : ∀ a b c : D, fAdd (.tup []) (.tup [a, b, c]) = some (.tup [a, b, c]) := fun a b c => fAdd_tup (by simp)
  have a11 : ∀ a b : D, fAdd (.tup [a]) (.tup [b]) = some (.tup [a, b]) := fun a b => fAdd_tup (by simp)
  have a12 : ∀ a b c : D, fAdd (.tup [a]) (.tup [b, c]) = some (.tup [a, b, c]) := fun a b c => fAdd_tup (by simp)
  have a13 : ∀ a b c d : D, fAdd (.tup [a]) (.tup [b, c, d]) = some (.tup [a, b, c, d]) := fun a b c d => fAdd_tup (by simp)
  have a21 : ∀ a b c : D, fAdd (.tup [a, b]) (.tup [c]) = some (.tup [a, b, c]) := fun a b c => fAdd_tup (by simp)
  have a22 : ∀ a b c d : D, fAdd (.tup [a, b]) (.tup [c, d]) = some (.tup [a, b, c, d]) := fun a b c d => fAdd_tup (by simp)
  have a30 : ∀ a b c : D, fAdd (.tup [a, b, c]) (.tup []) = some (.tup [a, b, c]) := fun a b c => fAdd_tup (by simp)
  have a31 : ∀ a b c d : D, fAdd (.tup [a, b, c]) (.tup [d]) = some (.tup [a, b, c, d]) := fun a b c d => fAdd_tup (by simp)
  have a41 : ∀ a b c d e : D, fAdd (.tup [a, b, c, d]) (.tup [e]) = some (.tup [a, b, c, d, e]) := fun a b c d e => fAdd_tup (by simp)
  have a50 : ∀ a b c d e : D, fAdd (.tup [a, b, c, d, e]) (.tup []) = some (.tup [a, b, c, d, e]) := fun a b c d e => fAdd_tup (by simp)
  have a23 : ∀ a b c d e : D, fAdd (.tup [a, b]) (.tup [c, d, e]) = some (.tup [a, b, c, d, e]) := fun a b c d e => fAdd_tup (by simp)
  have a32 : ∀ a b c d e : D, fAdd (.tup [a, b, c]) (.tup [d, e]) = some (.tup [a, b, c, d, e]) := fun a b c d e => fAdd_tup (by simp)
  have a40 : ∀ a b c d : D, fAdd (.tup [a, b, c, d]) (.tup []) = some (.tup [a, b, c, d]) := fun a b c d => fAdd_tup (by simp)
  have a20 : ∀ a b : D, fAdd (.tup [a, b]) (.tup []) = some (.tup [a, b]) := fun a b => fAdd_tup (by simp)
  have sw := @fSl_tup
  have hr : r0 = 0 ∨ r0 = 1 ∨ r0 = 2 ∨ r0 = 3 ∨ r0 = 4 ∨ r0 = 5 ∨ r0 = 6 ∨ r0 = 7 ∨ r0 = 8 ∨ r0 = 9 ∨ r0 = 10 ∨ r0 = 11 := by omega
  have h2 : r1 % 2 = 0 ∨ r1 % 2 = 1 := by omega
  unfold mSpEnd
  rcases hr with rfl | rfl | rfl | rfl | rfl | rfl | rfl | rfl | rfl | rfl | rfl | rfl
  · exact ⟨_, by clear tc hkk h2; walk_at "evh", .four k s t p hk hs' ht'⟩
  · exact ⟨_, by clear tc hkk h2; walk_at "evh", .four k s t p hk hs' ht'⟩
  · exact ⟨_, by clear tc hkk h2; walk_at "evh", .four k s t p hk hs' ht'⟩
  · exact ⟨_, by clear tc hkk h2; walk_at "evh", .four k s t p hk hs' ht'⟩
  · exact ⟨_, by clear tc hkk h2; walk_at "evh", .four k s t pp hk hs' ht'⟩
  · rcases h2 with h2 | h2
    · exact ⟨_, by clear tc hkk; walk_at "evh", .four k z t p hk lz ht'⟩
    · exact ⟨_, by clear tc hkk; walk_at "evh", .four k s z p hk hs' lz⟩
  · rcases h2 with h2 | h2
    · exact ⟨_, by clear tc hkk; walk_at "evh", .four k z t p hk lz ht'⟩
    · exact ⟨_, by clear tc hkk; walk_at "evh", .four k s z p hk hs' lz⟩
  · exact ⟨_, by clear tc hkk h2; walk_at "evh", .four k s t pp hk hs' ht'⟩
  · clear h2
    have hq : r1 % 4 = 0 ∨ r1 % 4 = 1 ∨ r1 % 4 = 2 ∨ r1 % 4 = 3 := by omega
    rcases hq with hq | hq | hq | hq
    · exact ⟨[.str s, .str t, .int p], by clear tc hkk; walk_at "evh", .no s _ (okv_cons (ok_str _) (okv_cons (ok_str _) (okv_cons (ok_int _) okv_nil (by simp)) (by simp)) (by simp)) (short_no s hs)⟩
    · exact ⟨[.str (S (kn k)), .str t, .int p], by clear tc hkk; walk_at "evh", .len k _ (okv_cons (ok_str _) (okv_cons (ok_str _) (okv_cons (ok_int _) okv_nil (by simp)) (by simp)) (by simp)) (by rw [hk]; simp)⟩
    · exact ⟨[.str (S (kn k)), .str s, .int p], by clear tc hkk; walk_at "evh", .len k _ (okv_cons (ok_str _) (okv_cons (ok_str _) (okv_cons (ok_int _) okv_nil (by simp)) (by simp)) (by simp)) (by rw [hk]; simp)⟩
    · exact ⟨[.str (S (kn k)), .str s, .str t], by clear tc hkk; walk_at "evh", .len k _ (okv_cons (ok_str _) (okv_cons (ok_str _) (okv_cons (ok_str _) okv_nil (by simp)) (by simp)) (by simp)) (by rw [hk]; simp)⟩
  · clear h2
    have hq : r1 % 4 = 0 ∨ r1 % 4 = 1 ∨ r1 % 4 = 2 ∨ r1 % 4 = 3 := by omega
    rcases hq with hq | hq | hq | hq
    · exact ⟨[.str (S (kn k)), th, .str s, .str t, .int p], by clear tc hkk; walk_at "evh", .len k _ (okv_cons (ok_str _) (okv_cons tc (okv_cons (ok_str _) (okv_cons (ok_str _) (okv_cons (ok_int _) okv_nil (by simp)) (by simp)) (by simp)) (by simp)) (by simp)) (by rw [hk]; simp)⟩
    · exact ⟨[.str (S (kn k)), .str s, th, .str t, .int p], by clear tc hkk; walk_at "evh", .len k _ (okv_cons (ok_str _) (okv_cons (ok_str _) (okv_cons tc (okv_cons (ok_str _) (okv_cons (ok_int _) okv_nil (by simp)) (by simp)) (by simp)) (by simp)) (by simp)) (by rw [hk]; simp)⟩
    · exact ⟨[.str (S (kn k)), .str s, .str t, th, .int p], by clear tc hkk; walk_at "evh", .len k _ (okv_cons (ok_str _) (okv_cons (ok_str _) (okv_cons (ok_str _) (okv_cons tc (okv_cons (ok_int _) okv_nil (by simp)) (by simp)) (by simp)) (by simp)) (by simp)) (by rw [hk]; simp)⟩
    · exact ⟨[.str (S (kn k)), .str s, .str t, .int p, th], by clear tc hkk; walk_at "evh", .len k _ (okv_cons (ok_str _) (okv_cons (ok_str _) (okv_cons (ok_str _) (okv_cons (ok_int _) (okv_cons tc okv_nil (by simp)) (by simp)) (by simp)) (by simp)) (by simp)) (by rw [hk]; simp)⟩
  · exact ⟨[.str kk, .str s, .str t, .int p], by clear tc hkk h2; walk_at "evh", val_kind4 hkk hs' ht'⟩
  · clear h2
    have hq : r1 % 3 = 0 ∨ r1 % 3 = 1 ∨ r1 % 3 = 2 := by omega
    rcases hq with hq | hq | hq
    · exact ⟨[], by clear tc hkk; walk_at "evh", .nil⟩
    · exact ⟨[.str (S (kn k))], by clear tc hkk; walk_at "evh", .len k _ (okv_cons (ok_str _) okv_nil (by simp)) (by rw [hk]; simp)⟩
    · exact ⟨[.str (S (kn k)), .str s], by clear tc hkk; walk_at "evh", .len k _ (okv_cons (ok_str _) (okv_cons (ok_str _) okv_nil (by simp)) (by simp)) (by rw [hk]; simp)⟩
end K09
namespace K09
open PySem L2 R
theorem atI_mem {α : Type} {xs : List α} {r : Int} (h0 : 0 ≤ r) (h1 : r < xs.length) : ∃ x ∈ xs, atI xs r = some x := by
  have hj : r.toNat < xs.length := by omega
  refine ⟨xs[r.toNat], List.getElem_mem hj, ?_⟩
  have := atI_nat (List.getElem?_eq_getElem hj)
  rw [Int.toNat_of_nonneg h0] at this
  exact this
theorem sub_len : ∀ (l al : List Nat), l.Nodup → (∀ x ∈ l, x ∈ al) → l.length ≤ al.length
  | [], _, _, _ => Nat.zero_le _
  | x :: l, al, nd, h => by
    have hx := h x List.mem_cons_self
    have := sub_len l (al.erase x) (List.nodup_cons.mp nd).2 fun y hy => by
      have hne : y ≠ x := fun e => (List.nodup_cons.mp nd).1 (e ▸ hy)
      exact (List.mem_erase_of_ne hne).mpr (h y (List.mem_cons_of_mem _ hy))
    rw [List.length_erase_of_mem hx] at this
    have hp : 0 < al.length := List.length_pos_of_mem hx
    rw [List.length_cons]
    omega
def spare (al : List Nat) : List Nat := abc.filter fun c => !decide (c ∈ al)
theorem spare_pos (al : List Nat) (h : al.length ≤ 6) : 1 ≤ (spare al).length := by
  cases hs : spare al with
  | nil =>
    have : abc.length ≤ al.length := sub_len abc al (by decide +kernel) fun x hx => by
      have := List.filter_eq_nil_iff.mp hs x hx
      simpa using this
    rw [abc_len] at this
    omega
  | cons a b => simp
theorem spare_le (al : List Nat) : (spare al).length ≤ 26 := by
  have := List.length_filter_le (fun c => !decide (c ∈ al)) abc
  rw [abc_len] at this
  exact this
theorem spare_go (al : List Nat) (x1 x2 : Option Sl) : lcGo 11 (mT (m2 fNotIn (mBor 11) (mBor 0))) (mVar 11) [some (.d (.str al)), x1, x2, none, none, none, none, none, none, none, none, none] (abc.map fun c => D.str [c]) = some ((spare al).map fun c => D.str [c]) := by
  have e := lc_filter (j := 11) (mt := (mT (m2 fNotIn (mBor 11) (mBor 0)))) (me := (mVar 11)) (ρ := [some (.d (.str al)), x1, x2, none, none, none, none, none, none, none, none, none])
    (fun d => match d with | .str [c] => !decide (c ∈ al) | _ => false) (fun d => d) (abc.map fun c => D.str [c]) (fun x hx => by
      obtain ⟨c, _, rfl⟩ := List.mem_map.mp hx
      have e : fNotIn (.str [c]) (.str al) = some (.bl (!decide (c ∈ al))) := rfl
      walk_at "evh") (fun x _ _ => by walk_at "evh")
  rw [e, map_self, List.filter_map]
  rfl
theorem pow20 : fPow (.int 10) (.int 20) = some (.int 100000000000000000000) := by
  have hc : (0 : Int) ≤ 20 ∧ (20 : Int) ≤ 1000000 ∧ (10 : Int).natAbs < 2 ^ 64 := ⟨by decide, by decide, by decide⟩
  show (if (0 : Int) ≤ 20 ∧ (20 : Int) ≤ 1000000 ∧ (10 : Int).natAbs < 2 ^ 64 then some (D.int ((10 : Int) ^ (20 : Int).toNat)) else none) = _
  rw [if_pos hc]
  rfl
theorem mul4 (a : Nat) : fMul (.str [a]) (.int 4) = some (.str [a, a, a, a]) := by
  show (if (0 : Int) ≤ 4 ∧ (4 : Int) ≤ 1000 ∧ [a].length ≤ 1000 then some (D.str (List.replicate (4 : Int).toNat [a]).flatten) else none) = _
  rw [if_pos ⟨by decide, by decide, by simp⟩]
  rfl
def knds : List (List Nat) := [S "", S "Omit", S "omits", S "leap ", S "mis", S "mistake", S "omit", S "double", S "merge", S "turn", S "gloss", S "leap"]
theorem knds_ok : ∀ x ∈ knds, (∃ k, x = S (kn k)) ∨ kv_ITEM_COUNTS.lookup x = none := by
  intro x hx
  simp only [knds, List.mem_cons, List.not_mem_nil, or_false] at hx
  rcases hx with rfl | rfl | rfl | rfl | rfl | rfl | rfl | rfl | rfl | rfl | rfl | rfl
  · exact .inr (by decide +kernel)
  · exact .inr (by decide +kernel)
  · exact .inr (by decide +kernel)
  · exact .inr (by decide +kernel)
  · exact .inr (by decide +kernel)
  · exact .inl ⟨.mistake, rfl⟩
  · exact .inl ⟨.omit, rfl⟩
  · exact .inl ⟨.double, rfl⟩
  · exact .inl ⟨.merge, rfl⟩
  · exact .inl ⟨.turn, rfl⟩
  · exact .inl ⟨.gloss, rfl⟩
  · exact .inl ⟨.leap, rfl⟩
def thgs (a : Nat) : List D := [.non, .int 7, .str (S "a"), .tup [], .bl true, .int (-1), .tup [.str [a], .int 2], .str (S "leap"), .int 0, .str [a]]
theorem thgs_ok (a : Nat) : ∀ d ∈ thgs a, calm d = true ∧ ∀ ys, d = .tup ys → ys.length ≤ 100000 := by
  intro d hd
  simp only [thgs, List.mem_cons, List.not_mem_nil, or_false] at hd
  rcases hd with rfl | rfl | rfl | rfl | rfl | rfl | rfl | rfl | rfl | rfl
  · exact ⟨rfl, fun _ e => nomatch e⟩
  · exact ⟨rfl, fun _ e => nomatch e⟩
  · exact ⟨rfl, fun _ e => nomatch e⟩
  · exact ⟨rfl, fun _ e => by cases e; simp⟩
  · exact ⟨rfl, fun _ e => nomatch e⟩
  · exact ⟨rfl, fun _ e => nomatch e⟩
  · exact ⟨rfl, fun _ e => by cases e; simp⟩
  · exact ⟨rfl, fun _ e => nomatch e⟩
  · exact ⟨rfl, fun _ e => nomatch e⟩
  · exact ⟨rfl, fun _ e => nomatch e⟩
def prcs : List Int := [0, -1, 100, 99, 1, 100000000000000000000, -100000000000000000000, 100, 101, 0]
def strs' (a l o : Nat) (v1 v2 : List Nat) : List (List Nat) := [S "", [a, a, a, a], [a, l], [o], [a, o], [o, a], S "A", v1, a :: S "\n", v2, v1, v2]
theorem spoilt_split : m__law_spoilt = (mSeq (mSetF 3 (mLc (mItems (mC (.str abc))) 11 (mT (m2 fNotIn (mBor 11) (mBor 0))) (mVar 11)))
  (mSeq (mSet 4 (m2 fIx (mBor 3) (m2 fMod (mCB fInt (mCons (m2 fIx (mBor 2) (mC (.int 4))) mNil)) (mCB fLen (mCons (mBor 3) mNil)))))
  (mSeq (mSet 5 (m2 fIx (mBor 0) (mC (.int 0))))
  (mSeq (mSet 6 (mF (mLst (mCons (mC (.str (S ""))) (mCons (m2 fMul (mBor 5) (mC (.int 4))) (mCons (m2 fAdd (mBor 5) (m2 fIx (mBor 0) (m2 fSub (mCB fLen (mCons (mBor 0) mNil)) (mC (.int 1))))) (mCons (mVar 4) (mCons (m2 fAdd (mBor 5) (mBor 4)) (mCons (m2 fAdd (mBor 4) (mBor 5)) (mCons (mC (.str (S "A"))) (mCons (m2 fIx (mBor 1) (mC (.int 1))) (mCons (m2 fAdd (mBor 5) (mC (.str (S "\n")))) (mCons (m2 fIx (mBor 1) (m2 fSub (mCB fLen (mCons (mBor 1) mNil)) (mC (.int 2)))) (mCons (m2 fIx (mBor 1) (mC (.int 1))) (mCons (m2 fIx (mBor 1) (m2 fSub (mCB fLen (mCons (mBor 1) mNil)) (mC (.int 2)))) mNil)))))))))))))))
  (mSeq (mSet 7 (mF (mLst (mCons (mC (.str (S ""))) (mCons (mC (.str (S "Omit"))) (mCons (mC (.str (S "omits"))) (mCons (mC (.str (S "leap "))) (mCons (mC (.str (S "mis"))) (mCons (mC (.str (S "mistake"))) (mCons (mC (.str (S "omit"))) (mCons (mC (.str (S "double"))) (mCons (mC (.str (S "merge"))) (mCons (mC (.str (S "turn"))) (mCons (mC (.str (S "gloss"))) (mCons (mC (.str (S "leap"))) mNil)))))))))))))))
  (mSeq (mSet 8 (mF (mLst (mCons (mC .non) (mCons (mC (.int 7)) (mCons (mC (.str (S "a"))) (mCons (mTup mNil) (mCons (mC (.bl true)) (mCons (mNeg (mC (.int 1))) (mCons (mTup (mCons (mVar 5) (mCons (mC (.int 2)) mNil))) (mCons (mC (.str (S "leap"))) (mCons (mC (.int 0)) (mCons (mVar 5) mNil)))))))))))))
  (mSeq (mSet 9 (mF (mLst (mCons (mC (.int 0)) (mCons (mNeg (mC (.int 1))) (mCons (mC (.int 100)) (mCons (mC (.int 99)) (mCons (mC (.int 1)) (mCons (m2 fPow (mC (.int 10)) (mC (.int 20))) (mCons (mNeg (m2 fPow (mC (.int 10)) (mC (.int 20)))) (mCons (mC (.int 100)) (mCons (mC (.int 101)) (mCons (mC (.int 0)) mNil)))))))))))))
  (mSeq (mSet 10 (m2 fAdd (mC (.int 1)) (m2 fMod (mCB fInt (mCons (m2 fIx (mBor 2) (mC (.int 1))) mNil)) (m2 fSub (mCB fLen (mCons (mBor 1) mNil)) (mC (.int 2))))))
  mSpEnd)))))))) := rfl
theorem spoilt_ok {al : List Nat} (h1 : 1 ≤ al.length) (h2 : al.length ≤ 6) {k : Kd} {s t : List Nat} {p : Int} (hs : s.length ≤ 3) (ht : t.length ≤ 3) (row : List Int) (hl : row.length = 5) (h : Dg row [12, 4, 12, 10, 8]) :
    ∃ xs, g__law_spoilt [.str al, .tup (items k s t p), .lst (row.map .int)] = some (.d (.tup xs)) ∧ Val xs := by
  obtain ⟨r0, a0, b0, c0⟩ := dig (j := 0) h hl rfl
  obtain ⟨r1, a1, b1, c1⟩ := dig (j := 1) h hl rfl
  obtain ⟨r2, a2, b2, c2⟩ := dig (j := 2) h hl rfl
  obtain ⟨r3, a3, b3, c3⟩ := dig (j := 3) h hl rfl
  obtain ⟨r4, a4, b4, c4⟩ := dig (j := 4) h hl rfl
  have i0 : atI (row.map D.int) 0 = some (.int r0) := ix_map a0
  have i1 : atI (row.map D.int) 1 = some (.int r1) := ix_map a1
  have i2 : atI (row.map D.int) 2 = some (.int r2) := ix_map a2
  have i3 : atI (row.map D.int) 3 = some (.int r3) := ix_map a3
  have i4 : atI (row.map D.int) 4 = some (.int r4) := ix_map a4
  have sp1 := spare_pos al h2
  have sp2 := spare_le al
  have hz : (abc.map fun c => D.str [c]).length ≤ sizeLine := sl_ok _ (by rw [List.length_map, abc_len]; decide)
  have go := spare_go al (some (.d (.tup (items k s t p)))) (some (.d (.lst (row.map .int))))
  have m0 : fMod (.int r4) (.int (((spare al).map fun c => D.str [c]).length : Int)) = some (.int (r4 % (((spare al).map fun c => D.str [c]).length : Int))) := fMod_int (by rw [List.length_map]; omega)
  obtain ⟨od, _, x0⟩ : ∃ o, o ∈ spare al ∧ atI ((spare al).map fun c => D.str [c]) (r4 % (((spare al).map fun c => D.str [c]).length : Int)) = some (.str [o]) := by
    obtain ⟨x, hx, e⟩ := atI_mem (xs := (spare al).map fun c => D.str [c]) (r := r4 % (((spare al).map fun c => D.str [c]).length : Int)) (Int.emod_nonneg _ (by rw [List.length_map]; omega)) (Int.emod_lt_of_pos _ (by rw [List.length_map]; omega))
    obtain ⟨c, hc, rfl⟩ := List.mem_map.mp hx
    exact ⟨c, hc, e⟩
  obtain ⟨fa, e0⟩ : ∃ a, al[0]? = some a := ⟨_, List.getElem?_eq_getElem (by omega)⟩
  obtain ⟨la, el⟩ : ∃ a, al[al.length - 1]? = some a := ⟨_, List.getElem?_eq_getElem (by omega)⟩
  have f0 : fIx (.str al) (.int 0) = some (.str [fa]) := fIx_str (by omega) (atI_nat (j := 0) e0)
  have fl : fIx (.str al) (.int ((al.length : Int) - 1)) = some (.str [la]) := fIx_str (by omega) (by
    have := atI_nat (xs := al) (j := al.length - 1) el
    rw [show (((al.length - 1 : Nat) : Int)) = (al.length : Int) - 1 by omega] at this
    exact this)
  have hlen := fLen_str (show al.length ≤ 100000 by omega)
  have g1 := mul4 fa
  have g2 : fAdd (.str [fa]) (.str [la]) = some (.str [fa, la]) := fAdd_str (by simp)
  have g3 : fAdd (.str [fa]) (.str [od]) = some (.str [fa, od]) := fAdd_str (by simp)
  have g4 : fAdd (.str [od]) (.str [fa]) = some (.str [od, fa]) := fAdd_str (by simp)
  have g5 : fAdd (.str [fa]) (.str (S "\n")) = some (.str (fa :: S "\n")) := fAdd_str (by rw [show (S "\n").length = 1 from by decide +kernel]; simp)
  have g6 := pow20
  obtain ⟨kk, hk1, xk⟩ : ∃ kk ∈ knds, atI (knds.map D.str) r2 = some (.str kk) := by
    obtain ⟨x, hx, e⟩ := atI_mem (xs := knds.map D.str) (r := r2) b2 (by rw [List.length_map]; exact c2)
    obtain ⟨c, hc, rfl⟩ := List.mem_map.mp hx
    exact ⟨c, hc, e⟩
  obtain ⟨th, ht1, xt⟩ := atI_mem (xs := thgs fa) (r := r3) b3 c3
  obtain ⟨pp, xp⟩ : ∃ pp, atI (prcs.map D.int) r3 = some (.int pp) := by
    obtain ⟨x, hx, e⟩ := atI_mem (xs := prcs.map D.int) (r := r3) b3 (by rw [List.length_map]; exact c3)
    obtain ⟨c, hc, rfl⟩ := List.mem_map.mp hx
    exact ⟨c, e⟩
  have hz' : ∀ v1 v2 : List Nat, v1.length ≤ 3 → v2.length ≤ 3 → ∃ z, atI ((strs' fa la od v1 v2).map D.str) r2 = some (.str z) ∧ z.length ≤ 1000 := fun v1 v2 q1 q2 => by
    obtain ⟨x, hx, e⟩ := atI_mem (xs := (strs' fa la od v1 v2).map D.str) (r := r2) b2 (by rw [List.length_map]; exact c2)
    obtain ⟨c, hc, rfl⟩ := List.mem_map.mp hx
    refine ⟨c, e, ?_⟩
    have n1 : (S "").length = 0 := by decide +kernel
    have n2 : (S "A").length = 1 := by decide +kernel
    have n3 : (S "\n").length = 1 := by decide +kernel
    simp only [strs', List.mem_cons, List.not_mem_nil, or_false] at hc
    rcases hc with rfl | rfl | rfl | rfl | rfl | rfl | rfl | rfl | rfl | rfl | rfl | rfl <;> first | (simp; done) | (simp [n3]; done) | omega
  unfold g__law_spoilt
  rw [spoilt_split]
  cases hk : four k with
  | false =>
    have ei : items k s t p = [.str (S (kn k)), .str s, .int p] := by unfold items; rw [hk]; rfl
    rw [ei] at go ⊢
    obtain ⟨z, xz, lz⟩ := hz' s s hs hs
    have m1 : fMod (.int r1) (.int 1) = some (.int (r1 % 1)) := fMod_int (by decide)
    have e1 : r1 % 1 = 0 := by omega
    obtain ⟨xs, q1, q2⟩ := sp_end3 (al := al) (s3 := some (.own (.lst ((spare al).map fun c => D.str [c])))) (s4 := .str [od]) (s5 := .str [fa]) (p := p) ⟨i0, i1, i2, i3, ⟨b0, c0⟩, ⟨b1, c1⟩, xz, lz, xk, knds_ok kk hk1, xt, thgs_ok fa th ht1, xp⟩ hk hs
    refine ⟨xs, ?_, q2⟩
    clear q2 hk hz' ht1 hk1 xz xk xt xp a0 a1 a2 a3 a4 b0 b1 b2 b3 b4 c0 c1 c2 c3 c4 sp1 sp2 h hl h1 h2 hs ht lz e0 el
    simp only [strs', knds, thgs, prcs, List.map_cons, List.map_nil] at q1
    walk_at "evh"
  | true =>
    have ei : items k s t p = [.str (S (kn k)), .str s, .str t, .int p] := by unfold items; rw [hk]; rfl
    rw [ei] at go ⊢
    obtain ⟨z, xz, lz⟩ := hz' s t hs ht
    have m1 : fMod (.int r1) (.int 2) = some (.int (r1 % 2)) := fMod_int (by decide)
    obtain ⟨xs, q1, q2⟩ := sp_end4 (al := al) (s3 := some (.own (.lst ((spare al).map fun c => D.str [c])))) (s4 := .str [od]) (s5 := .str [fa]) (p := p) ⟨i0, i1, i2, i3, ⟨b0, c0⟩, ⟨b1, c1⟩, xz, lz, xk, knds_ok kk hk1, xt, thgs_ok fa th ht1, xp⟩ hk hs ht
    refine ⟨xs, ?_, q2⟩
    clear q2 hk hz' ht1 hk1 xz xk xt xp a0 a1 a2 a3 a4 b0 b1 b2 b3 b4 c0 c1 c2 c3 c4 sp1 sp2 h hl h1 h2 hs ht lz e0 el
    simp only [strs', knds, thgs, prcs, List.map_cons, List.map_nil] at q1
    walk_at "evh"
end K09
namespace K09
open PySem L2 R
/-- others: the letters of a text that are not f -/
def oth (f : Nat) (xs : List Nat) : List Nat := xs.filter fun c => !decide (c = f)
theorem oth_go (f : Nat) (xs : List Nat) {ρ : Slots} (h6 : ∀ x, (ρ.set 13 x)[6]? = some (some (.d (.str [f])))) (h13 : ∀ d, (ρ.set 13 (some (.d d)))[13]? = some (some (.d d))) :
    lcGo 13 (mT (m2 fNe (mBor 13) (mBor 6))) (mVar 13) ρ (xs.map fun c => D.str [c]) = some ((oth f xs).map fun c => D.str [c]) := by
  have e := lc_filter (j := 13) (mt := (mT (m2 fNe (mBor 13) (mBor 6)))) (me := (mVar 13)) (ρ := ρ)
    (fun d => match d with | .str [c] => !decide (c = f) | _ => false) (fun d => d) (xs.map fun c => D.str [c]) (fun x hx => by
      obtain ⟨c, _, rfl⟩ := List.mem_map.mp hx
      have e6 := h6 (some (.d (.str [c])))
      have e13 := h13 (.str [c])
      have ed : decide ([c] = [f]) = decide (c = f) := decide_eq_decide.mpr ⟨fun z => by injection z, fun z => by rw [z]⟩
      clear h6 h13
      walk_at "evh") (fun x _ _ => by
      have e13 := h13 x
      clear h6 h13
      walk_at "evh")
  rw [e, map_self, List.filter_map]
  rfl
theorem oth_abc (f : Nat) : 1 ≤ (oth f abc).length := by
  cases hs : oth f abc with
  | nil =>
    have : abc.length ≤ [f].length := sub_len abc [f] (by decide +kernel) fun x hx => by
      have := List.filter_eq_nil_iff.mp hs x hx
      simpa using this
    rw [abc_len] at this
    simp at this
  | cons a b => simp
/-- what the law's old texts are -/
def Olds (xs : List D) : Prop := xs.length ≤ 100 ∧ ∀ d ∈ xs, ∃ x : List Nat, d = .str x ∧ x.length ≤ 1000
theorem olds_nil : Olds [] := ⟨by simp, fun d h => by cases h⟩
theorem olds_cons {x : List Nat} {r : List D} (hx : x.length ≤ 1000) (hr : Olds r) (hl : r.length < 100) : Olds (.str x :: r) := ⟨by rw [List.length_cons]; omega, fun d hd => by
  rcases List.mem_cons.mp hd with e | hd
  · exact ⟨x, e, hx⟩
  · exact hr.2 d hd⟩
theorem olds_app {a b : List D} (ha : Olds a) (hb : Olds b) (hl : a.length + b.length ≤ 100) : Olds (a ++ b) := ⟨by rw [List.length_append]; exact hl, fun d hd => by
  rcases List.mem_append.mp hd with hd | hd
  · exact ha.2 d hd
  · exact hb.2 d hd⟩
theorem cut_le {α : Type} (x : List α) (lo hi : Option Int) : (cutL x lo hi).length ≤ x.length := by
  unfold cutL
  rw [List.length_take, List.length_drop]
  omega
theorem mul3 (a : Nat) : fMul (.str [a]) (.int 3) = some (.str [a, a, a]) := by
  show (if (0 : Int) ≤ 3 ∧ (3 : Int) ≤ 1000 ∧ [a].length ≤ 1000 then some (D.str (List.replicate (3 : Int).toNat [a]).flatten) else none) = _
  rw [if_pos ⟨by decide, by decide, by simp⟩]
  rfl
def mOldEnd : MS := (mSeq (mSet 9 (m2 fMod (mCB fInt (mCons (m2 fIx (mBor 2) (mC (.int 3))) mNil)) (m2 fAdd (mCB fLen (mCons (mBor 8) mNil)) (mC (.int 1)))))
  (mSeq (mSet 10 (m2 fAdd (m2 fAdd (m2 fAdd (m2 fAdd (mBor 6) (mSl (mBor 8) mNo (mPart (mVar 9)))) (mBor 6)) (mSl (mBor 8) (mPart (mVar 9)) mNo)) (mBor 6)))
  (mSeq (mSet 11 (m2 fAdd (m2 fAdd (mBor 6) (mBor 8)) (mBor 6)))
  (mSeq (mSet 12 (mF (mLst (mCons (mVar 4) (mCons (mVar 5) (mCons (m2 fAdd (mBor 4) (mBor 4)) (mCons (m2 fAdd (mBor 4) (mBor 5)) (mCons (m2 fAdd (mBor 5) (mBor 4)) (mCons (m2 fAdd (m2 fAdd (mBor 4) (mBor 4)) (mBor 4)) (mCons (m2 fAdd (mBor 4) (mBor 6)) (mCons (m2 fAdd (mBor 6) (mBor 4)) (mCons (mC (.str (S ""))) (mCons (mVar 6) mNil)))))))))))))
  (mSeq (mSet 12 (m2 fAdd (mBor 12) (mF (mLst (mCons (mSl (mBor 4) (mPart (mC (.int 1))) mNo) (mCons (mSl (mBor 4) mNo (mPart (m2 fSub (mCB fLen (mCons (mBor 4) mNil)) (mC (.int 1))))) (mCons (m2 fAdd (mBor 4) (mSl (mBor 4) (mPart (mC (.int 1))) mNo)) (mCons (mSl (m2 fAdd (mBor 4) (mBor 4)) (mPart (mC (.int 1))) mNo) (mCons (m2 fAdd (mBor 5) (mBor 5)) (mCons (m2 fAdd (m2 fAdd (mBor 4) (mBor 5)) (mBor 4)) mNil))))))))))
  (mRet (m2 fAdd (mBor 12) (mF (mLst (mCons (m2 fAdd (mBor 6) (mBor 6)) (mCons (m2 fMul (mBor 6) (mC (.int 3))) (mCons (mVar 11) (mCons (mVar 10) (mCons (m2 fAdd (mBor 11) (mBor 6)) (mCons (mSl (mBor 11) (mPart (mC (.int 1))) mNo) (mCons (mSl (mBor 11) mNo (mPart (m2 fSub (mCB fLen (mCons (mBor 11) mNil)) (mC (.int 1))))) (mCons (mVar 8) mNil)))))))))))))))))
theorem old_end {al row3 : D} {V : D} {row : List D} {s v mid : List Nat} {f : Nat} {r3 : Int} {x3 x7 : Option Sl} (i3 : atI row 3 = some (.int r3)) (hs : s.length ≤ 3) (hv : v.length ≤ 3) (hm : mid.length ≤ 40) :
    ∃ xs, mOldEnd [some (.d al), some (.d V), some (.d (.lst row)), x3, some (.d (.str s)), some (.d (.str v)), some (.d (.str [f])), x7, some (.d (.str mid)), none, none, none, none, none, none] = .ret (.d (.lst xs)) ∧ Olds xs ∧ xs.length ≤ 24 := by
  have add : ∀ a b : List Nat, a.length ≤ 1000 → b.length ≤ 1000 → fAdd (.str a) (.str b) = some (.str (a ++ b)) := fun a b ha hb => fAdd_str (by omega)
  have l1 := fLen_str (show mid.length ≤ 100000 by omega)
  have l2 := fLen_str (show s.length ≤ 100000 by omega)
  have m1 : fMod (.int r3) (.int ((mid.length : Int) + 1)) = some (.int (r3 % ((mid.length : Int) + 1))) := fMod_int (by omega)
  generalize r3 % ((mid.length : Int) + 1) = at' at m1
  have c1 := cut_le mid none (some at')
  have c2 := cut_le mid (some at') none
  have c3 := cut_le s (some 1) none
  have c4 := cut_le s none (some ((s.length : Int) - 1))
  have t1 : fSl (.str mid) none (some at') = some (.str (cutL mid none (some at'))) := fSl_str (by omega) _ _
  have t2 : fSl (.str mid) (some at') none = some (.str (cutL mid (some at') none)) := fSl_str (by omega) _ _
  have t3 : fSl (.str s) (some 1) none = some (.str (cutL s (some 1) none)) := fSl_str (by omega) _ _
  have t4 : fSl (.str s) none (some ((s.length : Int) - 1)) = some (.str (cutL s none (some ((s.length : Int) - 1)))) := fSl_str (by omega) _ _
  generalize cutL mid none (some at') = ma at *
  generalize cutL mid (some at') none = mb at *
  generalize cutL s (some 1) none = sa at *
  generalize cutL s none (some ((s.length : Int) - 1)) = sb at *
  have a1 := add [f] ma (by simp) (by omega)
  have a2 := add ([f] ++ ma) [f] (by simp; omega) (by simp)
  have a3 := add ([f] ++ ma ++ [f]) mb (by simp; omega) (by omega)
  have a4 := add ([f] ++ ma ++ [f] ++ mb) [f] (by simp; omega) (by simp)
  have a5 := add [f] mid (by simp) (by omega)
  have a6 := add ([f] ++ mid) [f] (by simp; omega) (by simp)
  have a7 := add s s (by omega) (by omega)
  have a8 := add s v (by omega) (by omega)
  have a9 := add v s (by omega) (by omega)
  have a10 := add (s ++ s) s (by simp; omega) (by omega)
  have a11 := add s [f] (by omega) (by simp)
  have a12 := add [f] s (by simp) (by omega)
  have a13 := add s sa (by omega) (by omega)
  have a14 := add v v (by omega) (by omega)
  have a15 := add (s ++ v) s (by simp; omega) (by omega)
  have a16 := add [f] [f] (by simp) (by simp)
  have a17 := add ([f] ++ mid ++ [f]) [f] (by simp; omega) (by simp)
  have n1 : ([f] ++ mid ++ [f]).length ≤ 50 := by simp; omega
  have n2 : ([f] ++ ma ++ [f] ++ mb ++ [f]).length ≤ 100 := by simp; omega
  have g1 := mul3 f
  generalize hpl : [f] ++ ma ++ [f] ++ mb ++ [f] = pl at *
  generalize hle : [f] ++ mid ++ [f] = le at *
  have l3 := fLen_str (show le.length ≤ 100000 by omega)
  have c5 := cut_le le (some 1) none
  have c6 := cut_le le none (some ((le.length : Int) - 1))
  have c7 := cut_le (s ++ s) (some 1) none
  have n3 : (s ++ s).length ≤ 6 := by simp; omega
  have t5 : fSl (.str le) (some 1) none = some (.str (cutL le (some 1) none)) := fSl_str (by omega) _ _
  have t6 : fSl (.str le) none (some ((le.length : Int) - 1)) = some (.str (cutL le none (some ((le.length : Int) - 1)))) := fSl_str (by omega) _ _
  have t7 : fSl (.str (s ++ s)) (some 1) none = some (.str (cutL (s ++ s) (some 1) none)) := fSl_str (by omega) _ _
  generalize cutL le (some 1) none = la at *
  generalize cutL le none (some ((le.length : Int) - 1)) = lb at *
  generalize cutL (s ++ s) (some 1) none = ssa at *
  have x1 : fAdd (.lst [.str s, .str v, .str (s ++ s), .str (s ++ v), .str (v ++ s), .str (s ++ s ++ s), .str (s ++ [f]), .str ([f] ++ s), .str (S ""), .str [f]]) (.lst [.str sa, .str sb, .str (s ++ sa), .str ssa, .str (v ++ v), .str (s ++ v ++ s)]) =
    some (.lst [.str s, .str v, .str (s ++ s), .str (s ++ v), .str (v ++ s), .str (s ++ s ++ s), .str (s ++ [f]), .str ([f] ++ s), .str (S ""), .str [f], .str sa, .str sb, .str (s ++ sa), .str ssa, .str (v ++ v), .str (s ++ v ++ s)]) := fAdd_lst (by simp)
  have x2 : fAdd (.lst [.str s, .str v, .str (s ++ s), .str (s ++ v), .str (v ++ s), .str (s ++ s ++ s), .str (s ++ [f]), .str ([f] ++ s), .str (S ""), .str [f], .str sa, .str sb, .str (s ++ sa), .str ssa, .str (v ++ v), .str (s ++ v ++ s)]) (.lst [.str ([f] ++ [f]), .str [f, f, f], .str le, .str pl, .str (le ++ [f]), .str la, .str lb, .str mid]) =
    some (.lst [.str s, .str v, .str (s ++ s), .str (s ++ v), .str (v ++ s), .str (s ++ s ++ s), .str (s ++ [f]), .str ([f] ++ s), .str (S ""), .str [f], .str sa, .str sb, .str (s ++ sa), .str ssa, .str (v ++ v), .str (s ++ v ++ s), .str ([f] ++ [f]), .str [f, f, f], .str le, .str pl, .str (le ++ [f]), .str la, .str lb, .str mid]) := fAdd_lst (by simp)
  refine ⟨[.str s, .str v, .str (s ++ s), .str (s ++ v), .str (v ++ s), .str (s ++ s ++ s), .str (s ++ [f]), .str ([f] ++ s), .str (S ""), .str [f], .str sa, .str sb, .str (s ++ sa), .str ssa, .str (v ++ v), .str (s ++ v ++ s), .str ([f] ++ [f]), .str [f, f, f], .str le, .str pl, .str (le ++ [f]), .str la, .str lb, .str mid], ?_, ?_, by simp⟩
  · clear add hs hv hm c1 c2 c3 c4 c5 c6 c7 n1 n2 n3 hpl hle
    unfold mOldEnd
    simp only [List.cons_append, List.nil_append] at *
    walk_at "evh"
  · have z0 : (S "").length ≤ 1000 := by decide +kernel
    simp only [List.length_append] at n3 c7
    refine ⟨by simp, fun d hd => ?_⟩
    simp only [List.mem_cons, List.not_mem_nil, or_false] at hd
    rcases hd with rfl | rfl | rfl | rfl | rfl | rfl | rfl | rfl | rfl | rfl | rfl | rfl | rfl | rfl | rfl | rfl | rfl | rfl | rfl | rfl | rfl | rfl | rfl | rfl
    all_goals exact ⟨_, rfl, by first | omega | (simp only [List.length_append, List.length_cons, List.length_nil]; omega)⟩
end K09
namespace K09
open PySem L2 R
def sz41 : List Int := [38, 2, 6, 41] ++ List.replicate 37 26
theorem olds_split : m__law_olds = (mSeq (mSet 3 (mC (.str abc)))
  (mSeq (mSet 4 (m2 fIx (mBor 1) (mC (.int 1))))
  (mSeq (mSet 5 (m2 fIx (mBor 1) (m2 fSub (mCB fLen (mCons (mBor 1) mNil)) (mC (.int 2)))))
  (mSeq (mSet 6 (m2 fIx (mBor 4) (mC (.int 0))))
  (mSeq (mSet 7 (mF (mLc (mItems (m2 fIx (mF (mLst (mCons (mVar 0) (mCons (mVar 3) mNil)))) (m2 fIx (mBor 2) (mC (.int 1))))) 13 (mT (m2 fNe (mBor 13) (mBor 6))) (mVar 13))))
  (mSeq (mIf (mT (m2 fEq (mCB fLen (mCons (mBor 7) mNil)) (mC (.int 0))))
    (mSet 7 (mF (mLc (mItems (mVar 3)) 13 (mT (m2 fNe (mBor 13) (mBor 6))) (mVar 13))))
    mNext)
  (mSeq (mSet 8 (mMt fJoin (mC (.str (S ""))) (mCons (mF (mLc (mRng1 (mCons (m2 fIx (mBor 2) (mC (.int 0))) mNil)) 14 mYes (m2 fIx (mBor 7) (m2 fMod (mCB fInt (mCons (m2 fIx (mBor 2) (m2 fAdd (mC (.int 4)) (mBor 14))) mNil)) (mCB fLen (mCons (mBor 7) mNil)))))) mNil)))
  mOldEnd))))))) := rfl
theorem lt_ixL (os : List Nat) (r : Int) (h1 : 1 ≤ os.length) : atI (os.map fun c => D.str [c]) (r % ((os.map fun c => D.str [c]).length : Int)) = some (.str [lt os r]) := by
  rw [List.length_map]
  have a := Int.emod_nonneg r (show (os.length : Int) ≠ 0 by omega)
  have h := lt_at os r h1
  have := atI_nat (xs := os.map fun c => D.str [c]) (j := (r % (os.length : Int)).toNat) (v := .str [lt os r]) (by rw [List.getElem?_map, h]; rfl)
  rw [Int.toNat_of_nonneg a] at this
  exact this
theorem mid_go {os : List Nat} {row : List Int} {n : Nat} {x0 x1 x3 x4 x5 x6 x13 : Option Sl} (h1 : 1 ≤ os.length) (hl : 4 + n ≤ row.length) :
    lcGo 14 mYes (m2 fIx (mBor 7) (m2 fMod (mCB fInt (mCons (m2 fIx (mBor 2) (m2 fAdd (mC (.int 4)) (mBor 14))) mNil)) (mCB fLen (mCons (mBor 7) mNil)))) [x0, x1, some (.d (.lst (row.map .int))), x3, x4, x5, x6, some (.d (.lst (os.map fun c => D.str [c]))), none, none, none, none, none, none, none] (rngD 0 n) =
      some ((List.range n).map fun k => D.str [lt os (row.getD (4 + k) 0)]) := by
  refine lc_rng _ fun k hk => ?_
  have hj : 4 + k < row.length := by omega
  have g1 := ix_map (List.getElem?_eq_getElem hj)
  rw [show (((4 + k : Nat)) : Int) = 4 + (k : Int) by omega] at g1
  have eg : row.getD (4 + k) 0 = row[4 + k] := by rw [List.getD_eq_getElem?_getD, List.getElem?_eq_getElem hj]; rfl
  rw [eg]
  generalize row[4 + k] = d at g1
  have g2 : fMod (.int d) (.int ((os.map fun c => D.str [c]).length : Int)) = some (.int (d % ((os.map fun c => D.str [c]).length : Int))) := fMod_int (by rw [List.length_map]; omega)
  have g3 := lt_ixL os d h1
  clear hj hk hl h1 eg
  walk_at "evh"
theorem olds_ok {al : List Nat} (h1 : 1 ≤ al.length) (h2 : al.length ≤ 6) {k : Kd} {s t : List Nat} {p : Int} (s1 : 1 ≤ s.length) (hs : s.length ≤ 3) (ht : t.length ≤ 3) (row : List Int) (hl : row.length = 41) (h : Dg row sz41) :
    ∃ xs, g__law_olds [.str al, .tup (items k s t p), .lst (row.map .int)] = some (.d (.lst xs)) ∧ Olds xs ∧ xs.length ≤ 24 := by
  obtain ⟨r0, a0, b0, c0⟩ := dig (j := 0) h hl rfl
  obtain ⟨r1, a1, b1, c1⟩ := dig (j := 1) h hl rfl
  obtain ⟨r3, a3, b3, c3⟩ := dig (j := 3) h hl rfl
  have i0 : atI (row.map D.int) 0 = some (.int r0) := ix_map a0
  have i1 : atI (row.map D.int) 1 = some (.int r1) := ix_map a1
  have i3 : atI (row.map D.int) 3 = some (.int r3) := ix_map a3
  obtain ⟨f, e0⟩ : ∃ a, s[0]? = some a := ⟨_, List.getElem?_eq_getElem (by omega)⟩
  have f0 : fIx (.str s) (.int 0) = some (.str [f]) := fIx_str (by omega) (atI_nat (j := 0) e0)
  obtain ⟨v, hv, v1, v2⟩ : ∃ v : List Nat, v.length ≤ 3 ∧ fIx (.tup (items k s t p)) (.int 1) = some (.str s) ∧ fIx (.tup (items k s t p)) (.int (((items k s t p).length : Int) - 2)) = some (.str v) := by
    cases k
    · exact ⟨t, ht, rfl, rfl⟩
    · exact ⟨s, hs, rfl, rfl⟩
    · exact ⟨s, hs, rfl, rfl⟩
    · exact ⟨s, hs, rfl, rfl⟩
    · exact ⟨t, ht, rfl, rfl⟩
    · exact ⟨t, ht, rfl, rfl⟩
    · exact ⟨s, hs, rfl, rfl⟩
  rw [fIx_tup] at v1 v2
  generalize items k s t p = V at *
  -- the letters to choose from
  obtain ⟨X, hX, xl⟩ : ∃ X : List Nat, atI [D.str al, .str abc] r1 = some (.str X) ∧ X.length ≤ 26 := by
    have : r1 = 0 ∨ r1 = 1 := by omega
    rcases this with rfl | rfl
    · exact ⟨al, rfl, by omega⟩
    · exact ⟨abc, rfl, by rw [abc_len]; omega⟩
  have zX : (X.map fun c => D.str [c]).length ≤ sizeLine := sl_ok _ (by rw [List.length_map]; omega)
  have zA : (abc.map fun c => D.str [c]).length ≤ sizeLine := sl_ok _ (by rw [List.length_map, abc_len]; decide)
  have go1 := oth_go f X (ρ := [some (.d (.str al)), some (.d (.tup V)), some (.d (.lst (row.map .int))), some (.d (.str abc)), some (.d (.str s)), some (.d (.str v)), some (.d (.str [f])), none, none, none, none, none, none, none, none]) (fun _ => rfl) (fun _ => rfl)
  have go2 := oth_go f abc (ρ := [some (.d (.str al)), some (.d (.tup V)), some (.d (.lst (row.map .int))), some (.d (.str abc)), some (.d (.str s)), some (.d (.str v)), some (.d (.str [f])), some (.d (.lst ((oth f X).map fun c => D.str [c]))), none, none, none, none, none, none, none]) (fun _ => rfl) (fun _ => rfl)
  have er := rng_i r0 b0 (by omega)
  have zr := rngD_sz r0.toNat (by omega)
  have hn : r0.toNat ≤ 37 := by
    have : r0 < 38 := c0
    omega
  generalize hN : r0.toNat = n at *
  have fin : ∀ os : List Nat, 1 ≤ os.length → ∃ xs, (mSeq (mSet 8 (mMt fJoin (mC (.str (S ""))) (mCons (mF (mLc (mRng1 (mCons (m2 fIx (mBor 2) (mC (.int 0))) mNil)) 14 mYes (m2 fIx (mBor 7) (m2 fMod (mCB fInt (mCons (m2 fIx (mBor 2) (m2 fAdd (mC (.int 4)) (mBor 14))) mNil)) (mCB fLen (mCons (mBor 7) mNil)))))) mNil)))
      mOldEnd) [some (.d (.str al)), some (.d (.tup V)), some (.d (.lst (row.map .int))), some (.d (.str abc)), some (.d (.str s)), some (.d (.str v)), some (.d (.str [f])), some (.d (.lst (os.map fun c => D.str [c]))), none, none, none, none, none, none, none] = .ret (.d (.lst xs)) ∧ Olds xs ∧ xs.length ≤ 24 := fun os ho => by
    have go := mid_go (os := os) (row := row) (n := n) (x0 := some (.d (.str al))) (x1 := some (.d (.tup V))) (x3 := some (.d (.str abc))) (x4 := some (.d (.str s))) (x5 := some (.d (.str v))) (x6 := some (.d (.str [f]))) (x13 := none) ho (by omega)
    have j1 := join_one (fun kk => lt os (row.getD (4 + kk) 0)) (List.range n) (by rw [List.length_range]; omega)
    have lm : (List.map (fun kk => lt os (row.getD (4 + kk) 0)) (List.range n)).length ≤ 40 := by rw [List.length_map, List.length_range]; omega
    generalize List.map (fun kk => lt os (row.getD (4 + kk) 0)) (List.range n) = mid at j1 lm
    obtain ⟨xs, q1, q2, q3⟩ := old_end (al := .str al) (row3 := .non) (V := .tup V) (f := f) (x3 := some (.d (.str abc))) (x7 := some (.d (.lst (os.map fun c => D.str [c])))) i3 hs hv lm
    refine ⟨xs, ?_, q2, q3⟩
    clear q2 q3 lm ho go1 go2 hn h hl a0 b0 c0 a1 b1 c1 a3 b3 c3 zX zA hX xl e0 s1 hs ht hv h1 h2
    walk_at "evh"
  by_cases ho : (oth f X).length = 0
  · have e1 : decide ((((oth f X).map fun c => D.str [c]).length : Int) = 0) = true := decide_eq_true (by rw [List.length_map, ho]; rfl)
    obtain ⟨xs, q1, q2, q3⟩ := fin (oth f abc) (oth_abc f)
    refine ⟨xs, ?_, q2, q3⟩
    unfold g__law_olds
    rw [olds_split]
    generalize hE : (mSeq (mSet 8 (mMt fJoin (mC (.str (S ""))) (mCons (mF (mLc (mRng1 (mCons (m2 fIx (mBor 2) (mC (.int 0))) mNil)) 14 mYes (m2 fIx (mBor 7) (m2 fMod (mCB fInt (mCons (m2 fIx (mBor 2) (m2 fAdd (mC (.int 4)) (mBor 14))) mNil)) (mCB fLen (mCons (mBor 7) mNil)))))) mNil))) mOldEnd) = E at *
    clear hE fin q2 q3 hn h hl a0 b0 c0 a1 b1 c1 a3 b3 c3 xl e0 s1 hs ht hv h1 h2 ho er zr hN
    walk_at "evh"
  · have e1 : decide ((((oth f X).map fun c => D.str [c]).length : Int) = 0) = false := decide_eq_false (by rw [List.length_map]; omega)
    obtain ⟨xs, q1, q2, q3⟩ := fin (oth f X) (by omega)
    refine ⟨xs, ?_, q2, q3⟩
    unfold g__law_olds
    rw [olds_split]
    generalize hE : (mSeq (mSet 8 (mMt fJoin (mC (.str (S ""))) (mCons (mF (mLc (mRng1 (mCons (m2 fIx (mBor 2) (mC (.int 0))) mNil)) 14 mYes (m2 fIx (mBor 7) (m2 fMod (mCB fInt (mCons (m2 fIx (mBor 2) (m2 fAdd (mC (.int 4)) (mBor 14))) mNil)) (mCB fLen (mCons (mBor 7) mNil)))))) mNil))) mOldEnd) = E at *
    clear hE fin q2 q3 hn h hl a0 b0 c0 a1 b1 c1 a3 b3 c3 xl e0 s1 hs ht hv h1 h2 ho er zr hN
    walk_at "evh"
end K09
namespace K09
open PySem L2 R
theorem val_items {k : Kd} {s t : List Nat} {p : Int} (hs : s.length ≤ 3) (ht : t.length ≤ 3) : Val (items k s t p) := by
  unfold items
  cases hk : four k with
  | true => exact .four k s t p hk (by omega) (by omega)
  | false => exact .three k s p hk (by omega)
/-- a row of digits of a cell -/
theorem dg_of (ns : List Int) (k : Nat) (hk : k < 1000) (sizes : List Int) (hs : ∀ z ∈ sizes, 0 < z ∧ z < 1073741824) (hl : sizes.length ≤ 1000) :
    ∃ (c : Int) (row : List Int), g__law_cell [.lsk (ns.map .int), .int (k : Int)] = some (.d (.int c)) ∧ g__law_digits [.int c, .lst (sizes.map .int)] = some (.own (.lst (row.map .int))) ∧ row.length = sizes.length ∧ Dg row sizes := by
  obtain ⟨c, hc⟩ := cell_ok ns k hk
  obtain ⟨row, h1, h2, h3⟩ := digits_ok c sizes hs hl
  exact ⟨c, row, hc, h1, h2, h3⟩
abbrev mOldTurn : MS := (mSeq (mIf (mNot (mT (mCall g__law_alike (mCons (mCall g_rewritten (mCons (m2 fIx (mF (mLst (mCons (mVar 3) (mCons (mF (mCF fList (mCons (mBor 3) mNil))) mNil)))) (mBor 11)) (mCons (mVar 13) mNil))) (mCons (mCall g__law_written (mCons (mVar 3) (mCons (mVar 13) mNil))) mNil)))))
        (mRet (mC (.bl false)))
        mNext)
      (mIf (mNot (mT (mCall g__law_alike (mCons (mCall g_rewritten (mCons (m2 fIx (mF (mLst (mCons (mF (mCF fList (mCons (mBor 4) mNil))) (mCons (mVar 4) mNil)))) (mBor 11)) (mCons (mVar 13) mNil))) (mCons (mCall g__law_written (mCons (mVar 4) (mCons (mVar 13) mNil))) mNil)))))
        (mRet (mC (.bl false)))
        mNext))
abbrev mValTurn : MS := (mIf (mOr (mNot (mT (mCall g__law_judged (mCons (mVar 1) (mCons (mVar 12) mNil))))) (mNot (mT (mCall g__law_judged (mCons (mVar 9) (mCons (mVar 12) mNil))))))
        (mRet (mC (.bl false)))
        mNext)
theorem old_turn {x0 x2 x5 x6 x7 x8 x9 x10 x12 : Option Sl} {al : List Nat} {k k' : Kd} {s t s' t' : List Nat} {p p' : Int} {tn : Int} (ht : tn = 0 ∨ tn = 1) (f : Flt al k s t p) (f' : Flt al k' s' t' p') (x : List Nat) (hx : x.length ≤ 1000) :
    mOldTurn [x0, some (.d (.str al)), x2, some (.d (.tup (items k s t p))), some (.d (.tup (items k' s' t' p'))), x5, x6, x7, x8, x9, x10, some (.d (.int tn)), x12, some (.d (.str x))] =
      .nx [x0, some (.d (.str al)), x2, some (.d (.tup (items k s t p))), some (.d (.tup (items k' s' t' p'))), x5, x6, x7, x8, x9, x10, some (.d (.int tn)), x12, some (.d (.str x))] := by
  have l1 : fList [.tup (items k s t p)] = some (items k s t p) := rfl
  have l2 : fList [.tup (items k' s' t' p')] = some (items k' s' t' p') := rfl
  rcases ht with rfl | rfl
  · obtain ⟨a, q1, q2, q3⟩ := same_ans f (has_tup k s t p) x hx
    obtain ⟨b, r1, r2, r3⟩ := same_ans f' (has_lst k' s' t' p') x hx
    have q1 := v_call q1
    have q2 := v_call q2
    have q3 := v_call q3
    have r1 := v_call r1
    have r2 := v_call r2
    have r3 := v_call r3
    generalize items k s t p = I at *
    generalize items k' s' t' p' = I' at *
    clear hx
    walk_at "evh"
  · obtain ⟨a, q1, q2, q3⟩ := same_ans f (has_lst k s t p) x hx
    obtain ⟨b, r1, r2, r3⟩ := same_ans f' (has_tup k' s' t' p') x hx
    have q1 := v_call q1
    have q2 := v_call q2
    have q3 := v_call q3
    have r1 := v_call r1
    have r2 := v_call r2
    have r3 := v_call r3
    generalize items k s t p = I at *
    generalize items k' s' t' p' = I' at *
    clear hx
    walk_at "evh"
def Vals (vs : List D) : Prop := vs.length ≤ 100 ∧ ∀ d ∈ vs, ∃ xs, d = .tup xs ∧ Val xs
theorem val_turn {x0 x2 x3 x4 x5 x6 x7 x8 x10 x11 x13 : Option Sl} {al ls : List Nat} {xs : List D} (h : Val xs) :
    mValTurn [x0, some (.d (.str al)), x2, x3, x4, x5, x6, x7, x8, some (.d (.str ls)), x10, x11, some (.d (.tup xs)), x13] = .nx [x0, some (.d (.str al)), x2, x3, x4, x5, x6, x7, x8, some (.d (.str ls)), x10, x11, some (.d (.tup xs)), x13] := by
  have j1 := v_call (judged h al)
  have j2 := v_call (judged h ls)
  clear h
  walk_at "evh"
def mTurns : MS := (mSeq (mIf (mOr (mT (m2 fIsNot (mCall g_is_fault (mCons (mVar 1) (mCons (mVar 3) mNil))) (mC (.bl true)))) (mT (m2 fIsNot (mCall g_is_fault (mCons (mVar 1) (mCons (mVar 4) mNil))) (mC (.bl true)))))
      (mRet (mC (.bl false)))
      mNext)
    (mFz 5 (mSeq (mFor (mItems (mVar 5)) (gN 12) mValTurn)
    (mFor (mItems (mVar 10)) (gN 13) mOldTurn))))
theorem turn_ok {x0 x2 x6 x7 x8 x12 x13 : Option Sl} {al ls : List Nat} {k k' : Kd} {s t s' t' : List Nat} {p p' : Int} {tn : Int} {vs os : List D} {s5 : Sl} (h5 : s5 = .own (.lst vs) ∨ s5 = .d (.lst vs)) (hv : Vals vs) (ho : Olds os) (ht : tn = 0 ∨ tn = 1) (f : Flt al k s t p) (f' : Flt al k' s' t' p') :
    ∃ y12 y13, mTurns [x0, some (.d (.str al)), x2, some (.d (.tup (items k s t p))), some (.d (.tup (items k' s' t' p'))), some s5, x6, x7, x8, some (.d (.str ls)), some (.d (.lst os)), some (.d (.int tn)), x12, x13] =
      .nx [x0, some (.d (.str al)), x2, some (.d (.tup (items k s t p))), some (.d (.tup (items k' s' t' p'))), some (.d (.lst vs)), x6, x7, x8, some (.d (.str ls)), some (.d (.lst os)), some (.d (.int tn)), y12, y13] := by
  have g1 := v_call f.good
  have g2 := v_call f'.good
  have e1 : fIsNot (.bl true) (.bl true) = some (.bl false) := rfl
  have ez : frz 5 [x0, some (.d (.str al)), x2, some (.d (.tup (items k s t p))), some (.d (.tup (items k' s' t' p'))), some s5, x6, x7, x8, some (.d (.str ls)), some (.d (.lst os)), some (.d (.int tn)), x12, x13] = [x0, some (.d (.str al)), x2, some (.d (.tup (items k s t p))), some (.d (.tup (items k' s' t' p'))), some (.d (.lst vs)), x6, x7, x8, some (.d (.str ls)), some (.d (.lst os)), some (.d (.int tn)), x12, x13] := by
    rcases h5 with rfl | rfl <;> rfl
  obtain ⟨ρ1, l1, y12, q1⟩ := for_thru (mg := gN 12) (b := mValTurn) (xs := vs) (ρ := [x0, some (.d (.str al)), x2, some (.d (.tup (items k s t p))), some (.d (.tup (items k' s' t' p'))), some (.d (.lst vs)), x6, x7, x8, some (.d (.str ls)), some (.d (.lst os)), some (.d (.int tn)), x12, x13])
    (fun ρ => ∃ y, ρ = [x0, some (.d (.str al)), x2, some (.d (.tup (items k s t p))), some (.d (.tup (items k' s' t' p'))), some (.d (.lst vs)), x6, x7, x8, some (.d (.str ls)), some (.d (.lst os)), some (.d (.int tn)), y, x13]) ⟨x12, rfl⟩ (fun d ρ hd hp => by
      obtain ⟨y, rfl⟩ := hp
      obtain ⟨xs, rfl, hx⟩ := hv.2 d hd
      exact ⟨_, _, rfl, val_turn hx, ⟨_, rfl⟩⟩)
  subst q1
  obtain ⟨ρ2, l2, y13, q2⟩ := for_thru (mg := gN 13) (b := mOldTurn) (xs := os) (ρ := [x0, some (.d (.str al)), x2, some (.d (.tup (items k s t p))), some (.d (.tup (items k' s' t' p'))), some (.d (.lst vs)), x6, x7, x8, some (.d (.str ls)), some (.d (.lst os)), some (.d (.int tn)), y12, x13])
    (fun ρ => ∃ y, ρ = [x0, some (.d (.str al)), x2, some (.d (.tup (items k s t p))), some (.d (.tup (items k' s' t' p'))), some (.d (.lst vs)), x6, x7, x8, some (.d (.str ls)), some (.d (.lst os)), some (.d (.int tn)), y12, y]) ⟨x13, rfl⟩ (fun d ρ hd hp => by
      obtain ⟨y, rfl⟩ := hp
      obtain ⟨x, rfl, hx⟩ := ho.2 d hd
      exact ⟨_, _, rfl, old_turn ht f f' x hx, ⟨_, rfl⟩⟩)
  subst q2
  refine ⟨y12, y13, ?_⟩
  clear h5 hv ho ht f f'
  unfold mTurns
  generalize items k s t p = I at *
  generalize items k' s' t' p' = I' at *
  walk_at "evh"
theorem turns_ok {x0 x2 x6 x7 x8 : Option Sl} {al ls : List Nat} {k k' : Kd} {s t s' t' : List Nat} {p p' : Int} {vs os : List D} (hv : Vals vs) (ho : Olds os) (f : Flt al k s t p) (f' : Flt al k' s' t' p') :
    ∃ ρ', forGo (gN 11) mTurns (rngD 0 2) [x0, some (.d (.str al)), x2, some (.d (.tup (items k s t p))), some (.d (.tup (items k' s' t' p'))), some (.own (.lst vs)), x6, x7, x8, some (.d (.str ls)), some (.d (.lst os)), none, none, none] = .nx ρ' := by
  obtain ⟨a, b, e1⟩ := turn_ok (x0 := x0) (x2 := x2) (x6 := x6) (x7 := x7) (x8 := x8) (x12 := none) (x13 := none) (ls := ls) (tn := 0) (s5 := .own (.lst vs)) (.inl rfl) hv ho (.inl rfl) f f'
  obtain ⟨c, d, e2⟩ := turn_ok (x0 := x0) (x2 := x2) (x6 := x6) (x7 := x7) (x8 := x8) (x12 := a) (x13 := b) (ls := ls) (tn := 1) (s5 := .d (.lst vs)) (.inr rfl) hv ho (.inr rfl) f f'
  have er : rngD 0 2 = [.int 0, .int 1] := rfl
  rw [er]
  exact ⟨_, ((fg_nx rfl e1).trans (fg_nx rfl e2)).trans fg_nil⟩
end K09
namespace K09
open PySem L2 R
abbrev mSpTurn : MS := (mApp 5 (mCall g__law_spoilt (mCons (mVar 1) (mCons (m2 fIx (mF (mLst (mCons (mVar 3) (mCons (mVar 4) mNil)))) (m2 fMod (mBor 6) (mC (.int 2)))) (mCons (mCall g__law_digits (mCons (mCall g__law_cell (mCons (mVar 0) (mCons (m2 fIx (mF (mLst (mCons (mC (.int 2)) (mCons (mC (.int 5)) (mCons (mC (.int 6)) mNil))))) (mBor 6)) mNil))) (mCons (mF (mLst (mCons (mC (.int 12)) (mCons (mC (.int 4)) (mCons (mC (.int 12)) (mCons (mC (.int 10)) (mCons (mC (.int 8)) mNil))))))) mNil))) mNil)))))
theorem sp_turn {sc al x2 F T V V' : D} {vs : List D} {i i2 q : Int} {c : Int} {row : List D} {x7 x8 x9 x10 x11 x12 x13 : Option Sl} (hi : fMod (.int i) (.int 2) = some (.int i2)) (hF : atI [F, T] i2 = some V) (hq : atI [D.int 2, .int 5, .int 6] i = some (.int q))
    (hc : g__law_cell [sc, .int q] = some (.d (.int c))) (hd : g__law_digits [.int c, .lst [.int 12, .int 4, .int 12, .int 10, .int 8]] = some (.own (.lst row))) (hs : g__law_spoilt [al, V, .lst row] = some (.d V')) (hl : vs.length < 100) :
    mSpTurn [some (.d sc), some (.d al), some (.d x2), some (.d F), some (.d T), some (.own (.lst vs)), some (.d (.int i)), x7, x8, x9, x10, x11, x12, x13] = .nx [some (.d sc), some (.d al), some (.d x2), some (.d F), some (.d T), some (.own (.lst (vs ++ [V']))), some (.d (.int i)), x7, x8, x9, x10, x11, x12, x13] := by
  have hc := v_call hc
  have hd := v_call hd
  have hs := v_call hs
  have hz : vs.length < sizeLine := Nat.lt_of_lt_of_le hl (by decide)
  clear hl
  walk_at "evh"
theorem mul37 : fMul (.lst [.int 26]) (.int 37) = some (.lst (List.replicate 37 (.int 26))) := by
  have hc : -(2 ^ 63 : Int) ≤ 37 ∧ (37 : Int) < 2 ^ 63 ∧ [D.int 26].length * (37 : Int).toNat ≤ sizeLine := ⟨by decide, by decide, sl_ok _ (by decide)⟩
  show (if -(2 ^ 63 : Int) ≤ 37 ∧ (37 : Int) < 2 ^ 63 ∧ [D.int 26].length * (37 : Int).toNat ≤ sizeLine then some (D.lst (List.replicate (37 : Int).toNat [D.int 26]).flatten) else none) = _
  rw [if_pos hc]
  rfl
theorem add41 : fAdd (.lst [.int 38, .int 2, .int 6, .int 41]) (.lst (List.replicate 37 (.int 26))) = some (.lst (sz41.map .int)) := by
  rw [fAdd_lst (by simp)]
  rfl
def mLawEnd : MS := (mSeq (mFor (mRng1 (mCons (mC (.int 2)) mNil)) (gN 11) mTurns)
  (mRet (mC (.bl true))))
theorem law_split : m_law = (mSeq (mSet 1 (mCall g__law_letters (mCons (mCall g__law_digits (mCons (mCall g__law_cell (mCons (mVar 0) (mCons (mC (.int 0)) mNil))) (mCons (mF (mLst (mCons (mC (.int 8)) (mCons (mC (.int 6)) (mCons (mC (.int 4)) (mCons (mC (.int 4)) (mCons (mC (.int 4)) (mCons (mC (.int 4)) (mCons (mC (.int 4)) mNil))))))))) mNil))) mNil)))
  (mSeq (mSet 2 (mF (mLst (mCons (mC (.int 7)) (mCons (mC (.int 3)) (mCons (mC (.int 6)) (mCons (mC (.int 6)) (mCons (mC (.int 6)) (mCons (mC (.int 3)) (mCons (mC (.int 6)) (mCons (mC (.int 6)) (mCons (mC (.int 6)) (mCons (mC (.int 5)) (mCons (mC (.int 99)) mNil))))))))))))))
  (mSeq (mSet 3 (mCall g__law_fault (mCons (mVar 1) (mCons (mCall g__law_digits (mCons (mCall g__law_cell (mCons (mVar 0) (mCons (mC (.int 1)) mNil))) (mCons (mVar 2) mNil))) mNil))))
  (mSeq (mSet 4 (mCall g__law_fault (mCons (mVar 1) (mCons (mCall g__law_digits (mCons (mCall g__law_cell (mCons (mVar 0) (mCons (mC (.int 4)) mNil))) (mCons (mVar 2) mNil))) mNil))))
  (mSeq (mSetF 5 (mLst (mCons (mVar 3) mNil)))
  (mSeq (mFor (mRng1 (mCons (mC (.int 3)) mNil)) (gN 6) mSpTurn)
  (mSeq (mSet 7 (mCall g__law_digits (mCons (mCall g__law_cell (mCons (mVar 0) (mCons (mC (.int 3)) mNil))) (mCons (m2 fAdd (mF (mLst (mCons (mC (.int 38)) (mCons (mC (.int 2)) (mCons (mC (.int 6)) (mCons (mC (.int 41)) mNil)))))) (m2 fMul (mF (mLst (mCons (mC (.int 26)) mNil))) (mC (.int 37)))) mNil))))
  (mSeq (mSet 8 (m2 fMod (mCB fInt (mCons (m2 fIx (mBor 7) (mC (.int 2))) mNil)) (mCB fLen (mCons (mBor 1) mNil))))
  (mSeq (mSet 9 (m2 fAdd (mSl (mBor 1) mNo (mPart (mVar 8))) (mSl (mBor 1) (mPart (m2 fAdd (mBor 8) (mC (.int 1)))) mNo)))
  (mSeq (mIf (mT (m2 fEq (mCB fLen (mCons (mBor 1) mNil)) (mC (.int 1))))
    (mSet 9 (m2 fIx (mF (mLst (mCons (mC (.str (S "z"))) (mCons (mC (.str (S "y"))) mNil)))) (mCB fInt (mCons (m2 fEq (mBor 1) (mC (.str (S "z")))) mNil))))
    mNext)
  (mSeq (mSet 10 (m2 fAdd (mCall g__law_olds (mCons (mVar 1) (mCons (mVar 3) (mCons (mVar 7) mNil)))) (mCall g__law_olds (mCons (mVar 1) (mCons (mVar 4) (mCons (mVar 7) mNil))))))
  mLawEnd))))))))))) := rfl
theorem small5 : ∀ z ∈ ([12, 4, 12, 10, 8] : List Int), 0 < z ∧ z < 1073741824 := by decide
theorem small7 : ∀ z ∈ ([8, 6, 4, 4, 4, 4, 4] : List Int), 0 < z ∧ z < 1073741824 := by decide
theorem small11 : ∀ z ∈ ([7, 3, 6, 6, 6, 3, 6, 6, 6, 5, 99] : List Int), 0 < z ∧ z < 1073741824 := by decide
theorem small41 : ∀ z ∈ sz41, 0 < z ∧ z < 1073741824 := by decide +kernel
theorem len41 : sz41.length = 41 := by decide +kernel
theorem law_true (ns : List Int) (hn : ns.length ≤ 63) : g_law [.lsk (ns.map D.int)] = some (.d (.bl true)) := by
  obtain ⟨c0, w0, e0, e0', l0, d0⟩ := dg_of ns 0 (by decide) _ small7 (by decide)
  obtain ⟨c1, w1, e1, e1', l1, d1⟩ := dg_of ns 1 (by decide) _ small11 (by decide)
  obtain ⟨c4, w4, e4, e4', l4, d4⟩ := dg_of ns 4 (by decide) _ small11 (by decide)
  obtain ⟨c2, w2, e2, e2', l2, d2⟩ := dg_of ns 2 (by decide) _ small5 (by decide)
  obtain ⟨c5, w5, e5, e5', l5, d5⟩ := dg_of ns 5 (by decide) _ small5 (by decide)
  obtain ⟨c6, w6, e6, e6', l6, d6⟩ := dg_of ns 6 (by decide) _ small5 (by decide)
  obtain ⟨c3, w3, e3, e3', l3, d3⟩ := dg_of ns 3 (by decide) _ small41 (by rw [len41]; decide)
  rw [len41] at l3
  have l0 : w0.length = 7 := l0
  have l1 : w1.length = 11 := l1
  have l4 : w4.length = 11 := l4
  obtain ⟨al, qa, nd, a1, a2⟩ := letters_ok w0 l0 d0
  obtain ⟨k, s, t, p, qf, F⟩ := fault_ok nd a1 a2 w1 l1 d1
  obtain ⟨k', s', t', p', qf', F'⟩ := fault_ok nd a1 a2 w4 l4 d4
  obtain ⟨v2, qs2, hv2⟩ := spoilt_ok (k := k) (s := s) (t := t) (p := p) a1 a2 F.s2 F.t1 w2 l2 d2
  obtain ⟨v5, qs5, hv5⟩ := spoilt_ok (k := k') (s := s') (t := t') (p := p') a1 a2 F'.s2 F'.t1 w5 l5 d5
  obtain ⟨v6, qs6, hv6⟩ := spoilt_ok (k := k) (s := s) (t := t) (p := p) a1 a2 F.s2 F.t1 w6 l6 d6
  obtain ⟨o1, qo1, ho1, lo1⟩ := olds_ok (k := k) (s := s) (t := t) (p := p) a1 a2 F.s1 F.s2 F.t1 w3 l3 d3
  obtain ⟨o2, qo2, ho2, lo2⟩ := olds_ok (k := k') (s := s') (t := t') (p := p') a1 a2 F'.s1 F'.s2 F'.t1 w3 l3 d3
  obtain ⟨r2, ar, br, cr⟩ := dig (j := 2) d3 (by rw [l3, len41]) rfl
  have ir : atI (w3.map D.int) 2 = some (.int r2) := ix_map ar
  -- the values
  have t0 := sp_turn (sc := .lsk (ns.map .int)) (al := .str al) (x2 := .lst [.int 7, .int 3, .int 6, .int 6, .int 6, .int 3, .int 6, .int 6, .int 6, .int 5, .int 99]) (F := .tup (items k s t p)) (T := .tup (items k' s' t' p')) (vs := [.tup (items k s t p)]) (i := 0) (i2 := 0) (q := 2) (x7 := none) (x8 := none) (x9 := none) (x10 := none) (x11 := none) (x12 := none) (x13 := none)
    (fMod_int (by decide)) rfl rfl e2 e2' qs2 (by simp)
  have t1 := sp_turn (sc := .lsk (ns.map .int)) (al := .str al) (x2 := .lst [.int 7, .int 3, .int 6, .int 6, .int 6, .int 3, .int 6, .int 6, .int 6, .int 5, .int 99]) (F := .tup (items k s t p)) (T := .tup (items k' s' t' p')) (vs := [.tup (items k s t p)] ++ [.tup v2]) (i := 1) (i2 := 1) (q := 5) (x7 := none) (x8 := none) (x9 := none) (x10 := none) (x11 := none) (x12 := none) (x13 := none)
    (fMod_int (by decide)) rfl rfl e5 e5' qs5 (by simp)
  have t2 := sp_turn (sc := .lsk (ns.map .int)) (al := .str al) (x2 := .lst [.int 7, .int 3, .int 6, .int 6, .int 6, .int 3, .int 6, .int 6, .int 6, .int 5, .int 99]) (F := .tup (items k s t p)) (T := .tup (items k' s' t' p')) (vs := [.tup (items k s t p)] ++ [.tup v2] ++ [.tup v5]) (i := 2) (i2 := 0) (q := 6) (x7 := none) (x8 := none) (x9 := none) (x10 := none) (x11 := none) (x12 := none) (x13 := none)
    (fMod_int (by decide)) rfl rfl e6 e6' qs6 (by simp)
  have lv : forGo (gN 6) mSpTurn (rngD 0 3) [some (.d (.lsk (ns.map .int))), some (.d (.str al)), some (.d (.lst [.int 7, .int 3, .int 6, .int 6, .int 6, .int 3, .int 6, .int 6, .int 6, .int 5, .int 99])), some (.d (.tup (items k s t p))), some (.d (.tup (items k' s' t' p'))), some (.own (.lst [.tup (items k s t p)])), none, none, none, none, none, none, none, none] = _ :=
    (((fg_nx rfl t0).trans (fg_nx rfl t1)).trans (fg_nx rfl t2)).trans fg_nil
  have hV : Vals ([.tup (items k s t p)] ++ [.tup v2] ++ [.tup v5] ++ [.tup v6]) := ⟨by simp, fun d hd => by
    simp only [List.cons_append, List.nil_append, List.mem_cons, List.not_mem_nil, or_false] at hd
    rcases hd with rfl | rfl | rfl | rfl
    · exact ⟨_, rfl, val_items F.s2 F.t1⟩
    · exact ⟨_, rfl, hv2⟩
    · exact ⟨_, rfl, hv5⟩
    · exact ⟨_, rfl, hv6⟩⟩
  have hO : Olds (o1 ++ o2) := olds_app ho1 ho2 (by omega)
  generalize hvs : [D.tup (items k s t p)] ++ [.tup v2] ++ [.tup v5] ++ [.tup v6] = vs at lv hV
  have aa : (True ∧ True) = True := and_self True
  have er3 : Int.toNat 3 = 3 := rfl
  have er2 : Int.toNat 2 = 2 := rfl
  -- the calls
  have k0 : oCall g__law_cell (some [.lsk (ns.map .int), .int 0]) = some (.int c0) := v_call e0
  have k1 : oCall g__law_cell (some [.lsk (ns.map .int), .int 1]) = some (.int c1) := v_call e1
  have k4 : oCall g__law_cell (some [.lsk (ns.map .int), .int 4]) = some (.int c4) := v_call e4
  have k3 : oCall g__law_cell (some [.lsk (ns.map .int), .int 3]) = some (.int c3) := v_call e3
  have j0 : oCall g__law_digits (some [.int c0, .lst [.int 8, .int 6, .int 4, .int 4, .int 4, .int 4, .int 4]]) = some (.lst (w0.map .int)) := v_call e0'
  have j1 : oCall g__law_digits (some [.int c1, .lst [.int 7, .int 3, .int 6, .int 6, .int 6, .int 3, .int 6, .int 6, .int 6, .int 5, .int 99]]) = some (.lst (w1.map .int)) := v_call e1'
  have j4 : oCall g__law_digits (some [.int c4, .lst [.int 7, .int 3, .int 6, .int 6, .int 6, .int 3, .int 6, .int 6, .int 6, .int 5, .int 99]]) = some (.lst (w4.map .int)) := v_call e4'
  have j3 : oCall g__law_digits (some [.int c3, .lst (sz41.map .int)]) = some (.lst (w3.map .int)) := v_call e3'
  have b0 := v_call qa
  have b1 := v_call qf
  have b4 := v_call qf'
  have b5 := v_call qo1
  have b6 := v_call qo2
  have x1 := mul37
  have x2 := add41
  generalize List.replicate 37 (D.int 26) = rr at x1 x2
  have x3 : fAdd (.lst o1) (.lst o2) = some (.lst (o1 ++ o2)) := fAdd_lst (by omega)
  have hlen := fLen_str (show al.length ≤ 100000 by omega)
  have m1 : fMod (.int r2) (.int (al.length : Int)) = some (.int (r2 % (al.length : Int))) := fMod_int (by omega)
  generalize r2 % (al.length : Int) = at' at m1
  have u1 := cut_le al none (some at')
  have u2 := cut_le al (some (at' + 1)) none
  have s1 : fSl (.str al) none (some at') = some (.str (cutL al none (some at'))) := fSl_str (by omega) _ _
  have s2 : fSl (.str al) (some (at' + 1)) none = some (.str (cutL al (some (at' + 1)) none)) := fSl_str (by omega) _ _
  have s3 : fAdd (.str (cutL al none (some at'))) (.str (cutL al (some (at' + 1)) none)) = some (.str (cutL al none (some at') ++ cutL al (some (at' + 1)) none)) := fAdd_str (by omega)
  generalize cutL al none (some at') ++ cutL al (some (at' + 1)) none = ls at s3
  have fin : ∀ ls : List Nat, mLawEnd [some (.d (.lsk (ns.map .int))), some (.d (.str al)), some (.d (.lst [.int 7, .int 3, .int 6, .int 6, .int 6, .int 3, .int 6, .int 6, .int 6, .int 5, .int 99])), some (.d (.tup (items k s t p))), some (.d (.tup (items k' s' t' p'))), some (.own (.lst vs)), some (.d (.int 2)), some (.d (.lst (w3.map .int))), some (.d (.int at')), some (.d (.str ls)), some (.d (.lst (o1 ++ o2))), none, none, none] = .ret (.d (.bl true)) := fun ls => by
    obtain ⟨ρ', h⟩ := turns_ok (x0 := some (.d (.lsk (ns.map .int)))) (x2 := some (.d (.lst [.int 7, .int 3, .int 6, .int 6, .int 6, .int 3, .int 6, .int 6, .int 6, .int 5, .int 99]))) (x6 := some (.d (.int 2))) (x7 := some (.d (.lst (w3.map .int)))) (x8 := some (.d (.int at'))) (ls := ls) hV hO F F'
    unfold mLawEnd
    generalize items k s t p = I at *
    generalize items k' s' t' p' = I' at *
    clear lv t0 t1 t2 hvs
    walk_at "ev"
    simp only [aa, er2, if_true, v_for, h]
    try walk_at "ev"
  clear e0 e0' e1 e1' e2 e2' e3 e3' e4 e4' e5 e5' e6 e6' l0 l1 l2 l3 l4 l5 l6 d0 d1 d2 d3 d4 d5 d6 qa qf qf' qs2 qs5 qs6 qo1 qo2 ho1 ho2 lo1 lo2 hv2 hv5 hv6 hV hO t0 t1 t2 hvs u1 u2 F F' nd ar br cr er2
  generalize items k s t p = I at *
  generalize items k' s' t' p' = I' at *
  unfold g_law
  rw [law_split]
  by_cases h1 : al.length = 1
  · have h1' : decide ((al.length : Int) = 1) = true := decide_eq_true (by omega)
    cases hz : decide (al = S "z") with
    | true =>
      have f1 : fInt [.bl true] = some (.int 1) := rfl
      have fz := fin (S "y")
      clear fin h1 a1 a2 hn
      walk_at "evh"
    | false =>
      have f1 : fInt [.bl false] = some (.int 0) := rfl
      have fz := fin (S "z")
      clear fin h1 a1 a2 hn
      walk_at "evh"
  · have h1' : decide ((al.length : Int) = 1) = false := decide_eq_false (by omega)
    have fz := fin ls
    clear fin h1 a1 a2 hn
    walk_at "evh"
end K09
namespace K09
open PySem PySem.Spec PyProof.Rows L2 R
theorem rps_ints {K : PySem.W.Frag} {B : Hp} : ∀ ns : List Int, Rps K B (ns.map V.int) (ns.map D.int)
  | [] => .nil
  | n :: r => .cons (.int n) (rps_ints r)
theorem sp_law (g : List D → Option Sl) (hg : ∀ ns : List Int, ns.length ≤ 63 → g [.lsk (ns.map D.int)] = some (.d (.bl true))) {K : PySem.W.Frag} {H : Hp} {a : Addr} {ns : List Int} {E : XK} (hl : ns.length ≤ 63) (hS : SqL K H a (ns.map V.int)) : spR K g [.ref a] H (fun v _ => v = .bl true) E :=
  ⟨H, [.lsk (ns.map D.int)], _, Same.refl _, .cons (.lsk hS (rps_ints ns)) .nil, hg ns hl, fun v B' H' _ r => by cases r; rfl⟩
end K09
open PySem PySem.W PyProof.Rows
set_option maxHeartbeats 0 in
theorem PySem.Challenge.cw_firsthand_k09_faults_and_pieces_holds : PySem.Challenge.rw_firsthand_k09_faults_and_pieces.Holds := by
  w_on; o_law; k_head; (case hw => w_witness2)
  k_fill
  refine L2.walk_of (l := PySem.Challenge.rw_firsthand_k09_faults_and_pieces) (n := 63) (k := 8) (x := "_law_script") (CX := fun _ => L2.CX0) (sp := fun w => R.spR _ K09.g_law) rfl (by decide) rfl ⟨rfl, by decide, by decide⟩ (fun w h Y => PySem.W.kIn_of Y) ?F (fun _ _ a ns hl _ hS => K09.sp_law K09.g_law K09.law_true hl hS) (fun _ _ _ _ _ h => h)
  case F =>
    intro w mg fa h KX G hmg
    refine' K09.all_mk KX G hmg ?a0 ?l0 ?c0 ?k0 ?a1 ?l1 ?c1 ?k1 ?a2 ?l2 ?c2 ?k2 ?a3 ?l3 ?c3 ?k3 ?a4 ?l4 ?c4 ?k4 ?a5 ?l5 ?c5 ?k5 ?a6 ?l6 ?c6 ?k6 ?a7 ?l7 ?c7 ?k7 ?a8 ?l8 ?c8 ?k8 ?a9 ?l9 ?c9 ?k9 ?a10 ?l10 ?c10 ?k10 ?a11 ?l11 ?c11 ?k11 ?a12 ?l12 ?c12 ?k12 ?a13 ?l13 ?c13 ?k13 ?a14 ?l14 ?c14 ?k14 ?a15 ?l15 ?c15 ?k15 ?a16 ?l16 ?c16 ?k16 ?a17 ?l17 ?c17 ?k17 ?a18 ?l18 ?c18 ?k18 ?z_bool ?z_int ?z_isinstance ?z_len ?z_list ?z_max ?z_range ?z_str ?z_tuple ?mg_ITEM_COUNTS ?hd_ITEM_COUNTS ?he_ITEM_COUNTS ?lo_ITEM_COUNTS
    (case a0 => k_is)
    (case l0 => k_is)
    (case c0 => k_is)
    (case k0 => k_is)
    (case a1 => k_is)
    (case l1 => k_is)
    (case c1 => k_is)
    (case k1 => k_is)
    (case a2 => k_is)
    (case l2 => k_is)
    (case c2 => k_is)
    (case k2 => k_is)
    (case a3 => k_is)
    (case l3 => k_is)
    (case c3 => k_is)
    (case k3 => k_is)
    (case a4 => k_is)
    (case l4 => k_is)
    (case c4 => k_is)
    (case k4 => k_is)
    (case a5 => k_is)
    (case l5 => k_is)
    (case c5 => k_is)
    (case k5 => k_is)
    (case a6 => k_is)
    (case l6 => k_is)
    (case c6 => k_is)
    (case k6 => k_is)
    (case a7 => k_is)
    (case l7 => k_is)
    (case c7 => k_is)
    (case k7 => k_is)
    (case a8 => k_is)
    (case l8 => k_is)
    (case c8 => k_is)
    (case k8 => k_is)
    (case a9 => k_is)
    (case l9 => k_is)
    (case c9 => k_is)
    (case k9 => k_is)
    (case a10 => k_is)
    (case l10 => k_is)
    (case c10 => k_is)
    (case k10 => k_is)
    (case a11 => k_is)
    (case l11 => k_is)
    (case c11 => k_is)
    (case k11 => k_is)
    (case a12 => k_is)
    (case l12 => k_is)
    (case c12 => k_is)
    (case k12 => k_is)
    (case a13 => k_is)
    (case l13 => k_is)
    (case c13 => k_is)
    (case k13 => k_is)
    (case a14 => k_is)
    (case l14 => k_is)
    (case c14 => k_is)
    (case k14 => k_is)
    (case a15 => k_is)
    (case l15 => k_is)
    (case c15 => k_is)
    (case k15 => k_is)
    (case a16 => k_is)
    (case l16 => k_is)
    (case c16 => k_is)
    (case k16 => k_is)
    (case a17 => k_is)
    (case l17 => k_is)
    (case c17 => k_is)
    (case k17 => k_is)
    (case a18 => k_is)
    (case l18 => k_is)
    (case c18 => k_is)
    (case k18 => k_is)
    (case z_bool => k_is)
    (case z_int => k_is)
    (case z_isinstance => k_is)
    (case z_len => k_is)
    (case z_list => k_is)
    (case z_max => k_is)
    (case z_range => k_is)
    (case z_str => k_is)
    (case z_tuple => k_is)
    (case mg_ITEM_COUNTS => k_is)
    (case hd_ITEM_COUNTS => k_is)
    (case he_ITEM_COUNTS => exact ⟨⟨_, _, rfl, rfl, Str.ofString_eq_toList _⟩, ⟨_, rfl⟩, ⟨⟨_, _, rfl, rfl, Str.ofString_eq_toList _⟩, ⟨_, rfl⟩, ⟨⟨_, _, rfl, rfl, Str.ofString_eq_toList _⟩, ⟨_, rfl⟩, ⟨⟨_, _, rfl, rfl, Str.ofString_eq_toList _⟩, ⟨_, rfl⟩, ⟨⟨_, _, rfl, rfl, Str.ofString_eq_toList _⟩, ⟨_, rfl⟩, ⟨⟨_, _, rfl, rfl, Str.ofString_eq_toList _⟩, ⟨_, rfl⟩, ⟨⟨_, _, rfl, rfl, Str.ofString_eq_toList _⟩, ⟨_, rfl⟩, trivial⟩⟩⟩⟩⟩⟩⟩)
    (case lo_ITEM_COUNTS => rfl)
