import PyProof.Rows.All
import Wide.All
import OpenK.AllK
import Wide.FinOn
import HandS.ForMost
import HandS.IsInst
import HandS.TupAny
import HandS.StrMore
import HandS.More
import HandS.Style
import HandS.ExcInit
import KE.KeyNested
import KE.KDictCopyH
import HandS.RevRange
import KE.GoesEnum
import HandS.TupLen
import KE.KDictDisplayH
import HandS.Property
import KE.KOpsOwn
import HandS.Defaults
import HandS.Text
import KE.KExcIs
import KE.KIsAll
import HandS.ExcField
import HandS.ExcOwn
import HandS.ExcIs
import HandS.WordsExc
import PySem.Challenge.RW_firsthand_k01_set_operators
set_option Elab.async false
set_option linter.all false
set_option maxRecDepth 100000
set_option maxHeartbeats 4000000
/-! R1: data without addresses, over the hand layer -/
namespace R
open PySem PySem.Spec PyProof.Rows L2

/-- data -/
inductive D where
  | non | bl (b : Bool) | int (i : Int) | str (cs : List Nat) | tup (xs : List D) | lst (xs : List D) | lsk (xs : List D) | dct (ks : List Key) (ds : List D) | ty (n : String) | ins (c : String) (ns : List Str) (ds : List D)

/-- the class of the name c -/
def ClsAt (K : PySem.W.Frag) (c : String) (C : Addr) : Prop := PySem.W.nsIn K mainGlobals c = some (some (.ref C))
mutual
inductive Rp (K : PySem.W.Frag) (B : Hp) : V → D → Prop
  | non : Rp K B .non .non
  | bl (b : Bool) : Rp K B (.bl b) (.bl b)
  | int (i : Int) : Rp K B (.int i) (.int i)
  | str (cs : List Nat) : Rp K B (.str ⟨cs.toArray⟩) (.str cs)
  | ty (n : String) : Rp K B (.ty n) (.ty n)
  | tup {a : Addr} {vs : List V} {ds : List D} : B a = some (.tup vs) → Rps K B vs ds → Rp K B (.ref a) (.tup ds)
  | lst {a : Addr} {vs : List V} {ds : List D} : B a = some (.lst vs) → Rps K B vs ds → Rp K B (.ref a) (.lst ds)
  | lsk {a : Addr} {vs : List V} {ds : List D} : SqL K B a vs → Rps K B vs ds → Rp K B (.ref a) (.lsk ds)
  | dct {a : Addr} {ks : List Key} {vs : List V} {ds : List D} : B a = some (.dK (ks.zip vs)) → Rps K B vs ds → Rp K B (.ref a) (.dct ks ds)
  | ins {a C dx : Addr} {c : String} {ns : List Str} {vs : List V} {ds : List D} : ClsAt K c C → B a = some (.ins C dx (ns.zip vs)) → ns.length = vs.length → Rps K B vs ds → Rp K B (.ref a) (.ins c ns ds)
inductive Rps (K : PySem.W.Frag) (B : Hp) : List V → List D → Prop
  | nil : Rps K B [] []
  | cons {v : V} {vs : List V} {d : D} {ds : List D} : Rp K B v d → Rps K B vs ds → Rps K B (v :: vs) (d :: ds)
end

theorem sqt_same {K : PySem.W.Frag} {H H' : Hp} {a : Addr} {xs : List V} (e : Same H H') (h : SqT K H a xs) : SqT K H' a xs := by
  rcases h with (h | ⟨o, h⟩) | h
  · exact .inl (.inl (e _ _ h))
  · exact .inl (.inr ⟨o, e _ _ h⟩)
  · exact .inr h

mutual
theorem Rp.mono {K : PySem.W.Frag} {B B' : Hp} (e : Same B B') : ∀ {v : V} {d : D}, Rp K B v d → Rp K B' v d
  | _, _, .non => .non
  | _, _, .bl b => .bl b
  | _, _, .int i => .int i
  | _, _, .str s => .str s
  | _, _, .ty s => .ty s
  | _, _, .tup h hs => .tup (e _ _ h) (Rps.mono e hs)
  | _, _, .lst h hs => .lst (e _ _ h) (Rps.mono e hs)
  | _, _, .lsk h hs => .lsk (e.seq h) (Rps.mono e hs)
  | _, _, .dct h hs => .dct (e _ _ h) (Rps.mono e hs)
  | _, _, .ins hc h hl hs => .ins hc (e _ _ h) hl (Rps.mono e hs)
theorem Rps.mono {K : PySem.W.Frag} {B B' : Hp} (e : Same B B') : ∀ {vs : List V} {ds : List D}, Rps K B vs ds → Rps K B' vs ds
  | _, _, .nil => .nil
  | _, _, .cons h hs => .cons (Rp.mono e h) (Rps.mono e hs)
end
theorem Rps.length {K : PySem.W.Frag} {B : Hp} : ∀ {vs : List V} {ds : List D}, Rps K B vs ds → vs.length = ds.length
  | _, _, .nil => rfl
  | _, _, .cons _ hs => congrArg (· + 1) (Rps.length hs)
theorem Rps.get {K : PySem.W.Frag} {B : Hp} : ∀ {vs : List V} {ds : List D} {i : Nat} {d : D}, Rps K B vs ds → ds[i]? = some d → ∃ v, vs[i]? = some v ∧ Rp K B v d
  | _, _, _, _, .nil, h => by simp at h
  | _, _, 0, _, .cons h _, e => by simp at e; subst e; exact ⟨_, rfl, h⟩
  | _, _, i + 1, d, .cons _ hs, e => by
    obtain ⟨v, h1, h2⟩ := Rps.get (i := i) (d := d) hs (by simpa using e)
    exact ⟨v, by simpa using h1, h2⟩
theorem Rps.getV {K : PySem.W.Frag} {B : Hp} : ∀ {vs : List V} {ds : List D} {i : Nat} {v : V}, Rps K B vs ds → vs[i]? = some v → ∃ d, ds[i]? = some d ∧ Rp K B v d
  | _, _, _, _, .nil, h => by simp at h
  | _, _, 0, _, .cons h _, e => by simp at e; subst e; exact ⟨_, rfl, h⟩
  | _, _, i + 1, d, .cons _ hs, e => by
    obtain ⟨v, h1, h2⟩ := Rps.getV (i := i) (v := d) hs (by simpa using e)
    exact ⟨v, by simpa using h1, h2⟩
theorem Rps.append {K : PySem.W.Frag} {B : Hp} : ∀ {vs ws : List V} {ds es : List D}, Rps K B vs ds → Rps K B ws es → Rps K B (vs ++ ws) (ds ++ es)
  | _, _, _, _, .nil, h => h
  | _, _, _, _, .cons h hs, h' => .cons h (Rps.append hs h')
theorem Rps.take {K : PySem.W.Frag} {B : Hp} : ∀ {vs : List V} {ds : List D} (n : Nat), Rps K B vs ds → Rps K B (vs.take n) (ds.take n)
  | _, _, 0, _ => .nil
  | _, _, _ + 1, .nil => .nil
  | _, _, n + 1, .cons h hs => .cons h (Rps.take n hs)
theorem Rps.drop {K : PySem.W.Frag} {B : Hp} : ∀ {vs : List V} {ds : List D} (n : Nat), Rps K B vs ds → Rps K B (vs.drop n) (ds.drop n)
  | _, _, 0, h => h
  | _, _, _ + 1, .nil => .nil
  | _, _, n + 1, .cons _ hs => Rps.drop n hs
theorem Rps.set {K : PySem.W.Frag} {B : Hp} {v : V} {d : D} (r : Rp K B v d) : ∀ {vs : List V} {ds : List D} (i : Nat), Rps K B vs ds → Rps K B (vs.set i v) (ds.set i d)
  | _, _, _, .nil => .nil
  | _, _, 0, .cons _ hs => .cons r hs
  | _, _, i + 1, .cons h hs => .cons h (Rps.set r i hs)
theorem Rps.one {K : PySem.W.Frag} {B : Hp} {v : V} {d : D} (h : Rp K B v d) : Rps K B [v] [d] := .cons h .nil

/-! ### how the known heap grows -/
structure Gr (B H B' H' : Hp) : Prop where
  b : Same B B'
  h : Same H H'
  bh : Same B' H'
  nw : ∀ a, H a ≠ none → B a = none → B' a = none
theorem Gr.refl {B H : Hp} (e : Same B H) : Gr B H B H := ⟨Same.refl _, Same.refl _, e, fun _ _ h => h⟩
theorem Gr.trans {B H B1 H1 B2 H2 : Hp} (x : Gr B H B1 H1) (y : Gr B1 H1 B2 H2) : Gr B H B2 H2 :=
  ⟨x.b.trans y.b, x.h.trans y.h, y.bh, fun a h1 h2 => y.nw a (fun z => h1 (x.h.free z)) (x.nw a h1 h2)⟩
theorem same_upd {H : Hp} {p : Addr} {o : HO} (h : H p = none) : Same H (upd H p o) := fun b x e => by
  rw [upd_ne (ne_of_none e h)]
  exact e
theorem Same.upd2 {B H : Hp} {p : Addr} {o : HO} (e : Same B H) : Same (upd B p o) (upd H p o) := fun b x h => by
  by_cases hb : b = p
  · subst hb
    rw [upd_same] at h ⊢
    exact h
  · rw [upd_ne hb] at h ⊢
    exact e _ _ h
/-- a new object, known -/
theorem Gr.new {B H : Hp} {p : Addr} {o : HO} (e : Same B H) (h : H p = none) : Gr B H (upd B p o) (upd H p o) :=
  ⟨same_upd (e.free h), same_upd h, Same.upd2 e, fun a h1 h2 => by
    have : a ≠ p := fun z => h1 (z ▸ h)
    rw [upd_ne this]
    exact h2⟩
/-- a new object, owned -/
theorem Gr.newOwn {B H : Hp} {p : Addr} {o : HO} (e : Same B H) (h : H p = none) : Gr B H B (upd H p o) :=
  ⟨Same.refl _, same_upd h, e.trans (same_upd h), fun _ _ h2 => h2⟩

/-! ### slots -/
/-! data as a key -/
mutual
def nk : D → Option NestedKey
  | .non => some .none
  | .bl b => some (.num (if b = true then 1 else 0))
  | .int i => some (.num i)
  | .tup ds => match nks ds with | some ks => some (.tup ks) | none => none
  | .str _ => none
  | .lst _ => none
  | .lsk _ => none
  | .dct _ _ => none
  | .ty _ => none
  | .ins _ _ _ => none
def nks : List D → Option (List NestedKey)
  | [] => some []
  | d :: ds => match nk d with | some k => (match nks ds with | some ks => some (k :: ks) | none => none) | none => none
end
/-- an entry of a dict: the key k, the datum d -/
def EntR (K : PySem.W.Frag) (B : Hp) (p : NestedKey × D) (e : DictEntry) : Prop :=
  (∃ y kd, RelV y e.key ∧ Rp K B y kd ∧ nk kd = some p.1) ∧ (∀ w : World, e.hash = p.1.hash w) ∧ ∃ v, RelV v e.val ∧ Rp K B v p.2
/-- a dict by its entries -/
def rawD (a : Addr) (es : Array DictEntry) (ep : Nat) : HO := .ext fun h => ∃ o, h.get? a = some o ∧ o.ExactDict ∧ o.data = .dict es ep
def isT : NestedKey → Bool
  | .tup _ => true
  | _ => false
/-- all keys by value, or all tuples -/
def oneKind (kvs : List (NestedKey × D)) : Prop := (∀ p ∈ kvs, isT p.1 = false) ∨ (∀ p ∈ kvs, isT p.1 = true)
inductive MO where
  | lst (xs : List D) | dct (kvs : List (NestedKey × D)) | ins (x : Addr) (c : String) (ns : List Str) (ds : List D)
def MoOk (K : PySem.W.Frag) (B : Hp) (l : Addr) : MO → HO → Prop
  | .lst ds, ho => ∃ vs, ho = .lst vs ∧ Rps K B vs ds
  | .dct kvs, ho => ∃ es ep, ho = rawD l es ep ∧ (l == sysModules) = false ∧ Paired (EntR K B) kvs es.toList ∧ (kvs.map (·.1)).Nodup ∧ oneKind kvs ∧ kvs.length ≤ sizeLine ∧ ∀ p ∈ kvs, p.1.depth ≤ 8
  | .ins x c ns ds, ho => l = x ∧ ∃ C dx vs, ClsAt K c C ∧ ho = .ins C dx (ns.zip vs) ∧ ns.length = vs.length ∧ Rps K B vs ds
theorem EntR.mono {K : PySem.W.Frag} {B B' : Hp} (e : Same B B') {p : NestedKey × D} {x : DictEntry} (h : EntR K B p x) : EntR K B' p x := by
  obtain ⟨⟨y, kd, a, b, c⟩, h2, v, h3, h4⟩ := h
  exact ⟨⟨y, kd, a, b.mono e, c⟩, h2, v, h3, h4.mono e⟩
theorem MoOk.mono {K : PySem.W.Frag} {B B' : Hp} {l : Addr} (e : Same B B') : ∀ {o : MO} {ho : HO}, MoOk K B l o ho → MoOk K B' l o ho
  | .lst _, _, ⟨vs, h1, h2⟩ => ⟨vs, h1, h2.mono e⟩
  | .dct _, _, ⟨es, ep, h1, h2, h3, h4⟩ => ⟨es, ep, h1, h2, Paired.mapP h3 fun _ _ z => z.mono e, h4⟩
  | .ins _ _ _ _, _, ⟨hx, C, dx, vs, h0, h1, h2, h3⟩ => ⟨hx, C, dx, vs, h0, h1, h2, h3.mono e⟩
/-- an exception: its class, its fields -/
structure XD where
  c : String
  ns : List Str
  ds : List D
/-- .. as it stands: its class, its dict -/
def XOk (K : PySem.W.Frag) (B : Hp) (x : XD) (cls : Value) (d : Option Addr) : Prop :=
  ∃ C, cls = .ref C ∧ ClsAt K x.c C ∧ ((x.ns = [] ∧ x.ds = [] ∧ d = none) ∨ ∃ dx fs vs, d = some dx ∧ B dx = some (.xd fs) ∧ x.ns.map (fun f => fs.lookup f) = vs.map some ∧ Rps K B vs x.ds)
theorem XOk.mono {K : PySem.W.Frag} {B B' : Hp} (e : Same B B') {x : XD} {cls : Value} {d : Option Addr} (h : XOk K B x cls d) : XOk K B' x cls d := by
  obtain ⟨C, h1, h2, h3⟩ := h
  refine ⟨C, h1, h2, ?_⟩
  rcases h3 with h3 | ⟨dx, fs, vs, a, b, c, e'⟩
  · exact .inl h3
  · exact .inr ⟨dx, fs, vs, a, e _ _ b, c, e'.mono e⟩
inductive Sl where
  | d (x : D) | own (o : MO) | xc (x : XD)
abbrev Slots := List (Option Sl)
structure Rl (K : PySem.W.Frag) (gx : Option (Addr × Value × Option Addr)) (H0 B H : Hp) (σ : L2.St) (ρ : Slots) : Prop where
  bh : Same B H
  len : σ.length = ρ.length
  dat : ∀ (i : Nat) (d : D), ρ[i]? = some (some (.d d)) → ∃ v, σ[i]? = some (some v) ∧ Rp K B v d
  own : ∀ (i : Nat) (o : MO), ρ[i]? = some (some (.own o)) → ∃ l ho, σ[i]? = some (some (.ref l)) ∧ H0 l = none ∧ B l = none ∧ H l = some ho ∧ MoOk K B l o ho
  sep : ∀ (i j : Nat) (o o' : MO) (l : Addr), i ≠ j → ρ[i]? = some (some (.own o)) → ρ[j]? = some (some (.own o')) → σ[i]? = some (some (.ref l)) → σ[j]? = some (some (.ref l)) → False
  exc : ∀ (i : Nat) (x : XD), ρ[i]? = some (some (.xc x)) → ∃ a cls d, gx = some (a, cls, d) ∧ σ[i]? = some (some (.ref a)) ∧ XOk K B x cls d
theorem Rl.grow {gx : Option (Addr × Value × Option Addr)} {K : PySem.W.Frag} {H0 B H B' H' : Hp} {σ : L2.St} {ρ : Slots} (r : Rl K gx H0 B H σ ρ) (g : Gr B H B' H') : Rl K gx H0 B' H' σ ρ where
  bh := g.bh
  len := r.len
  dat := fun i d e => by
    obtain ⟨v, h1, h2⟩ := r.dat i d e
    exact ⟨v, h1, h2.mono g.b⟩
  own := fun i o e => by
    obtain ⟨l, ho, h1, h2, h3, h4, h5⟩ := r.own i o e
    exact ⟨l, ho, h1, h2, g.nw l (fun z => by rw [h4] at z; cases z) h3, g.h _ _ h4, h5.mono g.b⟩
  sep := r.sep
  exc := fun i x e => by
    obtain ⟨a, cls, d, h1, h2, h3⟩ := r.exc i x e
    exact ⟨a, cls, d, h1, h2, h3.mono g.b⟩
theorem set_get {α : Type} {l : List α} {i j : Nat} {x y : α} (h : (l.set i x)[j]? = some y) : (i = j ∧ y = x ∧ i < l.length) ∨ (i ≠ j ∧ l[j]? = some y) := by
  rw [List.getElem?_set] at h
  by_cases e : i = j
  · rw [if_pos e] at h
    by_cases hl : i < l.length
    · rw [if_pos hl] at h
      exact .inl ⟨e, (Option.some.inj h).symm, hl⟩
    · rw [if_neg hl] at h
      cases h
  · rw [if_neg e] at h
    exact .inr ⟨e, h⟩
theorem set_at {α : Type} {l : List α} {i : Nat} {x : α} (h : i < l.length) : (l.set i x)[i]? = some x := by
  rw [List.getElem?_set, if_pos rfl, if_pos h]
theorem set_off {α : Type} {l : List α} {i j : Nat} {x : α} (h : i ≠ j) : (l.set i x)[j]? = l[j]? := by
  rw [List.getElem?_set, if_neg h]
/-- a slot gets data -/
theorem Rl.setD {gx : Option (Addr × Value × Option Addr)} {K : PySem.W.Frag} {H0 B H : Hp} {σ : L2.St} {ρ : Slots} (r : Rl K gx H0 B H σ ρ) {i : Nat} {v : V} {d : D} (h : Rp K B v d) : Rl K gx H0 B H (σ.set i (some v)) (ρ.set i (some (.d d))) where
  bh := r.bh
  len := by rw [List.length_set, List.length_set]; exact r.len
  dat := fun j e q => by
    rcases set_get q with ⟨rfl, e1, hl⟩ | ⟨hne, q⟩
    · cases e1
      exact ⟨v, set_at (by rw [r.len]; exact hl), h⟩
    · obtain ⟨v', h1, h2⟩ := r.dat j e q
      exact ⟨v', by rw [set_off hne]; exact h1, h2⟩
  own := fun j o q => by
    rcases set_get q with ⟨rfl, e1, hl⟩ | ⟨hne, q⟩
    · cases e1
    · obtain ⟨l, ho, h1, h2⟩ := r.own j o q
      exact ⟨l, ho, by rw [set_off hne]; exact h1, h2⟩
  sep := fun j k o o' l hjk q1 q2 s1 s2 => by
    rcases set_get q1 with ⟨_, e1, _⟩ | ⟨n1, q1⟩
    · cases e1
    · rcases set_get q2 with ⟨_, e2, _⟩ | ⟨n2, q2⟩
      · cases e2
      · rw [set_off n1] at s1
        rw [set_off n2] at s2
        exact r.sep j k o o' l hjk q1 q2 s1 s2
  exc := fun j x q => by
    rcases set_get q with ⟨rfl, e1, hl⟩ | ⟨hne, q⟩
    · cases e1
    · obtain ⟨a, cls, d, h1, h2, h3⟩ := r.exc j x q
      exact ⟨a, cls, d, h1, by rw [set_off hne]; exact h2, h3⟩
/-- a slot gets a new owned object -/
theorem Rl.setO {gx : Option (Addr × Value × Option Addr)} {K : PySem.W.Frag} {H0 B H : Hp} {σ : L2.St} {ρ : Slots} (r : Rl K gx H0 B H σ ρ) {i : Nat} {l : Addr} {ho : HO} {o : MO} (h0 : H0 l = none) (hB : B l = none) (hH : H l = some ho) (hm : MoOk K B l o ho)
    (hf : ∀ (j : Nat) (o' : MO), j ≠ i → ρ[j]? = some (some (.own o')) → σ[j]? ≠ some (some (.ref l))) : Rl K gx H0 B H (σ.set i (some (.ref l))) (ρ.set i (some (.own o))) where
  bh := r.bh
  len := by rw [List.length_set, List.length_set]; exact r.len
  dat := fun j e q => by
    rcases set_get q with ⟨rfl, e1, hl⟩ | ⟨hne, q⟩
    · cases e1
    · obtain ⟨v', h1, h2⟩ := r.dat j e q
      exact ⟨v', by rw [set_off hne]; exact h1, h2⟩
  own := fun j o2 q => by
    rcases set_get q with ⟨rfl, e1, hl⟩ | ⟨hne, q⟩
    · cases e1
      exact ⟨l, ho, set_at (by rw [r.len]; exact hl), h0, hB, hH, hm⟩
    · obtain ⟨l', ho', h1, h2⟩ := r.own j o2 q
      exact ⟨l', ho', by rw [set_off hne]; exact h1, h2⟩
  sep := fun j k o1 o2 l' hjk q1 q2 s1 s2 => by
    rcases set_get q1 with ⟨e1, _, hl1⟩ | ⟨n1, q1⟩
    · subst e1
      rcases set_get q2 with ⟨e2, _, _⟩ | ⟨n2, q2⟩
      · exact hjk e2
      · rw [set_at (by rw [r.len]; exact hl1)] at s1
        rw [set_off n2] at s2
        cases s1
        exact hf k o2 (fun z => hjk z.symm) q2 s2
    · rcases set_get q2 with ⟨e2, _, hl2⟩ | ⟨n2, q2⟩
      · subst e2
        rw [set_at (by rw [r.len]; exact hl2)] at s2
        rw [set_off n1] at s1
        cases s2
        exact hf j o1 hjk q1 s1
      · rw [set_off n1] at s1
        rw [set_off n2] at s2
        exact r.sep j k o1 o2 l' hjk q1 q2 s1 s2
  exc := fun j x q => by
    rcases set_get q with ⟨rfl, e1, hl⟩ | ⟨hne, q⟩
    · cases e1
    · obtain ⟨a, cls, d, h1, h2, h3⟩ := r.exc j x q
      exact ⟨a, cls, d, h1, by rw [set_off hne]; exact h2, h3⟩
/-- an owned object changes -/
theorem Rl.chg {gx : Option (Addr × Value × Option Addr)} {K : PySem.W.Frag} {H0 B H : Hp} {σ : L2.St} {ρ : Slots} (r : Rl K gx H0 B H σ ρ) {i : Nat} {l : Addr} {ho : HO} {o o1 : MO} (hi : ρ[i]? = some (some (.own o1))) (hl : σ[i]? = some (some (.ref l))) (hm : MoOk K B l o ho) :
    Rl K gx H0 B (upd H l ho) σ (ρ.set i (some (.own o))) := by
  obtain ⟨l', ho', h1, h2, h3, h4, h5⟩ := r.own i o1 hi
  rw [hl] at h1
  cases h1
  have hil : i < ρ.length := (List.getElem?_eq_some_iff.mp hi).1
  refine ⟨fun b x e => ?_, by rw [List.length_set]; exact r.len, fun j d q => ?_, fun j o2 q => ?_, fun j k o2 o3 l' hjk q1 q2 s1 s2 => ?_, fun j x q => ?_⟩
  · rw [upd_ne (ne_of_none e h3)]
    exact r.bh _ _ e
  · rcases set_get q with ⟨rfl, e1, _⟩ | ⟨hne, q⟩
    · cases e1
    · exact r.dat j d q
  · rcases set_get q with ⟨rfl, e1, _⟩ | ⟨hne, q⟩
    · cases e1
      exact ⟨l, ho, hl, h2, h3, upd_same, hm⟩
    · obtain ⟨l2, ho2, g1, g2, g3, g4, g5⟩ := r.own j o2 q
      have : l2 ≠ l := fun z => by
        subst z
        exact r.sep i j o1 o2 l2 hne hi q hl g1
      exact ⟨l2, ho2, g1, g2, g3, by rw [upd_ne this]; exact g4, g5⟩
  · have f : ∀ (j : Nat) (o2 : MO), (ρ.set i (some (Sl.own o)))[j]? = some (some (.own o2)) → ∃ o4, ρ[j]? = some (some (.own o4)) := fun j o2 q => by
      rcases set_get q with ⟨rfl, _, _⟩ | ⟨_, q⟩
      · exact ⟨_, hi⟩
      · exact ⟨_, q⟩
    obtain ⟨_, z1⟩ := f j o2 q1
    obtain ⟨_, z2⟩ := f k o3 q2
    exact r.sep j k _ _ l' hjk z1 z2 s1 s2
  · rcases set_get q with ⟨rfl, e1, _⟩ | ⟨hne, q⟩
    · cases e1
    · exact r.exc j x q
/-- slots forgotten -/
theorem Rl.wipe1 {gx : Option (Addr × Value × Option Addr)} {K : PySem.W.Frag} {H0 B H : Hp} {σ : L2.St} {ρ : Slots} (r : Rl K gx H0 B H σ ρ) (i : Nat) : Rl K gx H0 B H (σ.set i none) (ρ.set i none) where
  bh := r.bh
  len := by rw [List.length_set, List.length_set]; exact r.len
  dat := fun j e q => by
    rcases set_get q with ⟨rfl, e1, hl⟩ | ⟨hne, q⟩
    · cases e1
    · obtain ⟨v', h1, h2⟩ := r.dat j e q
      exact ⟨v', by rw [set_off hne]; exact h1, h2⟩
  own := fun j o q => by
    rcases set_get q with ⟨rfl, e1, hl⟩ | ⟨hne, q⟩
    · cases e1
    · obtain ⟨l, ho, h1, h2⟩ := r.own j o q
      exact ⟨l, ho, by rw [set_off hne]; exact h1, h2⟩
  sep := fun j k o o' l hjk q1 q2 s1 s2 => by
    rcases set_get q1 with ⟨_, e1, _⟩ | ⟨n1, q1⟩
    · cases e1
    · rcases set_get q2 with ⟨_, e2, _⟩ | ⟨n2, q2⟩
      · cases e2
      · rw [set_off n1] at s1
        rw [set_off n2] at s2
        exact r.sep j k o o' l hjk q1 q2 s1 s2
  exc := fun j x q => by
    rcases set_get q with ⟨rfl, e1, hl⟩ | ⟨hne, q⟩
    · cases e1
    · obtain ⟨a, cls, d, h1, h2, h3⟩ := r.exc j x q
      exact ⟨a, cls, d, h1, by rw [set_off hne]; exact h2, h3⟩
def wipeE (ρ : Slots) : List Nat → Slots
  | [] => ρ
  | v :: vs => (wipeE ρ vs).set v none
theorem Rl.wipe {gx : Option (Addr × Value × Option Addr)} {K : PySem.W.Frag} {H0 B H : Hp} {σ : L2.St} {ρ : Slots} (r : Rl K gx H0 B H σ ρ) : ∀ vs : List Nat, Rl K gx H0 B H (L2.wipe σ vs) (wipeE ρ vs)
  | [] => r
  | v :: vs => (r.wipe vs).wipe1 v

/-! ### readings -/
/-- data, or the content of an owned list -/
def Rb (K : PySem.W.Frag) (B H : Hp) (v : V) (d : D) : Prop := Rp K B v d ∨ ∃ l vs xs, v = .ref l ∧ d = .lst xs ∧ B l = none ∧ H l = some (.lst vs) ∧ Rps K B vs xs
theorem Rb.grow {K : PySem.W.Frag} {B H B' H' : Hp} {v : V} {d : D} (g : Gr B H B' H') (h : Rb K B H v d) : Rb K B' H' v d := by
  rcases h with h | ⟨l, vs, xs, e1, e2, e3, e4, e5⟩
  · exact .inl (h.mono g.b)
  · exact .inr ⟨l, vs, xs, e1, e2, g.nw l (fun z => by rw [e4] at z; cases z) e3, g.h _ _ e4, e5.mono g.b⟩
inductive Rbs (K : PySem.W.Frag) (B H : Hp) : List V → List D → Prop
  | nil : Rbs K B H [] []
  | cons {v : V} {vs : List V} {d : D} {ds : List D} : Rb K B H v d → Rbs K B H vs ds → Rbs K B H (v :: vs) (d :: ds)
theorem Rbs.grow {K : PySem.W.Frag} {B H B' H' : Hp} (g : Gr B H B' H') : ∀ {vs : List V} {ds : List D}, Rbs K B H vs ds → Rbs K B' H' vs ds
  | _, _, .nil => .nil
  | _, _, .cons h hs => .cons (h.grow g) (hs.grow g)
abbrev ME := Slots → Option D
def cE (K : PySem.W.Frag) (gx : Option (Addr × Value × Option Addr)) (m : ME) : TE := fun σ H Q => ∃ H0 B ρ d, Rl K gx H0 B H σ ρ ∧ m ρ = some d ∧ ∀ v B' H', Gr B H B' H' → Rp K B' v d → Q v H'
def cB (K : PySem.W.Frag) (gx : Option (Addr × Value × Option Addr)) (m : ME) : TE := fun σ H Q => ∃ H0 B ρ d, Rl K gx H0 B H σ ρ ∧ m ρ = some d ∧ ∀ v B' H', Gr B H B' H' → Rb K B' H' v d → Q v H'
/-- a new list, owned -/
def cF (K : PySem.W.Frag) (gx : Option (Addr × Value × Option Addr)) (m : Slots → Option (List D)) : TE := fun σ H Q => ∃ H0 B ρ xs, Rl K gx H0 B H σ ρ ∧ m ρ = some xs ∧ ∀ l vs B' H', Gr B H B' H' → H l = none → B' l = none → H' l = some (.lst vs) → Rps K B' vs xs → Q (.ref l) H'
def cT (K : PySem.W.Frag) (gx : Option (Addr × Value × Option Addr)) (m : Slots → Option Bool) : TT := fun σ H Q => ∃ H0 B ρ b, Rl K gx H0 B H σ ρ ∧ m ρ = some b ∧ ∀ B' H', Gr B H B' H' → Q b H'
def cA (K : PySem.W.Frag) (gx : Option (Addr × Value × Option Addr)) (m : Slots → Option (List D)) : TA := fun σ H Q => ∃ H0 B ρ ds, Rl K gx H0 B H σ ρ ∧ m ρ = some ds ∧ ∀ vs B' H', Gr B H B' H' → Rps K B' vs ds → Q vs H'
def cAb (K : PySem.W.Frag) (gx : Option (Addr × Value × Option Addr)) (m : Slots → Option (List D)) : TA := fun σ H Q => ∃ H0 B ρ ds, Rl K gx H0 B H σ ρ ∧ m ρ = some ds ∧ ∀ vs B' H', Gr B H B' H' → Rbs K B' H' vs ds → Q vs H'

section
variable {X : Cx}
theorem pe_mono {e : Expr} {t t' : TE} (h : PE X e t) (i : ∀ σ H Q, t' σ H Q → t σ H Q) : PE X e t' := ⟨fun pins s σ H Q I q => h.run pins s σ H Q I (i σ H Q q)⟩
theorem pt_mono {e : Expr} {t t' : TT} (h : PT X e t) (i : ∀ σ H Q, t' σ H Q → t σ H Q) : PT X e t' := ⟨fun pins s σ H Q I q => h.run pins s σ H Q I (i σ H Q q)⟩
theorem pw_mono {e : Expr} {t t' : TT} (h : PW X e t) (i : ∀ σ H Q, t' σ H Q → t σ H Q) : PW X e t' := ⟨fun wh pins s σ H Q I q => h.run wh pins s σ H Q I (i σ H Q q)⟩
theorem pa_mono {es : List Expr} {t t' : TA} (h : PA X es t) (i : ∀ σ H Q, t' σ H Q → t σ H Q) : PA X es t' := ⟨fun pos pins s σ H Q I q => h.run pos pins s σ H Q I (i σ H Q q)⟩
theorem ps_mono {st : Stmt} {t t' : TS} (h : PS X st t) (i : ∀ Ds σ H, t' Ds σ H → t Ds σ H) : PS X st t' := ⟨fun pins s σ H Ds I q => h.run pins s σ H Ds I (i Ds σ H q)⟩
theorem pss_mono {st : List Stmt} {t t' : TS} (h : PSs X st t) (i : ∀ Ds σ H, t' Ds σ H → t Ds σ H) : PSs X st t' := ⟨fun pins s σ H Ds I q => h.run pins s σ H Ds I (i Ds σ H q)⟩
theorem pi_mono {tg it : Expr} {t t' : TI} (h : PI X tg it t) (i : ∀ σ H R, t' σ H R → t σ H R) : PI X tg it t' := ⟨fun pins s σ H R I q => h.run pins s σ H R I (i σ H R q)⟩
theorem pg_mono {tg : Expr} {t t' : TG} (h : PG X tg t) (i : ∀ v σ H Q, t' v σ H Q → t v σ H Q) : PG X tg t' := ⟨fun pins s σ H v u Q I r q => h.run pins s σ H v u Q I r (i v σ H Q q)⟩
end
end R
/-! R2: expressions -/
namespace R
open PySem PySem.Spec PyProof.Rows L2

abbrev RE (X : Cx) (gx : Option (Addr × Value × Option Addr)) (e : Expr) (m : ME) : Prop := PE X e (cE X.K gx m)
abbrev RB (X : Cx) (gx : Option (Addr × Value × Option Addr)) (e : Expr) (m : ME) : Prop := PE X e (cB X.K gx m)
abbrev RF (X : Cx) (gx : Option (Addr × Value × Option Addr)) (e : Expr) (m : Slots → Option (List D)) : Prop := PE X e (cF X.K gx m)
abbrev RT (X : Cx) (gx : Option (Addr × Value × Option Addr)) (e : Expr) (m : Slots → Option Bool) : Prop := PT X e (cT X.K gx m)
abbrev RW (X : Cx) (gx : Option (Addr × Value × Option Addr)) (e : Expr) (m : Slots → Option Bool) : Prop := PW X e (cT X.K gx m)
abbrev RA (X : Cx) (gx : Option (Addr × Value × Option Addr)) (es : List Expr) (m : Slots → Option (List D)) : Prop := PA X es (cA X.K gx m)
abbrev RAb (X : Cx) (gx : Option (Addr × Value × Option Addr)) (es : List Expr) (m : Slots → Option (List D)) : Prop := PA X es (cAb X.K gx m)

theorem Gr.freeze {B H B' H' : Hp} {l : Addr} {o : HO} (g : Gr B H B' H') (h1 : H l = none) (h2 : B' l = none) (h3 : H' l = some o) : Gr B H (upd B' l o) H' :=
  ⟨g.b.trans (same_upd h2), g.h, fun b x e => by
    by_cases hb : b = l
    · subst hb
      rw [upd_same] at e
      rw [h3]
      exact e
    · rw [upd_ne hb] at e
      exact g.bh _ _ e, fun a ha hb => by
    have : a ≠ l := fun z => ha (z ▸ h1)
    rw [upd_ne this]
    exact g.nw a ha hb⟩

section
variable {X : Cx}
theorem re_b {gx : Option (Addr × Value × Option Addr)} {e : Expr} {m : ME} (h : RE X gx e m) : RB X gx e m := pe_mono h fun σ H Q ⟨H0, B, ρ, d, r, e, k⟩ => ⟨H0, B, ρ, d, r, e, fun v B' H' g q => k v B' H' g (.inl q)⟩
def mF (m : Slots → Option (List D)) : ME := fun ρ => match m ρ with | some xs => some (.lst xs) | none => none
theorem re_f {gx : Option (Addr × Value × Option Addr)} {e : Expr} {m : Slots → Option (List D)} (h : RF X gx e m) : RE X gx e (mF m) := pe_mono h fun σ H Q ⟨H0, B, ρ, d, r, e, k⟩ => by
  unfold mF at e
  cases hm : m ρ with
  | none => rw [hm] at e; cases e
  | some xs =>
    rw [hm] at e
    cases e
    exact ⟨H0, B, ρ, xs, r, hm, fun l vs B' H' g h1 h2 h3 h4 => k _ _ _ (g.freeze h1 h2 h3) (.lst upd_same (h4.mono (same_upd h2)))⟩
/-! names -/
def mVar (i : Nat) : ME := fun ρ => match ρ[i]? with | some (some (.d d)) => some d | _ => none
def mBor (i : Nat) : ME := fun ρ => match ρ[i]? with | some (some (.d d)) => some d | some (some (.own (.lst xs))) => some (.lst xs) | _ => none
theorem mVar_at {i : Nat} {ρ : Slots} {d : D} (h : mVar i ρ = some d) : ρ[i]? = some (some (.d d)) := by
  unfold mVar at h
  split at h
  · rename_i e; rw [e]; cases h; rfl
  · cases h
theorem mBor_at {i : Nat} {ρ : Slots} {d : D} (h : mBor i ρ = some d) : ρ[i]? = some (some (.d d)) ∨ ∃ xs, d = .lst xs ∧ ρ[i]? = some (some (.own (.lst xs))) := by
  unfold mBor at h
  split at h
  · rename_i e; rw [e]; cases h; exact .inl rfl
  · rename_i e; rw [e]; cases h; exact .inr ⟨_, rfl, rfl⟩
  · cases h
theorem re_v {gx : Option (Addr × Value × Option Addr)} (i : Nat) {x : Str} {pos : Pos} (hN : X.N[i]? = some x := by rfl) (hv : Vis X.env.scope x := by first | exact Or.inl rfl | exact Or.inr (Or.inl rfl) | exact Or.inr (Or.inr rfl)) (hd : (x == ("__debug__" : Str)) = false := by decide)
    (hcd : (x == ("__classdict__" : Str)) = false := by decide) : RE X gx (.Name x pos) (mVar i) := pe_mono (pe_var hN hv hd hcd) fun σ H Q ⟨H0, B, ρ, d, r, e, k⟩ => by
  obtain ⟨v, h1, h2⟩ := r.dat i d (mVar_at e)
  exact ⟨v, h1, k v B H (Gr.refl r.bh) h2⟩
theorem rb_v {gx : Option (Addr × Value × Option Addr)} (i : Nat) {x : Str} {pos : Pos} (hN : X.N[i]? = some x := by rfl) (hv : Vis X.env.scope x := by first | exact Or.inl rfl | exact Or.inr (Or.inl rfl) | exact Or.inr (Or.inr rfl)) (hd : (x == ("__debug__" : Str)) = false := by decide)
    (hcd : (x == ("__classdict__" : Str)) = false := by decide) : RB X gx (.Name x pos) (mBor i) := pe_mono (pe_var hN hv hd hcd) fun σ H Q ⟨H0, B, ρ, d, r, e, k⟩ => by
  rcases mBor_at e with e' | ⟨xs, e1, e'⟩
  · obtain ⟨v, h1, h2⟩ := r.dat i d e'
    exact ⟨v, h1, k v B H (Gr.refl r.bh) (.inl h2)⟩
  · obtain ⟨l, ho, h1, h2, h3, h4, vs, h5, h6⟩ := r.own i _ e'
    subst h5 e1
    exact ⟨.ref l, h1, k _ B H (Gr.refl r.bh) (.inr ⟨l, vs, xs, rfl, rfl, h3, h4, h6⟩)⟩
/-! constants -/
def mC (d : D) : ME := fun _ => some d
def S (s : String) : List Nat := s.toList.map Char.toNat
theorem tC_c {gx : Option (Addr × Value × Option Addr)} {v : V} {d : D} (h : ∀ B, Rp X.K B v d) (σ : L2.St) (H : Hp) (Q : VK) (q : cE X.K gx (mC d) σ H Q) : tC v σ H Q := by
  obtain ⟨H0, B, ρ, d', r, e, k⟩ := q
  cases e
  exact k v B H (Gr.refl r.bh) (h B)
theorem re_int {gx : Option (Addr × Value × Option Addr)} {i : Int} {j pos} : RE X gx (.Constant (.int i) j pos) (mC (.int i)) := pe_mono pe_int (tC_c fun _ => .int i)
theorem re_bl {gx : Option (Addr × Value × Option Addr)} {b : Bool} {j pos} : RE X gx (.Constant (.bool b) j pos) (mC (.bl b)) := pe_mono pe_bl (tC_c fun _ => .bl b)
theorem re_non {gx : Option (Addr × Value × Option Addr)} {j pos} : RE X gx (.Constant .none j pos) (mC .non) := pe_mono pe_non (tC_c fun _ => .non)
theorem re_str {gx : Option (Addr × Value × Option Addr)} {x : Str} {j pos} (s : String) (h : x = ⟨(S s).toArray⟩ := by exact Str.ofString_eq_toList _) : RE X gx (.Constant (.str x) j pos) (mC (.str (S s))) := pe_mono pe_str (tC_c fun _ => h ▸ .str _)
/-- a built-in class as a value -/
theorem re_ty {gx : Option (Addr × Value × Option Addr)} {x : Str} {n : String} {pos : Pos} (hg : Gl X x) (hm : X.mg x = none) (hv : bootBuiltins x = some (.type n)) (hn : x ≠ "__name__" := by decide) (hd : (x == ("__debug__" : Str)) = false := by decide) : RE X gx (.Name x pos) (mC (.ty n)) :=
  pe_mono (pe_bltn (v := .ty n) hg hm hv rfl hn hd) (tC_c fun _ => .ty n)

/-! argument lists -/
def mNil : Slots → Option (List D) := fun _ => some []
def mCons (a : ME) (r : Slots → Option (List D)) : Slots → Option (List D) := fun ρ => match a ρ with
  | some d => (match r ρ with | some ds => some (d :: ds) | none => none)
  | none => none
theorem mCons_at {a : ME} {r : Slots → Option (List D)} {ρ : Slots} {ds : List D} (h : mCons a r ρ = some ds) : ∃ d es, a ρ = some d ∧ r ρ = some es ∧ ds = d :: es := by
  unfold mCons at h
  cases e1 : a ρ with
  | none => rw [e1] at h; cases h
  | some d =>
    cases e2 : r ρ with
    | none => rw [e1, e2] at h; cases h
    | some es => rw [e1, e2] at h; cases h; exact ⟨_, _, rfl, rfl, rfl⟩
theorem ra_nil {gx : Option (Addr × Value × Option Addr)} : RA X gx [] mNil := pa_mono pa_nil fun σ H Q ⟨H0, B, ρ, ds, r, e, k⟩ => by
  cases e
  exact k [] B H (Gr.refl r.bh) .nil
theorem ra_cons {gx : Option (Addr × Value × Option Addr)} {e : Expr} {es : List Expr} {m : ME} {mr : Slots → Option (List D)} (ha : RE X gx e m) (hr : RA X gx es mr) (hs : starEach (e :: es) X.env = (false, eval e X.env) :: starEach es X.env := by rfl) : RA X gx (e :: es) (mCons m mr) :=
  pa_mono (pa_cons ha hr hs) fun σ H Q ⟨H0, B, ρ, ds, r, e, k⟩ => by
    obtain ⟨d, es, e1, e2, rfl⟩ := mCons_at e
    exact ⟨H0, B, ρ, d, r, e1, fun v B1 H1 g1 r1 => ⟨H0, B1, ρ, es, r.grow g1, e2, fun vs B2 H2 g2 r2 => k _ B2 H2 (g1.trans g2) (.cons (r1.mono g2.b) r2)⟩⟩
theorem rab_nil {gx : Option (Addr × Value × Option Addr)} : RAb X gx [] mNil := pa_mono pa_nil fun σ H Q ⟨H0, B, ρ, ds, r, e, k⟩ => by
  cases e
  exact k [] B H (Gr.refl r.bh) .nil
theorem rab_cons {gx : Option (Addr × Value × Option Addr)} {e : Expr} {es : List Expr} {m : ME} {mr : Slots → Option (List D)} (ha : RB X gx e m) (hr : RAb X gx es mr) (hs : starEach (e :: es) X.env = (false, eval e X.env) :: starEach es X.env := by rfl) : RAb X gx (e :: es) (mCons m mr) :=
  pa_mono (pa_cons ha hr hs) fun σ H Q ⟨H0, B, ρ, ds, r, e, k⟩ => by
    obtain ⟨d, es, e1, e2, rfl⟩ := mCons_at e
    exact ⟨H0, B, ρ, d, r, e1, fun v B1 H1 g1 r1 => ⟨H0, B1, ρ, es, r.grow g1, e2, fun vs B2 H2 g2 r2 => k _ B2 H2 (g1.trans g2) (.cons (r1.grow g2) r2)⟩⟩
/-! displays -/
def mTup (r : Slots → Option (List D)) : ME := fun ρ => match r ρ with | some ds => if ds.length ≤ sizeLine then some (.tup ds) else none | none => none
def mLst (r : Slots → Option (List D)) : Slots → Option (List D) := fun ρ => match r ρ with | some ds => if ds.length ≤ sizeLine then some ds else none | none => none
theorem re_tup {gx : Option (Addr × Value × Option Addr)} {es : List Expr} {mr : Slots → Option (List D)} {x1} {pos : Pos} (h : RA X gx es mr) : RE X gx (.Tuple es x1 pos) (mTup mr) := pe_mono (pe_tup h) fun σ H Q ⟨H0, B, ρ, d, r, e, k⟩ => by
  unfold mTup at e
  split at e
  · rename_i ds hd
    split at e
    · rename_i hz
      cases e
      exact ⟨H0, B, ρ, ds, r, hd, fun vs B1 H1 g1 r1 => ⟨by rw [r1.length]; exact hz, fun p hp => k _ _ _ (g1.trans (Gr.new g1.bh hp)) (.tup upd_same (r1.mono (same_upd (g1.bh.free hp))))⟩⟩
    · cases e
  · cases e
theorem rf_lst {gx : Option (Addr × Value × Option Addr)} {es : List Expr} {mr : Slots → Option (List D)} {pos : Pos} (h : RA X gx es mr) : RF X gx (.List es pos) (mLst mr) := pe_mono (pe_lst h) fun σ H Q ⟨H0, B, ρ, d, r, e, k⟩ => by
  unfold mLst at e
  split at e
  · rename_i ds hd
    split at e
    · rename_i hz
      cases e
      exact ⟨H0, B, ρ, _, r, hd, fun vs B1 H1 g1 r1 => ⟨by rw [r1.length]; exact hz, fun p hp => k p vs B1 _ (g1.trans (Gr.newOwn g1.bh hp)) (g1.h.free hp) (g1.bh.free hp) upd_same r1⟩⟩
    · cases e
  · cases e

/-! operators of two -/
def m2 (f : D → D → Option D) (ma mb : ME) : ME := fun ρ => match ma ρ with
  | some a => (match mb ρ with | some b => f a b | none => none)
  | none => none
theorem m2_at {f : D → D → Option D} {ma mb : ME} {ρ : Slots} {c : D} (h : m2 f ma mb ρ = some c) : ∃ a b, ma ρ = some a ∧ mb ρ = some b ∧ f a b = some c := by
  unfold m2 at h
  cases e1 : ma ρ with
  | none => rw [e1] at h; cases h
  | some a =>
    cases e2 : mb ρ with
    | none => rw [e1, e2] at h; cases h
    | some b => rw [e1, e2] at h; exact ⟨_, _, rfl, rfl, h⟩
def Op2 (K : PySem.W.Frag) (r : R2) (f : D → D → Option D) : Prop :=
  ∀ (B H : Hp) (x y : V) (a b c : D), Same B H → Rb K B H x a → Rb K B H y b → f a b = some c → ∀ Q : VK, (∀ v B' H', Gr B H B' H' → Rp K B' v c → Q v H') → r x y H Q
theorem tOp_c {gx : Option (Addr × Value × Option Addr)} {r : R2} {f : D → D → Option D} {ma mb : ME} (h : Op2 X.K r f) (σ : L2.St) (H : Hp) (Q : VK) (q : cE X.K gx (m2 f ma mb) σ H Q) : tOp r (cB X.K gx ma) (cB X.K gx mb) σ H Q := by
  obtain ⟨H0, B, ρ, c, r, e, k⟩ := q
  obtain ⟨a, b, e1, e2, e3⟩ := m2_at e
  exact ⟨H0, B, ρ, a, r, e1, fun v B1 H1 g1 r1 => ⟨H0, B1, ρ, b, r.grow g1, e2, fun u B2 H2 g2 r2 => h B2 H2 v u a b c g2.bh (r1.grow g2) r2 e3 Q fun w B3 H3 g3 r3 => k w B3 H3 ((g1.trans g2).trans g3) r3⟩⟩
variable {a b : Expr} {ma mb : ME} {pos : Pos} {r : R2} {f : D → D → Option D}
theorem re_op {gx : Option (Addr × Value × Option Addr)} {op : Operator} (ho : OpR X (binaryOp op) r) (h : Op2 X.K r f) (ha : RB X gx a ma) (hb : RB X gx b mb) : RE X gx (.BinOp a op b pos) (m2 f ma mb) := pe_mono (pe_op ho ha hb) (tOp_c h)
theorem re_cmp {gx : Option (Addr × Value × Option Addr)} {op : CmpOp} (ho : OpR X (compareOp op) r) (h : Op2 X.K r f) (ha : RB X gx a ma) (hb : RB X gx b mb) (hm : behindInMarks op b = false := by first | exact nobehind _ (by decide) (by decide) | rfl) : RE X gx (.Compare a [op] [b] pos) (m2 f ma mb) :=
  pe_mono (pe_cmpR ho ha hb hm) (tOp_c h)
def mT (m : ME) : Slots → Option Bool := fun ρ => match m ρ with | some (.bl b) => some b | _ => none
theorem mT_at {m : ME} {ρ : Slots} {b : Bool} (h : mT m ρ = some b) : m ρ = some (.bl b) := by
  unfold mT at h
  split at h
  · rename_i e; cases h; exact e
  · cases h
theorem Rp.bl_inv {K : PySem.W.Frag} {B : Hp} {v : V} {b : Bool} (h : Rp K B v (.bl b)) : v = .bl b := by cases h; rfl
theorem Rp.int_inv {K : PySem.W.Frag} {B : Hp} {v : V} {b : Int} (h : Rp K B v (.int b)) : v = .int b := by cases h; rfl
theorem Rp.str_inv {K : PySem.W.Frag} {B : Hp} {v : V} {b : List Nat} (h : Rp K B v (.str b)) : v = .str ⟨b.toArray⟩ := by cases h; rfl
theorem Rp.non_inv {K : PySem.W.Frag} {B : Hp} {v : V} (h : Rp K B v .non) : v = .non := by cases h; rfl
theorem tTest_c {gx : Option (Addr × Value × Option Addr)} {t : TE} {m : ME} (h : ∀ σ H Q, cE X.K gx m σ H Q → t σ H Q) (σ : L2.St) (H : Hp) (Q : Bool → Hp → Prop) (q : cT X.K gx (mT m) σ H Q) : tTest t σ H Q := by
  obtain ⟨H0, B, ρ, b, r, e, k⟩ := q
  exact h _ _ _ ⟨H0, B, ρ, _, r, mT_at e, fun v B' H' g rv => ⟨b, rv.bl_inv, k B' H' g⟩⟩
theorem rt_cmp {gx : Option (Addr × Value × Option Addr)} {op : CmpOp} (ho : OpR X (compareOp op) r) (h : Op2 X.K r f) (ha : RB X gx a ma) (hb : RB X gx b mb) (hm : behindInMarks op b = false := by first | exact nobehind _ (by decide) (by decide) | rfl) : RT X gx (.Compare a [op] [b] pos) (mT (m2 f ma mb)) :=
  pt_mono (pt_cmpR ho ha hb hm) (tTest_c (tOp_c h))
/-- an expression whose value is a bool, as a test -/
theorem rt_val {gx : Option (Addr × Value × Option Addr)} {e : Expr} {m : ME} (h : RE X gx e m) (he : ∀ whole, isTrue e X.env whole = (do let v ← whole; standAt e.pos; holding [v] (truthy v)) := by intro _; rfl) : RT X gx e (mT m) :=
  pt_mono (pt_val h he) fun σ H Q q => tTest_c (t := cE X.K gx m) (fun _ _ _ z => z) σ H Q q
/-! and, or, not -/
def mAnd (s t : Slots → Option Bool) : Slots → Option Bool := fun ρ => match s ρ with | some true => t ρ | some false => some false | none => none
def mOr (s t : Slots → Option Bool) : Slots → Option Bool := fun ρ => match s ρ with | some true => some true | some false => t ρ | none => none
def mNot (s : Slots → Option Bool) : Slots → Option Bool := fun ρ => match s ρ with | some b => some (!b) | none => none
variable {s t : Slots → Option Bool} {rest : List Expr}
theorem rw_and1 {gx : Option (Addr × Value × Option Addr)} (ha : RT X gx a s) : RW X gx (.BoolOp .And [a] pos) s := pw_and1 ha
theorem rw_or1 {gx : Option (Addr × Value × Option Addr)} (ha : RT X gx a s) : RW X gx (.BoolOp .Or [a] pos) s := pw_or1 ha
theorem rw_and {gx : Option (Addr × Value × Option Addr)} (ha : RT X gx a s) (hb : RW X gx (.BoolOp .And (b :: rest) pos) t) : RW X gx (.BoolOp .And (a :: b :: rest) pos) (mAnd s t) := pw_mono (pw_and ha hb) fun σ H Q ⟨H0, B, ρ, c, r, e, k⟩ => by
  unfold mAnd at e
  split at e
  · rename_i h1
    exact ⟨H0, B, ρ, true, r, h1, fun B1 H1 g1 => iteT ⟨H0, B1, ρ, c, r.grow g1, e, fun B2 H2 g2 => k B2 H2 (g1.trans g2)⟩⟩
  · rename_i h1
    cases e
    exact ⟨H0, B, ρ, false, r, h1, fun B1 H1 g1 => iteF (k B1 H1 g1)⟩
  · cases e
theorem rw_or {gx : Option (Addr × Value × Option Addr)} (ha : RT X gx a s) (hb : RW X gx (.BoolOp .Or (b :: rest) pos) t) : RW X gx (.BoolOp .Or (a :: b :: rest) pos) (mOr s t) := pw_mono (pw_or ha hb) fun σ H Q ⟨H0, B, ρ, c, r, e, k⟩ => by
  unfold mOr at e
  split at e
  · rename_i h1
    cases e
    exact ⟨H0, B, ρ, true, r, h1, fun B1 H1 g1 => iteT (k B1 H1 g1)⟩
  · rename_i h1
    exact ⟨H0, B, ρ, false, r, h1, fun B1 H1 g1 => iteF ⟨H0, B1, ρ, c, r.grow g1, e, fun B2 H2 g2 => k B2 H2 (g1.trans g2)⟩⟩
  · cases e
theorem rt_w {gx : Option (Addr × Value × Option Addr)} {e : Expr} (h : RW X gx e s) : RT X gx e s := h.pt
theorem rt_not {gx : Option (Addr × Value × Option Addr)} (ha : RT X gx a s) : RT X gx (.UnaryOp .Not a pos) (mNot s) := pt_mono (pt_not ha) fun σ H Q ⟨H0, B, ρ, c, r, e, k⟩ => by
  unfold mNot at e
  split at e
  · rename_i b h1
    cases e
    exact ⟨H0, B, ρ, b, r, h1, k⟩
  · cases e
/-- .. as values -/
def mAndV (a b : ME) : ME := fun ρ => match a ρ with | some (.bl true) => b ρ | some (.bl false) => some (.bl false) | _ => none
def mOrV (a b : ME) : ME := fun ρ => match a ρ with | some (.bl true) => some (.bl true) | some (.bl false) => b ρ | _ => none
def mNotV (a : ME) : ME := fun ρ => match a ρ with | some (.bl b) => some (.bl (!b)) | _ => none
theorem re_one {gx : Option (Addr × Value × Option Addr)} {op} (h : RE X gx a ma) : RE X gx (.BoolOp op [a] pos) ma := pe_one h
theorem re_and {gx : Option (Addr × Value × Option Addr)} (ha : RE X gx a ma) (hb : RE X gx (.BoolOp .And (b :: rest) pos) mb) : RE X gx (.BoolOp .And (a :: b :: rest) pos) (mAndV ma mb) := pe_mono (pe_and ha hb) fun σ H Q ⟨H0, B, ρ, c, r, e, k⟩ => by
  unfold mAndV at e
  split at e
  · rename_i h1
    exact ⟨H0, B, ρ, _, r, h1, fun v B1 H1 g1 rv => ⟨true, rv.bl_inv, iteT ⟨H0, B1, ρ, c, r.grow g1, e, fun u B2 H2 g2 => k u B2 H2 (g1.trans g2)⟩⟩⟩
  · rename_i h1
    cases e
    exact ⟨H0, B, ρ, _, r, h1, fun v B1 H1 g1 rv => ⟨false, rv.bl_inv, iteF (k _ B1 H1 g1 (.bl false))⟩⟩
  · cases e
theorem re_or {gx : Option (Addr × Value × Option Addr)} (ha : RE X gx a ma) (hb : RE X gx (.BoolOp .Or (b :: rest) pos) mb) : RE X gx (.BoolOp .Or (a :: b :: rest) pos) (mOrV ma mb) := pe_mono (pe_or ha hb) fun σ H Q ⟨H0, B, ρ, c, r, e, k⟩ => by
  unfold mOrV at e
  split at e
  · rename_i h1
    cases e
    exact ⟨H0, B, ρ, _, r, h1, fun v B1 H1 g1 rv => ⟨true, rv.bl_inv, iteT (k _ B1 H1 g1 (.bl true))⟩⟩
  · rename_i h1
    exact ⟨H0, B, ρ, _, r, h1, fun v B1 H1 g1 rv => ⟨false, rv.bl_inv, iteF ⟨H0, B1, ρ, c, r.grow g1, e, fun u B2 H2 g2 => k u B2 H2 (g1.trans g2)⟩⟩⟩
  · cases e
theorem re_not {gx : Option (Addr × Value × Option Addr)} (ha : RE X gx a ma) : RE X gx (.UnaryOp .Not a pos) (mNotV ma) := pe_mono (pe_not ha) fun σ H Q ⟨H0, B, ρ, c, r, e, k⟩ => by
  unfold mNotV at e
  split at e
  · rename_i b h1
    cases e
    exact ⟨H0, B, ρ, _, r, h1, fun v B1 H1 g1 rv => ⟨b, rv.bl_inv, k _ B1 H1 g1 (.bl _)⟩⟩
  · cases e
def mIfE (c : Slots → Option Bool) (a b : ME) : ME := fun ρ => match c ρ with | some true => a ρ | some false => b ρ | none => none
theorem re_if {gx : Option (Addr × Value × Option Addr)} {c : Expr} (hc : RT X gx c s) (ha : RE X gx a ma) (hb : RE X gx b mb) : RE X gx (.IfExp c a b pos) (mIfE s ma mb) := pe_mono (pe_ifExp hc ha hb) fun σ H Q ⟨H0, B, ρ, d, r, e, k⟩ => by
  unfold mIfE at e
  split at e
  · rename_i h1
    exact ⟨H0, B, ρ, _, r, h1, fun B1 H1 g1 => iteT ⟨H0, B1, ρ, d, r.grow g1, e, fun u B2 H2 g2 => k u B2 H2 (g1.trans g2)⟩⟩
  · rename_i h1
    exact ⟨H0, B, ρ, _, r, h1, fun B1 H1 g1 => iteF ⟨H0, B1, ρ, d, r.grow g1, e, fun u B2 H2 g2 => k u B2 H2 (g1.trans g2)⟩⟩
  · cases e
/-- -a -/
def mNeg (a : ME) : ME := fun ρ => match a ρ with | some (.int i) => some (.int (-i)) | _ => none
theorem re_neg {gx : Option (Addr × Value × Option Addr)} (ha : RE X gx a ma) : RE X gx (.UnaryOp .USub a pos) (mNeg ma) := pe_mono (pe_un un_neg ha) fun σ H Q ⟨H0, B, ρ, c, r, e, k⟩ => by
  unfold mNeg at e
  split at e
  · rename_i i h1
    cases e
    exact ⟨H0, B, ρ, _, r, h1, fun v B1 H1 g1 rv => ⟨i, rv.int_inv, k _ B1 H1 g1 (.int _)⟩⟩
  · cases e
/-- a op b op c -/
def mChain (f f' : D → D → Option D) (ma mb mc : ME) : ME := fun ρ => match m2 f ma mb ρ with | some (.bl true) => m2 f' mb mc ρ | some (.bl false) => some (.bl false) | _ => none
theorem tChain_c {gx : Option (Addr × Value × Option Addr)} {r r' : R2} {f f' : D → D → Option D} {mc : ME} (h : Op2 X.K r f) (h' : Op2 X.K r' f') (σ : L2.St) (H : Hp) (Q : VK) (q : cE X.K gx (mChain f f' ma mb mc) σ H Q) : tChain r r' (cB X.K gx ma) (cB X.K gx mb) (cB X.K gx mc) σ H Q := by
  obtain ⟨H0, B, ρ, c, rl, e, k⟩ := q
  unfold mChain at e
  split at e
  · rename_i h1
    obtain ⟨a, b, e1, e2, e3⟩ := m2_at h1
    obtain ⟨b', d, e4, e5, e6⟩ := m2_at e
    rw [e2] at e4
    cases e4
    refine ⟨H0, B, ρ, a, rl, e1, fun v B1 H1 g1 r1 => ⟨H0, B1, ρ, b, rl.grow g1, e2, fun u B2 H2 g2 r2 => h B2 H2 v u a b _ g2.bh (r1.grow g2) r2 e3 _ fun w B3 H3 g3 r3 => ⟨true, r3.bl_inv, iteT ?_⟩⟩⟩
    exact ⟨H0, B3, ρ, d, rl.grow ((g1.trans g2).trans g3), e5, fun x B4 H4 g4 r4 => h' B4 H4 u x b d c g4.bh (r2.grow (g3.trans g4)) r4 e6 Q fun y B5 H5 g5 r5 => k y B5 H5 ((((g1.trans g2).trans g3).trans g4).trans g5) r5⟩
  · rename_i h1
    cases e
    obtain ⟨a, b, e1, e2, e3⟩ := m2_at h1
    exact ⟨H0, B, ρ, a, rl, e1, fun v B1 H1 g1 r1 => ⟨H0, B1, ρ, b, rl.grow g1, e2, fun u B2 H2 g2 r2 => h B2 H2 v u a b _ g2.bh (r1.grow g2) r2 e3 _ fun w B3 H3 g3 r3 => ⟨false, r3.bl_inv, iteF (k _ B3 H3 ((g1.trans g2).trans g3) (.bl false))⟩⟩⟩
  · cases e
theorem re_chain {gx : Option (Addr × Value × Option Addr)} {op op' : CmpOp} {c : Expr} {mc : ME} {r r' : R2} {f f' : D → D → Option D} (ho : OpR X (compareOp op) r) (h : Op2 X.K r f) (ho' : OpR X (compareOp op') r') (h' : Op2 X.K r' f') (ha : RB X gx a ma) (hb : RB X gx b mb) (hc : RB X gx c mc)
    (hm : lastMarks [op, op'] [b, c] = false := by with_unfolding_all rfl) : RE X gx (.Compare a [op, op'] [b, c] pos) (mChain f f' ma mb mc) := pe_mono (pe_chain ho ho' ha hb hc hm) (tChain_c h h')
theorem rt_chain {gx : Option (Addr × Value × Option Addr)} {op op' : CmpOp} {c : Expr} {mc : ME} {r r' : R2} {f f' : D → D → Option D} (ho : OpR X (compareOp op) r) (h : Op2 X.K r f) (ho' : OpR X (compareOp op') r') (h' : Op2 X.K r' f') (ha : RB X gx a ma) (hb : RB X gx b mb) (hc : RB X gx c mc)
    (hm : lastMarks [op, op'] [b, c] = false := by with_unfolding_all rfl) : RT X gx (.Compare a [op, op'] [b, c] pos) (mT (mChain f f' ma mb mc)) := pt_mono (pt_chain ho ho' ha hb hc hm) (tTest_c (tChain_c h h'))
end
end R
/-! R3: operators, subscripts, built-ins -/
namespace R
open PySem PySem.Spec PyProof.Rows L2

section
variable {K : PySem.W.Frag} {B H : Hp} {v : V}
theorem Rb.int {i : Int} (h : Rb K B H v (.int i)) : v = .int i := by
  rcases h with h | ⟨_, _, _, _, e, _⟩
  · exact h.int_inv
  · cases e
theorem Rb.bl {i : Bool} (h : Rb K B H v (.bl i)) : v = .bl i := by
  rcases h with h | ⟨_, _, _, _, e, _⟩
  · exact h.bl_inv
  · cases e
theorem Rb.str {i : List Nat} (h : Rb K B H v (.str i)) : v = .str ⟨i.toArray⟩ := by
  rcases h with h | ⟨_, _, _, _, e, _⟩
  · exact h.str_inv
  · cases e
theorem Rb.non (h : Rb K B H v .non) : v = .non := by
  rcases h with h | ⟨_, _, _, _, e, _⟩
  · exact h.non_inv
  · cases e
theorem Rb.ty {n : String} (h : Rb K B H v (.ty n)) : v = .ty n := by
  rcases h with h | ⟨_, _, _, _, e, _⟩
  · cases h; rfl
  · cases e
theorem Rb.lst {xs : List D} (e : Same B H) (h : Rb K B H v (.lst xs)) : ∃ a vs, v = .ref a ∧ H a = some (.lst vs) ∧ Rps K B vs xs := by
  rcases h with h | ⟨l, vs, ys, e1, e2, e3, e4, e5⟩
  · cases h with
    | lst h1 h2 => exact ⟨_, _, rfl, e _ _ h1, h2⟩
  · cases e2
    exact ⟨l, vs, e1, e4, e5⟩
theorem Rb.tup {xs : List D} (e : Same B H) (h : Rb K B H v (.tup xs)) : ∃ a vs, v = .ref a ∧ B a = some (.tup vs) ∧ H a = some (.tup vs) ∧ Rps K B vs xs := by
  rcases h with h | ⟨l, vs, ys, e1, e2, e3, e4, e5⟩
  · cases h with
    | tup h1 h2 => exact ⟨_, _, rfl, h1, e _ _ h1, h2⟩
  · cases e2
theorem Rb.lsk {xs : List D} (e : Same B H) (h : Rb K B H v (.lsk xs)) : ∃ a vs, v = .ref a ∧ SqL K H a vs ∧ Rps K B vs xs := by
  rcases h with h | ⟨l, vs, ys, e1, e2, e3, e4, e5⟩
  · cases h with
    | lsk h1 h2 => exact ⟨_, _, rfl, e.seq h1, h2⟩
  · cases e2
theorem Rb.dct {ks : List Key} {ds : List D} (e : Same B H) (h : Rb K B H v (.dct ks ds)) : ∃ a vs, v = .ref a ∧ H a = some (.dK (ks.zip vs)) ∧ Rps K B vs ds := by
  rcases h with h | ⟨l, vs, ys, e1, e2, e3, e4, e5⟩
  · cases h with
    | dct h1 h2 => exact ⟨_, _, rfl, e _ _ h1, h2⟩
  · cases e2
end
theorem slen (cs : List Nat) : (⟨cs.toArray⟩ : Str).length = cs.length := by simp [Str.length]
theorem sapp (a b : List Nat) : (⟨a.toArray⟩ : Str) ++ ⟨b.toArray⟩ = ⟨(a ++ b).toArray⟩ := by
  show Str.append _ _ = _
  simp [Str.append]
theorem sinj {a b : List Nat} : ((⟨a.toArray⟩ : Str) = ⟨b.toArray⟩) ↔ a = b := by
  constructor
  · intro h
    have := congrArg (fun s : Str => s.cps.toList) h
    simpa using this
  · rintro rfl; rfl

/-! + -/
def fAdd : D → D → Option D
  | .int i, .int j => some (.int (i + j))
  | .str a, .str b => if a.length + b.length ≤ sizeLine then some (.str (a ++ b)) else none
  | .lst a, .lst b => if a.length + b.length ≤ sizeLine then some (.lst (a ++ b)) else none
  | .tup a, .tup b => if a.length + b.length ≤ sizeLine then some (.tup (a ++ b)) else none
  | _, _ => none
def rStr : R2 := fun x y H Q => ∃ i j, x = .str i ∧ y = .str j ∧ i.length + j.length ≤ sizeLine ∧ Q (.str (i ++ j)) H
def rAdd (K : PySem.W.Frag) : R2 := fun x y H Q => (rI0 (fun i j => .int (i + j)) x y H Q ∨ rStr x y H Q) ∨ (rCat x y H Q ∨ rCatA K x y H Q)
theorem op_addU {X : Cx} : OpR X (binaryOp .Add) (rAdd X.K) := (op_add.or op_add_str).or (op_cat.or op_catA)
theorem ok_add (K : PySem.W.Frag) : Op2 K (rAdd K) fAdd := by
  intro B H x y a b c e ra rb h Q k
  cases a <;> cases b <;> try (cases h; done)
  · cases h
    exact .inl (.inl ⟨_, _, ra.int, rb.int, k _ B H (Gr.refl e) (.int _)⟩)
  · rename_i a b
    simp only [fAdd] at h
    split at h
    · cases h
      refine .inl (.inr ⟨_, _, ra.str, rb.str, by rw [slen, slen]; assumption, ?_⟩)
      rw [sapp]
      exact k _ B H (Gr.refl e) (.str _)
    · cases h
  · rename_i a b
    simp only [fAdd] at h
    split at h
    · rename_i hz
      cases h
      obtain ⟨p, vs, e1, h1, r1⟩ := ra.tup e
      obtain ⟨p2, vs2, e2, h2, h2', r2⟩ := rb.tup e
      obtain ⟨h1', r1⟩ := r1
      have l1 := r1.length
      have l2 := r2.length
      refine .inr (.inr ⟨_, _, vs, vs2, e1, e2, SqT.of h1', SqT.of h2', by omega, fun z => ?_, fun _ z => ?_, fun _ _ q hq => ?_⟩)
      · subst z
        cases r1
        exact k _ B H (Gr.refl e) (.tup h2 r2)
      · subst z
        cases r2
        rw [List.append_nil] at k
        exact k _ B H (Gr.refl e) (.tup h1 r1)
      · exact k _ _ _ (Gr.new e hq) (.tup upd_same ((r1.append r2).mono (same_upd (e.free hq))))
    · cases h
  · rename_i a b
    simp only [fAdd] at h
    split at h
    · rename_i hz
      cases h
      obtain ⟨p, vs, e1, h1, r1⟩ := ra.lst e
      obtain ⟨p2, vs2, e2, h2, r2⟩ := rb.lst e
      have l1 := r1.length
      have l2 := r2.length
      exact .inr (.inl ⟨_, _, vs, vs2, e1, e2, h1, h2, by omega, fun q hq => k _ _ _ (Gr.new e hq) (.lst upd_same ((r1.append r2).mono (same_upd (e.free hq))))⟩)
    · cases h
/-! ints -/
def fSub : D → D → Option D
  | .int i, .int j => some (.int (i - j))
  | _, _ => none
theorem ok_I0 {K : PySem.W.Frag} {g : Int → Int → V} {f : D → D → Option D} {q : Int → Int → D} (hq : ∀ i j B, Rp K B (g i j) (q i j)) (hf : ∀ a b c, f a b = some c → ∃ i j, a = .int i ∧ b = .int j ∧ c = q i j) : Op2 K (rI0 g) f := by
  intro B H x y a b c e ra rb h Q k
  obtain ⟨i, j, rfl, rfl, rfl⟩ := hf a b c h
  exact ⟨i, j, ra.int, rb.int, k _ B H (Gr.refl e) (hq i j B)⟩
theorem ok_I {K : PySem.W.Frag} {C : Int → Int → Prop} {g : Int → Int → V} {f : D → D → Option D} {q : Int → Int → D} (hq : ∀ i j B, Rp K B (g i j) (q i j)) (hf : ∀ a b c, f a b = some c → ∃ i j, a = .int i ∧ b = .int j ∧ C i j ∧ c = q i j) : Op2 K (rI C g) f := by
  intro B H x y a b c e ra rb h Q k
  obtain ⟨i, j, rfl, rfl, hc, rfl⟩ := hf a b c h
  exact ⟨i, j, ra.int, rb.int, hc, k _ B H (Gr.refl e) (hq i j B)⟩
theorem ok_sub (K : PySem.W.Frag) : Op2 K (rI0 fun i j => .int (i - j)) fSub := ok_I0 (q := fun i j => .int (i - j)) (fun i j B => .int _) (by
  intro a b c h
  cases a <;> cases b <;> try (cases h; done)
  cases h
  exact ⟨_, _, rfl, rfl, rfl⟩)
def fMod : D → D → Option D
  | .int i, .int j => if 0 < j then some (.int (i % j)) else none
  | _, _ => none
theorem ok_mod (K : PySem.W.Frag) : Op2 K (rI (fun _ j => 0 < j) fun i j => .int (i % j)) fMod := ok_I (q := fun i j => .int (i % j)) (fun i j B => .int _) (by
  intro a b c h
  cases a <;> cases b <;> try (cases h; done)
  simp only [fMod] at h
  split at h
  · cases h
    exact ⟨_, _, rfl, rfl, by assumption, rfl⟩
  · cases h)
def fDiv : D → D → Option D
  | .int i, .int j => if 0 < j ∧ j < 1073741824 then some (.int (i / j)) else none
  | _, _ => none
theorem ok_div (K : PySem.W.Frag) : Op2 K (rI CDiv fun i j => .int (i / j)) fDiv := ok_I (q := fun i j => .int (i / j)) (fun i j B => .int _) (by
  intro a b c h
  cases a <;> cases b <;> try (cases h; done)
  simp only [fDiv] at h
  split at h
  · cases h
    exact ⟨_, _, rfl, rfl, by assumption, rfl⟩
  · cases h)
def fPow : D → D → Option D
  | .int i, .int j => if 0 ≤ j ∧ j ≤ 1000000 ∧ i.natAbs < 2 ^ 64 then some (.int (i ^ j.toNat)) else none
  | _, _ => none
theorem ok_pow (K : PySem.W.Frag) : Op2 K (rI CPow fun i j => .int (i ^ j.toNat)) fPow := ok_I (q := fun i j => .int (i ^ j.toNat)) (fun i j B => .int _) (by
  intro a b c h
  cases a <;> cases b <;> try (cases h; done)
  simp only [fPow] at h
  split at h
  · cases h
    exact ⟨_, _, rfl, rfl, by assumption, rfl⟩
  · cases h)
/-! * -/
def cmulB (i j : Int) : Bool := decide ((-(2 ^ 64) < i ∧ i < 2 ^ 64) ∨ (-(2 ^ 64) < j ∧ j < 2 ^ 64))
def fMul : D → D → Option D
  | .int i, .int j => if cmulB i j = true then some (.int (i * j)) else none
  | .str a, .int n => if 0 ≤ n ∧ n ≤ 1000 ∧ a.length ≤ 1000 then some (.str (List.replicate n.toNat a).flatten) else none
  | .lst a, .int n => if -(2 ^ 63) ≤ n ∧ n < 2 ^ 63 ∧ a.length * n.toNat ≤ sizeLine then some (.lst (List.replicate n.toNat a).flatten) else none
  | _, _ => none
def rRepS : R2 := fun x y H Q => ∃ (a : List Nat) (n : Int), x = .str ⟨a.toArray⟩ ∧ y = .int n ∧ 0 ≤ n ∧ n ≤ 1000 ∧ a.length ≤ 1000 ∧ Q (.str ⟨(List.replicate n.toNat a).flatten.toArray⟩) H
theorem fold_rep (a : List Nat) : ∀ (n : Nat) (acc : List Nat), (List.replicate n a.toArray).foldl (· ++ ·) acc.toArray = (acc ++ (List.replicate n a).flatten).toArray
  | 0, acc => by simp
  | n + 1, acc => by
    rw [List.replicate_succ, List.foldl_cons, List.append_toArray, fold_rep a n (acc ++ a), List.replicate_succ, List.flatten_cons, List.append_assoc]
theorem op_repS {X : Cx} : OpR X (binaryOp .Mult) rRepS := by
  intro pins s σ H x y v u Q I rx ry h
  obtain ⟨a, n, rfl, rfl, h0, h1, hl, q⟩ := h
  obtain ⟨t, rfl⟩ := rx
  obtain ⟨t', rfl⟩ := ry
  have hn : n.toNat ≤ 1000 := by omega
  have hp : a.length * n.toNat ≤ 1000 * 1000 := Nat.mul_le_mul hl hn
  have hs := sizeLine_eq
  refine PySem.P.mul_str (by rw [decide_eq_false (by omega), decide_eq_false (by omega)]; rfl) (fun hn1 _ => ?_) (fun _ _ => ?_) ?_
  · rw [slen]
    have : (a.length : Int) ≤ (2 ^ 63 - 1) / n := Int.le_ediv_of_mul_le (by omega) (by
      have e : (a.length : Int) * n = ((a.length * n.toNat : Nat) : Int) := by
        rw [Int.natCast_mul, Int.toNat_of_nonneg h0]
      rw [e]
      omega)
    omega
  · rw [slen]
    unfold Builtin.Str.tooLong
    exact decide_eq_false (by omega)
  · have hlen : ((List.replicate n.toNat a).flatten).length = n.toNat * a.length := by simp
    by_cases c1 : n < 1
    · rw [if_pos c1]
      have : n = 0 := by omega
      subst this
      exact ⟨by decide, .str _, H, I.tok _, ⟨_, rfl⟩, q⟩
    · rw [if_neg c1]
      by_cases c2 : (n == 1 || (⟨a.toArray⟩ : Str).length == 0) = true
      · rw [if_pos c2]
        have e : (List.replicate n.toNat a).flatten = a := by
          rw [Bool.or_eq_true, beq_iff_eq, beq_iff_eq, slen] at c2
          rcases c2 with c2 | c2
          · subst c2; simp
          · have : a = [] := List.eq_nil_of_length_eq_zero c2
            subst this
            simp
        rw [e] at q
        exact ⟨.str _, H, I, ⟨_, rfl⟩, q⟩
      · rw [if_neg c2]
        have e := fold_rep a n.toNat []
        rw [List.nil_append] at e
        show _ ∧ _
        have e' : (List.replicate n.toNat (⟨a.toArray⟩ : Str).cps).foldl (· ++ ·) #[] = (List.replicate n.toNat a).flatten.toArray := e
        rw [e']
        refine ⟨?_, .str _, H, I.tok _, ⟨_, rfl⟩, q⟩
        rw [slen, hlen, Nat.mul_comm]
        omega
def rMul : R2 := fun x y H Q => (rI CMul (fun i j => .int (i * j)) x y H Q ∨ rRepS x y H Q) ∨ rRep x y H Q
theorem op_mulU {X : Cx} : OpR X (binaryOp .Mult) rMul := (op_mul.or op_repS).or op_rep
theorem Rps.rep {K : PySem.W.Frag} {B : Hp} {vs : List V} {ds : List D} (r : Rps K B vs ds) : ∀ n : Nat, Rps K B (List.replicate n vs).flatten (List.replicate n ds).flatten
  | 0 => .nil
  | n + 1 => by
    rw [List.replicate_succ, List.replicate_succ, List.flatten_cons, List.flatten_cons]
    exact r.append (Rps.rep r n)
theorem ok_mul (K : PySem.W.Frag) : Op2 K rMul fMul := by
  intro B H x y a b c e ra rb h Q k
  cases b <;> try (cases a <;> cases h; done)
  cases a <;> try (cases h; done)
  · simp only [fMul] at h
    split at h
    · rename_i hc
      cases h
      exact .inl (.inl ⟨_, _, ra.int, rb.int, (show CMul _ _ from of_decide_eq_true (p := (-(2 ^ 64) < _ ∧ _ < 2 ^ 64) ∨ (-(2 ^ 64) < _ ∧ _ < 2 ^ 64)) hc), k _ B H (Gr.refl e) (.int _)⟩)
    · cases h
  · simp only [fMul] at h
    split at h
    · rename_i hc
      cases h
      exact .inl (.inr ⟨_, _, ra.str, rb.int, hc.1, hc.2.1, hc.2.2, k _ B H (Gr.refl e) (.str _)⟩)
    · cases h
  · simp only [fMul] at h
    split at h
    · rename_i hc
      cases h
      obtain ⟨p, vs, e1, h1, r1⟩ := ra.lst e
      exact .inr ⟨_, _, vs, e1, rb.int, h1, hc.1, hc.2.1, by rw [r1.length]; exact hc.2.2, fun q hq => k _ _ _ (Gr.new e hq) (.lst upd_same ((r1.rep _).mono (same_upd (e.free hq))))⟩
    · cases h
/-! comparisons of ints -/
def fCmp (p : Int → Int → Bool) : D → D → Option D
  | .int i, .int j => some (.bl (p i j))
  | _, _ => none
theorem ok_cmp (K : PySem.W.Frag) (p : Int → Int → Bool) : Op2 K (rI0 fun i j => .bl (p i j)) (fCmp p) := ok_I0 (q := fun i j => .bl (p i j)) (fun i j B => .bl _) (by
  intro a b c h
  cases a <;> cases b <;> try (cases h; done)
  cases h
  exact ⟨_, _, rfl, rfl, rfl⟩)
abbrev fLt := fCmp fun i j => decide (i < j)
abbrev fLe := fCmp fun i j => decide (i ≤ j)
abbrev fGt := fCmp fun i j => decide (j < i)
abbrev fGe := fCmp fun i j => decide (j ≤ i)
/-! == -/
mutual
def py : D → PyData
  | .non => .none
  | .bl b => .bool b
  | .int i => .int i
  | .str cs => .str ⟨cs.toArray⟩
  | .tup xs => .tuple (pys xs)
  | .lst xs => .list (pys xs)
  | .lsk xs => .list (pys xs)
  | .dct _ _ => .none
  | .ty _ => .none
  | .ins _ _ _ => .none
def pys : List D → List PyData
  | [] => []
  | x :: xs => py x :: pys xs
end
mutual
def isPy : D → Bool
  | .non => true
  | .bl _ => true
  | .int _ => true
  | .str _ => true
  | .tup xs => arePy xs
  | .lst xs => arePy xs
  | .lsk xs => arePy xs
  | .dct _ _ => false
  | .ty _ => false
  | .ins _ _ _ => false
def arePy : List D → Bool
  | [] => true
  | x :: xs => isPy x && arePy xs
end
mutual
theorem Rp.dp {K : PySem.W.Frag} {B : Hp} : ∀ {v : V} {d : D}, Rp K B v d → isPy d = true → Dp K B v (py d)
  | _, _, .non, _ => by unfold py; exact .non
  | _, _, .bl b, _ => by unfold py; exact .bl b
  | _, _, .int i, _ => by unfold py; exact .int i
  | _, _, .str cs, _ => by unfold py; exact .str _
  | _, _, .ty n, h => by unfold isPy at h; cases h
  | _, _, .tup h hs, e => by unfold py; unfold isPy at e; exact .tup (SqT.of h) (Rps.dp hs e)
  | _, _, .lst h hs, e => by unfold py; unfold isPy at e; exact .lst (SqL.of h) (Rps.dp hs e)
  | _, _, .lsk h hs, e => by unfold py; unfold isPy at e; exact .lst h (Rps.dp hs e)
  | _, _, .dct h hs, e => by unfold isPy at e; cases e
  | _, _, .ins _ _ _ _, e => by unfold isPy at e; cases e
theorem Rps.dp {K : PySem.W.Frag} {B : Hp} : ∀ {vs : List V} {ds : List D}, Rps K B vs ds → arePy ds = true → DpAll K B vs (pys ds)
  | _, _, .nil, _ => by unfold pys; exact .nil
  | _, _, .cons h hs, e => by
    unfold arePy at e
    rw [Bool.and_eq_true] at e
    unfold pys
    exact .cons (Rp.dp h e.1) (Rps.dp hs e.2)
end
mutual
theorem dp_mono {K : PySem.W.Frag} {B B' : Hp} (s : Same B B') : ∀ {v : V} {d : PyData}, Dp K B v d → Dp K B' v d
  | _, _, .non => .non
  | _, _, .bl b => .bl b
  | _, _, .int i => .int i
  | _, _, .str cs => .str _
  | _, _, .tup h hs => .tup (sqt_same s h) (dps_mono s hs)
  | _, _, .lst h hs => .lst (s.seq h) (dps_mono s hs)
theorem dps_mono {K : PySem.W.Frag} {B B' : Hp} (s : Same B B') : ∀ {vs : List V} {ds : List PyData}, DpAll K B vs ds → DpAll K B' vs ds
  | _, _, .nil => .nil
  | _, _, .cons h hs => .cons (dp_mono s h) (dps_mono s hs)
end
theorem Rb.dp {K : PySem.W.Frag} {B H : Hp} {v : V} {d : D} (e : Same B H) (h : Rb K B H v d) (i : isPy d = true) : Dp K H v (py d) := by
  rcases h with h | ⟨l, vs, xs, rfl, rfl, h1, h2, h3⟩
  · exact dp_mono e (h.dp i)
  · unfold isPy at i
    unfold py
    exact .lst (SqL.of h2) (dps_mono e (h3.dp i))
def scD : D → D → Option Bool
  | .int i, .int j => some (decide (i = j))
  | .str a, .str b => some (decide (a = b))
  | .bl a, .bl b => some (decide (a = b))
  | .non, .non => some true
  | .non, .str _ => some false
  | .str _, .non => some false
  | .non, .int _ => some false
  | .int _, .non => some false
  | .non, .bl _ => some false
  | .bl _, .non => some false
  | .int _, .str _ => some false
  | .str _, .int _ => some false
  | .bl _, .str _ => some false
  | .str _, .bl _ => some false
  | _, _ => none
def dpD (a b : D) : Option Bool := if (isPy a && isPy b && SeqAt.shaped (py a) && SeqAt.shaped (py b)) = true then some (PyData.eqv (py a) (py b)) else none
def eqD (a b : D) : Option Bool := match scD a b with | some r => some r | none => dpD a b
theorem scD_ok {K : PySem.W.Frag} {B H : Hp} {x y : V} {a b : D} {r : Bool} (ra : Rb K B H x a) (rb : Rb K B H y b) (h : scD a b = some r) : scal x y = true ∧ decide (x = y) = r := by
  unfold scD at h
  split at h <;> cases h
  · rw [ra.int, rb.int]
    exact ⟨rfl, decide_eq_decide.mpr ⟨fun z => V.int.inj z, fun z => congrArg _ z⟩⟩
  · rw [ra.str, rb.str]
    exact ⟨rfl, decide_eq_decide.mpr ⟨fun z => sinj.mp (V.str.inj z), fun z => by rw [z]⟩⟩
  · rw [ra.bl, rb.bl]
    exact ⟨rfl, decide_eq_decide.mpr ⟨fun z => V.bl.inj z, fun z => congrArg _ z⟩⟩
  · rw [ra.non, rb.non]; exact ⟨rfl, rfl⟩
  · rw [ra.non, rb.str]; exact ⟨rfl, rfl⟩
  · rw [ra.str, rb.non]; exact ⟨rfl, rfl⟩
  · rw [ra.non, rb.int]; exact ⟨rfl, rfl⟩
  · rw [ra.int, rb.non]; exact ⟨rfl, rfl⟩
  · rw [ra.non, rb.bl]; exact ⟨rfl, rfl⟩
  · rw [ra.bl, rb.non]; exact ⟨rfl, rfl⟩
  · rw [ra.int, rb.str]; exact ⟨rfl, rfl⟩
  · rw [ra.str, rb.int]; exact ⟨rfl, rfl⟩
  · rw [ra.bl, rb.str]; exact ⟨rfl, rfl⟩
  · rw [ra.str, rb.bl]; exact ⟨rfl, rfl⟩
theorem dpD_ok {a b : D} {r : Bool} (h : dpD a b = some r) : isPy a = true ∧ isPy b = true ∧ SeqAt.shaped (py a) = true ∧ SeqAt.shaped (py b) = true ∧ PyData.eqv (py a) (py b) = r := by
  unfold dpD at h
  split at h
  · rename_i hc
    cases h
    simp only [Bool.and_eq_true] at hc
    exact ⟨hc.1.1.1, hc.1.1.2, hc.1.2, hc.2, rfl⟩
  · cases h
def fEq (a b : D) : Option D := match eqD a b with | some r => some (.bl r) | none => none
def fNe (a b : D) : Option D := match eqD a b with | some r => some (.bl (!r)) | none => none
def rEqU (K : PySem.W.Frag) : R2 := fun x y H Q => rEq x y H Q ∨ rEqD K x y H Q
def rNeU (K : PySem.W.Frag) : R2 := fun x y H Q => rNe x y H Q ∨ rNeD K x y H Q
theorem op_eqU {X : Cx} (hu : X.A.units + 64 < cLine) : OpR X (compareOp .Eq) (rEqU X.K) := op_eq.or (op_eqD hu)
theorem op_neU {X : Cx} (hu : X.A.units + 64 < cLine) : OpR X (compareOp .NotEq) (rNeU X.K) := op_ne.or (op_neD hu)
theorem ok_eq (K : PySem.W.Frag) : Op2 K (rEqU K) fEq := by
  intro B H x y a b c e ra rb h Q k
  unfold fEq eqD at h
  cases hs : scD a b with
  | some r =>
    rw [hs] at h
    cases h
    obtain ⟨h1, h2⟩ := scD_ok ra rb hs
    refine .inl ⟨h1, ?_⟩
    rw [h2]
    exact k _ B H (Gr.refl e) (.bl _)
  | none =>
    rw [hs] at h
    cases hd : dpD a b with
    | none => simp only [hd] at h; cases h
    | some r =>
      simp only [hd] at h
      cases h
      obtain ⟨h1, h2, h3, h4, h5⟩ := dpD_ok hd
      refine .inr ⟨_, _, ra.dp e h1, rb.dp e h2, h3, h4, ?_⟩
      rw [h5]
      exact k _ B H (Gr.refl e) (.bl _)
theorem ok_ne (K : PySem.W.Frag) : Op2 K (rNeU K) fNe := by
  intro B H x y a b c e ra rb h Q k
  unfold fNe eqD at h
  cases hs : scD a b with
  | some r =>
    rw [hs] at h
    cases h
    obtain ⟨h1, h2⟩ := scD_ok ra rb hs
    refine .inl ⟨h1, ?_⟩
    rw [h2]
    exact k _ B H (Gr.refl e) (.bl _)
  | none =>
    rw [hs] at h
    cases hd : dpD a b with
    | none => simp only [hd] at h; cases h
    | some r =>
      simp only [hd] at h
      cases h
      obtain ⟨h1, h2, h3, h4, h5⟩ := dpD_ok hd
      refine .inr ⟨_, _, ra.dp e h1, rb.dp e h2, h3, h4, ?_⟩
      rw [h5]
      exact k _ B H (Gr.refl e) (.bl _)
/-! is -/
def isNon : D → Bool
  | .non => true
  | _ => false
def fIs : D → D → Option D
  | a, .non => some (.bl (isNon a))
  | .bl a, .bl b => some (.bl (decide (a = b)))
  | _, _ => none
def fIsNot : D → D → Option D
  | a, .non => some (.bl (!isNon a))
  | .bl a, .bl b => some (.bl (!decide (a = b)))
  | _, _ => none
def rIs : R2 := fun x y H Q => (y = .non ∧ Q (.bl (decide (x = .non))) H) ∨ rIsB x y H Q
def rIsNot : R2 := fun x y H Q => (y = .non ∧ Q (.bl (!decide (x = .non))) H) ∨ rNotB x y H Q
theorem op_isU {X : Cx} : OpR X (compareOp .Is) rIs := op_isN.or op_isBl
theorem op_isnotU {X : Cx} : OpR X (compareOp .IsNot) rIsNot := op_notN.or op_notBl
theorem Rb.isNon {K : PySem.W.Frag} {B H : Hp} {v : V} {d : D} (h : Rb K B H v d) : decide (v = V.non) = isNon d := by
  rcases h with h | ⟨l, vs, xs, rfl, rfl, _⟩
  · cases h <;> rfl
  · rfl
theorem ok_is (K : PySem.W.Frag) : Op2 K rIs fIs := by
  intro B H x y a b c e ra rb h Q k
  unfold fIs at h
  split at h
  · cases h
    refine .inl ⟨rb.non, ?_⟩
    rw [ra.isNon]
    exact k _ B H (Gr.refl e) (.bl _)
  · cases h
    exact .inr ⟨_, _, ra.bl, rb.bl, k _ B H (Gr.refl e) (.bl _)⟩
  · cases h
theorem ok_isnot (K : PySem.W.Frag) : Op2 K rIsNot fIsNot := by
  intro B H x y a b c e ra rb h Q k
  unfold fIsNot at h
  split at h
  · cases h
    refine .inl ⟨rb.non, ?_⟩
    rw [ra.isNon]
    exact k _ B H (Gr.refl e) (.bl _)
  · cases h
    exact .inr ⟨_, _, ra.bl, rb.bl, k _ B H (Gr.refl e) (.bl _)⟩
  · cases h
end R
/-! R4: in, subscripts, slices, built-ins, methods of texts -/
namespace R
open PySem PySem.Spec PyProof.Rows L2

/-! in -/
def flatD : D → Bool
  | .non => true
  | .bl _ => true
  | .int _ => true
  | .str _ => true
  | _ => false
def eqF : D → D → Bool
  | .non, .non => true
  | .bl a, .bl b => a == b
  | .bl a, .int b => (if a then 1 else 0) == b
  | .int a, .bl b => a == (if b then 1 else 0)
  | .int a, .int b => a == b
  | .str a, .str b => decide (a = b)
  | _, _ => false
def inD (x : D) (xs : List D) : Bool := xs.any fun y => eqF y x
section
variable {K : PySem.W.Frag} {B H : Hp}
theorem Rb.rp_flat {v : V} {d : D} (h : Rb K B H v d) (f : flatD d = true) : Rp K B v d := by
  rcases h with h | ⟨l, vs, xs, rfl, rfl, h1, h2, h3⟩
  · exact h
  · cases f
theorem Rp.flat {v : V} {d : D} (h : Rp K B v d) (f : flatD d = true) : flatV v = true := by
  cases h <;> first | rfl | cases f
theorem Rp.eqF {v w : V} {d e : D} (h : Rp K B v d) (h' : Rp K B w e) (f : flatD d = true) (f' : flatD e = true) : eqV v w = eqF d e := by
  cases h <;> first | cases f; done | skip
  all_goals (cases h' <;> first | cases f'; done | rfl | skip)
  rename_i a b
  show (_ == _) = decide _
  rw [Bool.beq_eq_decide_eq]
  exact decide_eq_decide.mpr sinj
theorem Rps.flat : ∀ {vs : List V} {ds : List D}, Rps K B vs ds → ds.all flatD = true → vs.all flatV = true
  | _, _, .nil, _ => rfl
  | _, _, .cons h hs, f => by
    rw [List.all_cons, Bool.and_eq_true] at f ⊢
    exact ⟨h.flat f.1, hs.flat f.2⟩
theorem Rps.inD {x : V} {d : D} (hx : Rp K B x d) (fx : flatD d = true) : ∀ {vs : List V} {ds : List D}, Rps K B vs ds → ds.all flatD = true → inV x vs = inD d ds
  | _, _, .nil, _ => rfl
  | _, _, .cons h hs, f => by
    rw [List.all_cons, Bool.and_eq_true] at f
    have ih := Rps.inD hx fx hs f.2
    unfold inV at ih ⊢
    unfold R.inD at ih ⊢
    rw [List.any_cons, List.any_cons, ih, h.eqF hx f.1 fx]
end
def keyOf : D → Option Key
  | .int i => some (.inl i)
  | .str cs => some (.inr ⟨cs.toArray⟩)
  | _ => none
def dlook : List Key → List D → Key → Option D
  | k :: ks, d :: ds, x => if k = x then some d else dlook ks ds x
  | _, _, _ => none
theorem dlook_ok {K : PySem.W.Frag} {B : Hp} {k : Key} : ∀ {ks : List Key} {vs : List V} {ds : List D}, Rps K B vs ds → (valV (ks.zip vs) k = none ∧ dlook ks ds k = none) ∨ ∃ v d, valV (ks.zip vs) k = some v ∧ dlook ks ds k = some d ∧ Rp K B v d
  | [], _, _, _ => .inl ⟨rfl, by unfold dlook; rfl⟩
  | _ :: _, _, _, .nil => .inl ⟨rfl, by unfold dlook; rfl⟩
  | k' :: ks, _, _, .cons (v := v) (d := d) h hs => by
    unfold dlook
    rw [List.zip_cons_cons]
    by_cases e : k' = k
    · rw [valV_pos (p := (k', v)) e, if_pos e]
      exact .inr ⟨_, _, rfl, rfl, h⟩
    · rw [valV_neg (p := (k', v)) e, if_neg e]
      exact dlook_ok hs
theorem keyOf_ok {K : PySem.W.Frag} {B H : Hp} {v : V} {d : D} {k : Key} (h : Rb K B H v d) (e : keyOf d = some k) : v = kV k := by
  unfold keyOf at e
  split at e <;> cases e
  · exact h.int
  · exact h.str
def inB : D → D → Option Bool
  | .str [c], .str z => some (decide (c ∈ z))
  | .str x, .str z => some (!(Builtin.Str.occurrences ⟨z.toArray⟩ ⟨x.toArray⟩ 0 z.length 1).isEmpty)
  | x, .lst xs => if (flatD x && xs.all flatD) = true then some (inD x xs) else none
  | x, .lsk xs => if (flatD x && xs.all flatD) = true then some (inD x xs) else none
  | x, .tup xs => if (flatD x && xs.all flatD) = true then some (inD x xs) else none
  | x, .dct ks ds => match keyOf x with | some k => some (dlook ks ds k).isSome | none => none
  | _, _ => none
def fIn (a b : D) : Option D := match inB a b with | some r => some (.bl r) | none => none
def fNotIn (a b : D) : Option D := match inB a b with | some r => some (.bl (!r)) | none => none
/-- what «x in y» is, by values -/
def rInP (K : PySem.W.Frag) : V → V → Hp → Bool → Prop := fun x y H r =>
  ((∃ (c : Nat) (z : Str), x = .str ⟨#[c]⟩ ∧ y = .str z ∧ r = decide (c ∈ z.cps.toList)) ∨ (∃ i j, x = .str i ∧ y = .str j ∧ r = !(Builtin.Str.occurrences j i 0 j.length 1).isEmpty)) ∨
  ((∃ p xs, y = .ref p ∧ (SqL K H p xs ∨ SqT K H p xs) ∧ flatV x = true ∧ xs.all flatV = true ∧ r = inV x xs) ∨ ∃ a o, y = .ref a ∧ DGet H a x o ∧ r = o.isSome)
theorem op_inU {X : Cx} (hu : X.A.units + 1 < cLine) : OpR X (compareOp .In) (fun x y H Q => ∃ r, rInP X.K x y H r ∧ Q (.bl r) H) := by
  intro pins s σ H x y v u Q I rx ry ⟨r, h, q⟩
  rcases h with (⟨c, z, e1, e2, e3⟩ | ⟨i, j, e1, e2, e3⟩) | (⟨p, xs, e1, h1, h2, h3, e3⟩ | ⟨a, o, e1, h1, e3⟩)
  · subst e3
    exact op_in_sign pins s σ H x y v u Q I rx ry ⟨c, z, e1, e2, q⟩
  · subst e3
    exact op_in_str pins s σ H x y v u Q I rx ry ⟨i, j, e1, e2, q⟩
  · subst e3
    exact op_in_seq pins s σ H x y v u Q I rx ry ⟨p, xs, e1, h1, h2, h3, q⟩
  · subst e3 e1
    obtain rfl : u = Value.ref a := ry
    exact d_in hu I h1 rx fun s3 I3 => ⟨.bl o.isSome, H, I3, rfl, q⟩
theorem op_notinU {X : Cx} (hu : X.A.units + 1 < cLine) : OpR X (compareOp .NotIn) (fun x y H Q => ∃ r, rInP X.K x y H r ∧ Q (.bl (!r)) H) := by
  intro pins s σ H x y v u Q I rx ry ⟨r, h, q⟩
  rcases h with (⟨c, z, e1, e2, e3⟩ | ⟨i, j, e1, e2, e3⟩) | (⟨p, xs, e1, h1, h2, h3, e3⟩ | ⟨a, o, e1, h1, e3⟩)
  · subst e3
    exact op_notIn_sign pins s σ H x y v u Q I rx ry ⟨c, z, e1, e2, q⟩
  · subst e3
    exact op_notIn_str pins s σ H x y v u Q I rx ry ⟨i, j, e1, e2, q⟩
  · subst e3
    exact op_notIn_seq pins s σ H x y v u Q I rx ry ⟨p, xs, e1, h1, h2, h3, q⟩
  · subst e3 e1
    obtain rfl : u = Value.ref a := ry
    exact d_notIn hu I h1 rx fun s3 I3 => ⟨.bl (!o.isSome), H, I3, rfl, q⟩
theorem inB_ok {K : PySem.W.Frag} {B H : Hp} {x y : V} {a b : D} {r : Bool} (e : Same B H) (ra : Rb K B H x a) (rb : Rb K B H y b) (h : inB a b = some r) : rInP K x y H r := by
  unfold inB at h
  split at h
  · cases h
    exact .inl (.inl ⟨_, _, ra.str, rb.str, by simp⟩)
  · cases h
    exact .inl (.inr ⟨_, _, ra.str, rb.str, by rw [slen]⟩)
  · split at h
    · rename_i hc
      cases h
      rw [Bool.and_eq_true] at hc
      obtain ⟨p, vs, e1, h1, r1⟩ := rb.lst e
      exact .inr (.inl ⟨p, vs, e1, .inl (SqL.of h1), (ra.rp_flat hc.1).flat hc.1, r1.flat hc.2, (Rps.inD (ra.rp_flat hc.1) hc.1 r1 hc.2).symm⟩)
    · cases h
  · split at h
    · rename_i hc
      cases h
      rw [Bool.and_eq_true] at hc
      obtain ⟨p, vs, e1, h1, r1⟩ := rb.lsk e
      exact .inr (.inl ⟨p, vs, e1, .inl h1, (ra.rp_flat hc.1).flat hc.1, r1.flat hc.2, (Rps.inD (ra.rp_flat hc.1) hc.1 r1 hc.2).symm⟩)
    · cases h
  · split at h
    · rename_i hc
      cases h
      rw [Bool.and_eq_true] at hc
      obtain ⟨p, vs, e1, _, h1, r1⟩ := rb.tup e
      exact .inr (.inl ⟨p, vs, e1, .inr (SqT.of h1), (ra.rp_flat hc.1).flat hc.1, r1.flat hc.2, (Rps.inD (ra.rp_flat hc.1) hc.1 r1 hc.2).symm⟩)
    · cases h
  · split at h
    · rename_i k hk
      cases h
      obtain ⟨p, vs, e1, h1, r1⟩ := rb.dct e
      have ek := keyOf_ok ra hk
      subst ek
      refine .inr (.inr ⟨p, _, e1, DGet.k h1, ?_⟩)
      rcases dlook_ok (k := k) r1 with ⟨q1, q2⟩ | ⟨_, _, q1, q2, _⟩ <;> rw [q1, q2] <;> rfl
    · cases h
  · cases h
theorem ok_in (K : PySem.W.Frag) : Op2 K (fun x y H Q => ∃ r, rInP K x y H r ∧ Q (.bl r) H) fIn := by
  intro B H x y a b c e ra rb h Q k
  unfold fIn at h
  split at h
  · rename_i r hr
    cases h
    exact ⟨r, inB_ok e ra rb hr, k _ B H (Gr.refl e) (.bl _)⟩
  · cases h
theorem ok_notin (K : PySem.W.Frag) : Op2 K (fun x y H Q => ∃ r, rInP K x y H r ∧ Q (.bl (!r)) H) fNotIn := by
  intro B H x y a b c e ra rb h Q k
  unfold fNotIn at h
  split at h
  · rename_i r hr
    cases h
    exact ⟨r, inB_ok e ra rb hr, k _ B H (Gr.refl e) (.bl _)⟩
  · cases h
/-! x[i] -/
def fIx : D → D → Option D
  | .lst xs, .int i => atI xs i
  | .lsk xs, .int i => atI xs i
  | .tup xs, .int i => atI xs i
  | .str z, .int i => if z.length ≤ sizeLine then (match atI z i with | some c => some (.str [c]) | none => none) else none
  | .dct ks ds, x => match keyOf x with | some k => dlook ks ds k | none => none
  | _, _ => none
theorem Rps.atI {K : PySem.W.Frag} {B : Hp} {vs : List V} {ds : List D} {i : Int} {d : D} (r : Rps K B vs ds) (h : atI ds i = some d) : ∃ v, L2.atI vs i = some v ∧ Rp K B v d := by
  unfold L2.atI at h ⊢
  rw [r.length]
  cases hx : ixN ds.length i with
  | none => rw [hx] at h; cases h
  | some j =>
    rw [hx] at h
    obtain ⟨v, h1, h2⟩ := r.get (i := j) h
    exact ⟨v, h1, h2⟩
def rIxU (K : PySem.W.Frag) : R2 := fun x y H Q => rIx K x y H Q
section
variable {X : Cx} {a b : Expr} {ma mb : ME} {pos : Pos}
theorem re_ix {gx : Option (Addr × Value × Option Addr)} (hu : X.A.units + 1 < cLine) (ha : RB X gx a ma) (hb : RB X gx b mb) (hs : PlainIx b := by intro _ _; rfl) : RE X gx (.Subscript a b pos) (m2 fIx ma mb) := by
  have h1 := pe_ix ix_seq ha hb hs (pos := pos)
  have h2 : PE X (.Subscript a b pos) _ := pe_dget hu ha hb hs
  refine ⟨fun pins s σ H Q I q => ?_⟩
  obtain ⟨H0, B, ρ, c, r, e, k⟩ := q
  obtain ⟨x, y, e1, e2, e3⟩ := m2_at e
  unfold fIx at e3
  split at e3
  · refine h1.run pins s σ H Q I ⟨H0, B, ρ, _, r, e1, fun v B1 H1 g1 r1 => ⟨H0, B1, ρ, _, r.grow g1, e2, fun u B2 H2 g2 r2 => ?_⟩⟩
    obtain ⟨p, vs, p1, p2, p3⟩ := (r1.grow g2).lst g2.bh
    obtain ⟨w, p4, p5⟩ := p3.atI e3
    exact .inl ⟨p, vs, _, w, p1, r2.int, SqL.of p2, p4, k _ B2 H2 (g1.trans g2) p5⟩
  · refine h1.run pins s σ H Q I ⟨H0, B, ρ, _, r, e1, fun v B1 H1 g1 r1 => ⟨H0, B1, ρ, _, r.grow g1, e2, fun u B2 H2 g2 r2 => ?_⟩⟩
    obtain ⟨p, vs, p1, p2, p3⟩ := (r1.grow g2).lsk g2.bh
    obtain ⟨w, p4, p5⟩ := p3.atI e3
    exact .inl ⟨p, vs, _, w, p1, r2.int, p2, p4, k _ B2 H2 (g1.trans g2) p5⟩
  · refine h1.run pins s σ H Q I ⟨H0, B, ρ, _, r, e1, fun v B1 H1 g1 r1 => ⟨H0, B1, ρ, _, r.grow g1, e2, fun u B2 H2 g2 r2 => ?_⟩⟩
    obtain ⟨p, vs, p1, _, p2, p3⟩ := (r1.grow g2).tup g2.bh
    obtain ⟨w, p4, p5⟩ := p3.atI e3
    exact .inr (.inl ⟨p, vs, _, w, p1, r2.int, SqT.of p2, p4, k _ B2 H2 (g1.trans g2) p5⟩)
  · split at e3
    · rename_i hz
      split at e3
      · rename_i z i _ c hc
        cases e3
        refine h1.run pins s σ H Q I ⟨H0, B, ρ, _, r, e1, fun v B1 H1 g1 r1 => ⟨H0, B1, ρ, _, r.grow g1, e2, fun u B2 H2 g2 r2 => ?_⟩⟩
        exact .inr (.inr ⟨_, _, c, r1.str, r2.int, by rw [slen]; exact hz, by simpa using hc, k _ B2 H2 (g1.trans g2) (.str [c])⟩)
      · cases e3
    · cases e3
  · split at e3
    · rename_i kk hk
      refine h2.run pins s σ H Q I ⟨H0, B, ρ, _, r, e1, fun v B1 H1 g1 r1 => ⟨H0, B1, ρ, _, r.grow g1, e2, fun u B2 H2 g2 r2 => ?_⟩⟩
      obtain ⟨p, vs, p1, p2, p3⟩ := (r1.grow g2).dct g2.bh
      have ek := keyOf_ok r2 hk
      subst ek
      rcases dlook_ok (k := kk) p3 with ⟨_, q2⟩ | ⟨w, d, q1, q2, q3⟩
      · rw [q2] at e3; cases e3
      · rw [q2] at e3
        cases e3
        exact ⟨p, w, p1, by rw [← q1]; exact DGet.k p2, k _ B2 H2 (g1.trans g2) q3⟩
    · cases e3
  · cases e3
end
/-! slices -/
def cutL {α : Type} (xs : List α) (lo hi : Option Int) : List α := (xs.drop (HT.sIx xs.length 0 lo)).take (HT.sIx xs.length xs.length hi - HT.sIx xs.length 0 lo)
def fSl : D → Option Int → Option Int → Option D
  | .lst xs, lo, hi => some (.lst (cutL xs lo hi))
  | .lsk xs, lo, hi => some (.lst (cutL xs lo hi))
  | .tup xs, lo, hi => some (.tup (cutL xs lo hi))
  | .str z, lo, hi => if z.length ≤ sizeLine then some (.str (cutL z lo hi)) else none
  | _, _, _ => none
theorem Rps.cut {K : PySem.W.Frag} {B : Hp} {vs : List V} {ds : List D} (r : Rps K B vs ds) (lo hi : Option Int) : Rps K B (cutV vs lo hi) (cutL ds lo hi) := by
  unfold cutV cutL
  rw [r.length]
  exact (r.drop _).take _
def cO (K : PySem.W.Frag) (gx : Option (Addr × Value × Option Addr)) (m : Slots → Option (Option Int)) : TO := fun σ H Q => ∃ H0 B ρ o, Rl K gx H0 B H σ ρ ∧ m ρ = some o ∧ ∀ B' H', Gr B H B' H' → Q o H'
def mNo : Slots → Option (Option Int) := fun _ => some none
def mPart (m : ME) : Slots → Option (Option Int) := fun ρ => match m ρ with | some (.int i) => some (some i) | _ => none
def mSl (m : ME) (l h : Slots → Option (Option Int)) : ME := fun ρ => match m ρ with
  | some d => (match l ρ with | some lo => (match h ρ with | some hi => fSl d lo hi | none => none) | none => none)
  | none => none
section
variable {X : Cx} {a b : Expr} {ma mb : ME} {pos : Pos}
theorem po_mono {e : Option Expr} {t t' : TO} (h : PO X e t) (i : ∀ σ H Q, t' σ H Q → t σ H Q) : PO X e t' := ⟨fun pins s σ H Q I q => h.run pins s σ H Q I (i σ H Q q)⟩
theorem ro_none {gx : Option (Addr × Value × Option Addr)} : PO X none (cO X.K gx mNo) := po_mono po_none fun σ H Q ⟨H0, B, ρ, o, r, e, k⟩ => by
  cases e
  exact k B H (Gr.refl r.bh)
theorem ro_some {gx : Option (Addr × Value × Option Addr)} (h : RE X gx a ma) : PO X (some a) (cO X.K gx (mPart ma)) := po_mono (po_some h) fun σ H Q ⟨H0, B, ρ, o, r, e, k⟩ => by
  unfold mPart at e
  split at e
  · rename_i i hi
    cases e
    exact ⟨H0, B, ρ, _, r, hi, fun v B' H' g q => ⟨i, q.int_inv, k B' H' g⟩⟩
  · cases e
theorem re_sl {gx : Option (Addr × Value × Option Addr)} {lo hi : Option Expr} {ml mh : Slots → Option (Option Int)} {p2 : Pos} (ha : RB X gx a ma) (hl : PO X lo (cO X.K gx ml)) (hh : PO X hi (cO X.K gx mh)) : RE X gx (.Subscript a (.Slice lo hi none p2) pos) (mSl ma ml mh) := by
  refine pe_mono (pe_slice (sl_list.or (sl_tupA.or sl_str)) ha hl hh) fun σ H Q ⟨H0, B, ρ, d, r, e, k⟩ => ?_
  unfold mSl at e
  cases e1 : ma ρ with
  | none => rw [e1] at e; cases e
  | some x =>
    cases e2 : ml ρ with
    | none => rw [e1, e2] at e; cases e
    | some l =>
      cases e3 : mh ρ with
      | none => rw [e1, e2, e3] at e; cases e
      | some h =>
        rw [e1, e2, e3] at e
        have e : fSl x l h = some d := e
        refine ⟨H0, B, ρ, x, r, e1, fun v B1 H1 g1 r1 => ⟨H0, B1, ρ, l, r.grow g1, e2, fun B2 H2 g2 => ⟨H0, B2, ρ, h, r.grow (g1.trans g2), e3, fun B3 H3 g3 => ?_⟩⟩⟩
        have r3 := r1.grow (g2.trans g3)
        have gg := (g1.trans g2).trans g3
        unfold fSl at e
        split at e
        · cases e
          obtain ⟨p, vs, p1, p2, p3⟩ := r3.lst g3.bh
          exact .inl ⟨p, vs, p1, SqL.of p2, fun q hq => k _ _ _ (gg.trans (Gr.new g3.bh hq)) (.lst upd_same ((p3.cut l h).mono (same_upd (g3.bh.free hq))))⟩
        · cases e
          obtain ⟨p, vs, p1, p2, p3⟩ := r3.lsk g3.bh
          exact .inl ⟨p, vs, p1, p2, fun q hq => k _ _ _ (gg.trans (Gr.new g3.bh hq)) (.lst upd_same ((p3.cut l h).mono (same_upd (g3.bh.free hq))))⟩
        · cases e
          obtain ⟨p, vs, p1, p0, p2, p3⟩ := r3.tup g3.bh
          refine .inr (.inl ⟨p, vs, p1, SqT.of p2, fun z => ?_, fun _ q hq => k _ _ _ (gg.trans (Gr.new g3.bh hq)) (.tup upd_same ((p3.cut l h).mono (same_upd (g3.bh.free hq))))⟩)
          have ec : cutV vs l h = vs := by
            unfold cutV
            rw [z.1, z.2, Nat.sub_zero, List.drop_zero, List.take_length]
          have hc := p3.cut l h
          rw [ec] at hc
          exact k _ B3 H3 gg (.tup p0 hc)
        · split at e
          · rename_i hz
            cases e
            refine .inr (.inr ⟨_, r3.str, by rw [slen]; exact hz, ?_⟩)
            have ec : ∀ z : List Nat, cutS ⟨z.toArray⟩ l h = ⟨(cutL z l h).toArray⟩ := fun z => by
              unfold cutS cutL
              rw [slen]
            rw [ec]
            exact k _ B3 H3 gg (.str _)
          · cases e
        · cases e
end
/-! built-ins by values -/
def CallOk (K : PySem.W.Frag) (r : List V → Hp → VK → Prop) (f : List D → Option D) : Prop :=
  ∀ (B H : Hp) (vs : List V) (ds : List D) (c : D), Same B H → Rbs K B H vs ds → f ds = some c → ∀ Q : VK, (∀ v B' H', Gr B H B' H' → Rp K B' v c → Q v H') → r vs H Q
def mCB (f : List D → Option D) (ma : Slots → Option (List D)) : ME := fun ρ => match ma ρ with | some ds => f ds | none => none
section
variable {X : Cx} {e : Expr} {es : List Expr} {ma : Slots → Option (List D)} {pos p : Pos} {r : List V → Hp → VK → Prop} {f : List D → Option D} {x : Str} {id : String}
theorem tCB_c {gx : Option (Addr × Value × Option Addr)} (h : CallOk X.K r f) (σ : L2.St) (H : Hp) (Q : VK) (q : cE X.K gx (mCB f ma) σ H Q) : tCB r (cAb X.K gx ma) σ H Q := by
  obtain ⟨H0, B, ρ, c, rl, e, k⟩ := q
  unfold mCB at e
  split at e
  · rename_i ds hd
    exact ⟨H0, B, ρ, ds, rl, hd, fun vs B1 H1 g1 r1 => h B1 H1 vs ds c g1.bh r1 e Q fun v B2 H2 g2 => k v B2 H2 (g1.trans g2)⟩
  · cases e
theorem re_cb {gx : Option (Addr × Value × Option Addr)} (hc : CallR X (.builtin id) r) (h : CallOk X.K r f) (hg : Gl X x) (hm : X.mg x = none) (hv : bootBuiltins x = some (.builtin id)) (ha : RAb X gx (e :: es) ma) (hn : x ≠ "__name__" := by decide) (hdb : (x == ("__debug__" : Str)) = false := by decide)
    (he : starEach (e :: es) X.env = (false, eval e X.env) :: starEach es X.env := by rfl) (hpl : (backTo pos (starEach es X.env)).any (·.1) = false := by rfl) : RE X gx (.Call (.Name x p) (e :: es) [] pos) (mCB f ma) :=
  pe_mono (pe_callB hc hg hm hv ha hn hdb he hpl) (tCB_c h)
theorem re_ct {gx : Option (Addr × Value × Option Addr)} {T : String} (hc : CallR X (.type T) r) (h : CallOk X.K r f) (hg : Gl X x) (hm : X.mg x = none) (hv : bootBuiltins x = some (.type T)) (ha : RAb X gx (e :: es) ma) (hn : x ≠ "__name__" := by decide) (hdb : (x == ("__debug__" : Str)) = false := by decide)
    (he : starEach (e :: es) X.env = (false, eval e X.env) :: starEach es X.env := by rfl) (hpl : (backTo pos (starEach es X.env)).any (·.1) = false := by rfl) : RE X gx (.Call (.Name x p) (e :: es) [] pos) (mCB f ma) :=
  pe_mono (pe_callTy hc hg hm hv ha hn hdb he hpl) (tCB_c h)
end
/-- len -/
def fLen : List D → Option D
  | [.str z] => if z.length ≤ sizeLine then some (.int z.length) else none
  | [.lst xs] => some (.int xs.length)
  | [.lsk xs] => some (.int xs.length)
  | [.tup xs] => some (.int xs.length)
  | _ => none
theorem ok_len (K : PySem.W.Frag) : CallOk K (fun xs H Q => ∃ x n, xs = [x] ∧ LenV K x H n ∧ Q (.int n) H) fLen := by
  intro B H vs ds c e r h Q k
  unfold fLen at h
  split at h
  · split at h
    · cases h
      cases r with
      | cons r rr =>
        cases rr
        have e1 := r.str
        subst e1
        exact ⟨_, _, rfl, ⟨by rw [slen]; assumption, (slen _).symm⟩, k _ B H (Gr.refl e) (.int _)⟩
    · cases h
  · cases h
    cases r with
    | cons r rr =>
      cases rr
      obtain ⟨p, vs, e1, h1, r1⟩ := r.lst e
      subst e1
      exact ⟨_, _, rfl, .inl ⟨vs, SqL.of h1, r1.length.symm⟩, k _ B H (Gr.refl e) (.int _)⟩
  · cases h
    cases r with
    | cons r rr =>
      cases rr
      obtain ⟨p, vs, e1, h1, r1⟩ := r.lsk e
      subst e1
      exact ⟨_, _, rfl, .inl ⟨vs, h1, r1.length.symm⟩, k _ B H (Gr.refl e) (.int _)⟩
  · cases h
    cases r with
    | cons r rr =>
      cases rr
      obtain ⟨p, vs, e1, _, h1, r1⟩ := r.tup e
      subst e1
      exact ⟨_, _, rfl, .inr ⟨vs, SqT.of h1, r1.length.symm⟩, k _ B H (Gr.refl e) (.int _)⟩
  · cases h
/-- int -/
def fInt : List D → Option D
  | [.int i] => some (.int i)
  | [.bl b] => some (.int (if b then 1 else 0))
  | _ => none
theorem ok_int (K : PySem.W.Frag) : CallOk K (fun xs H Q => (∃ i, xs = [.int i] ∧ Q (.int i) H) ∨ ∃ k, xs = [.bl k] ∧ Q (.int (if k then 1 else 0)) H) fInt := by
  intro B H vs ds c e r h Q k
  unfold fInt at h
  split at h
  · cases h
    cases r with
    | cons r rr =>
      cases rr
      rw [r.int]
      exact .inl ⟨_, rfl, k _ B H (Gr.refl e) (.int _)⟩
  · cases h
    cases r with
    | cons r rr =>
      cases rr
      rw [r.bl]
      exact .inr ⟨_, rfl, k _ B H (Gr.refl e) (.int _)⟩
  · cases h
/-- max(a, b) -/
def fMax2 : List D → Option D
  | [.int i, .int j] => some (.int (if j > i then j else i))
  | _ => none
theorem ok_max2 (K : PySem.W.Frag) : CallOk K (fun xs H Q => ∃ i j, xs = [.int i, .int j] ∧ Q (.int (if j > i then j else i)) H) fMax2 := by
  intro B H vs ds c e r h Q k
  unfold fMax2 at h
  split at h
  · cases h
    cases r with
    | cons r rr =>
      cases rr with
      | cons r2 rr =>
        cases rr
        rw [r.int, r2.int]
        exact ⟨_, _, rfl, k _ B H (Gr.refl e) (.int _)⟩
  · cases h
/-- tuple(x) -/
def fTuple : List D → Option D
  | [.lst xs] => some (.tup xs)
  | [.lsk xs] => some (.tup xs)
  | [.tup xs] => some (.tup xs)
  | _ => none
theorem ok_tuple (K : PySem.W.Frag) : CallOk K (fun xs H Q => ∃ p ys, xs = [.ref p] ∧ ((SqL K H p ys ∧ ∀ l, H l = none → Q (.ref l) (upd H l (.tup ys))) ∨ (SqT K H p ys ∧ Q (.ref p) H))) fTuple := by
  intro B H vs ds c e r h Q k
  unfold fTuple at h
  split at h
  · cases h
    cases r with
    | cons r rr =>
      cases rr
      obtain ⟨p, vs, e1, h1, r1⟩ := r.lst e
      subst e1
      exact ⟨_, _, rfl, .inl ⟨SqL.of h1, fun q hq => k _ _ _ (Gr.new e hq) (.tup upd_same (r1.mono (same_upd (e.free hq))))⟩⟩
  · cases h
    cases r with
    | cons r rr =>
      cases rr
      obtain ⟨p, vs, e1, h1, r1⟩ := r.lsk e
      subst e1
      exact ⟨_, _, rfl, .inl ⟨h1, fun q hq => k _ _ _ (Gr.new e hq) (.tup upd_same (r1.mono (same_upd (e.free hq))))⟩⟩
  · cases h
    cases r with
    | cons r rr =>
      cases rr
      obtain ⟨p, vs, e1, h0, h1, r1⟩ := r.tup e
      subst e1
      exact ⟨_, _, rfl, .inr ⟨SqT.of h1, k _ B H (Gr.refl e) (.tup h0 r1)⟩⟩
  · cases h
/-- list(x) -/
def fList : List D → Option (List D)
  | [.lst xs] => some xs
  | [.lsk xs] => some xs
  | [.tup xs] => some xs
  | _ => none
def mCF (f : List D → Option (List D)) (ma : Slots → Option (List D)) : Slots → Option (List D) := fun ρ => match ma ρ with | some ds => f ds | none => none
theorem rf_list {gx : Option (Addr × Value × Option Addr)} {X : Cx} {e : Expr} {es : List Expr} {ma : Slots → Option (List D)} {pos p : Pos} (hg : Gl X "list") (hm : X.mg "list" = none) (ha : RAb X gx (e :: es) ma)
    (he : starEach (e :: es) X.env = (false, eval e X.env) :: starEach es X.env := by rfl) (hpl : (backTo pos (starEach es X.env)).any (·.1) = false := by rfl) : RF X gx (.Call (.Name "list" p) (e :: es) [] pos) (mCF fList ma) := by
  refine pe_mono (pe_callTy call_list_of hg hm (by decide +kernel) ha (by decide) (by decide) he hpl) fun σ H Q ⟨H0, B, ρ, c, rl, e, k⟩ => ?_
  unfold mCF at e
  split at e
  · rename_i ds hd
    refine ⟨H0, B, ρ, ds, rl, hd, fun vs B1 H1 g1 r1 => ?_⟩
    unfold fList at e
    split at e
    · cases e
      cases r1 with
      | cons r rr =>
        cases rr
        obtain ⟨p, vs, e1, h1, r1⟩ := r.lst g1.bh
        subst e1
        exact ⟨_, _, rfl, .inl (SqL.of h1), fun q hq => k q vs B1 _ (g1.trans (Gr.newOwn g1.bh hq)) (g1.h.free hq) (g1.bh.free hq) upd_same r1⟩
    · cases e
      cases r1 with
      | cons r rr =>
        cases rr
        obtain ⟨p, vs, e1, h1, r1⟩ := r.lsk g1.bh
        subst e1
        exact ⟨_, _, rfl, .inl h1, fun q hq => k q vs B1 _ (g1.trans (Gr.newOwn g1.bh hq)) (g1.h.free hq) (g1.bh.free hq) upd_same r1⟩
    · cases e
      cases r1 with
      | cons r rr =>
        cases rr
        obtain ⟨p, vs, e1, _, h1, r1⟩ := r.tup g1.bh
        subst e1
        exact ⟨_, _, rfl, .inr (SqT.of h1), fun q hq => k q vs B1 _ (g1.trans (Gr.newOwn g1.bh hq)) (g1.h.free hq) (g1.bh.free hq) upd_same r1⟩
    · cases e
  · cases e
/-- isinstance -/
def tyD : D → Option String
  | .non => some "NoneType"
  | .bl _ => some "bool"
  | .int _ => some "int"
  | .str _ => some "str"
  | .lst _ => some "list"
  | .tup _ => some "tuple"
  | .dct _ _ => some "dict"
  | _ => none
def tysOf : List D → Option (List String)
  | [] => some []
  | .ty n :: r => (match tysOf r with | some ns => some (n :: ns) | none => none)
  | _ => none
def kitAll (t : String) : List String → Option Bool
  | [] => some false
  | n :: r => (match kitB t n with | some true => some true | some false => kitAll t r | none => none)
def fIsi : List D → Option D
  | [x, .ty n] => match tyD x with | some t => (match kitB t n with | some b => some (.bl b) | none => none) | none => none
  | [x, .tup ts] => match tyD x with | some t => (match tysOf ts with | some ns => (match kitAll t ns with | some b => some (.bl b) | none => none) | none => none) | none => none
  | _ => none
theorem tyD_ok {K : PySem.W.Frag} {B H : Hp} {v : V} {d : D} {t : String} (e : Same B H) (r : Rb K B H v d) (h : tyD d = some t) : TyX K H v (.type t) := by
  unfold tyD at h
  split at h <;> cases h
  · rw [r.non]; exact .base .non
  · rw [r.bl]; exact .base (.bl _)
  · rw [r.int]; exact .base (.int _)
  · rw [r.str]; exact .base (.str _)
  · obtain ⟨p, vs, e1, h1, r1⟩ := r.lst e
    subst e1
    exact .base (.lst h1)
  · obtain ⟨p, vs, e1, _, h1, r1⟩ := r.tup e
    subst e1
    exact .base (.tup h1)
  · obtain ⟨p, vs, e1, h1, r1⟩ := r.dct e
    subst e1
    exact .base (.dK h1)
theorem tysOf_ok {K : PySem.W.Frag} {B : Hp} : ∀ {cs : List V} {ds : List D} {ns : List String}, Rps K B cs ds → tysOf ds = some ns → Paired ClsV cs (ns.map Value.type)
  | _, _, _, .nil, h => by
    cases h
    exact .nil
  | _, _, _, .cons h hs, e => by
    cases h <;> try (cases e; done)
    rename_i n
    unfold tysOf at e
    split at e
    · rename_i ns hn
      cases e
      exact .cons (.ty n) (tysOf_ok hs hn)
    · cases e
theorem kitAll_ok {K : PySem.W.Frag} {t : String} : ∀ {ns : List String} {b : Bool}, kitAll t ns = some b → PySem.W.kitAny K (.type t) (ns.map Value.type) = some b
  | [], _, h => by
    cases h
    rfl
  | n :: r, b, e => by
    unfold kitAll at e
    split at e
    · rename_i hk
      cases e
      exact kitAny_cons (kit_ty hk) (fun z => by cases z) (fun _ => rfl)
    · rename_i hk
      exact kitAny_cons (kit_ty hk) (fun _ => kitAll_ok e) (fun z => by cases z)
    · cases e
theorem op_isiU {X : Cx} : CallR X (.builtin "isinstance") (fun xs H Q => rIsi X.K xs H Q ∨ rIsiT X.K xs H Q) := by
  intro pins s σ H xs us Q I r h
  rcases h with h | h
  · exact call_isi pins s σ H xs us Q I r h
  · exact call_isiT pins s σ H xs us Q I r h
theorem ok_isi (K : PySem.W.Frag) : CallOk K (fun xs H Q => rIsi K xs H Q ∨ rIsiT K xs H Q) fIsi := by
  intro B H vs ds c e r h Q k
  unfold fIsi at h
  split at h
  · split at h
    · rename_i t ht
      split at h
      · rename_i b hb
        cases h
        cases r with
        | cons r rr =>
          cases rr with
          | cons r2 rr =>
            cases rr
            have e2 := r2.ty
            subst e2
            exact .inl ⟨_, _, _, _, b, rfl, .ty _, tyD_ok e r ht, kit_ty hb, k _ B H (Gr.refl e) (.bl _)⟩
      · cases h
    · cases h
  · split at h
    · rename_i t ht
      split at h
      · rename_i ns hn
        split at h
        · rename_i b hb
          cases h
          cases r with
          | cons r rr =>
            cases rr with
            | cons r2 rr =>
              cases rr
              obtain ⟨p, vs, e1, h0, h1, r1⟩ := r2.tup e
              subst e1
              exact .inr ⟨_, p, vs, _, _, b, rfl, h1, tysOf_ok r1 hn, tyD_ok e r ht, kitAll_ok hb, k _ B H (Gr.refl e) (.bl _)⟩
        · cases h
      · cases h
    · cases h
  · cases h
/-! methods of texts -/
def MtOk (K : PySem.W.Frag) (r : V → List V → Hp → VK → Prop) (f : List Nat → List D → Option D) : Prop :=
  ∀ (B H : Hp) (x : List Nat) (vs : List V) (ds : List D) (c : D), Same B H → Rbs K B H vs ds → f x ds = some c → ∀ Q : VK, (∀ v B' H', Gr B H B' H' → Rp K B' v c → Q v H') → r (.str ⟨x.toArray⟩) vs H Q
def mMt (f : List Nat → List D → Option D) (mo : ME) (ma : Slots → Option (List D)) : ME := fun ρ => match mo ρ with
  | some (.str x) => (match ma ρ with | some ds => f x ds | none => none)
  | _ => none
theorem re_mt {gx : Option (Addr × Value × Option Addr)} {X : Cx} {o e : Expr} {es : List Expr} {mo : ME} {ma : Slots → Option (List D)} {f : List Nat → List D → Option D} {name : Str} {apos cpos : Pos} {id : String} {r : V → List V → Hp → VK → Prop}
    (slot : Slot "str" name id) (hty : typeOf (.builtin id) = pure (.type "method_descriptor")) (hm : MtR X id r) (h : MtOk X.K r f) (ho : RB X gx o mo) (ha : RAb X gx (e :: es) ma)
    (hbase : attributeBase o name X.env (eval o X.env) = eval o X.env := by rfl)
    (hfew : ((backTo cpos (starEach (e :: es) X.env)).all (fun x => !x.1) && (backToKw cpos (keywordEach [] X.env)).all (fun x => x.1.isSome)
      && decide ((e :: es).length + ([] : List Keyword).length + (if ([] : List Keyword).isEmpty then 0 else 1) < 30)) = true := by rfl)
    (hline : (apos.endLine == cpos.line) = true := by rfl) (hs : starEach (e :: es) X.env = (false, eval e X.env) :: starEach es X.env := by rfl) (hplain : (backTo cpos (starEach es X.env)).any (·.1) = false := by rfl) :
    RE X gx (.Call (.Attribute o name apos) (e :: es) [] cpos) (mMt f mo ma) := by
  refine pe_mono (pe_bm PySem.F.plainAttrs_str slot hty hm ho ha hbase hfew hline hs hplain) fun σ H Q ⟨H0, B, ρ, c, rl, e, k⟩ => ?_
  unfold mMt at e
  split at e
  · rename_i x hx
    split at e
    · rename_i ds hd
      refine ⟨H0, B, ρ, _, rl, hx, fun v B1 H1 g1 r1 => ?_⟩
      have ev := r1.str
      subst ev
      exact ⟨rfl, H0, B1, ρ, ds, rl.grow g1, hd, fun vs B2 H2 g2 r2 => h B2 H2 x vs ds c g2.bh r2 e Q fun v B3 H3 g3 => k v B3 H3 ((g1.trans g2).trans g3)⟩
    · cases e
  · cases e
def fCount (x : List Nat) : List D → Option D
  | [.str y] => some (.int (Txt.count ⟨x.toArray⟩ ⟨y.toArray⟩))
  | _ => none
theorem ok_count (K : PySem.W.Frag) : MtOk K (fun x xs H Q => ∃ a b, x = .str a ∧ xs = [.str b] ∧ Q (.int (Txt.count a b)) H) fCount := by
  intro B H x vs ds c e r h Q k
  unfold fCount at h
  split at h
  · cases h
    cases r with
    | cons r rr =>
      cases rr
      rw [r.str]
      exact ⟨_, _, rfl, rfl, k _ B H (Gr.refl e) (.int _)⟩
  · cases h
def fFind3 (x : List Nat) : List D → Option D
  | [.str y, .int i] => some (.int (Txt.find3 ⟨x.toArray⟩ ⟨y.toArray⟩ i))
  | _ => none
theorem ok_find3 (K : PySem.W.Frag) : MtOk K (fun x xs H Q => ∃ (a b : Str) (i : Int), x = .str a ∧ xs = [.str b, .int i] ∧ Q (.int (Txt.find3 a b i)) H) fFind3 := by
  intro B H x vs ds c e r h Q k
  unfold fFind3 at h
  split at h
  · cases h
    cases r with
    | cons r rr =>
      cases rr with
      | cons r2 rr =>
        cases rr
        rw [r.str, r2.int]
        exact ⟨_, _, _, rfl, rfl, k _ B H (Gr.refl e) (.int _)⟩
  · cases h
/-- ''.join -/
def strsOf : List D → Option (List (List Nat))
  | [] => some []
  | .str x :: r => (match strsOf r with | some xs => some (x :: xs) | none => none)
  | _ => none
theorem strsOf_ok {K : PySem.W.Frag} {B : Hp} : ∀ {vs : List V} {ds : List D} {xs : List (List Nat)}, Rps K B vs ds → strsOf ds = some xs → vs = (xs.map fun x => (⟨x.toArray⟩ : Str)).map V.str
  | _, _, _, .nil, h => by
    cases h
    rfl
  | _, _, _, .cons h hs, e => by
    cases h <;> try (cases e; done)
    rename_i n
    unfold strsOf at e
    split at e
    · rename_i ns hn
      cases e
      rw [strsOf_ok hs hn]
      rfl
    · cases e
def joinE (xs : List D) : Option D := match strsOf xs with
  | some ys => if (ys.map List.length).sum ≤ 16777216 then some (.str ys.flatten) else none
  | none => none
def fJoin : List Nat → List D → Option D
  | [], [.lst xs] => joinE xs
  | [], [.tup xs] => joinE xs
  | _, _ => none
theorem glue_fold : ∀ (ys : List (List Nat)) (acc : List Nat), (ys.map fun x => (⟨x.toArray⟩ : Str)).foldl (fun acc p => acc ++ #[] ++ p.cps) acc.toArray = (acc ++ ys.flatten).toArray
  | [], acc => by simp
  | y :: ys, acc => by
    rw [List.map_cons, List.foldl_cons]
    show List.foldl _ (acc.toArray ++ #[] ++ y.toArray) _ = _
    have e : acc.toArray ++ #[] ++ y.toArray = (acc ++ y).toArray := by simp
    rw [e, glue_fold ys (acc ++ y), List.flatten_cons, List.append_assoc]
theorem join_nil (ys : List (List Nat)) : Txt.join ⟨([] : List Nat).toArray⟩ (ys.map fun x => (⟨x.toArray⟩ : Str)) = ⟨ys.flatten.toArray⟩ := by
  unfold Txt.join Builtin.Str.glued
  cases ys with
  | nil => rfl
  | cons y r =>
    have h := glue_fold r y
    rw [List.map_cons, List.drop_one, List.tail_cons, List.headD_cons]
    exact congrArg Str.mk h
theorem ok_join (K : PySem.W.Frag) : MtOk K (fun x xs H Q => ∃ a p, ∃ ys : List Str, x = .str a ∧ xs = [.ref p] ∧ (SqL K H p (ys.map V.str) ∨ SqT K H p (ys.map V.str)) ∧
    (ys.map (·.length)).sum + ys.length * a.length ≤ 16777216 ∧ Q (.str (Txt.join a ys)) H) fJoin := by
  intro B H x vs ds c e r h Q k
  have fin : ∀ (xs : List D) (c : D), joinE xs = some c → ∃ ys : List (List Nat), strsOf xs = some ys ∧ (ys.map List.length).sum ≤ 16777216 ∧ c = .str ys.flatten := fun xs c h => by
    unfold joinE at h
    split at h
    · split at h
      · cases h
        exact ⟨_, by assumption, by assumption, rfl⟩
      · cases h
    · cases h
  have sz : ∀ ys : List (List Nat), (ys.map List.length).sum ≤ 16777216 → ((ys.map fun x => (⟨x.toArray⟩ : Str)).map (·.length)).sum + (ys.map fun x => (⟨x.toArray⟩ : Str)).length * (⟨([] : List Nat).toArray⟩ : Str).length ≤ 16777216 := fun ys h => by
    have e0 : (⟨([] : List Nat).toArray⟩ : Str).length = 0 := rfl
    rw [e0, Nat.mul_zero, Nat.add_zero, List.map_map]
    have e1 : ((fun (s : Str) => s.length) ∘ fun (x : List Nat) => (⟨x.toArray⟩ : Str)) = List.length := by
      funext z
      exact slen z
    rw [e1]
    exact h
  unfold fJoin at h
  split at h
  · obtain ⟨ys, h1, h2, rfl⟩ := fin _ _ h
    cases r with
    | cons r rr =>
      cases rr
      obtain ⟨p, vs, e1, h3, r1⟩ := r.lst e
      subst e1
      have ev := strsOf_ok r1 h1
      subst ev
      refine ⟨_, _, _, rfl, rfl, .inl (SqL.of h3), sz ys h2, ?_⟩
      rw [join_nil]
      exact k _ B H (Gr.refl e) (.str _)
  · obtain ⟨ys, h1, h2, rfl⟩ := fin _ _ h
    cases r with
    | cons r rr =>
      cases rr
      obtain ⟨p, vs, e1, _, h3, r1⟩ := r.tup e
      subst e1
      have ev := strsOf_ok r1 h1
      subst ev
      refine ⟨_, _, _, rfl, rfl, .inr (SqT.of h3), sz ys h2, ?_⟩
      rw [join_nil]
      exact k _ B H (Gr.refl e) (.str _)
  · cases h
end R
/-! R5: statements, loops, calls -/
namespace R
open PySem PySem.Spec PyProof.Rows L2

inductive Out where
  | stuck | nx (ρ : Slots) | brk (ρ : Slots) | cnt (ρ : Slots) | ret (s : Sl) | exc (x : XD) (ρ : Slots)
def RetOk (K : PySem.W.Frag) (H0 B' H' : Hp) (v : V) : Sl → Prop
  | .d d => Rp K B' v d
  | .own o => ∃ l ho, v = .ref l ∧ H0 l = none ∧ B' l = none ∧ H' l = some ho ∧ MoOk K B' l o ho
  | .xc _ => False
def OutOk (K : PySem.W.Frag) (gx : Option (Addr × Value × Option Addr)) (B0 H0 B : Hp) (Ds : Ends) (W : WX) : Out → Prop
  | .stuck => False
  | .nx ρ' => ∀ σ' B' H', Gr B0 H0 B' H' → Same B B' → Rl K gx H0 B' H' σ' ρ' → Ds.nx σ' H'
  | .brk ρ' => ∀ σ' B' H', Gr B0 H0 B' H' → Same B B' → Rl K gx H0 B' H' σ' ρ' → Ds.bk σ' H'
  | .cnt ρ' => ∀ σ' B' H', Gr B0 H0 B' H' → Same B B' → Rl K gx H0 B' H' σ' ρ' → Ds.ct σ' H'
  | .ret s => ∀ v B' H', Gr B0 H0 B' H' → RetOk K H0 B' H' v s → Ds.rt v H'
  | .exc x ρ' => ∀ cls d σ' B' H', Gr B0 H0 B' H' → Same B B' → Rl K gx H0 B' H' σ' ρ' → XOk K B' x cls d → W cls d σ' H'
theorem OutOk.base {K : PySem.W.Frag} {B0 H0 B B1 : Hp} {Ds : Ends} {W : WX} (s : Same B B1) : ∀ {o : Out}, OutOk K gx B0 H0 B Ds W o → OutOk K gx B0 H0 B1 Ds W o
  | .stuck, h => h
  | .nx _, h => fun σ' B' H' g e r => h σ' B' H' g (s.trans e) r
  | .brk _, h => fun σ' B' H' g e r => h σ' B' H' g (s.trans e) r
  | .cnt _, h => fun σ' B' H' g e r => h σ' B' H' g (s.trans e) r
  | .ret _, h => h
  | .exc _ _, h => fun cls d σ' B' H' g e r => h cls d σ' B' H' g (s.trans e) r
abbrev MS := Slots → Out
def cS (K : PySem.W.Frag) (gx : Option (Addr × Value × Option Addr)) (W : WX) (m : MS) : TS := fun Ds σ H => ∃ B0 H0 B ρ, Gr B0 H0 B H ∧ Rl K gx H0 B H σ ρ ∧ OutOk K gx B0 H0 B Ds W (m ρ)
abbrev RS (X : Cx) (gx : Option (Addr × Value × Option Addr)) (W : WX) (st : Stmt) (m : MS) : Prop := PS X st (cS X.K gx W m)
abbrev RSs (X : Cx) (gx : Option (Addr × Value × Option Addr)) (W : WX) (st : List Stmt) (m : MS) : Prop := PSs X st (cS X.K gx W m)

def mNext : MS := fun ρ => .nx ρ
def mSeq (a b : MS) : MS := fun ρ => match a ρ with | .nx ρ' => b ρ' | o => o
def mSet (i : Nat) (m : ME) : MS := fun ρ => match m ρ with | some d => .nx (ρ.set i (some (.d d))) | none => .stuck
def mSetF (i : Nat) (m : Slots → Option (List D)) : MS := fun ρ => match m ρ with | some d => .nx (ρ.set i (some (.own (.lst d)))) | none => .stuck
def mIf (c : Slots → Option Bool) (a b : MS) : MS := fun ρ => match c ρ with | some true => a ρ | some false => b ρ | none => .stuck
def mRet (m : ME) : MS := fun ρ => match m ρ with | some d => .ret (.d d) | none => .stuck
def mRetF (m : Slots → Option (List D)) : MS := fun ρ => match m ρ with | some d => .ret (.own (.lst d)) | none => .stuck
def mRetO (i : Nat) : MS := fun ρ => match ρ[i]? with | some (some (.d d)) => .ret (.d d) | some (some (.own o)) => .ret (.own o) | _ => .stuck
def mApp (i : Nat) (m : ME) : MS := fun ρ => match ρ[i]? with
  | some (some (.own (.lst xs))) => (match m ρ with | some d => if xs.length < sizeLine then .nx (ρ.set i (some (.own (.lst (xs ++ [d]))))) else .stuck | none => .stuck)
  | _ => .stuck
def frz (i : Nat) (ρ : Slots) : Slots := match ρ[i]? with | some (some (.own (.lst xs))) => ρ.set i (some (.d (.lst xs))) | _ => ρ
def mFz (i : Nat) (m : MS) : MS := fun ρ => m (frz i ρ)
def mPar (i j : Nat) (m : Slots → Option (List D)) : MS := fun ρ => match m ρ with | some [a, b] => .nx ((ρ.set i (some (.d a))).set j (some (.d b))) | _ => .stuck

section
variable {X : Cx} {W : WX} {st : Stmt} {rest : List Stmt} {a b : MS} {e : Expr} {me : ME} {pos : Pos}
theorem rss_nil {gx : Option (Addr × Value × Option Addr)} : RSs X gx W [] mNext := pss_mono pss_nil fun Ds σ H ⟨B0, H0, B, ρ, g, r, k⟩ => k σ B H g (Same.refl _) r
theorem rs_pass {gx : Option (Addr × Value × Option Addr)} : RS X gx W (.Pass pos) mNext := ps_mono ps_pass fun Ds σ H ⟨B0, H0, B, ρ, g, r, k⟩ => k σ B H g (Same.refl _) r
theorem rs_break {gx : Option (Addr × Value × Option Addr)} : RS X gx W (.Break pos) (fun ρ => .brk ρ) := ps_mono ps_break fun Ds σ H ⟨B0, H0, B, ρ, g, r, k⟩ => k σ B H g (Same.refl _) r
theorem rs_continue {gx : Option (Addr × Value × Option Addr)} : RS X gx W (.Continue pos) (fun ρ => .cnt ρ) := ps_mono ps_continue fun Ds σ H ⟨B0, H0, B, ρ, g, r, k⟩ => k σ B H g (Same.refl _) r
theorem rss_one {gx : Option (Addr × Value × Option Addr)} (h : RS X gx W st a) : RSs X gx W [st] a := pss_one h
theorem rss_cons {gx : Option (Addr × Value × Option Addr)} (h1 : RS X gx W st a) (h2 : RSs X gx W rest b) : RSs X gx W (st :: rest) (mSeq a b) := pss_mono (pss_cons h1 h2) fun Ds σ H ⟨B0, H0, B, ρ, g, r, k⟩ => by
  refine ⟨B0, H0, B, ρ, g, r, ?_⟩
  unfold mSeq at k
  cases ha : a ρ with
  | nx ρ' =>
    rw [ha] at k
    exact fun σ' B' H' g' s' r' => ⟨B0, H0, B', ρ', g', r', k.base s'⟩
  | stuck => rw [ha] at k; exact k
  | brk _ => rw [ha] at k; exact k
  | cnt _ => rw [ha] at k; exact k
  | ret _ => rw [ha] at k; exact k
  | exc _ _ => rw [ha] at k; exact k
theorem Gr.step {B0 H0 B H B' H' : Hp} (g : Gr B0 H0 B H) (g' : Gr B H B' H') : Gr B0 H0 B' H' := g.trans g'
theorem rs_set {gx : Option (Addr × Value × Option Addr)} {i : Nat} {x : Str} {pos' : Pos} (hN : X.N.Nodup) (he : RE X gx e me) (hi : X.N[i]? = some x := by rfl) (hx : Loc X.env.scope x := by first | exact Or.inl rfl | exact Or.inr rfl) (hs : swapsWith e (some (.Name x pos')) pos.line X.env = pure false := by rfl)
    (hf : X.fn x = true ∨ X.env.scope.names.lookup x = some .local := by first | exact .inl rfl | exact .inr rfl | assumption) : RS X gx W (.Assign [.Name x pos'] e pos) (mSet i me) :=
  ps_mono (ps_set hN hi hx he hs hf) fun Ds σ H ⟨B0, H0, B, ρ, g, r, k⟩ => by
    unfold mSet at k
    cases hm : me ρ with
    | none => rw [hm] at k; exact k.elim
    | some d =>
      rw [hm] at k
      exact ⟨H0, B, ρ, d, r, hm, fun v B' H' g' q => k _ B' H' (g.trans g') g'.b ((r.grow g').setD q)⟩
theorem rs_setF {gx : Option (Addr × Value × Option Addr)} {i : Nat} {x : Str} {pos' : Pos} {mf : Slots → Option (List D)} (hN : X.N.Nodup) (he : RF X gx e mf) (hi : X.N[i]? = some x := by rfl) (hx : Loc X.env.scope x := by first | exact Or.inl rfl | exact Or.inr rfl) (hs : swapsWith e (some (.Name x pos')) pos.line X.env = pure false := by rfl)
    (hf : X.fn x = true ∨ X.env.scope.names.lookup x = some .local := by first | exact .inl rfl | exact .inr rfl | assumption) : RS X gx W (.Assign [.Name x pos'] e pos) (mSetF i mf) :=
  ps_mono (ps_set hN hi hx he hs hf) fun Ds σ H ⟨B0, H0, B, ρ, g, r, k⟩ => by
    unfold mSetF at k
    cases hm : mf ρ with
    | none => rw [hm] at k; exact k.elim
    | some d =>
      rw [hm] at k
      refine ⟨H0, B, ρ, d, r, hm, fun l vs B' H' g' h1 h2 h3 h4 => k _ B' H' (g.trans g') g'.b ((r.grow g').setO (g.h.free h1) h2 h3 ⟨vs, rfl, h4⟩ fun j o' hj hr hs => ?_)⟩
      obtain ⟨l', ho, p1, p2, p3, p4, p5⟩ := r.own j o' hr
      rw [hs] at p1
      cases p1
      rw [h1] at p4
      cases p4
theorem rs_if {gx : Option (Addr × Value × Option Addr)} {c : Expr} {mc : Slots → Option Bool} {sa sb : List Stmt} (hc : RT X gx c mc) (ha : RSs X gx W sa a) (hb : RSs X gx W sb b) : RS X gx W (.If c sa sb pos) (mIf mc a b) := ps_mono (ps_if hc ha hb) fun Ds σ H ⟨B0, H0, B, ρ, g, r, k⟩ => by
  unfold mIf at k
  cases hm : mc ρ with
  | none => rw [hm] at k; exact k.elim
  | some t =>
    rw [hm] at k
    refine ⟨H0, B, ρ, t, r, hm, fun B' H' g' => ?_⟩
    cases t with
    | true => exact iteT ⟨B0, H0, B', ρ, g.trans g', r.grow g', k.base g'.b⟩
    | false => exact iteF ⟨B0, H0, B', ρ, g.trans g', r.grow g', k.base g'.b⟩
theorem rs_ret {gx : Option (Addr × Value × Option Addr)} (he : RE X gx e me) : RS X gx W (.Return (some e) pos) (mRet me) := ps_mono (ps_ret he) fun Ds σ H ⟨B0, H0, B, ρ, g, r, k⟩ => by
  unfold mRet at k
  cases hm : me ρ with
  | none => rw [hm] at k; exact k.elim
  | some d =>
    rw [hm] at k
    exact ⟨H0, B, ρ, d, r, hm, fun v B' H' g' q => k v B' H' (g.trans g') q⟩
theorem rs_retF {gx : Option (Addr × Value × Option Addr)} {mf : Slots → Option (List D)} (he : RF X gx e mf) : RS X gx W (.Return (some e) pos) (mRetF mf) := ps_mono (ps_ret he) fun Ds σ H ⟨B0, H0, B, ρ, g, r, k⟩ => by
  unfold mRetF at k
  cases hm : mf ρ with
  | none => rw [hm] at k; exact k.elim
  | some d =>
    rw [hm] at k
    exact ⟨H0, B, ρ, d, r, hm, fun l vs B' H' g' h1 h2 h3 h4 => k _ B' H' (g.trans g') ⟨l, _, rfl, g.h.free h1, h2, h3, vs, rfl, h4⟩⟩
theorem rs_retN {gx : Option (Addr × Value × Option Addr)} : RS X gx W (.Return none pos) (fun _ => .ret (.d .non)) := ps_mono ps_retN fun Ds σ H ⟨B0, H0, B, ρ, g, r, k⟩ => k .non B H g .non
theorem rs_retO {gx : Option (Addr × Value × Option Addr)} (i : Nat) {x : Str} {p : Pos} (hN : X.N[i]? = some x := by rfl) (hv : Vis X.env.scope x := by first | exact Or.inl rfl | exact Or.inr (Or.inl rfl) | exact Or.inr (Or.inr rfl)) (hd : (x == ("__debug__" : Str)) = false := by decide)
    (hcd : (x == ("__classdict__" : Str)) = false := by decide) : RS X gx W (.Return (some (.Name x p)) pos) (mRetO i) := ps_mono (ps_ret (pe_var hN hv hd hcd)) fun Ds σ H ⟨B0, H0, B, ρ, g, r, k⟩ => by
  unfold mRetO at k
  split at k
  · rename_i d hs
    obtain ⟨v, h1, h2⟩ := r.dat i d hs
    exact ⟨v, h1, k v B H g h2⟩
  · rename_i o hs
    obtain ⟨l, ho, h1, h2, h3, h4, h5⟩ := r.own i o hs
    exact ⟨_, h1, k _ B H g ⟨l, ho, rfl, h2, h3, h4, h5⟩⟩
  · exact k.elim
theorem rs_par {gx : Option (Addr × Value × Option Addr)} {i j : Nat} {x y : Str} {ea eb : Expr} {ma : Slots → Option (List D)} {px py pt : Pos} {kt k2 pt2} (hc : X.calm = true) (hN : X.N.Nodup) (hij : i ≠ j) (ha : RA X gx [ea, eb] ma) (hi : X.N[i]? = some x := by rfl) (hj : X.N[j]? = some y := by rfl)
    (hx : X.env.scope.names.lookup x = some .local := by rfl) (hy : X.env.scope.names.lookup y = some .local := by rfl) (hw : swappedStores [.Tuple [.Name x px, .Name y py] kt pt] (.Tuple [ea, eb] k2 pt2) X.env = pure (some [x, y]) := by rfl)
    (hs : swapsWithSole [.Tuple [.Name x px, .Name y py] kt pt] (.Tuple [ea, eb] k2 pt2) pos.line X.env = pure false := by rfl) :
    RS X gx W (.Assign [.Tuple [.Name x px, .Name y py] kt pt] (.Tuple [ea, eb] k2 pt2) pos) (mPar i j ma) := ps_mono (ps_par hc hN hi hj hij hx hy ha hw hs) fun Ds σ H ⟨B0, H0, B, ρ, g, r, k⟩ => by
  unfold mPar at k
  split at k
  · rename_i d1 d2 hm
    refine ⟨H0, B, ρ, _, r, hm, fun vs B' H' g' q => ?_⟩
    cases q with
    | cons q1 q2 =>
      cases q2 with
      | cons q2 q3 =>
        cases q3
        exact ⟨_, _, rfl, k _ B' H' (g.trans g') g'.b (((r.grow g').setD q1).setD q2)⟩
  · exact k.elim
/-- a slot's list is not changed any more -/
theorem rss_fz {gx : Option (Addr × Value × Option Addr)} (i : Nat) {sts : List Stmt} (h : RSs X gx W sts a) : RSs X gx W sts (mFz i a) := pss_mono h fun Ds σ H ⟨B0, H0, B, ρ, g, r, k⟩ => by
  unfold mFz frz at k
  split at k
  · rename_i xs hx
    obtain ⟨l, ho, h1, h2, h3, h4, vs, h5, h6⟩ := r.own i _ hx
    subst h5
    have g2 : Gr B0 H0 (upd B l (.lst vs)) H := g.freeze h2 h3 h4
    have e : σ.set i (some (.ref l)) = σ := by
      apply List.ext_getElem?
      intro j
      by_cases hj : i = j
      · subst hj
        rw [set_at (List.getElem?_eq_some_iff.mp h1).1, h1]
      · rw [set_off hj]
    have sB : Same B (upd B l (.lst vs)) := same_upd h3
    have r2 : Rl X.K gx H0 (upd B l (.lst vs)) H (σ.set i (some (.ref l))) (ρ.set i (some (.d (.lst xs)))) := by
      refine ⟨g2.bh, by rw [List.length_set, List.length_set]; exact r.len, fun j d q => ?_, fun j o q => ?_, fun j k' o o' l' hjk q1 q2 s1 s2 => ?_, fun j x q => ?_⟩
      · rcases set_get q with ⟨rfl, e1, hl⟩ | ⟨hne, q⟩
        · cases e1
          exact ⟨_, set_at (by rw [r.len]; exact hl), .lst upd_same (h6.mono sB)⟩
        · obtain ⟨v', p1, p2⟩ := r.dat j d q
          exact ⟨v', by rw [set_off hne]; exact p1, p2.mono sB⟩
      · rcases set_get q with ⟨rfl, e1, hl⟩ | ⟨hne, q⟩
        · cases e1
        · obtain ⟨l2, ho2, p1, p2, p3, p4, p5⟩ := r.own j o q
          have hl2 : l2 ≠ l := fun z => by
            subst z
            exact r.sep i j _ o l2 hne hx q h1 p1
          exact ⟨l2, ho2, by rw [set_off hne]; exact p1, p2, by rw [upd_ne hl2]; exact p3, p4, p5.mono sB⟩
      · rcases set_get q1 with ⟨_, e1, _⟩ | ⟨n1, q1⟩
        · cases e1
        · rcases set_get q2 with ⟨_, e2, _⟩ | ⟨n2, q2⟩
          · cases e2
          · rw [set_off n1] at s1
            rw [set_off n2] at s2
            exact r.sep j k' o o' l' hjk q1 q2 s1 s2
      · rcases set_get q with ⟨rfl, e1, _⟩ | ⟨hne, q⟩
        · cases e1
        · obtain ⟨a, cls, d, p1, p2, p3⟩ := r.exc j x q
          exact ⟨a, cls, d, p1, by rw [set_off hne]; exact p2, p3.mono sB⟩
    rw [e] at r2
    exact ⟨B0, H0, _, _, g2, r2, k.base sB⟩
  · exact ⟨B0, H0, B, ρ, g, r, k⟩
/-- xs.append(e) -/
theorem rs_app {gx : Option (Addr × Value × Option Addr)} {i : Nat} {x : Str} {p apos cpos : Pos} (he : RE X gx e me) (hN : X.N[i]? = some x := by rfl) (hv : Vis X.env.scope x := by first | exact Or.inl rfl | exact Or.inr (Or.inl rfl) | exact Or.inr (Or.inr rfl)) (hd : (x == ("__debug__" : Str)) = false := by decide)
    (hcd : (x == ("__classdict__" : Str)) = false := by decide)
    (hbase : attributeBase (.Name x p) "append" X.env (eval (.Name x p) X.env) = eval (.Name x p) X.env := by rfl)
    (hfew : ((backTo cpos (starEach [e] X.env)).all (fun x => !x.1) && (backToKw cpos (keywordEach [] X.env)).all (fun x => x.1.isSome)
      && decide ([e].length + ([] : List Keyword).length + (if ([] : List Keyword).isEmpty then 0 else 1) < 30)) = true := by rfl)
    (hline : (apos.endLine == cpos.line) = true := by rfl) (hs : starEach [e] X.env = [(false, eval e X.env)] := by rfl) 
    (hsw : swapsWith (.Call (.Attribute (.Name x p) "append" apos) [e] [] cpos) none pos.line X.env = pure false := by rfl) :
    RS X gx W (.Expr (.Call (.Attribute (.Name x p) "append" apos) [e] [] cpos) pos) (mApp i me) :=
  ps_mono (ps_expr (pe_bm PySem.F.plainAttrs_list PySem.F.slot_list_append PySem.F.type_list_append mt_append (pe_var (i := i) hN hv hd hcd) (pa_cons he pa_nil hs) hbase hfew hline hs rfl) hsw) fun Ds σ H ⟨B0, H0, B, ρ, g, r, k⟩ => by
    unfold mApp at k
    split at k
    · rename_i xs hx
      cases hm : me ρ with
      | none => rw [hm] at k; exact k.elim
      | some d =>
        rw [hm] at k
        simp only at k
        split at k
        · rename_i hz
          obtain ⟨l, ho, h1, h2, h3, h4, vs, h5, h6⟩ := r.own i _ hx
          subst h5
          refine ⟨.ref l, h1, .inl ⟨rfl, vs, SqL.of h4⟩, H0, B, ρ, d, r, hm, fun v B' H' g' q => ?_⟩
          refine ⟨l, vs, v, rfl, rfl, g'.h _ _ h4, by rw [h6.length]; exact hz, ?_⟩
          have r2 := (r.grow g').chg (o := .lst (xs ++ [d])) (ho := .lst (vs ++ [v])) hx h1 ⟨_, rfl, (h6.mono g'.b).append (.one q)⟩
          have g3 : Gr B0 H0 B' (upd H' l (.lst (vs ++ [v]))) := by
            have gg := g.trans g'
            refine ⟨gg.b, fun b o e => ?_, r2.bh, gg.nw⟩
            rw [upd_ne (ne_of_none e h2)]
            exact gg.h _ _ e
          exact k _ B' _ g3 g'.b r2
        · exact k.elim
    · exact k.elim
end
end R
/-! R6: loops, comprehensions, calls, promises -/
namespace R
open PySem PySem.Spec PyProof.Rows L2

def ItOk (K : PySem.W.Frag) (J : It) (xs : List D) (B1 : Hp) : Prop := ∀ (i : Nat) (B H : Hp), Same B1 B → Same B H →
  (∀ d, xs[i]? = some d → J.go i H ∧ ∀ x H', J.yld i H x H' → ∃ B', Gr B H B' H' ∧ Rp K B' x d) ∧ (xs.length ≤ i → J.stop i H)
def cI (K : PySem.W.Frag) (gx : Option (Addr × Value × Option Addr)) (mi : Slots → Option (List D)) : TI := fun σ H R => ∃ H0 B ρ xs, Rl K gx H0 B H σ ρ ∧ mi ρ = some xs ∧ ∀ J B1 H1, Gr B H B1 H1 → ItOk K J xs B1 → R J H1
abbrev RI (X : Cx) (gx : Option (Addr × Value × Option Addr)) (tg it : Expr) (mi : Slots → Option (List D)) : Prop := PI X tg it (cI X.K gx mi)
def itemsOf : D → Option (List D)
  | .lst xs => some xs
  | .lsk xs => some xs
  | .tup xs => some xs
  | .str cs => some (cs.map fun c => .str [c])
  | _ => none
def mItems (m : ME) : Slots → Option (List D) := fun ρ => match m ρ with | some d => itemsOf d | none => none
section
variable {X : Cx} {tg e : Expr} {me : ME} {pos p : Pos}
theorem itl_ok {K : PySem.W.Frag} {B1 : Hp} {a : Addr} {vs : List V} {xs : List D} (h : SqL K B1 a vs) (r : Rps K B1 vs xs) (inj : ∀ H ys, Same B1 H → SqL K H a ys → SqL K H a vs → True) : ItOk K (Itl K a) xs B1 := by
  intro i B H s1 s2
  have hv : SqL K H a vs := (s1.trans s2).seq h
  refine ⟨fun d hd => ?_, fun hl => ⟨vs, hv, by rw [r.length]; exact hl⟩⟩
  obtain ⟨v, h1, h2⟩ := r.get hd
  refine ⟨⟨vs, v, hv, h1⟩, fun x H' hy => ?_⟩
  obtain ⟨rfl, hx⟩ := hy
  have := hx vs hv
  rw [h1] at this
  cases this
  exact ⟨B, Gr.refl s2, h2.mono s1⟩
theorem itt_ok {K : PySem.W.Frag} {B1 : Hp} {a : Addr} {vs : List V} {xs : List D} (h : SqT K B1 a vs) (r : Rps K B1 vs xs) : ItOk K (Itt K a) xs B1 := by
  intro i B H s1 s2
  have hv : SqT K H a vs := sqt_same (s1.trans s2) h
  refine ⟨fun d hd => ?_, fun hl => ⟨vs, hv, by rw [r.length]; exact hl⟩⟩
  obtain ⟨v, h1, h2⟩ := r.get hd
  refine ⟨⟨vs, v, hv, h1⟩, fun x H' hy => ?_⟩
  obtain ⟨rfl, hx⟩ := hy
  have := hx vs hv
  rw [h1] at this
  cases this
  exact ⟨B, Gr.refl s2, h2.mono s1⟩
theorem its_ok {K : PySem.W.Frag} {B1 : Hp} {cs : List Nat} : ItOk K (Its ⟨cs.toArray⟩) (cs.map fun c => .str [c]) B1 := by
  intro i B H s1 s2
  refine ⟨fun d hd => ?_, fun hl => ?_⟩
  · rw [List.getElem?_map] at hd
    cases hc : cs[i]? with
    | none => rw [hc] at hd; cases hd
    | some c =>
      rw [hc] at hd
      cases hd
      refine ⟨?_, fun x H' hy => ?_⟩
      · show i < cs.toArray.size
        rw [List.size_toArray]
        exact (List.getElem?_eq_some_iff.mp hc).1
      · obtain ⟨rfl, c', h1, rfl⟩ := hy
        have e : cs.toArray[i]? = some c := by simpa using hc
        rw [e] at h1
        cases h1
        exact ⟨B, Gr.refl s2, .str [c]⟩
  · show cs.toArray.size ≤ i
    rw [List.size_toArray]
    rw [List.length_map] at hl
    exact hl
theorem ri_data {gx : Option (Addr × Value × Option Addr)} (h : RE X gx e me) : RI X gx tg e (mItems me) := by
  have h1 := pi_list (tg := tg) h
  have h2 := pi_tup (tg := tg) h
  have h3 := pi_str (tg := tg) h
  refine ⟨fun pins s σ H R I q => ?_⟩
  obtain ⟨H0, B, ρ, xs, r, e, k⟩ := q
  unfold mItems at e
  cases hm : me ρ with
  | none => rw [hm] at e; cases e
  | some d =>
    rw [hm] at e
    cases d <;> try (cases e; done)
    · cases e
      refine h3.run pins s σ H R I ⟨H0, B, ρ, _, r, hm, fun v B1 H1 g q => ?_⟩
      exact ⟨_, q.str_inv, k _ B1 H1 g its_ok⟩
    · cases e
      refine h2.run pins s σ H R I ⟨H0, B, ρ, _, r, hm, fun v B1 H1 g q => ?_⟩
      cases q with
      | tup p1 p2 => exact ⟨_, rfl, ⟨_, SqT.of (g.bh _ _ p1)⟩, k _ B1 H1 g (itt_ok (SqT.of p1) p2)⟩
    · cases e
      refine h1.run pins s σ H R I ⟨H0, B, ρ, _, r, hm, fun v B1 H1 g q => ?_⟩
      cases q with
      | lst p1 p2 => exact ⟨_, rfl, ⟨_, SqL.of (g.bh _ _ p1)⟩, k _ B1 H1 g (itl_ok (SqL.of p1) p2 fun _ _ _ _ _ => trivial)⟩
    · cases e
      refine h1.run pins s σ H R I ⟨H0, B, ρ, _, r, hm, fun v B1 H1 g q => ?_⟩
      cases q with
      | lsk p1 p2 => exact ⟨_, rfl, ⟨_, g.bh.seq p1⟩, k _ B1 H1 g (itl_ok p1 p2 fun _ _ _ _ _ => trivial)⟩
def rngD (lo : Int) (n : Nat) : List D := (List.range n).map fun (k : Nat) => .int (lo + (k : Int))
def mRng1 (ma : Slots → Option (List D)) : Slots → Option (List D) := fun ρ => match ma ρ with
  | some [.int j] => if -4000000000000000000 ≤ j ∧ j < 4000000000000000000 then some (rngD 0 j.toNat) else none
  | _ => none
def mRng2 (ma : Slots → Option (List D)) : Slots → Option (List D) := fun ρ => match ma ρ with
  | some [.int i, .int j] => if -4000000000000000000 ≤ i ∧ i < 4000000000000000000 ∧ -4000000000000000000 ≤ j ∧ j < 4000000000000000000 then some (rngD i (j - i).toNat) else none
  | _ => none
theorem itr_ok {K : PySem.W.Frag} {B1 : Hp} {lo : Int} {n : Nat} : ItOk K (Itr lo n) (rngD lo n) B1 := by
  intro i B H s1 s2
  unfold rngD
  refine ⟨fun d hd => ?_, fun hl => by rw [List.length_map, List.length_range] at hl; exact hl⟩
  rw [List.getElem?_map] at hd
  by_cases hi : i < n
  · rw [List.getElem?_range hi] at hd
    cases hd
    refine ⟨hi, fun x H' hy => ?_⟩
    obtain ⟨rfl, rfl⟩ := hy
    exact ⟨B, Gr.refl s2, .int _⟩
  · rw [List.getElem?_eq_none (by rw [List.length_range]; omega)] at hd
    cases hd
theorem ri_rng1 {gx : Option (Addr × Value × Option Addr)} {a : Expr} {ma : Slots → Option (List D)} (hg : Gl X "range") (hm : X.mg "range" = none) (ha : RA X gx [a] ma) (hs : starEach [a] X.env = [(false, eval a X.env)] := by rfl) : RI X gx tg (.Call (.Name "range" p) [a] [] pos) (mRng1 ma) :=
  pi_mono (pi_range1 hg hm ha hs) fun σ H R ⟨H0, B, ρ, xs, r, e, k⟩ => by
    unfold mRng1 at e
    split at e
    · rename_i j hj
      split at e
      · rename_i hc
        cases e
        refine ⟨H0, B, ρ, _, r, hj, fun vs B1 H1 g q => ?_⟩
        cases q with
        | cons q qq =>
          cases qq
          rw [q.int_inv]
          exact ⟨j, rfl, by omega, by omega, k _ B1 H1 g itr_ok⟩
      · cases e
    · cases e
theorem ri_rng2 {gx : Option (Addr × Value × Option Addr)} {a b : Expr} {ma : Slots → Option (List D)} (hg : Gl X "range") (hm : X.mg "range" = none) (ha : RA X gx [a, b] ma) (hs : starEach [a, b] X.env = [(false, eval a X.env), (false, eval b X.env)] := by rfl) (hs2 : starEach [b] X.env = [(false, eval b X.env)] := by rfl) : RI X gx tg (.Call (.Name "range" p) [a, b] [] pos) (mRng2 ma) :=
  pi_mono (pi_range2 hg hm ha hs hs2) fun σ H R ⟨H0, B, ρ, xs, r, e, k⟩ => by
    unfold mRng2 at e
    split at e
    · rename_i i j hj
      split at e
      · rename_i hc
        cases e
        refine ⟨H0, B, ρ, _, r, hj, fun vs B1 H1 g q => ?_⟩
        cases q with
        | cons q qq =>
          cases qq with
          | cons q2 qq =>
            cases qq
            rw [q.int_inv, q2.int_inv]
            exact ⟨i, j, rfl, ⟨by omega, by omega, by omega, by omega⟩, k _ B1 H1 g itr_ok⟩
      · cases e
    · cases e
end
/-! targets -/
def cG (K : PySem.W.Frag) (gx : Option (Addr × Value × Option Addr)) (mg : D → Slots → Option Slots) : TG := fun v σ H Q => ∃ H0 B ρ d ρ', Rl K gx H0 B H σ ρ ∧ Rp K B v d ∧ mg d ρ = some ρ' ∧ ∀ σ', Rl K gx H0 B H σ' ρ' → Q σ' H
abbrev RG (X : Cx) (gx : Option (Addr × Value × Option Addr)) (tg : Expr) (mg : D → Slots → Option Slots) : Prop := PG X tg (cG X.K gx mg)
def gN (i : Nat) : D → Slots → Option Slots := fun d ρ => some (ρ.set i (some (.d d)))
theorem rg_name {gx : Option (Addr × Value × Option Addr)} {X : Cx} {pos : Pos} {i : Nat} {x : Str} (hN : X.N.Nodup) (hi : X.N[i]? = some x := by rfl) (hx : Loc X.env.scope x := by first | exact Or.inl rfl | exact Or.inr rfl) (hf : X.fn x = true ∨ X.env.scope.names.lookup x = some .local := by first | exact .inl rfl | exact .inr rfl | assumption) : RG X gx (.Name x pos) (gN i) :=
  pg_mono (pg_name hN hi hx hf) fun v σ H Q ⟨H0, B, ρ, d, ρ', r, q, e, k⟩ => by
    cases e
    exact k _ (r.setD q)
/-! for -/
def forGo (mg : D → Slots → Option Slots) (b : MS) : List D → MS
  | [], ρ => .nx ρ
  | x :: xs, ρ => match mg x ρ with
    | none => .stuck
    | some ρ1 => match b ρ1 with
      | .nx ρ2 => forGo mg b xs ρ2
      | .cnt ρ2 => forGo mg b xs ρ2
      | .brk ρ2 => .nx ρ2
      | .ret s => .ret s
      | .stuck => .stuck
      | .exc x ρ2 => .exc x ρ2
def mFor (mi : Slots → Option (List D)) (mg : D → Slots → Option Slots) (b : MS) : MS := fun ρ => match mi ρ with | some xs => forGo mg b xs ρ | none => .stuck
theorem rs_for {gx : Option (Addr × Value × Option Addr)} {X : Cx} {W : WX} {tg iter : Expr} {body : List Stmt} {mi : Slots → Option (List D)} {mg : D → Slots → Option Slots} {b : MS} {pos : Pos} (hp : PassesOwn (model X.prog X.w) X.A X.env X.xe) (hc : X.calm = true) (hi : RI X gx tg iter mi) (hg : RG X gx tg mg) (hb : RSs X gx W body b)
    (hs : ∀ x, foldedSetIterable iter X.env x = pure x := by intro _; rfl) : RS X gx W (.For tg iter body [] pos) (mFor mi mg b) := by
  refine ps_mono (ps_for hp hc hi hg hb hs) fun Ds σ H ⟨B0, H0, B, ρ, g, r, k⟩ => ?_
  unfold mFor at k
  cases hm : mi ρ with
  | none => rw [hm] at k; exact k.elim
  | some xs =>
    rw [hm] at k
    have k : OutOk X.K gx B0 H0 B Ds W (forGo mg b xs ρ) := k
    refine ⟨H0, B, ρ, xs, r, hm, fun J B1 H1 g1 it => ?_⟩
    refine ⟨fun i m σ H => m = xs.length - i ∧ i ≤ xs.length ∧ ∃ B' ρ', Gr B0 H0 B' H ∧ Same B1 B' ∧ Rl X.K gx H0 B' H σ ρ' ∧ OutOk X.K gx B0 H0 B' Ds W (forGo mg b (xs.drop i) ρ'), ⟨xs.length, rfl, Nat.zero_le _, B1, ρ, g.trans g1, Same.refl _, r.grow g1, k.base g1.b⟩, ?_⟩
    rintro i m σ H ⟨rfl, hi, B', ρ', g', s', r', k'⟩
    by_cases hlt : i < xs.length
    · obtain ⟨d, hd⟩ : ∃ d, xs[i]? = some d := ⟨_, List.getElem?_eq_getElem hlt⟩
      obtain ⟨go, yl⟩ := (it i B' H s' r'.bh).1 d hd
      have ed : xs.drop i = d :: xs.drop (i + 1) := by
        rw [List.drop_eq_getElem_cons hlt]
        congr 1
        exact Option.some.inj ((List.getElem?_eq_getElem hlt).symm.trans hd)
      rw [ed] at k'
      refine .inr ⟨go, fun σ H => i + 1 ≤ xs.length ∧ ∃ B' ρ', Gr B0 H0 B' H ∧ Same B1 B' ∧ Rl X.K gx H0 B' H σ ρ' ∧ OutOk X.K gx B0 H0 B' Ds W (forGo mg b (xs.drop (i + 1)) ρ'), fun σ' H' h => ⟨xs.length - (i + 1), by omega, rfl, h⟩, fun x H' hy => ?_⟩
      obtain ⟨B2, g2, q2⟩ := yl x H' hy
      unfold forGo at k'
      cases hgd : mg d ρ' with
      | none => rw [hgd] at k'; exact k'.elim
      | some ρ1 =>
        rw [hgd] at k'
        refine ⟨H0, B2, ρ', d, ρ1, r'.grow g2, q2, hgd, fun σ1 r1 => ?_⟩
        refine ⟨B0, H0, B2, ρ1, g'.trans g2, r1, ?_⟩
        have k1 := OutOk.base g2.b k'
        simp only at k1
        cases hb1 : b ρ1 with
        | stuck => rw [hb1] at k1; exact k1.elim
        | nx ρ2 =>
          rw [hb1] at k1
          exact fun σ' B3 H3 g3 s3 r3 => ⟨hlt, B3, ρ2, g3, (s'.trans g2.b).trans s3, r3, OutOk.base s3 k1⟩
        | cnt ρ2 =>
          rw [hb1] at k1
          exact fun σ' B3 H3 g3 s3 r3 => ⟨hlt, B3, ρ2, g3, (s'.trans g2.b).trans s3, r3, OutOk.base s3 k1⟩
        | brk ρ2 =>
          rw [hb1] at k1
          exact fun σ' B3 H3 g3 s3 r3 => k1 σ' B3 H3 g3 s3 r3
        | ret s =>
          rw [hb1] at k1
          exact k1
        | exc x ρ2 =>
          rw [hb1] at k1
          exact k1
    · have e : i = xs.length := by omega
      subst e
      rw [List.drop_length] at k'
      exact .inl ⟨(it _ B' H s' r'.bh).2 (Nat.le_refl _), k' σ B' H g' (Same.refl _) r'⟩
/-! list comprehensions, the target a name -/
def lcGo (j : Nat) (mt : Slots → Option Bool) (me : ME) (ρ : Slots) : List D → Option (List D)
  | [] => some []
  | x :: xs => match mt (ρ.set j (some (.d x))) with
    | some true => (match me (ρ.set j (some (.d x))) with | some d => (match lcGo j mt me ρ xs with | some r => some (d :: r) | none => none) | none => none)
    | some false => lcGo j mt me ρ xs
    | none => none
def mLc (mi : Slots → Option (List D)) (j : Nat) (mt : Slots → Option Bool) (me : ME) : Slots → Option (List D) := fun ρ => match mi ρ with
  | some xs => if xs.length ≤ sizeLine then lcGo j mt me (ρ.set j none) xs else none
  | none => none
def mYes : Slots → Option Bool := fun _ => some true
theorem rts_nil {gx : Option (Addr × Value × Option Addr)} {X : Cx} : PTs X [] (cT X.K gx mYes) := ⟨fun pins s σ H Q I ⟨H0, B, ρ, b, r, e, k⟩ => pts_nil.run pins s σ H Q I (by cases e; exact k B H (Gr.refl r.bh))⟩
theorem tLc_c {gx : Option (Addr × Value × Option Addr)} {X : Cx} {mi : Slots → Option (List D)} {j : Nat} {mt : Slots → Option Bool} {me : ME} (σ : L2.St) (H : Hp) (Q : VK) (q : cF X.K gx (mLc mi j mt me) σ H Q) : tLc (cI X.K gx mi) (gName j) (cT X.K gx mt) (cE X.K gx me) [j] σ H Q := by
  obtain ⟨H0, B, ρ, out, r, e, k⟩ := q
  unfold mLc at e
  cases hm : mi ρ with
  | none => rw [hm] at e; cases e
  | some xs =>
    rw [hm] at e
    simp only at e
    split at e
    · rename_i hz
      refine ⟨H0, B, ρ, xs, r, hm, fun J B1 H1 g1 it Dl hD => ?_⟩
      refine ⟨fun i m H => m = xs.length - i ∧ i ≤ xs.length ∧ ∃ B' vs ds rs, Gr B1 H1 B' H ∧ B' Dl = none ∧ H Dl = some (.lst vs) ∧ Rps X.K B' vs ds ∧ ds.length ≤ i ∧ lcGo j mt me (ρ.set j none) (xs.drop i) = some rs ∧ ds ++ rs = out,
        ⟨xs.length, rfl, Nat.zero_le _, B1, [], [], out, Gr.newOwn g1.bh hD, g1.bh.free hD, upd_same, .nil, Nat.zero_le _, e, rfl⟩, ?_⟩
      rintro i m H ⟨rfl, hi, B', vs, ds, rs, g', hB, hH, rp, hl, hgo, hout⟩
      by_cases hlt : i < xs.length
      · obtain ⟨d, hd⟩ : ∃ d, xs[i]? = some d := ⟨_, List.getElem?_eq_getElem hlt⟩
        obtain ⟨go, yl⟩ := (it i B' H g'.b g'.bh).1 d hd
        have ed : xs.drop i = d :: xs.drop (i + 1) := by
          rw [List.drop_eq_getElem_cons hlt]
          congr 1
          exact Option.some.inj ((List.getElem?_eq_getElem hlt).symm.trans hd)
        rw [ed] at hgo
        unfold lcGo at hgo
        refine .inr ⟨go, fun H => i + 1 ≤ xs.length ∧ ∃ B' vs ds rs, Gr B1 H1 B' H ∧ B' Dl = none ∧ H Dl = some (.lst vs) ∧ Rps X.K B' vs ds ∧ ds.length ≤ i + 1 ∧ lcGo j mt me (ρ.set j none) (xs.drop (i + 1)) = some rs ∧ ds ++ rs = out, fun H' h => ⟨xs.length - (i + 1), by omega, rfl, h⟩, fun x H' hy => ?_⟩
        obtain ⟨B2, g2, q2⟩ := yl x H' hy
        have hB2 : B2 Dl = none := g2.nw Dl (by rw [hH]; simp) hB
        have hH2 : H' Dl = some (.lst vs) := g2.h _ _ hH
        have r2 : Rl X.K gx H0 B2 H' ((L2.wipe σ [j]).set j (some x)) ((ρ.set j none).set j (some (.d d))) := Rl.setD (((r.grow g1).grow (g'.trans g2)).wipe [j]) q2
        refine ⟨by show (((σ.set j none).set j (some x)).set j none) = σ.set j none; simp, ?_⟩
        cases ht : mt ((ρ.set j none).set j (some (.d d))) with
        | none => rw [ht] at hgo; cases hgo
        | some t =>
          rw [ht] at hgo
          refine ⟨H0, B2, _, t, r2, ht, fun B3 H3 g3 => ?_⟩
          have hB3 : B3 Dl = none := g3.nw Dl (by rw [hH2]; simp) hB2
          have hH3 : H3 Dl = some (.lst vs) := g3.h _ _ hH2
          cases t with
          | false => exact iteF ⟨hlt, B3, vs, ds, rs, (g'.trans g2).trans g3, hB3, hH3, rp.mono (g2.b.trans g3.b), by omega, hgo, hout⟩
          | true =>
            simp only at hgo
            cases he : me ((ρ.set j none).set j (some (.d d))) with
            | none => rw [he] at hgo; cases hgo
            | some y =>
              rw [he] at hgo
              simp only at hgo
              cases hr : lcGo j mt me (ρ.set j none) (xs.drop (i + 1)) with
              | none => rw [hr] at hgo; cases hgo
              | some rs' =>
                rw [hr] at hgo
                cases hgo
                refine iteT ⟨H0, B3, _, y, r2.grow g3, he, fun v B4 H4 g4 q4 => ⟨vs, g4.h _ _ hH3, by rw [rp.length]; omega, hlt, B4, vs ++ [v], ds ++ [y], rs', ?_, g4.nw Dl (by rw [hH3]; simp) hB3, upd_same, (rp.mono ((g2.b.trans g3.b).trans g4.b)).append (.one q4), by rw [List.length_append]; simp; omega, rfl, by rw [← hout]; simp⟩⟩
                have gg := ((g'.trans g2).trans g3).trans g4
                refine ⟨gg.b, fun b o e => ?_, fun b o e => ?_, gg.nw⟩
                · rw [upd_ne (ne_of_none e hD)]
                  exact gg.h _ _ e
                · rw [upd_ne (ne_of_none e (g4.nw Dl (by rw [hH3]; simp) hB3))]
                  exact gg.bh _ _ e
      · have ei : i = xs.length := by omega
        subst ei
        rw [List.drop_length] at hgo
        unfold lcGo at hgo
        cases hgo
        rw [List.append_nil] at hout
        subst hout
        exact .inl ⟨(it _ B' H g'.b g'.bh).2 (Nat.le_refl _), k Dl vs B' H (g1.trans g') (g1.h.free hD) hB hH rp⟩
    · cases e
section
variable {X : Cx} {elt iter : Expr} {ifs : List Expr} {scope : Scope} {pos : Pos} {mi : Slots → Option (List D)} {j : Nat} {mt : Slots → Option Bool} {me : ME} {x : Str} {p : Pos}
theorem rf_lc {gx : Option (Addr × Value × Option Addr)} (own : List (Str × Nat)) (ho : own = [(x, j)]) (hc : X.calm = true) (hN : X.N.Nodup) (hi : RI X gx (.Name x p) iter mi) (ok : BlkOk X.N X.env.scope scope own)
    (hg : ∀ (s : Shared) (H : Hp) (C : Addr) (cl : List (Str × Addr)) (fp : List Addr), PG (X.blk s H scope (compEnvC scope cl C X.env) fp) (.Name x p) (gName j)) (ht : ∀ (s : Shared) (H : Hp) (C : Addr) (cl : List (Str × Addr)) (fp : List Addr), PTs (X.blk s H scope (compEnvC scope cl C X.env) fp) ifs (cT X.K gx mt))
    (he : ∀ (s : Shared) (H : Hp) (C : Addr) (cl : List (Str × Addr)) (fp : List Addr), PE (X.blk s H scope (compEnvC scope cl C X.env) fp) elt (cE X.K gx me)) (hs : ∀ x, foldedSetIterable iter X.env x = pure x := by intro _; rfl) :
    RF X gx (.ListComp elt [⟨.Name x p, iter, ifs, 0⟩] scope pos) (mLc mi j mt me) := by
  have h := pe_lc hc hN hi ok hg ht he hs (pos := pos)
  subst ho
  exact pe_mono h tLc_c
theorem rs_setLc {gx : Option (Addr × Value × Option Addr)} {W : WX} {i : Nat} {y : Str} {py spos : Pos} (own : List (Str × Nat)) (ho : own = [(x, j)]) (hc : X.calm = true) (hN : X.N.Nodup) (hy : X.N[i]? = some y) (hyl : X.env.scope.names.lookup y = some .local)
    (hsw : swapsWith (.ListComp elt [⟨.Name x p, iter, ifs, 0⟩] scope pos) (some (.Name y py)) spos.line X.env = pure true) (hi : RI X gx (.Name x p) iter mi) (ok : BlkOk X.N X.env.scope scope own)
    (hg : ∀ (s : Shared) (H : Hp) (C : Addr) (cl : List (Str × Addr)) (fp : List Addr), PG (X.blk s H scope (compEnvC scope cl C X.env) fp) (.Name x p) (gName j)) (ht : ∀ (s : Shared) (H : Hp) (C : Addr) (cl : List (Str × Addr)) (fp : List Addr), PTs (X.blk s H scope (compEnvC scope cl C X.env) fp) ifs (cT X.K gx mt))
    (he : ∀ (s : Shared) (H : Hp) (C : Addr) (cl : List (Str × Addr)) (fp : List Addr), PE (X.blk s H scope (compEnvC scope cl C X.env) fp) elt (cE X.K gx me)) (hs : ∀ x, foldedSetIterable iter X.env x = pure x := by intro _; rfl) :
    RS X gx W (.Assign [.Name y py] (.ListComp elt [⟨.Name x p, iter, ifs, 0⟩] scope pos) spos) (mSetF i (mLc mi j mt me)) := by
  have h := ps_setLc hc hN hy hyl hsw hi ok hg ht he hs
  subst ho
  refine ps_mono h fun Ds σ H ⟨B0, H0, B, ρ, g, r, k⟩ => ?_
  unfold mSetF at k
  cases hm : mLc mi j mt me ρ with
  | none => rw [hm] at k; exact k.elim
  | some d =>
    rw [hm] at k
    refine tLc_c _ _ _ ⟨H0, B, ρ, d, r, hm, fun l vs B' H' g' h1 h2 h3 h4 => k _ B' H' (g.trans g') g'.b ((r.grow g').setO (g.h.free h1) h2 h3 ⟨vs, rfl, h4⟩ fun j o' hj hr hs => ?_)⟩
    obtain ⟨l', ho, p1, p2, p3, p4, p5⟩ := r.own j o' hr
    rw [hs] at p1
    cases p1
    rw [h1] at p4
    cases p4
end
/-! calls -/
def spR (K : PySem.W.Frag) (g : List D → Option Sl) : Sp := fun vs H Q _ => ∃ B ds s, Same B H ∧ Rps K B vs ds ∧ g ds = some s ∧ ∀ v B' H', Gr B H B' H' → RetOk K H B' H' v s → Q v H'
def slD : Sl → Option D
  | .d d => some d
  | .own (.lst xs) => some (.lst xs)
  | .own (.ins _ c ns ds) => some (.ins c ns ds)
  | .own (.dct _) => none
  | .xc _ => none
def mCall (g : List D → Option Sl) (ma : Slots → Option (List D)) : ME := fun ρ => match ma ρ with | some ds => (match g ds with | some s => slD s | none => none) | none => none
def mCallF (g : List D → Option Sl) (ma : Slots → Option (List D)) : Slots → Option (List D) := fun ρ => match ma ρ with | some ds => (match g ds with | some (.own (.lst xs)) => some xs | _ => none) | none => none
section
variable {X : Cx} {k : Nat} {f : Addr} {fd : FuncData} {ps : List Str} {x : Str} {p pos : Pos} {e : Expr} {es : List Expr} {ma : Slots → Option (List D)} {g : List D → Option Sl}
theorem re_call {gx : Option (Addr × Value × Option Addr)} (F : FnOk X.prog X.w X.K X.mg X.base CX0 k f fd ps (spR X.K g)) (hr : Room k X.A) (hg : Gl X x) (hm : X.mg x = some (.ref f)) (hk : PySem.W.keepIn X.K (.ref f) = true) (hb : Binds X.K fd ps []) 
    (ha : RA X gx (e :: es) ma) (hdb : (x == ("__debug__" : Str)) = false := by decide) (he : starEach (e :: es) X.env = (false, eval e X.env) :: starEach es X.env := by rfl) (hpl : (backTo pos (starEach es X.env)).any (·.1) = false := by rfl) :
    RE X gx (.Call (.Name x p) (e :: es) [] pos) (mCall g ma) := by
  refine pe_mono (pe_call (dvs := []) (E := E0) F hr hg hm hk hb .nil pass0 ha hdb he hpl) fun σ H Q ⟨H0, B, ρ, d, r, e, k⟩ => ?_
  unfold mCall at e
  cases h1 : ma ρ with
  | none => rw [h1] at e; cases e
  | some ds =>
    rw [h1] at e
    simp only at e
    cases h2 : g ds with
    | none => rw [h2] at e; cases e
    | some s =>
      rw [h2] at e
      refine ⟨H0, B, ρ, ds, r, h1, fun vs B1 H1 g1 r1 => ?_⟩
      refine ⟨B1, ds, s, g1.bh, by rw [List.append_nil]; exact r1, h2, fun v B2 H2 g2 ro => ?_⟩
      cases s with
      | d d =>
        cases e
        exact k v B2 H2 (g1.trans g2) ro
      | own o =>
        cases o with
        | lst xs =>
          cases e
          obtain ⟨l, ho, e1, q1, q2, q3, vs', e2, q4⟩ := ro
          subst e1 e2
          exact k _ _ _ (g1.trans (g2.freeze q1 q2 q3)) (.lst upd_same (q4.mono (same_upd q2)))
        | ins x c ns ds =>
          cases e
          obtain ⟨l, ho, e1, q1, q2, q3, _, C, dx, vs', q0, e2, q5, q4⟩ := ro
          subst e1 e2
          exact k _ _ _ (g1.trans (g2.freeze q1 q2 q3)) (.ins q0 upd_same q5 (q4.mono (same_upd q2)))
        | dct kvs => cases e
      | xc _ => cases e
theorem rf_call {gx : Option (Addr × Value × Option Addr)} (F : FnOk X.prog X.w X.K X.mg X.base CX0 k f fd ps (spR X.K g)) (hr : Room k X.A) (hg : Gl X x) (hm : X.mg x = some (.ref f)) (hk : PySem.W.keepIn X.K (.ref f) = true) (hb : Binds X.K fd ps []) 
    (ha : RA X gx (e :: es) ma) (hdb : (x == ("__debug__" : Str)) = false := by decide) (he : starEach (e :: es) X.env = (false, eval e X.env) :: starEach es X.env := by rfl) (hpl : (backTo pos (starEach es X.env)).any (·.1) = false := by rfl) :
    RF X gx (.Call (.Name x p) (e :: es) [] pos) (mCallF g ma) := by
  refine pe_mono (pe_call (dvs := []) (E := E0) F hr hg hm hk hb .nil pass0 ha hdb he hpl) fun σ H Q ⟨H0, B, ρ, d, r, e, k⟩ => ?_
  unfold mCallF at e
  cases h1 : ma ρ with
  | none => rw [h1] at e; cases e
  | some ds =>
    rw [h1] at e
    simp only at e
    split at e
    · rename_i xs h2
      cases e
      refine ⟨H0, B, ρ, ds, r, h1, fun vs B1 H1 g1 r1 => ?_⟩
      refine ⟨B1, ds, _, g1.bh, by rw [List.append_nil]; exact r1, h2, fun v B2 H2 g2 ro => ?_⟩
      obtain ⟨l, ho, e1, q1, q2, q3, vs', e2, q4⟩ := ro
      subst e1 e2
      exact k _ _ _ _ (g1.trans g2) (g1.h.free q1) q2 q3 q4
    · cases e
end
/-! a def keeps its promise -/
def envOf (n : Nat) (ds : List D) : Slots := (ds.map fun d => some (Sl.d d)) ++ List.replicate (n - ds.length) none
def fin : Out → Option Sl
  | .ret s => some s
  | .nx _ => some (.d .non)
  | _ => none
def gOf (n a : Nat) (m : MS) : List D → Option Sl := fun ds => if ds.length = a then fin (m (envOf n ds)) else none
theorem rl_start {gx : Option (Addr × Value × Option Addr)} {K : PySem.W.Frag} {B H : Hp} {N : List Str} {vs : List V} {ds : List D} (e : Same B H) (r : Rps K B vs ds) : Rl K gx H B H (L2.start N vs) (envOf N.length ds) := by
  have hl := r.length
  unfold L2.start envOf
  refine ⟨e, by simp [hl], fun i d h => ?_, fun i o h => ?_, fun i j o o' l _ h => ?_, fun i o h => ?_⟩
  · rw [List.getElem?_append] at h ⊢
    rw [List.length_map] at h ⊢
    by_cases hi : i < ds.length
    · rw [if_pos hi, List.getElem?_map, List.getElem?_eq_getElem hi] at h
      obtain ⟨v, h1, h2⟩ := r.get (List.getElem?_eq_getElem hi)
      rw [if_pos (by omega), List.getElem?_map, h1]
      have e1 : ds[i] = d := by
        simp at h
        exact h
      rw [e1] at h2
      exact ⟨v, rfl, h2⟩
    · rw [if_neg hi] at h
      have := List.getElem?_eq_some_iff.mp h
      obtain ⟨_, h⟩ := this
      simp at h
  · rw [List.getElem?_append] at h
    split at h
    · rw [List.getElem?_map] at h
      cases hd : ds[i]? with
      | none => rw [hd] at h; cases h
      | some d => rw [hd] at h; cases h
    · obtain ⟨_, h⟩ := List.getElem?_eq_some_iff.mp h
      simp at h
  · rw [List.getElem?_append] at h
    split at h
    · rw [List.getElem?_map] at h
      cases hd : ds[i]? with
      | none => rw [hd] at h; cases h
      | some d => rw [hd] at h; cases h
    · obtain ⟨_, h⟩ := List.getElem?_eq_some_iff.mp h
      simp at h
  · rw [List.getElem?_append] at h
    split at h
    · rw [List.getElem?_map] at h
      cases hd : ds[i]? with
      | none => rw [hd] at h; cases h
      | some d => rw [hd] at h; cases h
    · obtain ⟨_, h⟩ := List.getElem?_eq_some_iff.mp h
      simp at h
theorem fn_ok {P : Program} {w : World} {K : PySem.W.Frag} {mg : Str → Option Value} {base : Heap} {x qual : Str} {st : Stmt} {f : Addr} {fd : FuncData} {N ps : List Str} {k : Nat} {m : MS} (F : Fun K x qual st f fd) (S : FnScope N ps (defScope st))
    (hbody : ∀ (cdv : Value) (A : Around) (outer : List Env) (s : Shared) (H : Hp) (E : XK), Room k (A.deeper (envOfC qual (defScope st) s.heap.objs.size f cdv)) →
      RSs (cxOf CX0 P w K mg base N qual (defScope st) f cdv A outer s H E).nox none (fun _ _ _ _ => False) (defBody st) m) : FnOk P w K mg base CX0 (k + 1) f fd ps (spR K (gOf N.length ps.length m)) := by
  refine F.ok S (fun vs H Q E h => ?_) (fun cdv A outer s H vs Q E hr h => ?_)
  · obtain ⟨B, ds, s, _, r, e, _⟩ := h
    unfold gOf at e
    split at e
    · rw [r.length]; assumption
    · cases e
  · obtain ⟨B, ds, sl, e, r, hg, kk⟩ := h
    refine ⟨_, hbody cdv A outer s H E hr, B, H, B, envOf N.length ds, Gr.refl e, rl_start e r, ?_⟩
    unfold gOf at hg
    split at hg
    · have hK : (cxOf CX0 P w K mg base N qual (defScope st) f cdv A outer s H E).nox.K = K := rfl
      cases hm : m (envOf N.length ds) with
      | stuck => rw [hm] at hg; cases hg
      | brk _ => rw [hm] at hg; cases hg
      | cnt _ => rw [hm] at hg; cases hg
      | exc _ _ => rw [hm] at hg; cases hg
      | nx ρ' =>
        rw [hm] at hg
        cases hg
        exact fun σ' B' H' g' _ r' => kk .non B' H' g' .non
      | ret s' =>
        rw [hm] at hg
        cases hg
        exact fun v B' H' g' ro => kk v B' H' g' ro
    · cases hg
end R
/-! R7: calls by name, dict displays, written dicts -/
namespace R
open PySem PySem.Spec PyProof.Rows L2

/-- the def x keeps g, by level k -/
structure Cl (P : Program) (w : World) (K : PySem.W.Frag) (mg : Str → Option Value) (base : Heap) (x : Str) (k : Nat) (ps : List Str) (g : List D → Option Sl) : Prop where
  ex : ∃ f fd, FnOk P w K mg base CX0 k f fd ps (spR K g) ∧ mg x = some (.ref f) ∧ PySem.W.keepIn K (.ref f) = true ∧ Binds K fd ps []
section
variable {X : Cx} {k : Nat} {ps : List Str} {x : Str} {p pos : Pos} {e : Expr} {es : List Expr} {ma : Slots → Option (List D)} {g : List D → Option Sl}
theorem re_cl {gx : Option (Addr × Value × Option Addr)} (C : Cl X.prog X.w X.K X.mg X.base x k ps g) (hr : Room k X.A) (hg : Gl X x) (ha : RA X gx (e :: es) ma) (hdb : (x == ("__debug__" : Str)) = false := by decide) (he : starEach (e :: es) X.env = (false, eval e X.env) :: starEach es X.env := by rfl) (hpl : (backTo pos (starEach es X.env)).any (·.1) = false := by rfl) :
    RE X gx (.Call (.Name x p) (e :: es) [] pos) (mCall g ma) := by
  obtain ⟨f, fd, F, hm, hk, hb⟩ := C.ex
  exact re_call F hr hg hm hk hb ha hdb he hpl
theorem rf_cl {gx : Option (Addr × Value × Option Addr)} (C : Cl X.prog X.w X.K X.mg X.base x k ps g) (hr : Room k X.A) (hg : Gl X x) (ha : RA X gx (e :: es) ma) (hdb : (x == ("__debug__" : Str)) = false := by decide) (he : starEach (e :: es) X.env = (false, eval e X.env) :: starEach es X.env := by rfl) (hpl : (backTo pos (starEach es X.env)).any (·.1) = false := by rfl) :
    RF X gx (.Call (.Name x p) (e :: es) [] pos) (mCallF g ma) := by
  obtain ⟨f, fd, F, hm, hk, hb⟩ := C.ex
  exact rf_call F hr hg hm hk hb ha hdb he hpl
end
/-! {k: v, ..}: written keys that differ -/
def mPairs : List (ME × ME) → Slots → Option (List (D × D))
  | [], _ => some []
  | (a, b) :: r, ρ => match a ρ with
    | some k => (match b ρ with | some v => (match mPairs r ρ with | some ps => some ((k, v) :: ps) | none => none) | none => none)
    | none => none
def keysOf : List (D × D) → Option (List Key)
  | [] => some []
  | (k, _) :: r => match keyOf k with | some x => (match keysOf r with | some xs => some (x :: xs) | none => none) | none => none
def mDict (ps : List (ME × ME)) : ME := fun ρ => match mPairs ps ρ with
  | some kvs => (match keysOf kvs with | some ks => if ks.Nodup ∧ kvs.length ≤ 15 then some (.dct ks (kvs.map (·.2))) else none | none => none)
  | none => none
inductive Rpp (K : PySem.W.Frag) (B : Hp) : List (V × V) → List (D × D) → Prop
  | nil : Rpp K B [] []
  | cons {p : V × V} {ps : List (V × V)} {d : D × D} {ds : List (D × D)} : Rp K B p.1 d.1 → Rp K B p.2 d.2 → Rpp K B ps ds → Rpp K B (p :: ps) (d :: ds)
def trsOf (K : PySem.W.Frag) (gx : Option (Addr × Value × Option Addr)) (ps : List (ME × ME)) : List (TE × TE) := ps.map fun p => (cE K gx p.1, cE K gx p.2)
theorem tPairs_c {gx : Option (Addr × Value × Option Addr)} {K : PySem.W.Frag} {σ : L2.St} {H0 : Hp} {ρ : Slots} : ∀ {ps : List (ME × ME)} {ds : List (D × D)} {B H : Hp} {Q : List (V × V) → Hp → Prop}, Rl K gx H0 B H σ ρ → mPairs ps ρ = some ds → (∀ vs B' H', Gr B H B' H' → Rpp K B' vs ds → Q vs H') → tPairs (trsOf K gx ps) σ H Q
  | [], _, B, H, Q, r, e, k => by
    cases e
    exact k [] B H (Gr.refl r.bh) .nil
  | (a, b) :: ps, ds, B, H, Q, r, e, k => by
    unfold mPairs at e
    cases h1 : a ρ with
    | none => rw [h1] at e; cases e
    | some x =>
      cases h2 : b ρ with
      | none => rw [h1, h2] at e; cases e
      | some y =>
        cases h3 : mPairs ps ρ with
        | none => rw [h1, h2, h3] at e; cases e
        | some zs =>
          rw [h1, h2, h3] at e
          cases e
          refine ⟨H0, B, ρ, x, r, h1, fun v B1 H1 g1 q1 => ⟨H0, B1, ρ, y, r.grow g1, h2, fun u B2 H2 g2 q2 => ?_⟩⟩
          exact tPairs_c (r.grow (g1.trans g2)) h3 fun vs B3 H3 g3 q3 => k _ B3 H3 ((g1.trans g2).trans g3) (.cons (q1.mono (g2.b.trans g3.b)) (q2.mono g3.b) q3)
theorem keysOf_ok {K : PySem.W.Frag} {B : Hp} : ∀ {vs : List (V × V)} {ds : List (D × D)} {ks : List Key}, Rpp K B vs ds → keysOf ds = some ks → vs = ((ks.zip (vs.map (·.2))).map fun (kv : Key × V) => (kV kv.1, kv.2)) ∧ ks.length = vs.length ∧ Rps K B (vs.map (·.2)) (ds.map (·.2))
  | _, _, _, .nil, e => by
    cases e
    exact ⟨rfl, rfl, .nil⟩
  | _, _, _, .cons (p := p) (d := d) h1 h2 hs, e => by
    obtain ⟨d1, d2⟩ := d
    unfold keysOf at e
    cases hk : keyOf d1 with
    | none => rw [hk] at e; cases e
    | some k =>
      rw [hk] at e
      simp only at e
      cases hr : keysOf _ with
      | none => rw [hr] at e; cases e
      | some kk =>
        rw [hr] at e
        cases e
        obtain ⟨i1, i2, i3⟩ := keysOf_ok hs hr
        have ek := keyOf_ok (H := B) (.inl h1) hk
        refine ⟨?_, by simp [i2], .cons h2 i3⟩
        rw [List.map_cons, List.zip_cons_cons, List.map_cons, ← i1]
        congr 1
        exact Prod.ext ek rfl
theorem merge_nodup : ∀ (kvs acc : List (Key × V)), (∀ p ∈ acc, p.1 ∉ kvs.map (·.1)) → (kvs.map (·.1)).Nodup → mergeK acc kvs = acc ++ kvs
  | [], acc, _, _ => by simp [mergeK]
  | p :: r, acc, h, nd => by
    have hp : (acc.any fun kv => decide (kv.1 = p.1)) = false := by
      rw [List.any_eq_false]
      intro q hq
      have := h q hq
      simp only [decide_eq_true_eq]
      intro z
      exact this (by rw [z]; exact List.mem_map_of_mem List.mem_cons_self)
    show mergeK (putK acc p.1 p.2) r = _
    have e : putK acc p.1 p.2 = acc ++ [p] := by
      unfold putK
      rw [hp]
      simp
    rw [e, merge_nodup r (acc ++ [p]) (fun q hq => ?_) (List.nodup_cons.mp nd).2]
    · simp
    · rcases List.mem_append.mp hq with hq | hq
      · exact fun z => h q hq (List.mem_cons_of_mem _ z)
      · have : q = p := by simpa using hq
        subst this
        exact (List.nodup_cons.mp nd).1
theorem re_dict {gx : Option (Addr × Value × Option Addr)} {X : Cx} {pos : Pos} {keys : List (Option Expr)} {values : List Expr} {ps : List (ME × ME)} (h : PPs X pos keys values (trsOf X.K gx ps)) (hall : keys.all (·.isSome) = true := by rfl) (hl : keys.length = values.length := by rfl) (h0 : keys ≠ [] := by intro z; cases z)
    (h15 : keys.length ≤ 15 := by decide) : RE X gx (.Dict keys values pos) (mDict ps) := by
  refine pe_mono (pe_disp h hall hl h0 h15) fun σ H Q ⟨H0, B, ρ, d, r, e, k⟩ => ?_
  unfold mDict at e
  cases h1 : mPairs ps ρ with
  | none => rw [h1] at e; cases e
  | some kvs =>
    rw [h1] at e
    simp only at e
    cases h2 : keysOf kvs with
    | none => rw [h2] at e; cases e
    | some ks =>
      rw [h2] at e
      simp only at e
      split at e
      · rename_i hc
        cases e
        intro p hp
        have g0 : Gr B H B (upd H p (.dK [])) := Gr.newOwn r.bh hp
        refine tPairs_c (r.grow g0) h1 fun vs B1 H1 g1 q1 => ?_
        obtain ⟨i1, i2, i3⟩ := keysOf_ok q1 h2
        have hp1 : H1 p = some (.dK []) := g1.h _ _ upd_same
        have hb1 : B1 p = none := g1.nw p (by rw [upd_same]; simp) (r.bh.free hp)
        refine ⟨hp1, ks.zip (vs.map (·.2)), i1, ?_, ?_⟩
        · have e1 : kvs.length = vs.length := by
            have := i3.length
            simpa using this.symm
          rw [List.length_zip, List.length_map]
          omega
        · have em : mergeK [] (ks.zip (vs.map (·.2))) = ks.zip (vs.map (·.2)) := by
            have ez : (ks.zip (vs.map (·.2))).map (·.1) = ks := List.map_fst_zip (by rw [List.length_map]; omega)
            have := merge_nodup (ks.zip (vs.map (·.2))) [] (fun q hq => by cases hq) (by rw [ez]; exact hc.1)
            simpa using this
          rw [em]
          have gg := g0.trans g1
          refine k _ (upd B1 p (.dK (ks.zip (vs.map (·.2))))) _ ⟨gg.b.trans (same_upd hb1), fun b o eb => ?_, Same.upd2 gg.bh, fun a ha hb => ?_⟩ (.dct upd_same (i3.mono (same_upd hb1)))
          · rw [upd_ne (ne_of_none eb hp)]
            exact gg.h _ _ eb
          · have : a ≠ p := fun z => ha (z ▸ hp)
            rw [upd_ne this]
            exact gg.nw a ha hb
      · cases e
theorem rpp_nil {gx : Option (Addr × Value × Option Addr)} {X : Cx} {pos : Pos} : PPs X pos [] [] (trsOf X.K gx []) := pps_nil
theorem rpp_cons {gx : Option (Addr × Value × Option Addr)} {X : Cx} {pos : Pos} {k v : Expr} {ks : List (Option Expr)} {vs : List Expr} {mk mv : ME} {ps : List (ME × ME)} (hk : RE X gx k mk) (hv : RE X gx v mv) (hr : PPs X pos ks vs (trsOf X.K gx ps)) :
    PPs X pos (some k :: ks) (v :: vs) (trsOf X.K gx ((mk, mv) :: ps)) := pps_cons hk hv hr
/-! a dict that the top has written: text keys, int values -/
structure GD (K : PySem.W.Frag) (w : World) (d : Addr) (kvs : List (List Nat × Int)) : Prop where
  kd : ∃ es n, KDict K w d es n
  at_ : ∀ z : List Nat, ∃ r, PySem.W.nsIn K d ⟨z.toArray⟩ = some r ∧ (match kvs.lookup z with | none => r = none | some i => ∃ t, r = some (.int i t))
def fGIn (kvs : List (List Nat × Int)) (neg : Bool) : D → Option D
  | .str z => some (.bl (if neg then !(kvs.lookup z).isSome else (kvs.lookup z).isSome))
  | _ => none
def fGIx (kvs : List (List Nat × Int)) : D → Option D
  | .str z => (match kvs.lookup z with | some i => some (.int i) | none => none)
  | _ => none
def m1 (f : D → Option D) (m : ME) : ME := fun ρ => match m ρ with | some d => f d | none => none
section
variable {X : Cx} {a : Expr} {ma : ME} {pos p : Pos} {d : Addr} {kvs : List (List Nat × Int)} {x : Str}
theorem isSome_of {r : Option Value} {o : Option Int} (h : match o with | none => r = none | some i => ∃ t, r = some (.int i t)) : r.isSome = o.isSome := by
  cases o with
  | none => simp only at h; rw [h]; rfl
  | some i => obtain ⟨t, h⟩ := h; rw [h]; rfl
theorem re_gnotin {gx : Option (Addr × Value × Option Addr)} (G : GD X.K X.w d kvs) (hg : Gl X x) (hm : X.mg x = some (.ref d)) (ha : RE X gx a ma) (hdb : (x == ("__debug__" : Str)) = false := by decide) : RE X gx (.Compare a [.NotIn] [.Name x p] pos) (m1 (fGIn kvs true) ma) := by
  obtain ⟨es, n, KD⟩ := G.kd
  refine pe_mono (pe_cmpR (op_notIn_kd KD) ha (pe_glob (v := .ref d) hg hm rfl hdb) rfl) fun σ H Q ⟨H0, B, ρ, c, r, e, k⟩ => ?_
  unfold m1 at e
  split at e
  · rename_i dd hd
    unfold fGIn at e
    split at e
    · rename_i z
      cases e
      refine ⟨H0, B, ρ, _, r, hd, fun v B1 H1 g1 q => ?_⟩
      obtain ⟨rr, h1, h2⟩ := G.at_ z
      refine ⟨_, rr, q.str_inv, rfl, h1, ?_⟩
      rw [isSome_of h2]
      exact k _ B1 H1 g1 (.bl _)
    · cases e
  · cases e
theorem rt_gnotin {gx : Option (Addr × Value × Option Addr)} (G : GD X.K X.w d kvs) (hg : Gl X x) (hm : X.mg x = some (.ref d)) (ha : RE X gx a ma) (hdb : (x == ("__debug__" : Str)) = false := by decide) : RT X gx (.Compare a [.NotIn] [.Name x p] pos) (mT (m1 (fGIn kvs true) ma)) := by
  obtain ⟨es, n, KD⟩ := G.kd
  refine pt_mono (pt_cmpR (op_notIn_kd KD) ha (pe_glob (v := .ref d) hg hm rfl hdb) rfl) (tTest_c fun σ H Q ⟨H0, B, ρ, c, r, e, k⟩ => ?_)
  unfold m1 at e
  split at e
  · rename_i dd hd
    unfold fGIn at e
    split at e
    · rename_i z
      cases e
      refine ⟨H0, B, ρ, _, r, hd, fun v B1 H1 g1 q => ?_⟩
      obtain ⟨rr, h1, h2⟩ := G.at_ z
      refine ⟨_, rr, q.str_inv, rfl, h1, ?_⟩
      rw [isSome_of h2]
      exact k _ B1 H1 g1 (.bl _)
    · cases e
  · cases e
theorem ix_kd {es : Array DictEntry} {n : Nat} (D : KDict X.K X.w d es n) : IxR X (fun x y H Q => ∃ (z : Str) (u0 : Value) (v0 : V), x = .ref d ∧ y = .str z ∧ PySem.W.nsIn X.K d z = some (some u0) ∧ RelV v0 u0 ∧ Q v0 H) := by
  intro value slice pins s σ H x y v u Q I rx ry h hs
  have h2 := op_item_kd D pins s σ H x y v u Q I rx ry h
  obtain ⟨z, u0, v0, rfl, rfl, e, r, q⟩ := h
  cases rx
  exact tail_any (kd_type D I) PySem.F.slot_dict_getitem.lookup h2 hs
theorem re_gix {gx : Option (Addr × Value × Option Addr)} (G : GD X.K X.w d kvs) (hg : Gl X x) (hm : X.mg x = some (.ref d)) (ha : RE X gx a ma) (hdb : (x == ("__debug__" : Str)) = false := by decide) (hs : PlainIx a := by intro _ _; rfl) : RE X gx (.Subscript (.Name x p) a pos) (m1 (fGIx kvs) ma) := by
  obtain ⟨es, n, KD⟩ := G.kd
  refine pe_mono (pe_ix (ix_kd KD) (pe_glob (v := .ref d) hg hm rfl hdb) ha hs) fun σ H Q ⟨H0, B, ρ, c, r, e, k⟩ => ?_
  unfold m1 at e
  split at e
  · rename_i dd hd
    unfold fGIx at e
    split at e
    · rename_i z
      split at e
      · rename_i i hi
        cases e
        refine ⟨H0, B, ρ, _, r, hd, fun v B1 H1 g1 q => ?_⟩
        obtain ⟨rr, h1, h2⟩ := G.at_ z
        rw [hi] at h2
        obtain ⟨t, h2⟩ := h2
        subst h2
        exact ⟨_, _, .int i, rfl, q.str_inv, h1, ⟨t, rfl⟩, k _ B1 H1 g1 (.int _)⟩
      · cases e
    · cases e
  · cases e
end
end R
namespace R
open PySem PySem.Spec PyProof.Rows L2
/-- the entries of a written dict -/
def EntOk (w : World) : List DictEntry → List (List Nat × Int) → Prop
  | [], [] => True
  | e :: r, (k, i) :: s => (∃ x t, e.key = .str x t ∧ e.hash = PyData.keyHash w.params x ∧ x = ⟨k.toArray⟩) ∧ (∃ t, e.val = .int i t) ∧ EntOk w r s
  | _, _ => False
theorem EntOk.lit {w : World} : ∀ {es : List DictEntry} {kvs : List (List Nat × Int)}, EntOk w es kvs → PySem.W.KeysLit w.params es
  | [], [], _ => trivial
  | _ :: _, (_, _) :: _, ⟨⟨x, t, h1, h2, _⟩, _, h⟩ => ⟨⟨x, t, h1, h2⟩, h.lit⟩
theorem EntOk.find {w : World} (z : List Nat) : ∀ {es : List DictEntry} {kvs : List (List Nat × Int)}, EntOk w es kvs → match kvs.lookup z with | none => es.find? (·.key.isStr ⟨z.toArray⟩) = none | some i => ∃ e t, es.find? (·.key.isStr ⟨z.toArray⟩) = some e ∧ e.val = .int i t
  | [], [], _ => rfl
  | e :: r, (k, i) :: s, ⟨⟨x, t, h1, h2, h3⟩, ⟨t', h4⟩, h⟩ => by
    have ih := h.find z
    have hk : e.key.isStr ⟨z.toArray⟩ = decide (k = z) := by
      rw [h1, h3]
      show ((⟨k.toArray⟩ : Str) == ⟨z.toArray⟩) = _
      rw [Bool.beq_eq_decide_eq]
      exact decide_eq_decide.mpr sinj
    rw [List.find?_cons, List.lookup_cons, hk]
    by_cases c : k = z
    · have : (z == k) = true := by rw [c]; exact beq_self_eq_true _
      rw [this, decide_eq_true c]
      exact ⟨e, t', rfl, h4⟩
    · have : (z == k) = false := beq_eq_false_iff_ne.mpr fun q => c q.symm
      rw [this, decide_eq_false c]
      exact ih
theorem gd_mk {K : PySem.W.Frag} {w : World} {d : Addr} {es : Array DictEntry} {n : Nat} {kvs : List (List Nat × Int)} (h : K.lookup d = some ⟨.type "dict", none, .dict es n, #[]⟩) (he : EntOk w es.toList kvs) (hl : (d == sysModules) = false) : GD K w d kvs where
  kd := ⟨es, n, h, he.lit, hl⟩
  at_ := fun z => by
    have f := he.find z
    have hr : es.toList.any (·.refKey) = false := by
      rw [List.any_eq_false]
      intro e hm
      obtain ⟨x, t, h1, _⟩ := he.lit.all e hm
      unfold DictEntry.refKey
      rw [h1]
      simp
    unfold PySem.W.nsIn
    rw [h]
    cases hk : kvs.lookup z with
    | none =>
      rw [hk] at f
      simp only at f
      simp only [f, hr]
      exact ⟨none, rfl, rfl⟩
    | some i =>
      rw [hk] at f
      obtain ⟨e, t, f1, f2⟩ := f
      simp only [f1]
      exact ⟨_, rfl, t, by rw [f2]⟩
end R
/-! R8: mirrors, their loops -/
namespace R
open PySem L2
theorem forGo_inv {mg : D → Slots → Option Slots} {b : MS} (P : List D → Slots → Prop) : ∀ (xs pre : List D) (ρ : Slots), P pre ρ → (∀ pre x post ρ, pre ++ x :: post = pre ++ x :: post → P pre ρ → x ∈ xs → ∃ ρ1 ρ2, mg x ρ = some ρ1 ∧ (b ρ1 = .nx ρ2 ∨ b ρ1 = .cnt ρ2) ∧ P (pre ++ [x]) ρ2) → ∃ ρ', forGo mg b xs ρ = .nx ρ' ∧ P (pre ++ xs) ρ'
  | [], pre, ρ, h, _ => ⟨ρ, rfl, by rw [List.append_nil]; exact h⟩
  | x :: xs, pre, ρ, h, hs => by
    obtain ⟨ρ1, ρ2, h1, h2, h3⟩ := hs pre x xs ρ rfl h List.mem_cons_self
    obtain ⟨ρ', h4, h5⟩ := forGo_inv P xs (pre ++ [x]) ρ2 h3 (fun pre y post ρ e hp hy => hs pre y post ρ e hp (List.mem_cons_of_mem _ hy))
    refine ⟨ρ', ?_, by simpa using h5⟩
    unfold forGo
    rw [h1]
    rcases h2 with h2 | h2 <;> simp only [h2, h4]
/-- a loop that goes through, with what holds between its turns -/
theorem for_thru {mg : D → Slots → Option Slots} {b : MS} {xs : List D} {ρ : Slots} (P : Slots → Prop) (h0 : P ρ) (hs : ∀ x ρ, x ∈ xs → P ρ → ∃ ρ1 ρ2, mg x ρ = some ρ1 ∧ b ρ1 = .nx ρ2 ∧ P ρ2) : ∃ ρ', forGo mg b xs ρ = .nx ρ' ∧ P ρ' := by
  obtain ⟨ρ', h1, h2⟩ := forGo_inv (fun _ => P) xs [] ρ h0 (fun pre x post ρ _ hp hx => by
    obtain ⟨ρ1, ρ2, q1, q2, q3⟩ := hs x ρ hx hp
    exact ⟨ρ1, ρ2, q1, .inl q2, q3⟩)
  exact ⟨ρ', h1, h2⟩
theorem for_acc {mg : D → Slots → Option Slots} {b : MS} {xs : List D} {ρ : Slots} (P : List D → Slots → Prop) (h0 : P [] ρ) (hs : ∀ pre x ρ, x ∈ xs → P pre ρ → ∃ ρ1 ρ2, mg x ρ = some ρ1 ∧ b ρ1 = .nx ρ2 ∧ P (pre ++ [x]) ρ2) : ∃ ρ', forGo mg b xs ρ = .nx ρ' ∧ P xs ρ' := by
  obtain ⟨ρ', h1, h2⟩ := forGo_inv P xs [] ρ h0 (fun pre x post ρ _ hp hx => by
    obtain ⟨ρ1, ρ2, q1, q2, q3⟩ := hs pre x ρ hx hp
    exact ⟨ρ1, ρ2, q1, .inl q2, q3⟩)
  exact ⟨ρ', h1, by simpa using h2⟩
/-- by the number of the turn -/
theorem for_ix {mg : D → Slots → Option Slots} {b : MS} {ρ : Slots} (P : Nat → Slots → Prop) : ∀ (xs : List D) (k : Nat) (ρ : Slots), P k ρ → (∀ i x ρ, xs[i]? = some x → P (k + i) ρ → ∃ ρ1 ρ2, mg x ρ = some ρ1 ∧ b ρ1 = .nx ρ2 ∧ P (k + i + 1) ρ2) → ∃ ρ', forGo mg b xs ρ = .nx ρ' ∧ P (k + xs.length) ρ'
  | [], k, ρ, h, _ => ⟨ρ, rfl, h⟩
  | x :: xs, k, ρ, h, hs => by
    obtain ⟨ρ1, ρ2, h1, h2, h3⟩ := hs 0 x ρ rfl h
    obtain ⟨ρ', h4, h5⟩ := for_ix (ρ := ρ) P xs (k + 1) ρ2 h3 (fun i y ρ e hp => by
      have := hs (i + 1) y ρ (by simpa using e) (by rw [show k + (i + 1) = k + 1 + i by omega]; exact hp)
      rw [show k + 1 + i + 1 = k + (i + 1) + 1 by omega]
      exact this)
    refine ⟨ρ', ?_, by rw [List.length_cons, show k + (xs.length + 1) = k + 1 + xs.length by omega]; exact h5⟩
    unfold forGo
    simp only [h1, h2, h4]
/-- a loop that is left by a return at some item -/
theorem for_ret {mg : D → Slots → Option Slots} {b : MS} {s : Sl} (P : Slots → Prop) : ∀ (pre : List D) (x : D) (post : List D) (ρ : Slots), P ρ → (∀ y ρ, y ∈ pre → P ρ → ∃ ρ1 ρ2, mg y ρ = some ρ1 ∧ b ρ1 = .nx ρ2 ∧ P ρ2) → (∀ ρ, P ρ → ∃ ρ1, mg x ρ = some ρ1 ∧ b ρ1 = .ret s) → forGo mg b (pre ++ x :: post) ρ = .ret s
  | [], x, post, ρ, h, _, hx => by
    obtain ⟨ρ1, h1, h2⟩ := hx ρ h
    show forGo mg b (x :: post) ρ = _
    unfold forGo
    simp only [h1, h2]
  | y :: pre, x, post, ρ, h, hy, hx => by
    obtain ⟨ρ1, ρ2, h1, h2, h3⟩ := hy y ρ List.mem_cons_self h
    show forGo mg b (y :: (pre ++ x :: post)) ρ = _
    unfold forGo
    simp only [h1, h2]
    exact for_ret P pre x post ρ2 h3 (fun z ρ hz => hy z ρ (List.mem_cons_of_mem _ hz)) hx
/-- the first item that fails a test -/
theorem first_bad {α : Type} (p : α → Bool) : ∀ xs : List α, xs.all p = false → ∃ pre x post, xs = pre ++ x :: post ∧ (∀ y ∈ pre, p y = true) ∧ p x = false
  | [], h => by cases h
  | x :: xs, h => by
    cases hx : p x with
    | false => exact ⟨[], x, xs, rfl, fun _ h => (by cases h), hx⟩
    | true =>
      rw [List.all_cons, hx, Bool.true_and] at h
      obtain ⟨pre, y, post, h1, h2, h3⟩ := first_bad p xs h
      exact ⟨x :: pre, y, post, by rw [h1]; rfl, fun z hz => by
        rcases List.mem_cons.mp hz with e | hz
        · rw [e]; exact hx
        · exact h2 z hz, h3⟩
/-- comprehensions -/
theorem lc_map {j : Nat} {me : ME} {ρ : Slots} (f : D → D) : ∀ xs : List D, (∀ x ∈ xs, me (ρ.set j (some (.d x))) = some (f x)) → lcGo j mYes me ρ xs = some (xs.map f)
  | [], _ => rfl
  | x :: xs, h => by
    unfold lcGo
    have h1 := h x List.mem_cons_self
    have h2 := lc_map f xs fun y hy => h y (List.mem_cons_of_mem _ hy)
    simp only [mYes, h1, h2, List.map_cons]
theorem lc_filter {j : Nat} {mt : Slots → Option Bool} {me : ME} {ρ : Slots} (p : D → Bool) (f : D → D) : ∀ xs : List D, (∀ x ∈ xs, mt (ρ.set j (some (.d x))) = some (p x)) → (∀ x ∈ xs, p x = true → me (ρ.set j (some (.d x))) = some (f x)) → lcGo j mt me ρ xs = some ((xs.filter p).map f)
  | [], _, _ => rfl
  | x :: xs, h, h' => by
    unfold lcGo
    have h1 := h x List.mem_cons_self
    have h2 := lc_filter p f xs (fun y hy => h y (List.mem_cons_of_mem _ hy)) (fun y hy => h' y (List.mem_cons_of_mem _ hy))
    rw [h1]
    cases hp : p x with
    | true =>
      have h3 := h' x List.mem_cons_self hp
      simp only [h3, h2, List.filter_cons, hp, if_true, List.map_cons]
    | false => simp only [h2, List.filter_cons, hp, if_false, Bool.false_eq_true]
theorem seq_nx {a b : MS} {ρ ρ' : Slots} (h : a ρ = .nx ρ') : mSeq a b ρ = b ρ' := by unfold mSeq; rw [h]
theorem seq_ret {a b : MS} {ρ : Slots} {s : Sl} (h : a ρ = .ret s) : mSeq a b ρ = .ret s := by unfold mSeq; rw [h]
theorem set_eq {i : Nat} {m : ME} {ρ : Slots} {d : D} (h : m ρ = some d) : mSet i m ρ = .nx (ρ.set i (some (.d d))) := by unfold mSet; rw [h]
theorem setF_eq {i : Nat} {m : Slots → Option (List D)} {ρ : Slots} {d : List D} (h : m ρ = some d) : mSetF i m ρ = .nx (ρ.set i (some (.own (.lst d)))) := by unfold mSetF; rw [h]
theorem ret_eq {m : ME} {ρ : Slots} {d : D} (h : m ρ = some d) : mRet m ρ = .ret (.d d) := by unfold mRet; rw [h]
theorem if_tt {c : Slots → Option Bool} {a b : MS} {ρ : Slots} (h : c ρ = some true) : mIf c a b ρ = a ρ := by unfold mIf; rw [h]
theorem if_ff {c : Slots → Option Bool} {a b : MS} {ρ : Slots} (h : c ρ = some false) : mIf c a b ρ = b ρ := by unfold mIf; rw [h]
theorem for_eq {mi : Slots → Option (List D)} {mg : D → Slots → Option Slots} {b : MS} {ρ : Slots} {xs : List D} (h : mi ρ = some xs) : mFor mi mg b ρ = forGo mg b xs ρ := by unfold mFor; rw [h]
theorem call_eq {g : List D → Option Sl} {ma : Slots → Option (List D)} {ρ : Slots} {ds : List D} {s : Sl} (h : ma ρ = some ds) (hg : g ds = some s) : mCall g ma ρ = slD s := by unfold mCall; rw [h]; simp only [hg]
theorem cons_eq {a : ME} {r : Slots → Option (List D)} {ρ : Slots} {d : D} {ds : List D} (h : a ρ = some d) (hr : r ρ = some ds) : mCons a r ρ = some (d :: ds) := by unfold mCons; rw [h, hr]
theorem m2_eq {f : D → D → Option D} {a b : ME} {ρ : Slots} {x y z : D} (h : a ρ = some x) (h' : b ρ = some y) (hf : f x y = some z) : m2 f a b ρ = some z := by unfold m2; rw [h, h']; exact hf
theorem gOf_eq {n a : Nat} {m : MS} {ds : List D} {s : Sl} (h : ds.length = a) (hm : m (R.envOf n ds) = .ret s) : gOf n a m ds = some s := by unfold gOf; rw [if_pos h, hm]; rfl
theorem sl_ok (n : Nat) (h : n ≤ 100000) : n ≤ sizeLine := Nat.le_trans h (by decide)
end R
/-! R9: how a mirror is worked out, from the front -/
namespace R
open PySem L2
def bindO (o : Out) (b : MS) : Out := match o with | .nx ρ => b ρ | o => o
def ifO (c : Option Bool) (a b : MS) (ρ : Slots) : Out := match c with | some true => a ρ | some false => b ρ | none => .stuck
def setO (i : Nat) (d : Option D) (ρ : Slots) : Out := match d with | some d => .nx (ρ.set i (some (.d d))) | none => .stuck
def setFO (i : Nat) (d : Option (List D)) (ρ : Slots) : Out := match d with | some d => .nx (ρ.set i (some (.own (.lst d)))) | none => .stuck
def retO (d : Option D) : Out := match d with | some d => .ret (.d d) | none => .stuck
def retFO (d : Option (List D)) : Out := match d with | some d => .ret (.own (.lst d)) | none => .stuck
def retS (d : Option (Option Sl)) : Out := match d with | some (some (.d d)) => .ret (.d d) | some (some (.own o)) => .ret (.own o) | _ => .stuck
def appO (i : Nat) (s : Option (Option Sl)) (d : Option D) (ρ : Slots) : Out := match s with
  | some (some (.own (.lst xs))) => (match d with | some d => if xs.length < sizeLine then .nx (ρ.set i (some (.own (.lst (xs ++ [d]))))) else .stuck | none => .stuck)
  | _ => .stuck
def forO (xs : Option (List D)) (mg : D → Slots → Option Slots) (b : MS) (ρ : Slots) : Out := match xs with | some xs => forGo mg b xs ρ | none => .stuck
def parO (i j : Nat) (ds : Option (List D)) (ρ : Slots) : Out := match ds with | some [a, b] => .nx ((ρ.set i (some (.d a))).set j (some (.d b))) | _ => .stuck
def varO (s : Option (Option Sl)) : Option D := match s with | some (some (.d d)) => some d | _ => none
def borO (s : Option (Option Sl)) : Option D := match s with | some (some (.d d)) => some d | some (some (.own (.lst xs))) => some (.lst xs) | _ => none
def o2 (f : D → D → Option D) (a b : Option D) : Option D := match a with | some a => (match b with | some b => f a b | none => none) | none => none
def o1 (f : D → Option D) (a : Option D) : Option D := match a with | some a => f a | none => none
def oL (f : List D → Option D) (a : Option (List D)) : Option D := match a with | some a => f a | none => none
def oLF (f : List D → Option (List D)) (a : Option (List D)) : Option (List D) := match a with | some a => f a | none => none
def oCons (a : Option D) (r : Option (List D)) : Option (List D) := match a with | some d => (match r with | some ds => some (d :: ds) | none => none) | none => none
def oT (a : Option D) : Option Bool := match a with | some (.bl b) => some b | _ => none
def oAnd (s : Option Bool) (t : Slots → Option Bool) (ρ : Slots) : Option Bool := match s with | some true => t ρ | some false => some false | none => none
def oOr (s : Option Bool) (t : Slots → Option Bool) (ρ : Slots) : Option Bool := match s with | some true => some true | some false => t ρ | none => none
def oNot (s : Option Bool) : Option Bool := match s with | some b => some (!b) | none => none
def oAndV (s : Option D) (t : ME) (ρ : Slots) : Option D := match s with | some (.bl true) => t ρ | some (.bl false) => some (.bl false) | _ => none
def oOrV (s : Option D) (t : ME) (ρ : Slots) : Option D := match s with | some (.bl true) => some (.bl true) | some (.bl false) => t ρ | _ => none
def oNotV (s : Option D) : Option D := match s with | some (.bl b) => some (.bl (!b)) | _ => none
def oNeg (s : Option D) : Option D := match s with | some (.int i) => some (.int (-i)) | _ => none
def oIf (c : Option Bool) (a b : ME) (ρ : Slots) : Option D := match c with | some true => a ρ | some false => b ρ | none => none
def oChain (s : Option D) (f : D → D → Option D) (b c : ME) (ρ : Slots) : Option D := match s with | some (.bl true) => o2 f (b ρ) (c ρ) | some (.bl false) => some (.bl false) | _ => none
def oTup (a : Option (List D)) : Option D := match a with | some ds => if ds.length ≤ sizeLine then some (.tup ds) else none | none => none
def oLst (a : Option (List D)) : Option (List D) := match a with | some ds => if ds.length ≤ sizeLine then some ds else none | none => none
def oF (a : Option (List D)) : Option D := match a with | some xs => some (.lst xs) | none => none
def oPart (a : Option D) : Option (Option Int) := match a with | some (.int i) => some (some i) | _ => none
def oSl (a : Option D) (l h : Option (Option Int)) : Option D := match a with | some d => (match l with | some lo => (match h with | some hi => fSl d lo hi | none => none) | none => none) | none => none
def oCall (g : List D → Option Sl) (a : Option (List D)) : Option D := match a with | some ds => (match g ds with | some s => slD s | none => none) | none => none
def oCallF (g : List D → Option Sl) (a : Option (List D)) : Option (List D) := match a with | some ds => (match g ds with | some (.own (.lst xs)) => some xs | _ => none) | none => none
def oMt (f : List Nat → List D → Option D) (o : Option D) (a : Option (List D)) : Option D := match o with | some (.str x) => (match a with | some ds => f x ds | none => none) | _ => none
def oItems (a : Option D) : Option (List D) := match a with | some d => itemsOf d | none => none
def oRng1 (a : Option (List D)) : Option (List D) := match a with | some [.int j] => if -4000000000000000000 ≤ j ∧ j < 4000000000000000000 then some (rngD 0 j.toNat) else none | _ => none
def oRng2 (a : Option (List D)) : Option (List D) := match a with | some [.int i, .int j] => if -4000000000000000000 ≤ i ∧ i < 4000000000000000000 ∧ -4000000000000000000 ≤ j ∧ j < 4000000000000000000 then some (rngD i (j - i).toNat) else none | _ => none
def oLc (xs : Option (List D)) (j : Nat) (mt : Slots → Option Bool) (me : ME) (ρ : Slots) : Option (List D) := match xs with | some xs => if xs.length ≤ sizeLine then lcGo j mt me (ρ.set j none) xs else none | none => none
def oGOf (n a : Nat) (m : MS) (ds : List D) : Option Sl := R.fin (m (R.envOf n ds))
section
variable {a b : MS} {ρ : Slots} {i j : Nat} {m ma mb mc : ME} {mf : Slots → Option (List D)} {s t : Slots → Option Bool} {f f' : D → D → Option D} {g : D → Slots → Option Slots}
theorem r_seq : mSeq a b ρ = bindO (a ρ) b := by unfold mSeq bindO; cases a ρ <;> rfl
theorem r_if : mIf s a b ρ = ifO (s ρ) a b ρ := id rfl
theorem r_set : mSet i m ρ = setO i (m ρ) ρ := id rfl
theorem r_setF : mSetF i mf ρ = setFO i (mf ρ) ρ := id rfl
theorem r_ret : mRet m ρ = retO (m ρ) := id rfl
theorem r_retF : mRetF mf ρ = retFO (mf ρ) := id rfl
theorem r_retO : mRetO i ρ = retS ρ[i]? := id rfl
theorem r_app : mApp i m ρ = appO i ρ[i]? (m ρ) ρ := id rfl
theorem r_for : mFor mf g b ρ = forO (mf ρ) g b ρ := id rfl
theorem r_par : mPar i j mf ρ = parO i j (mf ρ) ρ := id rfl
theorem r_next : mNext ρ = .nx ρ := id rfl
theorem r_fz : mFz i a ρ = a (frz i ρ) := id rfl
theorem r_var : mVar i ρ = varO ρ[i]? := id rfl
theorem r_bor : mBor i ρ = borO ρ[i]? := id rfl
theorem r_c {d : D} : mC d ρ = some d := id rfl
theorem r_2 : m2 f ma mb ρ = o2 f (ma ρ) (mb ρ) := id rfl
theorem r_1 {f : D → Option D} : m1 f ma ρ = o1 f (ma ρ) := id rfl
theorem r_cb {f : List D → Option D} : mCB f mf ρ = oL f (mf ρ) := id rfl
theorem r_cf {f : List D → Option (List D)} : mCF f mf ρ = oLF f (mf ρ) := id rfl
theorem r_nil : mNil ρ = some [] := id rfl
theorem r_cons : mCons m mf ρ = oCons (m ρ) (mf ρ) := id rfl
theorem r_t : mT m ρ = oT (m ρ) := id rfl
theorem r_and : mAnd s t ρ = oAnd (s ρ) t ρ := id rfl
theorem r_or : mOr s t ρ = oOr (s ρ) t ρ := id rfl
theorem r_not : mNot s ρ = oNot (s ρ) := id rfl
theorem r_andV : mAndV ma mb ρ = oAndV (ma ρ) mb ρ := id rfl
theorem r_orV : mOrV ma mb ρ = oOrV (ma ρ) mb ρ := id rfl
theorem r_notV : mNotV ma ρ = oNotV (ma ρ) := id rfl
theorem r_neg : mNeg ma ρ = oNeg (ma ρ) := id rfl
theorem r_ife : mIfE s ma mb ρ = oIf (s ρ) ma mb ρ := id rfl
theorem r_chain : mChain f f' ma mb mc ρ = oChain (o2 f (ma ρ) (mb ρ)) f' mb mc ρ := id rfl
theorem r_tup : mTup mf ρ = oTup (mf ρ) := id rfl
theorem r_lst : mLst mf ρ = oLst (mf ρ) := id rfl
theorem r_f : mF mf ρ = oF (mf ρ) := id rfl
theorem r_no : mNo ρ = some none := id rfl
theorem r_part : mPart m ρ = oPart (m ρ) := id rfl
theorem r_sl {l h : Slots → Option (Option Int)} : mSl m l h ρ = oSl (m ρ) (l ρ) (h ρ) := id rfl
theorem r_call {g : List D → Option Sl} : mCall g mf ρ = oCall g (mf ρ) := id rfl
theorem r_callF {g : List D → Option Sl} : mCallF g mf ρ = oCallF g (mf ρ) := id rfl
theorem r_mt {f : List Nat → List D → Option D} : mMt f m mf ρ = oMt f (m ρ) (mf ρ) := id rfl
theorem r_items : mItems m ρ = oItems (m ρ) := id rfl
theorem r_rng1 : mRng1 mf ρ = oRng1 (mf ρ) := id rfl
theorem r_rng2 : mRng2 mf ρ = oRng2 (mf ρ) := id rfl
theorem r_lc : mLc mf j s m ρ = oLc (mf ρ) j s m ρ := id rfl
theorem r_yes : mYes ρ = some true := id rfl
theorem r_g {n k : Nat} {ds : List D} (h : ds.length = k) : gOf n k a ds = R.fin (a (R.envOf n ds)) := by unfold gOf; rw [if_pos h]
theorem r_g1 {n : Nat} {x : D} : gOf n 1 a [x] = R.fin (a (R.envOf n [x])) := id rfl
theorem r_g2 {n : Nat} {x y : D} : gOf n 2 a [x, y] = R.fin (a (R.envOf n [x, y])) := id rfl
theorem r_g3 {n : Nat} {x y z : D} : gOf n 3 a [x, y, z] = R.fin (a (R.envOf n [x, y, z])) := id rfl
theorem r_g4 {n : Nat} {x y z u : D} : gOf n 4 a [x, y, z, u] = R.fin (a (R.envOf n [x, y, z, u])) := id rfl
theorem r_gN {d : D} : gN i d ρ = some (ρ.set i (some (.d d))) := id rfl
end
section
variable {a b : MS} {ρ ρ' : Slots} {i j : Nat} {d e : D} {s : Sl} {c : Bool} {ds : List D} {f : D → D → Option D} {g : D → Slots → Option Slots} {tt : Slots → Option Bool} {m m' : ME}
theorem b_nx : bindO (.nx ρ) b = b ρ := id rfl
theorem b_ret : bindO (.ret s) b = .ret s := id rfl
theorem b_brk : bindO (.brk ρ) b = .brk ρ := id rfl
theorem b_cnt : bindO (.cnt ρ) b = .cnt ρ := id rfl
theorem i_t : ifO (some true) a b ρ = a ρ := id rfl
theorem i_f : ifO (some false) a b ρ = b ρ := id rfl
theorem v_set : setO i (some d) ρ = .nx (ρ.set i (some (.d d))) := id rfl
theorem v_setF : setFO i (some ds) ρ = .nx (ρ.set i (some (.own (.lst ds)))) := id rfl
theorem v_ret : retO (some d) = .ret (.d d) := id rfl
theorem v_retF : retFO (some ds) = .ret (.own (.lst ds)) := id rfl
theorem v_retS : retS (some (some (.d d))) = .ret (.d d) := id rfl
theorem v_retSo {o : MO} : retS (some (some (.own o))) = .ret (.own o) := id rfl
theorem v_app {xs : List D} : appO i (some (some (.own (.lst xs)))) (some d) ρ = if xs.length < sizeLine then .nx (ρ.set i (some (.own (.lst (xs ++ [d]))))) else .stuck := id rfl
theorem v_for : forO (some ds) g b ρ = forGo g b ds ρ := id rfl
theorem v_par : parO i j (some [d, e]) ρ = .nx ((ρ.set i (some (.d d))).set j (some (.d e))) := id rfl
theorem v_var : varO (some (some (.d d))) = some d := id rfl
theorem v_bor : borO (some (some (.d d))) = some d := id rfl
theorem v_borO {xs : List D} : borO (some (some (.own (.lst xs)))) = some (.lst xs) := id rfl
theorem v_2 : o2 f (some d) (some e) = f d e := id rfl
theorem v_1 {f : D → Option D} : o1 f (some d) = f d := id rfl
theorem v_L {f : List D → Option D} : oL f (some ds) = f ds := id rfl
theorem v_LF {f : List D → Option (List D)} : oLF f (some ds) = f ds := id rfl
theorem v_cons : oCons (some d) (some ds) = some (d :: ds) := id rfl
theorem v_t : oT (some (.bl c)) = some c := id rfl
theorem v_andT : oAnd (some true) tt ρ = tt ρ := id rfl
theorem v_andF : oAnd (some false) tt ρ = some false := id rfl
theorem v_orT : oOr (some true) tt ρ = some true := id rfl
theorem v_orF : oOr (some false) tt ρ = tt ρ := id rfl
theorem v_not : oNot (some c) = some (!c) := id rfl
theorem v_andVT : oAndV (some (.bl true)) m ρ = m ρ := id rfl
theorem v_andVF : oAndV (some (.bl false)) m ρ = some (.bl false) := id rfl
theorem v_orVT : oOrV (some (.bl true)) m ρ = some (.bl true) := id rfl
theorem v_orVF : oOrV (some (.bl false)) m ρ = m ρ := id rfl
theorem v_notV : oNotV (some (.bl c)) = some (.bl (!c)) := id rfl
theorem v_neg {k : Int} : oNeg (some (.int k)) = some (.int (-k)) := id rfl
theorem v_ifT : oIf (some true) m m' ρ = m ρ := id rfl
theorem v_ifF : oIf (some false) m m' ρ = m' ρ := id rfl
theorem v_chT : oChain (some (.bl true)) f m m' ρ = o2 f (m ρ) (m' ρ) := id rfl
theorem v_chF : oChain (some (.bl false)) f m m' ρ = some (.bl false) := id rfl
theorem v_tup : oTup (some ds) = if ds.length ≤ sizeLine then some (.tup ds) else none := id rfl
theorem v_lst : oLst (some ds) = if ds.length ≤ sizeLine then some ds else none := id rfl
theorem v_f : oF (some ds) = some (.lst ds) := id rfl
theorem v_part {k : Int} : oPart (some (.int k)) = some (some k) := id rfl
theorem v_sl {l h : Option Int} : oSl (some d) (some l) (some h) = fSl d l h := id rfl
theorem v_call {g : List D → Option Sl} (h : g ds = some s) : oCall g (some ds) = slD s := by unfold oCall; simp only [h]
theorem v_callF {g : List D → Option Sl} {xs : List D} (h : g ds = some (.own (.lst xs))) : oCallF g (some ds) = some xs := by unfold oCallF; simp only [h]
theorem v_mt {f : List Nat → List D → Option D} {x : List Nat} : oMt f (some (.str x)) (some ds) = f x ds := id rfl
theorem v_items : oItems (some d) = itemsOf d := id rfl
theorem v_rng1 {k : Int} : oRng1 (some [.int k]) = if -4000000000000000000 ≤ k ∧ k < 4000000000000000000 then some (rngD 0 k.toNat) else none := id rfl
theorem v_lc : oLc (some ds) j tt m ρ = if ds.length ≤ sizeLine then lcGo j tt m (ρ.set j none) ds else none := id rfl
theorem it_str {cs : List Nat} : itemsOf (.str cs) = some (cs.map fun c => .str [c]) := id rfl
theorem it_lst : itemsOf (.lst ds) = some ds := id rfl
theorem it_lsk : itemsOf (.lsk ds) = some ds := id rfl
theorem it_tup : itemsOf (.tup ds) = some ds := id rfl
theorem f_ret : R.fin (.ret s) = some s := id rfl
theorem f_nx : R.fin (.nx ρ) = some (.d .non) := id rfl
theorem sd_d : slD (.d d) = some d := id rfl
theorem sd_o {xs : List D} : slD (.own (.lst xs)) = some (.lst xs) := id rfl
theorem sl_simp {n : Nat} (h : n ≤ 100000) : (n ≤ sizeLine) = True := eq_true (sl_ok n h)
theorem sl_lt {n : Nat} (h : n < 100000) : (n < sizeLine) = True := eq_true (Nat.lt_of_lt_of_le h (by decide))
theorem at0 {α : Type} (a : α) (r : List α) : atI (a :: r) 0 = some a := atI_nat (j := 0) rfl
theorem at1 {α : Type} (a b : α) (r : List α) : atI (a :: b :: r) 1 = some b := atI_nat (j := 1) rfl
theorem at2 {α : Type} (a b c : α) (r : List α) : atI (a :: b :: c :: r) 2 = some c := atI_nat (j := 2) rfl
theorem at3 {α : Type} (a b c d : α) (r : List α) : atI (a :: b :: c :: d :: r) 3 = some d := atI_nat (j := 3) rfl
theorem at4 {α : Type} (a b c d e : α) (r : List α) : atI (a :: b :: c :: d :: e :: r) 4 = some e := atI_nat (j := 4) rfl
theorem atl3 {α : Type} (a b c : α) : atI [a, b, c] (-1) = some c := id rfl
theorem atl4 {α : Type} (a b c d : α) : atI [a, b, c, d] (-1) = some d := id rfl
theorem S_inj {a b : String} : S a = S b ↔ a = b := by
  constructor
  · intro h
    unfold S at h
    have inj : ∀ (x y : List Char), x.map Char.toNat = y.map Char.toNat → x = y := by
      intro x
      induction x with
      | nil => intro y h; cases y with
        | nil => rfl
        | cons _ _ => cases h
      | cons c r ih => intro y h; cases y with
        | nil => cases h
        | cons d s =>
          rw [List.map_cons, List.map_cons] at h
          injection h with h1 h2
          have : c = d := Char.ext (UInt32.toNat_inj.mp h1)
          rw [this, ih s h2]
    have := inj _ _ h
    exact String.toList_inj.mp this
  · rintro rfl; rfl
theorem fEq_str (a b : List Nat) : fEq (.str a) (.str b) = some (.bl (decide (a = b))) := id rfl
theorem fNe_str (a b : List Nat) : fNe (.str a) (.str b) = some (.bl (!decide (a = b))) := id rfl
theorem fEq_int (a b : Int) : fEq (.int a) (.int b) = some (.bl (decide (a = b))) := id rfl
theorem fNe_int (a b : Int) : fNe (.int a) (.int b) = some (.bl (!decide (a = b))) := id rfl
theorem fEq_bl (a b : Bool) : fEq (.bl a) (.bl b) = some (.bl (decide (a = b))) := id rfl
theorem fNe_non_str (b : List Nat) : fNe .non (.str b) = some (.bl true) := id rfl
theorem dS (a b : String) : decide (S a = S b) = decide (a = b) := decide_eq_decide.mpr S_inj
theorem fCmp_int {p : Int → Int → Bool} (a b : Int) : fCmp p (.int a) (.int b) = some (.bl (p a b)) := id rfl
theorem fAdd_int (a b : Int) : fAdd (.int a) (.int b) = some (.int (a + b)) := id rfl
theorem fSub_int (a b : Int) : fSub (.int a) (.int b) = some (.int (a - b)) := id rfl
theorem fAdd_str {a b : List Nat} (h : a.length + b.length ≤ 100000) : fAdd (.str a) (.str b) = some (.str (a ++ b)) := if_pos (sl_ok _ h)
theorem fAdd_tup {a b : List D} (h : a.length + b.length ≤ 100000) : fAdd (.tup a) (.tup b) = some (.tup (a ++ b)) := if_pos (sl_ok _ h)
theorem fAdd_lst {a b : List D} (h : a.length + b.length ≤ 100000) : fAdd (.lst a) (.lst b) = some (.lst (a ++ b)) := if_pos (sl_ok _ h)
theorem fInt_int (a : Int) : fInt [.int a] = some (.int a) := id rfl
theorem fLen_str {a : List Nat} (h : a.length ≤ 100000) : fLen [.str a] = some (.int a.length) := if_pos (sl_ok _ h)
theorem fLen_lst {a : List D} : fLen [.lst a] = some (.int a.length) := id rfl
theorem fLen_lsk {a : List D} : fLen [.lsk a] = some (.int a.length) := id rfl
theorem fLen_tup {a : List D} : fLen [.tup a] = some (.int a.length) := id rfl
theorem fIx_tup {xs : List D} {k : Int} : fIx (.tup xs) (.int k) = atI xs k := id rfl
theorem fIx_lst {xs : List D} {k : Int} : fIx (.lst xs) (.int k) = atI xs k := id rfl
theorem fIx_lsk {xs : List D} {k : Int} : fIx (.lsk xs) (.int k) = atI xs k := id rfl
theorem fIx_str {xs : List Nat} {k : Int} {c : Nat} (h : xs.length ≤ 100000) (hc : atI xs k = some c) : fIx (.str xs) (.int k) = some (.str [c]) := by
  show (if xs.length ≤ sizeLine then (match atI xs k with | some c => some (D.str [c]) | none => none) else none) = _
  rw [if_pos (sl_ok _ h), hc]
end
end R
/-! Q1: while, targets that are tuples, more that is walked, any, all, xs[i] = v -/
namespace R
open PySem PySem.Spec PyProof.Rows L2
def whGo (c : Slots → Option Bool) (b : MS) : Nat → Slots → Option Out
  | 0, _ => none
  | n + 1, ρ => match c ρ with
    | none => some .stuck
    | some false => some (.nx ρ)
    | some true => match b ρ with
      | .nx ρ' => whGo c b n ρ'
      | .cnt ρ' => whGo c b n ρ'
      | .brk ρ' => some (.nx ρ')
      | .ret s => some (.ret s)
      | .exc x ρ' => some (.exc x ρ')
      | .stuck => some .stuck
open Classical in
noncomputable def mWhile (c : Slots → Option Bool) (b : MS) : MS := fun ρ => if h : ∃ n, ∃ o, whGo c b n ρ = some o then choose (choose_spec h) else .stuck
theorem wh_mono {c : Slots → Option Bool} {b : MS} : ∀ {n : Nat} {ρ : Slots} {o : Out} (k : Nat), whGo c b n ρ = some o → whGo c b (n + k) ρ = some o
  | 0, _, _, _, h => by cases h
  | n + 1, ρ, o, k, h => by
    rw [show n + 1 + k = n + k + 1 by omega]
    unfold whGo at h ⊢
    cases hc : c ρ with
    | none => rw [hc] at h; exact h
    | some t =>
      rw [hc] at h
      cases t with
      | false => exact h
      | true =>
        simp only at h ⊢
        cases hb : b ρ with
        | nx ρ' => rw [hb] at h; exact wh_mono k h
        | cnt ρ' => rw [hb] at h; exact wh_mono k h
        | brk _ => rw [hb] at h; exact h
        | ret _ => rw [hb] at h; exact h
        | exc _ _ => rw [hb] at h; exact h
        | stuck => rw [hb] at h; exact h
theorem wh_det {c : Slots → Option Bool} {b : MS} {n m : Nat} {ρ : Slots} {o o' : Out} (h : whGo c b n ρ = some o) (h' : whGo c b m ρ = some o') : o = o' := by
  have h1 := wh_mono m h
  have h2 := wh_mono n h'
  rw [Nat.add_comm] at h2
  rw [h1] at h2
  exact Option.some.inj h2
theorem while_eq {c : Slots → Option Bool} {b : MS} {n : Nat} {ρ : Slots} {o : Out} (h : whGo c b n ρ = some o) : mWhile c b ρ = o := by
  unfold mWhile
  rw [dif_pos ⟨n, o, h⟩]
  exact wh_det (Classical.choose_spec (Classical.choose_spec (⟨n, o, h⟩ : ∃ n, ∃ o, whGo c b n ρ = some o))) h
theorem while_ex {c : Slots → Option Bool} {b : MS} {ρ : Slots} (h : mWhile c b ρ ≠ .stuck) : ∃ n, whGo c b n ρ = some (mWhile c b ρ) := by
  by_cases e : ∃ n, ∃ o, whGo c b n ρ = some o
  · obtain ⟨n, o, e⟩ := e
    exact ⟨n, by rw [while_eq e]; exact e⟩
  · exfalso
    apply h
    unfold mWhile
    rw [dif_neg e]
theorem rs_while {gx : Option (Addr × Value × Option Addr)} {X : Cx} {W : WX} {c : Expr} {body : List Stmt} {mc : Slots → Option Bool} {b : MS} {pos : Pos} (hp : PassesOwn (model X.prog X.w) X.A X.env X.xe) (hc : RT X gx c mc) (hb : RSs X gx W body b) : RS X gx W (.While c body [] pos) (mWhile mc b) := by
  refine ps_mono (ps_while hp hc hb) fun Ds σ H ⟨B0, H0, B, ρ, g, r, k⟩ => ?_
  obtain ⟨n, hn⟩ := while_ex (c := mc) (b := b) (ρ := ρ) (fun z => by rw [z] at k; exact k)
  generalize mWhile mc b ρ = o at k hn
  refine ⟨fun m σ H => ∃ B' ρ', Gr B0 H0 B' H ∧ Same B B' ∧ Rl X.K gx H0 B' H σ ρ' ∧ whGo mc b m ρ' = some o, ⟨n, B, ρ, g, Same.refl _, r, hn⟩, ?_⟩
  rintro m σ H ⟨B', ρ', g', s', r', hw⟩
  cases m with
  | zero => cases hw
  | succ m =>
    unfold whGo at hw
    cases ht : mc ρ' with
    | none =>
      rw [ht] at hw
      cases hw
      exact k.elim
    | some t =>
      rw [ht] at hw
      refine ⟨H0, B', ρ', t, r', ht, fun B1 H1 g1 => ?_⟩
      cases t with
      | false =>
        cases hw
        exact iteF (k σ B1 H1 (g'.trans g1) (s'.trans g1.b) (r'.grow g1))
      | true =>
        refine iteT ⟨fun σ H => ∃ B' ρ', Gr B0 H0 B' H ∧ Same B B' ∧ Rl X.K gx H0 B' H σ ρ' ∧ whGo mc b m ρ' = some o, fun σ' H' h => ⟨m, Nat.lt_succ_self _, h⟩, B0, H0, B1, ρ', g'.trans g1, r'.grow g1, ?_⟩
        simp only at hw
        cases hb1 : b ρ' with
        | nx ρ2 =>
          rw [hb1] at hw
          exact fun σ' B3 H3 g3 s3 r3 => ⟨B3, ρ2, g3, (s'.trans g1.b).trans s3, r3, hw⟩
        | cnt ρ2 =>
          rw [hb1] at hw
          exact fun σ' B3 H3 g3 s3 r3 => ⟨B3, ρ2, g3, (s'.trans g1.b).trans s3, r3, hw⟩
        | brk ρ2 =>
          rw [hb1] at hw
          cases hw
          exact fun σ' B3 H3 g3 s3 r3 => k σ' B3 H3 g3 ((s'.trans g1.b).trans s3) r3
        | ret s =>
          rw [hb1] at hw
          cases hw
          exact k
        | exc x ρ2 =>
          rw [hb1] at hw
          cases hw
          exact fun cls d σ' B3 H3 g3 s3 r3 => k cls d σ' B3 H3 g3 ((s'.trans g1.b).trans s3) r3
        | stuck =>
          rw [hb1] at hw
          cases hw
          exact k.elim
/-! targets -/
abbrev MG := D → Slots → Option Slots
def gT : List MG → List D → Slots → Option Slots
  | [], [], ρ => some ρ
  | g :: gs, d :: ds, ρ => match g d ρ with | some ρ1 => gT gs ds ρ1 | none => none
  | _, _, _ => none
def gTup (gs : List MG) : MG := fun d ρ => match d with | .tup ds => gT gs ds ρ | _ => none
def cGs (K : PySem.W.Frag) (gx : Option (Addr × Value × Option Addr)) (mgs : List MG) : TGs := fun vs σ H Q => ∃ H0 B ρ ds ρ', Rl K gx H0 B H σ ρ ∧ Rps K B vs ds ∧ gT mgs ds ρ = some ρ' ∧ ∀ σ', Rl K gx H0 B H σ' ρ' → Q σ' H
abbrev RGs (X : Cx) (gx : Option (Addr × Value × Option Addr)) (ts : List Expr) (mgs : List MG) : Prop := PGs X ts (cGs X.K gx mgs)
theorem pgs_mono {X : Cx} {ts : List Expr} {t t' : TGs} (h : PGs X ts t) (i : ∀ v σ H Q, t' v σ H Q → t v σ H Q) : PGs X ts t' := ⟨fun pins s σ H v u Q I r q => h.run pins s σ H v u Q I r (i v σ H Q q)⟩
theorem rgs_nil {gx : Option (Addr × Value × Option Addr)} {X : Cx} : RGs X gx [] [] := pgs_mono pgs_nil fun vs σ H Q ⟨H0, B, ρ, ds, ρ', r, q, e, k⟩ => by
  cases q with
  | nil =>
    cases e
    exact ⟨rfl, k σ r⟩
  | cons _ _ => cases e
theorem rgs_cons {gx : Option (Addr × Value × Option Addr)} {X : Cx} {t : Expr} {ts : List Expr} {mg : MG} {mgs : List MG} (h : RG X gx t mg) (hs : RGs X gx ts mgs) (ha : (assignEach (t :: ts) X.env).map (·.2) = assign t X.env :: (assignEach ts X.env).map (·.2) := by rfl) : RGs X gx (t :: ts) (mg :: mgs) := pgs_mono (pgs_cons h hs ha) fun vs σ H Q ⟨H0, B, ρ, ds, ρ', r, q, e, k⟩ => by
  cases q with
  | nil => cases e
  | @cons v vs d ds q1 q2 =>
    unfold gT at e
    cases hd : mg d ρ with
    | none => rw [hd] at e; cases e
    | some ρ1 =>
      rw [hd] at e
      exact ⟨v, vs, rfl, H0, B, ρ, d, ρ1, r, q1, hd, fun σ1 r1 => ⟨H0, B, ρ1, ds, ρ', r1, q2, e, k⟩⟩
theorem gT_len : ∀ {gs : List MG} {ds : List D} {ρ ρ' : Slots}, gT gs ds ρ = some ρ' → ds.length = gs.length
  | [], [], _, _, _ => rfl
  | g :: gs, d :: ds, ρ, ρ', h => by
    unfold gT at h
    cases hd : g d ρ with
    | none => rw [hd] at h; cases h
    | some ρ1 =>
      rw [hd] at h
      simp [gT_len h]
  | [], _ :: _, _, _, h => by cases h
  | _ :: _, [], _, _, h => by cases h
theorem rg_tup {gx : Option (Addr × Value × Option Addr)} {X : Cx} {es : List Expr} {k : Nat} {mgs : List MG} {pos : Pos} {n : Nat} (hc : X.calm = true) (h : RGs X gx es mgs) (hl : mgs.length = n := by rfl)
    (hn : (assignEach es X.env).length = n := by rfl) (hst : (assignEach es X.env).findIdx? (·.1) = none := by rfl) : RG X gx (.Tuple es k pos) (gTup mgs) := pg_mono (pg_tup (n := n) hc h hn hst) fun v σ H Q ⟨H0, B, ρ, d, ρ', r, q, e, kk⟩ => by
  unfold gTup at e
  cases d <;> try (cases e; done)
  cases q with
  | tup h1 h2 =>
    exact ⟨_, _, rfl, SqT.of (r.bh _ _ h1), by rw [h2.length, gT_len e]; exact hl, H0, B, ρ, _, ρ', r, h2, e, kk⟩
/-- x, (y, z), .. = e -/
def mAsg (m : ME) (mg : MG) : MS := fun ρ => match m ρ with | some d => (match mg d ρ with | some ρ' => .nx ρ' | none => .stuck) | none => .stuck
theorem rs_asg {gx : Option (Addr × Value × Option Addr)} {X : Cx} {W : WX} {tg e : Expr} {me : ME} {mg : MG} {pos : Pos} (he : RE X gx e me) (hg : RG X gx tg mg) (hs : swapsWithSole [tg] e pos.line X.env = pure false := by rfl) (hw : swappedStores [tg] e X.env = pure none := by rfl)
    (h1 : (assignEach [tg] X.env).map (·.2) = [assign tg X.env] := by rfl) : RS X gx W (.Assign [tg] e pos) (mAsg me mg) := ps_mono (ps_asg he hg hs hw h1) fun Ds σ H ⟨B0, H0, B, ρ, g, r, k⟩ => by
  unfold mAsg at k
  cases hm : me ρ with
  | none => rw [hm] at k; exact k.elim
  | some d =>
    rw [hm] at k
    simp only at k
    cases hd : mg d ρ with
    | none => rw [hd] at k; exact k.elim
    | some ρ' =>
      rw [hd] at k
      exact ⟨H0, B, ρ, d, r, hm, fun v B' H' g' q => ⟨H0, B', ρ, d, ρ', r.grow g', q, hd, fun σ' r' => k σ' B' H' (g.trans g') g'.b r'⟩⟩
/-! more that is walked -/
def revD (lo : Int) (n : Nat) : List D := (List.range n).map fun (k : Nat) => .int (lo + (n : Int) - 1 - (k : Int))
theorem itc_ok {K : PySem.W.Frag} {B1 : Hp} {lo : Int} {n : Nat} : ItOk K (Itc (lo + (n : Int) - 1) (-1) n) (revD lo n) B1 := by
  intro i B H s1 s2
  unfold revD
  refine ⟨fun d hd => ?_, fun hl => by rw [List.length_map, List.length_range] at hl; exact hl⟩
  rw [List.getElem?_map] at hd
  by_cases hi : i < n
  · rw [List.getElem?_range hi] at hd
    cases hd
    refine ⟨hi, fun x H' hy => ?_⟩
    obtain ⟨rfl, rfl⟩ := hy
    refine ⟨B, Gr.refl s2, ?_⟩
    have e : lo + (n : Int) - 1 + ((i : Nat) : Int) * -1 = lo + (n : Int) - 1 - (i : Int) := by omega
    rw [e]
    exact .int _
  · rw [List.getElem?_eq_none (by rw [List.length_range]; omega)] at hd
    cases hd
def mRev1 (ma : ME) : Slots → Option (List D) := fun ρ => match ma ρ with
  | some (.int j) => if -4000000000000000000 ≤ j ∧ j < 4000000000000000000 then some (revD 0 j.toNat) else none
  | _ => none
theorem ri_rev1 {gx : Option (Addr × Value × Option Addr)} {X : Cx} {tg a : Expr} {ma : ME} {p pos p2 pos2 : Pos} (hg : Gl X "reversed") (hm : X.mg "reversed" = none) (hg2 : Gl X "range") (hm2 : X.mg "range" = none) (ha : RE X gx a ma)
    (hs : starEach [a] X.env = [(false, eval a X.env)] := by rfl) (hs2 : starEach [.Call (.Name "range" p) [a] [] pos] X.env = [(false, eval (.Call (.Name "range" p) [a] [] pos) X.env)] := by rfl) : RI X gx tg (.Call (.Name "reversed" p2) [.Call (.Name "range" p) [a] [] pos] [] pos2) (mRev1 ma) :=
  pi_mono (pi_revR hg hm (prg_1 hg2 hm2 ha hs) hs2) fun σ H R ⟨H0, B, ρ, xs, r, e, k⟩ => by
    unfold mRev1 at e
    split at e
    · rename_i j hj
      split at e
      · rename_i hc
        cases e
        refine ⟨H0, B, ρ, _, r, hj, fun v B1 H1 g q => ⟨j, q.int_inv, ?_⟩⟩
        refine ⟨by omega, by omega, by omega, by omega, ?_⟩
        have e1 : (j - 0).toNat = j.toNat := by rw [Int.sub_zero]
        rw [e1]
        exact k _ B1 H1 g itc_ok
      · cases e
    · cases e
def mZip (ma : Slots → Option (List D)) : Slots → Option (List D) := fun ρ => match ma ρ with
  | some [.lst xs, .lst ys] => some ((xs.zip ys).map fun p => .tup [p.1, p.2])
  | _ => none
theorem itz_ok {K : PySem.W.Frag} {B1 : Hp} {a b : Addr} {vs us : List V} {xs ys : List D} (h1 : B1 a = some (.lst vs)) (r1 : Rps K B1 vs xs) (h2 : B1 b = some (.lst us)) (r2 : Rps K B1 us ys) :
    ItOk K (Itz K a b) ((xs.zip ys).map fun p => .tup [p.1, p.2]) B1 := by
  intro i B H s1 s2
  have q1 : SqL K H a vs := SqL.of ((s1.trans s2) _ _ h1)
  have q2 : SqL K H b us := SqL.of ((s1.trans s2) _ _ h2)
  refine ⟨fun d hd => ?_, fun hl => ?_⟩
  · rw [List.getElem?_map] at hd
    cases hz : (xs.zip ys)[i]? with
    | none => rw [hz] at hd; cases hd
    | some p =>
      rw [hz] at hd
      cases hd
      have hz' := List.getElem?_zip_eq_some.mp hz
      obtain ⟨v, e1, p1⟩ := r1.get hz'.1
      obtain ⟨u, e2, p2⟩ := r2.get hz'.2
      refine ⟨⟨vs, us, v, u, q1, q2, e1, e2⟩, fun x H' hy => ?_⟩
      obtain ⟨T, y1, y2, rfl, hT, rfl, f1, f2⟩ := hy
      have e3 := f1 vs q1
      have e4 := f2 us q2
      rw [e1] at e3
      rw [e2] at e4
      cases e3
      cases e4
      have sB := same_upd (o := .tup [v, u]) (s2.free hT)
      exact ⟨_, Gr.new s2 hT, .tup upd_same (.cons ((p1.mono s1).mono sB) (.cons ((p2.mono s1).mono sB) .nil))⟩
  · rw [List.length_map, List.length_zip] at hl
    refine ⟨vs, us, q1, q2, ?_⟩
    rw [r1.length, r2.length]
    omega
theorem ri_zip {gx : Option (Addr × Value × Option Addr)} {X : Cx} {elts : List Expr} {kk : Nat} {tpos p pos : Pos} {a b : Expr} {ma : Slots → Option (List D)} (hg : Gl X "zip") (hm : X.mg "zip" = none) (ha : RA X gx [a, b] ma)
    (hs : starEach [a, b] X.env = (false, eval a X.env) :: starEach [b] X.env := by rfl) (hpl : (backTo pos (starEach [b] X.env)).any (·.1) = false := by rfl) : RI X gx (.Tuple elts kk tpos) (.Call (.Name "zip" p) [a, b] [] pos) (mZip ma) :=
  pi_mono (pi_zip hg hm ha hs hpl) fun σ H R ⟨H0, B, ρ, xs, r, e, k⟩ => by
    unfold mZip at e
    split at e
    · rename_i xs ys hj
      cases e
      refine ⟨H0, B, ρ, _, r, hj, fun vs B1 H1 g q => ?_⟩
      cases q with
      | cons q qq =>
        cases qq with
        | cons q2 qq =>
          cases qq
          cases q with
          | lst h1 r1 =>
            cases q2 with
            | lst h2 r2 => exact ⟨_, _, _, _, rfl, SqL.of (g.bh _ _ h1), SqL.of (g.bh _ _ h2), k _ B1 H1 g (itz_ok h1 r1 h2 r2)⟩
    · cases e
/-! any, all -/
def bools : List D → Option (List Bool)
  | [] => some []
  | .bl b :: r => match bools r with | some bs => some (b :: bs) | none => none
  | _ => none
def fAny : List D → Option D
  | [.lst xs] => (match bools xs with | some bs => some (.bl (bs.any id)) | none => none)
  | _ => none
def fAll : List D → Option D
  | [.lst xs] => (match bools xs with | some bs => some (.bl (bs.all id)) | none => none)
  | _ => none
theorem bools_ok {K : PySem.W.Frag} {B : Hp} : ∀ {vs : List V} {ds : List D} {bs : List Bool}, Rps K B vs ds → bools ds = some bs → vs = bs.map V.bl
  | _, _, _, .nil, h => by cases h; rfl
  | _, _, _, .cons (d := d) q qs, h => by
    unfold bools at h
    cases d <;> try (cases h; done)
    rename_i b
    simp only at h
    split at h
    · rename_i bs hb
      cases h
      rw [List.map_cons, q.bl_inv, bools_ok qs hb]
    · cases h
theorem ok_any (K : PySem.W.Frag) : CallOk K (rAny K) fAny := by
  intro B H vs ds c e r h Q k
  unfold fAny at h
  split at h
  · rename_i xs
    split at h
    · rename_i bs hb
      cases h
      cases r with
      | cons r rr =>
        cases rr
        obtain ⟨p, us, e1, h1, r1⟩ := r.lst e
        subst e1
        have := bools_ok r1 hb
        subst this
        exact ⟨_, bs, rfl, SqL.of h1, k _ B H (Gr.refl e) (.bl _)⟩
    · cases h
  · cases h
theorem ok_all (K : PySem.W.Frag) : CallOk K (rAll K) fAll := by
  intro B H vs ds c e r h Q k
  unfold fAll at h
  split at h
  · rename_i xs
    split at h
    · rename_i bs hb
      cases h
      cases r with
      | cons r rr =>
        cases rr
        obtain ⟨p, us, e1, h1, r1⟩ := r.lst e
        subst e1
        have := bools_ok r1 hb
        subst this
        exact ⟨_, bs, rfl, SqL.of h1, k _ B H (Gr.refl e) (.bl _)⟩
    · cases h
  · cases h
end R
/-! Q2: enumerate of a tuple, of a text, of a list; xs[i] = v -/
namespace R
open PySem PySem.Spec PyProof.Rows L2
section
open PySem
theorem meets_enum1 {v : Value} {o : Obj} {H : Heap → Prop} (B : Begins v o H) :
    Meets (Builtin.«enumerate.__new__» ⟨[.type "enumerate", v], []⟩) (fun _ R s => H s.heap ∧
      R (.ok (.ret (.ref (s.heap.push o).objs.size))) { s with heap := (s.heap.push o).push { cls := .type "enumerate", data := .fields #[.none, .bool false, .ref s.heap.objs.size, rawInt 0, .none, .none] } }) :=
  .of_wp fun prog w A R s h => by
    obtain ⟨hp, g, d, tk, os⟩ := s; obtain ⟨h1, h⟩ := h
    have hsub := sub_enumerate
    have q1 : ∀ {A' : Around} {E : Value → Shared → Prop} {Q : Value → Shared → Prop}, Q (.ref hp.objs.size) ⟨hp.push o, g, d, tk, os⟩ → wpAny (model prog w) A' (pyIter v) Q E ⟨hp, g, d, tk, os⟩ :=
      fun q => B.iter prog w _ _ ⟨hp, g, d, tk, os⟩ _ h1 q
    wp_walk using q1
    first
      | exact ⟨_, rfl, h⟩
      | (refine wpAny_stack_any fun st => wpAny_pure ?_
         split
         · rename_i c _ _ _ _ _
           cases (c == Value.type "enumerate")
           · wp_walk using q1
             exact ⟨_, rfl, h⟩
           · wp_walk using q1
             exact ⟨_, rfl, h⟩
         · wp_walk using q1
           exact ⟨_, rfl, h⟩)
theorem enum1_begins {prog : Program} {w : World} {A : Around} {E : Value → Shared → Prop} {s : Shared} {v : Value} {o : Obj} {H : Heap → Prop} {Q : Value → Shared → Prop} (B : Begins v o H) (h1 : H s.heap)
    (h : ∀ h', IsEnum h' (s.heap.objs.size + 1) s.heap.objs.size 0 .none → h'.get? s.heap.objs.size = some o → h'.objs.size = s.heap.objs.size + 2 →
      (∀ b o, s.heap.get? b = some o → h'.get? b = some o) → Q (.ref (s.heap.objs.size + 1)) { s with heap := h' }) :
    wpAny (model prog w) A (call (.type "enumerate") [v]) Q E s := by
  refine callType_new F.called_enumerate (by decide) (F.typeCall_enumerate_1 _) (F.newCall_enumerate_1 _) (fun obj => F.args_object_init_2 obj _) F.entry_enumerate_new
    (meets_enum1 B) ⟨h1, ?_⟩
  have hz : (s.heap.push o).objs.size = s.heap.objs.size + 1 := Heap.size_push ..
  show _ ∧ _
  rw [hz]
  have he : IsEnum ((s.heap.push o).push { cls := .type "enumerate", data := .fields #[.none, .bool false, .ref s.heap.objs.size, rawInt 0, .none, .none] }) (s.heap.objs.size + 1) s.heap.objs.size 0 .none := by
    have := Heap.get?_push_size (s.heap.push o) (o := { cls := .type "enumerate", data := .fields #[.none, .bool false, .ref s.heap.objs.size, rawInt 0, .none, .none] }) rfl
    rw [hz] at this; exact this
  refine ⟨⟨_, he, rfl⟩, h _ he (Heap.get?_push_of_some _ (Heap.get?_push_size _ B.free)) (by rw [Heap.size_push, hz]) fun b o x => Heap.get?_push_of_some _ (Heap.get?_push_of_some _ x)⟩
end
/-- what is walked, pair by pair, told by what the inner iterator draws -/
def ItE (f : Nat → Option V) (n : Nat) (G : Hp → Prop) : It :=
  ⟨fun i H => i < n ∧ G H, fun i H v H' => ∃ T x, v = .ref T ∧ H T = none ∧ H' = upd H T (.tup [.int (i : Nat), x]) ∧ f i = some x, fun i H => n ≤ i ∧ G H⟩
theorem turn_enumG {P : Program} {w : World} {K : PySem.W.Frag} {elts : List Expr} {kk : Nat} {tpos : Pos} (f : Nat → Option V) (n : Nat) (G : Hp → Prop) (e it : Addr) (T : Nat → Heap → Prop) (hne : e ≠ it)
    (hT : ∀ i h, T i h → ∃ o, h.get? it = some o ∧ ∀ v, o.data ≠ .cell v) (hk : ∀ i h h', T i h → (∀ o, h.get? it = some o → h'.get? it = some o) → T i h')
    (hD : ∀ (X : Cx) (pins : List (Addr × Obj)) (s : Shared) (σ : L2.St) (H : Hp) (i : Nat), X.prog = P → X.w = w → X.K = K → X.calm = true → Inv X pins σ H s → G H → T i s.heap → H e = none → H it = none →
      ∃ (fp : List Addr) (St : Nat → Heap → Prop), e ∉ fp ∧ St i s.heap ∧ (∀ j h, St j h → T j h) ∧ Draws P w X.A.in1 it fp n (fun i u => ∃ x, f i = some x ∧ RelV x u) St) :
    Turn P w K (.Tuple elts kk tpos) (ItE f n G) [e, it] e (fun i h => (∃ old, IsEnum h e it ((i : Nat) : Int) old) ∧ T i h ∧ i ≤ n) where
  mem := by simp
  obj := fun i h st b hb => by
    obtain ⟨⟨old, he⟩, ht, _⟩ := st
    have e' : b = e ∨ b = it := by simpa using hb
    rcases e' with z | z
    · rw [z]; exact ⟨_, he, fun v q => nomatch q⟩
    · rw [z]; exact hT i h ht
  keep := fun i h h' st k => let ⟨⟨old, he⟩, hi, hl⟩ := st; ⟨⟨old, k e (by simp) _ he⟩, hk i h h' hi fun o q => k it (by simp) o q, hl⟩
  item := by
    intro X hP hw hK hc i pins s σ H E I hf st hg
    obtain ⟨⟨old, he⟩, hit, hl⟩ := st
    obtain ⟨hlt, hG⟩ := hg
    obtain ⟨fp, St, hef, hst, hTt, D⟩ := hD X pins s σ H i hP hw hK hc I hG hit (hf e (by simp)).1 (hf it (by simp)).1
    subst hP hw hK
    have hel : e < s.heap.objs.size := Heap.lt_size he
    have hil : it < s.heap.objs.size := by obtain ⟨_, q, _⟩ := hT i _ hit; exact Heap.lt_size q
    refine wpAny_pyNext_enum_itemC D he hst hlt hne hef fun u h' tk hx ho hst' hTt' hsz hk' => ?_
    obtain ⟨x, hfx, ru⟩ := hx
    refine ⟨_, rfl, wpAny_letOwnedTupleGo_enum (s := { s with heap := h', toks := tk + 1 }) ho fun h'' he' sb => ?_⟩
    have hT2 : h''.get? s.heap.objs.size = some { cls := .type "tuple", data := .seq #[.int i tk, u] } := (sb.2 _ (Nat.ne_of_gt hel)).trans hTt'
    have new : ObjOk X.prog X.w (upd H s.heap.objs.size (.tup [.int (i : Nat), x])) h'' s.heap.objs.size (.tup [.int (i : Nat), x]) :=
      ⟨by show 2 ≤ sizeLine; decide, [.int i tk, u], .cons ⟨_, rfl⟩ (.cons ru .nil), ⟨_, hT2, rfl, _, rfl⟩⟩
    have I1 : Inv X pins σ (upd H s.heap.objs.size (.tup [.int (i : Nat), x])) { s with heap := h'', toks := tk + 1 } :=
      I.turnedNew (ch := [e, it]) (fun b ob hb q => (sb.2 b (fun z => hb (by simp [z]))).trans (hk' b ob (fun z => hb (by simp [z])) (fun z => hb (by simp [z])) q)) hf (Nat.le_refl _) new
    refine ⟨.ref s.heap.objs.size, _, I1, rfl, ⟨_, x, rfl, I.hok.fresh (Nat.le_refl _), rfl, hfx⟩, ⟨⟨u, ?_⟩, hk _ _ _ (hTt _ _ hst') (fun o q => (sb.2 it (Ne.symm hne)).trans q), hlt⟩, fun b hb => ?_⟩
    · have e1 : ((i + 1 : Nat) : Int) = (i : Int) + 1 := by omega
      rw [e1]; exact he'
    · have hb' : b < s.heap.objs.size := by
        have e' : b = e ∨ b = it := by simpa using hb
        rcases e' with z | z
        · rw [z]; exact hel
        · rw [z]; exact hil
      rw [upd_ne (Nat.ne_of_lt hb')]
      exact (hf b hb).1
  done := by
    intro X hP hw hK hc i pins s σ H E I hf st hg
    obtain ⟨⟨old, he⟩, hit, hl⟩ := st
    obtain ⟨hlt, hG⟩ := hg
    obtain ⟨fp, St, hef, hst, hTt, D⟩ := hD X pins s σ H i hP hw hK hc I hG hit (hf e (by simp)).1 (hf it (by simp)).1
    subst hP hw hK
    obtain ⟨f0, f1, f2, f3, f4, f5⟩ := hf it (by simp)
    have e0 : i = n := by omega
    subst e0
    exact wpAny_pyNext_enum_endD D he hst fun h' eb => ⟨rfl, I.turned (t' := s.toks) (fun b o hb q => eb b o hb q) f0 f1 f3 f4 f5⟩
  self := fun A i s Q E st h => let ⟨⟨_, he⟩, _⟩ := st; wpAny_pyIter_enum he h

def enumOf : D → Option (List D)
  | .lst xs => some xs
  | .tup xs => some xs
  | .str cs => some (cs.map fun c => .str [c])
  | _ => none
def mEnum (me : ME) : Slots → Option (List D) := fun ρ => match me ρ with
  | some d => (match enumOf d with | some xs => some (xs.zipIdx.map fun p => .tup [.int (p.2 : Int), p.1]) | none => none)
  | none => none
theorem enum_ix (xs : List D) (i : Nat) : (xs.zipIdx.map fun p => D.tup [.int (p.2 : Int), p.1])[i]? = (xs[i]?).map fun x => .tup [.int (i : Int), x] := by
  rw [List.getElem?_map, List.getElem?_zipIdx]
  cases xs[i]? <;> simp
theorem ite_ok {K : PySem.W.Frag} {B1 : Hp} {vs : List V} {xs : List D} {G : Hp → Prop} (r : Rps K B1 vs xs) (hG : ∀ B H, Same B1 B → Same B H → G H) : ItOk K (ItE (fun i => vs[i]?) vs.length G) (xs.zipIdx.map fun p => .tup [.int (p.2 : Int), p.1]) B1 := by
  intro i B H s1 s2
  refine ⟨fun d hd => ?_, fun hl => ⟨by rw [r.length]; simpa using hl, hG B H s1 s2⟩⟩
  rw [enum_ix] at hd
  cases hx : xs[i]? with
  | none => rw [hx] at hd; cases hd
  | some x =>
    rw [hx] at hd
    cases hd
    obtain ⟨v, e1, p1⟩ := r.get hx
    refine ⟨⟨(List.getElem?_eq_some_iff.mp e1).1, hG B H s1 s2⟩, fun y H' hy => ?_⟩
    obtain ⟨T, z, rfl, hT, rfl, hz⟩ := hy
    have hz : vs[i]? = some z := hz
    rw [e1] at hz
    cases hz
    have sB := same_upd (o := .tup [.int (i : Nat), v]) (s2.free hT)
    exact ⟨_, Gr.new s2 hT, .tup upd_same (.cons (.int _) (.cons ((p1.mono s1).mono sB) .nil))⟩
theorem strs_rps {K : PySem.W.Frag} {B : Hp} : ∀ cs : List Nat, Rps K B (cs.map fun c => V.str ⟨#[c]⟩) (cs.map fun c => D.str [c])
  | [] => .nil
  | c :: cs => .cons (.str [c]) (strs_rps cs)
theorem ri_enum {gx : Option (Addr × Value × Option Addr)} {X : Cx} {elts : List Expr} {kk : Nat} {tpos p pos : Pos} {a : Expr} {me : ME} (hg : Gl X "enumerate") (hm : X.mg "enumerate" = none) (ha : RE X gx a me)
    (hs : starEach [a] X.env = [(false, eval a X.env)] := by rfl) (hs2 : starEach [a] X.env = (false, eval a X.env) :: starEach [] X.env := by rfl) : RI X gx (.Tuple elts kk tpos) (.Call (.Name "enumerate" p) [a] [] pos) (mEnum me) := by
  refine ⟨fun pins s σ H R I h => ?_⟩
  obtain ⟨H0, B, ρ, xs, r, e, k⟩ := h
  unfold mEnum at e
  cases hd : me ρ with
  | none => rw [hd] at e; cases e
  | some d =>
    rw [hd] at e
    have hA : RA X gx [a] (mCons me mNil) := ra_cons ha ra_nil hs2
    refine Call_ (ld_blt I hg hm boot_enumerate (PyProof.Rows.callWith_type1 (thn (hA.run pos pins s σ H (fun vs H' => ∃ B', Gr B H B' H' ∧ Rps X.K B' vs [d]) I ⟨H0, B, ρ, [d], r, by unfold mCons mNil; rw [hd], fun vs B' H' g q => ⟨B', g, q⟩⟩) fun us s1 ⟨vs, H1, I1, r1, B1, g1, q1⟩ => ?_) hs rfl))
    cases q1 with
    | cons q qq =>
      cases qq
      cases r1 with
      | cons rr rr2 =>
        cases rr2
        have fpk : ∀ b, b ∈ [s1.heap.objs.size + 1, s1.heap.objs.size] → FpOk X pins H1 b := fun b hb => by
          have e' : b = s1.heap.objs.size + 1 ∨ b = s1.heap.objs.size := by simpa using hb
          have hle : s1.heap.objs.size ≤ b := by
            rcases e' with z | z
            · rw [z]; exact Nat.le_add_right _ _
            · rw [z]; exact Nat.le_refl _
          exact I1.fpOk hle (I1.hok.fresh hle)
        cases d with
        | str cs =>
          cases e
          have ev := q.str_inv
          subst ev
          obtain ⟨t, rfl⟩ := rr
          refine enum1_begins (begins_text _ t) trivial fun h' he hit hsz hk => wpAny_pyIter_enum he ?_
          have I2 : Inv X pins σ H1 { s1 with heap := h' } := I1.kept (t' := s1.toks) hk
          refine ⟨s1.heap.objs.size + 1, [s1.heap.objs.size + 1, s1.heap.objs.size], _, ItE (fun i => (cs.map fun c => V.str ⟨#[c]⟩)[i]?) (cs.map fun c => V.str ⟨#[c]⟩).length (fun _ => True), H1, rfl, I2,
            turn_enumG _ _ _ (s1.heap.objs.size + 1) s1.heap.objs.size (fun i h => h.IsStrIter s1.heap.objs.size (strIterType ⟨cs.toArray⟩) ⟨cs.toArray⟩ t i) (Nat.succ_ne_self _) (fun i h st => ?_) (fun i h h' st q => ?_) (fun X' pins' s' σ' H' i hP hw hK hc I' hG hT n1 n2 => ?_), ⟨⟨.none, he⟩, ⟨_, hit, rfl, rfl⟩, Nat.zero_le _⟩, fpk, k _ B1 H1 g1 (ite_ok (strs_rps cs) fun _ _ _ _ => trivial)⟩
          · obtain ⟨o, e, c, d⟩ := st
            exact ⟨o, e, fun v z => by rw [d] at z; cases z⟩
          · obtain ⟨o, ho, r⟩ := st
            exact ⟨o, q o ho, r⟩
          · refine ⟨[s1.heap.objs.size], fun i h => h.IsStrIter s1.heap.objs.size (strIterType ⟨cs.toArray⟩) ⟨cs.toArray⟩ t i, by simp, hT, fun _ _ z => z, ?_⟩
            have D := Draws.text (prog := X.prog) (w := X.w) (A := X'.A.in1) (I'.ok.hd hc) s1.heap.objs.size ⟨cs.toArray⟩ t
            rw [List.length_map]
            refine ⟨D.live, D.frame, fun i s Q E hi st hQ => D.item i s Q E (by simpa using hi) st fun x h' tk hx => hQ x h' tk ?_, fun s Q E st hE => D.done s Q E (by simpa using st) hE⟩
            obtain ⟨c, u, hc', rfl⟩ := hx
            refine ⟨.str ⟨#[c]⟩, ?_, ⟨u, rfl⟩⟩
            have hc2 : cs[i]? = some c := by simpa using hc'
            rw [List.getElem?_map, hc2]
            rfl
        | tup ds =>
          cases e
          cases q with
          | @tup aa us ds h1 h2 =>
            cases rr
            have hq : SqT X.K H1 aa us := SqT.of (g1.bh _ _ h1)
            obtain ⟨its, rv, p', hz⟩ := I1.tuple hq
            refine enum1_begins (begins_tuple aa its.toArray) p' fun h' he hit hsz hk => wpAny_pyIter_enum he ?_
            have I2 : Inv X pins σ H1 { s1 with heap := h' } := I1.kept (t' := s1.toks) hk
            refine ⟨s1.heap.objs.size + 1, [s1.heap.objs.size + 1, s1.heap.objs.size], _, ItE (fun i => us[i]?) us.length (fun H => H aa = some (.tup us)), H1, rfl, I2,
              turn_enumG _ _ _ (s1.heap.objs.size + 1) s1.heap.objs.size (fun i h => h.IsTupleIter s1.heap.objs.size aa i) (Nat.succ_ne_self _) (fun i h st => ?_) (fun i h h' st q => ?_) (fun X' pins' s' σ' H' i hP hw hK hc I' hG hT n1 n2 => ?_), ⟨⟨.none, he⟩, ⟨_, hit, rfl, rfl⟩, Nat.zero_le _⟩, fpk, k _ B1 H1 g1 (ite_ok h2 fun B H s1 s2 => (s1.trans s2) _ _ h1)⟩
            · obtain ⟨o, e, c, d⟩ := st
              exact ⟨o, e, fun v z => by rw [d] at z; cases z⟩
            · exact st.at fun o e => q o e
            · obtain ⟨its, rv, p', hz⟩ := I'.tuple (SqT.of hG)
              have hn1 : aa ≠ s1.heap.objs.size + 1 := ne_of_none hG n1
              have hn2 : aa ≠ s1.heap.objs.size := ne_of_none hG n2
              refine ⟨[s1.heap.objs.size, aa], fun i h => h.IsTupleIter s1.heap.objs.size aa i ∧ h.IsTuple aa its.toArray, ?_, ⟨hT, p'⟩, fun _ _ z => z.1, ?_⟩
              · intro z
                rcases List.mem_cons.mp z with z | z
                · exact Nat.succ_ne_self _ z
                · exact hn1 (List.mem_singleton.mp z).symm
              have D := Draws.tuple (prog := X.prog) (w := X.w) (A := X'.A.in1) (I'.ok.hd hc) s1.heap.objs.size aa hn2 its.toArray
              have hl := rv.length
              refine ⟨D.live, D.frame, fun i s Q E hi st hQ => D.item i s Q E (by simp; omega) st fun x h' tk hx => hQ x h' tk ?_, fun s Q E st hE => D.done s Q E (by rw [hl] at st; simpa using st) hE⟩
              have hx : its[i]? = some x := by simpa using hx
              have hiu : i < us.length := hi
              obtain ⟨y, hy, ry⟩ := rv.get (List.getElem?_eq_getElem hiu)
              rw [hx] at hy
              cases hy
              exact ⟨_, List.getElem?_eq_getElem hiu, ry⟩
        | lst ds =>
          cases e
          cases q with
          | @lst aa us ds h1 h2 =>
            cases rr
            have hq : SqL X.K H1 aa us := SqL.of (g1.bh _ _ h1)
            obtain ⟨its, rv, p', hz⟩ := I1.list hq
            refine enum1_begins (begins_list aa its.toArray) p'.isList fun h' he hit hsz hk => wpAny_pyIter_enum he ?_
            have I2 : Inv X pins σ H1 { s1 with heap := h' } := I1.kept (t' := s1.toks) hk
            refine ⟨s1.heap.objs.size + 1, [s1.heap.objs.size + 1, s1.heap.objs.size], _, ItE (fun i => us[i]?) us.length (fun H => H aa = some (.lst us)), H1, rfl, I2,
              turn_enumG _ _ _ (s1.heap.objs.size + 1) s1.heap.objs.size (fun i h => h.IsListIter s1.heap.objs.size aa i) (Nat.succ_ne_self _) (fun i h st => ?_) (fun i h h' st q => ?_) (fun X' pins' s' σ' H' i hP hw hK hc I' hG hT n1 n2 => ?_), ⟨⟨.none, he⟩, ⟨_, hit, rfl, rfl⟩, Nat.zero_le _⟩, fpk, k _ B1 H1 g1 (ite_ok h2 fun B H s1 s2 => (s1.trans s2) _ _ h1)⟩
            · obtain ⟨o, e, c, d⟩ := st
              exact ⟨o, e, fun v z => by rw [d] at z; cases z⟩
            · exact st.at fun o e => q o e
            · obtain ⟨its, rv, p', hz⟩ := I'.list (SqL.of hG)
              have hn1 : aa ≠ s1.heap.objs.size + 1 := ne_of_none hG n1
              have hn2 : aa ≠ s1.heap.objs.size := ne_of_none hG n2
              refine ⟨[s1.heap.objs.size, aa], fun i h => h.IsListIter s1.heap.objs.size aa i ∧ h.IsList aa its.toArray, ?_, ⟨hT, p'.isList⟩, fun _ _ z => z.1, ?_⟩
              · intro z
                rcases List.mem_cons.mp z with z | z
                · exact Nat.succ_ne_self _ z
                · exact hn1 (List.mem_singleton.mp z).symm
              have D := Draws.list (prog := X.prog) (w := X.w) (A := X'.A.in1) (I'.ok.hd hc) s1.heap.objs.size aa hn2 its.toArray
              have hl := rv.length
              refine ⟨D.live, D.frame, fun i s Q E hi st hQ => D.item i s Q E (by simp; omega) st fun x h' tk hx => hQ x h' tk ?_, fun s Q E st hE => D.done s Q E (by rw [hl] at st; simpa using st) hE⟩
              have hx : its[i]? = some x := by simpa using hx
              have hiu : i < us.length := hi
              obtain ⟨y, hy, ry⟩ := rv.get (List.getElem?_eq_getElem hiu)
              rw [hx] at hy
              cases hy
              exact ⟨_, List.getElem?_eq_getElem hiu, ry⟩
        | _ => cases e
end R
/-! Q3: dicts whose keys are data -/
namespace R
open PySem PySem.Spec PyProof.Rows L2
/-! keys -/
mutual
theorem nested_of {P : Program} {w : World} {K : PySem.W.Frag} {B H : Hp} {h : Heap} (hok : HOk P w H h) (sb : Same B H) : ∀ {y : V} {kd : D} {k : NestedKey} {u : Value}, Rp K B y kd → nk kd = some k → RelV y u → NestedIs h k u
  | _, _, _, _, .non, e, r => by unfold nk at e; cases e; cases r; exact .none
  | _, _, _, _, .bl b, e, r => by unfold nk at e; cases e; cases r; exact .bool rfl
  | _, _, _, _, .int i, e, r => by unfold nk at e; cases e; obtain ⟨t, rfl⟩ := r; exact .int i t
  | _, _, _, _, .str _, e, _ => by unfold nk at e; cases e
  | _, _, _, _, .ty _, e, _ => by unfold nk at e; cases e
  | _, _, _, _, .lst _ _, e, _ => by unfold nk at e; cases e
  | _, _, _, _, .lsk _ _, e, _ => by unfold nk at e; cases e
  | _, _, _, _, .dct _ _, e, _ => by unfold nk at e; cases e
  | _, _, _, _, .ins _ _ _ _, e, _ => by unfold nk at e; cases e
  | _, _, _, _, .tup (a := a) (vs := vs) (ds := ds) h1 h2, e, r => by
    unfold nk at e
    cases hk : nks ds with
    | none => rw [hk] at e; cases e
    | some ks =>
      rw [hk] at e
      cases e
      cases r
      obtain ⟨_, its, rv, o, q1, q2, n, q3⟩ := (show ObjOk P w H h a (.tup vs) from hok a _ (sb _ _ h1))
      exact .tup q1 q2 q3 (by simpa using nesteds_of hok sb h2 hk rv)
theorem nesteds_of {P : Program} {w : World} {K : PySem.W.Frag} {B H : Hp} {h : Heap} (hok : HOk P w H h) (sb : Same B H) : ∀ {ys : List V} {ds : List D} {ks : List NestedKey} {us : List Value}, Rps K B ys ds → nks ds = some ks → Vals ys us → NestedAll h ks us
  | _, _, _, _, .nil, e, r => by unfold nks at e; cases e; cases r; exact .nil
  | _, _, _, _, .cons (d := d) (ds := ds) q qs, e, r => by
    unfold nks at e
    cases h1 : nk d with
    | none => rw [h1] at e; cases e
    | some k =>
      rw [h1] at e
      simp only at e
      cases h2 : nks ds with
      | none => rw [h2] at e; cases e
      | some ks =>
        rw [h2] at e
        cases e
        cases r with
        | cons r rs => exact .cons (nested_of hok sb q h1 r) (nesteds_of hok sb qs h2 rs)
end
mutual
theorem hash_any : ∀ {d : D} {k : NestedKey} (w w' : World), nk d = some k → k.hash w = k.hash w'
  | .non, _, w, w', e => by unfold nk at e; cases e; rfl
  | .bl b, _, w, w', e => by unfold nk at e; cases e; rfl
  | .int i, _, w, w', e => by unfold nk at e; cases e; rfl
  | .str _, _, w, w', e => by unfold nk at e; cases e
  | .ty _, _, w, w', e => by unfold nk at e; cases e
  | .lst _, _, w, w', e => by unfold nk at e; cases e
  | .lsk _, _, w, w', e => by unfold nk at e; cases e
  | .dct _ _, _, w, w', e => by unfold nk at e; cases e
  | .ins _ _ _, _, w, w', e => by unfold nk at e; cases e
  | .tup ds, _, w, w', e => by
    unfold nk at e
    cases hk : nks ds with
    | none => rw [hk] at e; cases e
    | some ks =>
      rw [hk] at e
      cases e
      unfold NestedKey.hash
      rw [hashes_any w w' hk]
theorem hashes_any : ∀ {ds : List D} {ks : List NestedKey} (w w' : World), nks ds = some ks → NestedKey.hashes w ks = NestedKey.hashes w' ks
  | [], _, w, w', e => by unfold nks at e; cases e; rfl
  | d :: ds, _, w, w', e => by
    unfold nks at e
    cases h1 : nk d with
    | none => rw [h1] at e; cases e
    | some k =>
      rw [h1] at e
      simp only at e
      cases h2 : nks ds with
      | none => rw [h2] at e; cases e
      | some ks =>
        rw [h2] at e
        cases e
        unfold NestedKey.hashes
        rw [hash_any w w' h1, hashes_any w w' h2]
end
/-! the dict as a list -/
def lk {α : Type} (kvs : List (NestedKey × α)) (k : NestedKey) : Option α := (kvs.find? fun p => decide (p.1 = k)).map (·.2)
def putN {α : Type} (kvs : List (NestedKey × α)) (k : NestedKey) (d : α) : List (NestedKey × α) := if (lk kvs k).isSome then kvs.map (fun p => if p.1 = k then (p.1, d) else p) else kvs ++ [(k, d)]
abbrev PH (K : PySem.W.Frag) (B : Hp) (p : NestedKey × D) (x : NestedKey × Addr × Value) : Prop := p.1 = x.1 ∧ (∃ kd, Rp K B (.ref x.2.1) kd ∧ nk kd = some p.1) ∧ ∃ v, RelV v x.2.2 ∧ Rp K B v p.2
theorem isT_ref {h : Heap} {k : NestedKey} {u : Value} (n : NestedIs h k u) (t : isT k = true) : ∃ a, u = .ref a := by
  cases n with
  | tup _ _ _ _ => exact ⟨_, rfl⟩
  | none => cases t
  | bool _ => cases t
  | int _ _ => cases t
  | text _ _ => cases t
theorem toH {P : Program} {w : World} {K : PySem.W.Frag} {B H : Hp} {h : Heap} (hok : HOk P w H h) (sb : Same B H) : ∀ {kvs : List (NestedKey × D)} {l : List DictEntry}, Paired (EntR K B) kvs l → (∀ p ∈ kvs, isT p.1 = true) → (∀ p ∈ kvs, p.1.depth ≤ 8) →
    ∃ xs : List (NestedKey × Addr × Value), l = xs.map (entryOfKey (nestedKind P w)) ∧ (∀ x ∈ xs, (nestedKind P w).is h x.1 x.2.1) ∧ Paired (PH K B) kvs xs
  | _, _, .nil, _, _ => ⟨[], rfl, (fun _ hx => by cases hx), .nil⟩
  | _, _, .cons (a := p) (b := e) q qs, ht, hd => by
    obtain ⟨xs, i1, i2, i3⟩ := toH hok sb qs (fun p hp => ht p (List.mem_cons_of_mem _ hp)) (fun p hp => hd p (List.mem_cons_of_mem _ hp))
    obtain ⟨⟨y, kd, ry, rk, hk⟩, hh, v, rv, rp⟩ := q
    have hn := nested_of hok sb rk hk ry
    obtain ⟨a, ea⟩ := isT_ref hn (ht p List.mem_cons_self)
    obtain ⟨hash, key, val⟩ := e
    simp only at ea hh ry rv hn
    subst ea
    have ey : y = .ref a := by
      cases y <;> first | (cases ry; rfl) | (obtain ⟨_, z⟩ := ry; cases z) | (cases ry)
    subst ey
    refine ⟨(p.1, a, val) :: xs, ?_, fun x hx => ?_, .cons ⟨rfl, ⟨kd, rk, hk⟩, v, rv, rp⟩ i3⟩
    · rw [List.map_cons, ← i1]
      congr 1
      show DictEntry.mk hash (.ref a) val = ⟨NestedKey.hash w p.1, .ref a, val⟩
      rw [hh w]
    · rcases List.mem_cons.mp hx with e | hx
      · rw [e]; exact ⟨hn, hd p List.mem_cons_self⟩
      · exact i2 x hx
theorem fromH {P : Program} {w : World} {K : PySem.W.Frag} {B : Hp} : ∀ {kvs : List (NestedKey × D)} {xs : List (NestedKey × Addr × Value)}, Paired (PH K B) kvs xs → Paired (EntR K B) kvs (xs.map (entryOfKey (nestedKind P w)))
  | _, _, .nil => .nil
  | _, _, .cons (a := p) (b := x) q qs => by
    obtain ⟨e, ⟨kd, r1, r2⟩, v, r3, r4⟩ := q
    refine .cons ⟨⟨.ref x.2.1, kd, rfl, r1, r2⟩, fun w' => ?_, v, r3, r4⟩ (fromH qs)
    show NestedKey.hash w x.1 = _
    rw [← e]
    exact hash_any w w' r2
/-- by value -/
def leafOf : NestedKey → Leaf
  | .num i => .num i
  | .text x => .text x
  | _ => .none
abbrev PL (K : PySem.W.Frag) (B : Hp) (p : NestedKey × D) (x : Leaf × Value) : Prop := p.1 = x.1.key ∧ (∃ kd, nk kd = some p.1) ∧ ∃ v, RelV v x.2 ∧ Rp K B v p.2
theorem leaf_is {h : Heap} {k : NestedKey} {u : Value} (n : NestedIs h k u) (t : isT k = false) : Leaf.isOf (leafOf k) u = true ∧ (leafOf k).key = k := by
  cases n with
  | none => exact ⟨rfl, rfl⟩
  | bool q => exact ⟨decide_eq_true q.symm, rfl⟩
  | int i t => exact ⟨decide_eq_true rfl, rfl⟩
  | text x tk => exact ⟨by show Value.isStrOf x (.str x tk) = true; simp [Value.isStrOf], rfl⟩
  | tup _ _ _ _ => cases t
theorem toL {P : Program} {w : World} {K : PySem.W.Frag} {B H : Hp} {h : Heap} (hok : HOk P w H h) (sb : Same B H) : ∀ {kvs : List (NestedKey × D)} {l : List DictEntry}, Paired (EntR K B) kvs l → (∀ p ∈ kvs, isT p.1 = false) →
    ∃ vs : List (Leaf × Value), (∀ e ∈ l, ∃ k, (leafKind P w).is k e.key = true ∧ e.hash = (leafKind P w).hash k) ∧ Pairs (leafKind P w) l vs ∧ Paired (PL K B) kvs vs
  | _, _, .nil, _ => ⟨[], (fun _ hx => by cases hx), .nil, .nil⟩
  | _, _, .cons (a := p) (b := e) q qs, ht => by
    obtain ⟨vs, i1, i2, i3⟩ := toL hok sb qs (fun p hp => ht p (List.mem_cons_of_mem _ hp))
    obtain ⟨⟨y, kd, ry, rk, hk⟩, hh, v, rv, rp⟩ := q
    obtain ⟨l1, l2⟩ := leaf_is (nested_of hok sb rk hk ry) (ht p List.mem_cons_self)
    refine ⟨(leafOf p.1, e.val) :: vs, fun x hx => ?_, .cons l1 rfl i2, .cons ⟨l2.symm, ⟨kd, hk⟩, v, rv, rp⟩ i3⟩
    rcases List.mem_cons.mp hx with ex | hx
    · rw [ex]
      refine ⟨leafOf p.1, l1, ?_⟩
      show e.hash = (leafOf p.1).key.hash w
      rw [l2]
      exact hh w
    · exact i1 x hx
theorem leaf_val {k : Leaf} {u : Value} {kd : D} (h : Leaf.isOf k u = true) (hk : nk kd = some k.key) : ∃ y d, RelV y u ∧ (∀ (K : PySem.W.Frag) (B : Hp), Rp K B y d) ∧ nk d = some k.key := by
  cases k with
  | none =>
    cases u <;> first | exact ⟨.non, .non, rfl, fun _ _ => .non, rfl⟩ | exact absurd h Bool.false_ne_true
  | num i =>
    cases u with
    | int j t =>
      have e : j = i := of_decide_eq_true h
      subst e
      exact ⟨.int j, .int j, ⟨t, rfl⟩, fun _ _ => .int j, rfl⟩
    | bool b =>
      have e : (if b = true then 1 else 0) = i := of_decide_eq_true h
      exact ⟨.bl b, .bl b, rfl, fun _ _ => .bl b, by show some (NestedKey.num _) = some (NestedKey.num i); rw [e]⟩
    | _ => exact absurd h Bool.false_ne_true
  | text x =>
    exfalso
    cases kd <;> simp only [nk] at hk <;> try (cases hk; done)
    split at hk <;> cases hk
theorem fromL {P : Program} {w : World} {K : PySem.W.Frag} {B : Hp} {kvs : List (NestedKey × D)} {l : List DictEntry} {vs : List (Leaf × Value)} (hh : ∀ e ∈ l, ∃ k, (leafKind P w).is k e.key = true ∧ e.hash = (leafKind P w).hash k) (hp : Pairs (leafKind P w) l vs) (hq : Paired (PL K B) kvs vs) : Paired (EntR K B) kvs l := by
  induction hp generalizing kvs with
  | nil => cases hq; exact .nil
  | @cons e x es vs h1 h2 hs ih =>
    cases hq with
    | @cons p _ ps _ q qs =>
      obtain ⟨ek, ⟨kd, r1⟩, v, r3, r4⟩ := q
      refine .cons ?_ (ih (fun e he => hh e (List.mem_cons_of_mem _ he)) qs)
      obtain ⟨y, d, a1, a2, a3⟩ := leaf_val (kd := kd) h1 (by rw [← ek]; exact r1)
      obtain ⟨k', b1, b2⟩ := hh e List.mem_cons_self
      have e2 : k' = x.1 := (leafKind P w).inj _ _ _ b1 h1
      refine ⟨⟨y, d, a1, a2 K B, by rw [a3, ek]⟩, fun w' => ?_, v, by rw [h2]; exact r3, r4⟩
      rw [b2, e2]
      show x.1.key.hash w = _
      rw [← ek]
      exact hash_any w w' r1
end R
/-! Q4: what is done with a dict -/
namespace R
open PySem PySem.Spec PyProof.Rows L2
def kindOk (kvs : List (NestedKey × D)) (k : NestedKey) : Bool := kvs.all (fun p => isT p.1 == isT k) && decide (k.depth ≤ 8)
theorem kindOk_at {kvs : List (NestedKey × D)} {k : NestedKey} (h : kindOk kvs k = true) : (∀ p ∈ kvs, isT p.1 = isT k) ∧ k.depth ≤ 8 := by
  unfold kindOk at h
  rw [Bool.and_eq_true, List.all_eq_true] at h
  exact ⟨fun p hp => beq_iff_eq.mp (h.1 p hp), of_decide_eq_true h.2⟩
theorem lk_cons {α : Type} (p : NestedKey × α) (r : List (NestedKey × α)) (k : NestedKey) : lk (p :: r) k = if p.1 = k then some p.2 else lk r k := by
  unfold lk
  rw [List.find?_cons]
  by_cases h : p.1 = k
  · rw [if_pos h, decide_eq_true h]; rfl
  · rw [if_neg h, decide_eq_false h]
theorem ph_get {K : PySem.W.Frag} {B : Hp} (k : NestedKey) : ∀ {kvs : List (NestedKey × D)} {xs : List (NestedKey × Addr × Value)}, Paired (PH K B) kvs xs → match lk kvs k with | none => atKey xs k = none | some d => ∃ p, atKey xs k = some p ∧ ∃ v, RelV v p.2 ∧ Rp K B v d
  | _, _, .nil => rfl
  | _, _, .cons (a := p) (b := x) q qs => by
    have ih := ph_get k qs
    rw [lk_cons]
    obtain ⟨e, _, v, r1, r2⟩ := q
    unfold atKey at ih ⊢
    rw [List.find?_cons]
    by_cases h : p.1 = k
    · rw [if_pos h]
      have : decide (x.1 = k) = true := decide_eq_true (by rw [← e]; exact h)
      rw [this]
      exact ⟨x.2, rfl, v, r1, r2⟩
    · rw [if_neg h]
      have : decide (x.1 = k) = false := decide_eq_false (by rw [← e]; exact h)
      rw [this]
      exact ih
theorem pl_get {K : PySem.W.Frag} {B : Hp} {k : NestedKey} (hk : (leafOf k).key = k) : ∀ {kvs : List (NestedKey × D)} {xs : List (Leaf × Value)}, Paired (PL K B) kvs xs → match lk kvs k with | none => valueAt xs (leafOf k) = none | some d => ∃ p, valueAt xs (leafOf k) = some p ∧ ∃ v, RelV v p ∧ Rp K B v d
  | _, _, .nil => rfl
  | _, _, .cons (a := p) (b := x) q qs => by
    have ih := pl_get hk qs
    rw [lk_cons]
    obtain ⟨e, _, v, r1, r2⟩ := q
    unfold valueAt at ih ⊢
    rw [List.find?_cons]
    by_cases h : p.1 = k
    · rw [if_pos h]
      have : decide (x.1 = leafOf k) = true := decide_eq_true (Leaf.key_inj (by rw [← e, hk]; exact h))
      rw [this]
      exact ⟨x.2, rfl, v, r1, r2⟩
    · rw [if_neg h]
      have : decide (x.1 = leafOf k) = false := decide_eq_false (fun z => h (by rw [e, z, hk]))
      rw [this]
      exact ih
theorem ph_put {K : PySem.W.Frag} {B : Hp} {k : NestedKey} {d : D} {b : Addr} {v : Value} {kvs : List (NestedKey × D)} {xs : List (NestedKey × Addr × Value)} (h : Paired (PH K B) kvs xs) (q : PH K B (k, d) (k, b, v)) : Paired (PH K B) (putN kvs k d) (storedH xs k b v) := by
  have hg := ph_get (K := K) (B := B) k h
  have hs : (lk kvs k).isSome = (atKey xs k).isSome := by
    cases hl : lk kvs k with
    | none => rw [hl] at hg; rw [hg]; rfl
    | some d' => rw [hl] at hg; obtain ⟨p, e, _⟩ := hg; rw [e]; rfl
  unfold putN storedH
  rw [hs]
  split
  · rename_i hx
    clear hg hs hx
    induction h with
    | nil => exact .nil
    | @cons p x ps xs' q1 qs ih =>
      rw [List.map_cons, List.map_cons]
      refine .cons ?_ ih
      unfold putAt
      obtain ⟨e, r0, v', r1, r2⟩ := q1
      by_cases hk : p.1 = k
      · rw [if_pos hk, if_pos (by rw [← e]; exact hk)]
        exact ⟨e, r0, q.2.2⟩
      · rw [if_neg hk, if_neg (by rw [← e]; exact hk)]
        exact ⟨e, r0, v', r1, r2⟩
  · exact Paired.snoc h q
theorem pl_put {K : PySem.W.Frag} {B : Hp} {k : NestedKey} {d : D} {v : Value} {kvs : List (NestedKey × D)} {xs : List (Leaf × Value)} (hk : (leafOf k).key = k) (h : Paired (PL K B) kvs xs) (q : PL K B (k, d) (leafOf k, v)) : Paired (PL K B) (putN kvs k d) (stored xs (leafOf k) v) := by
  have hg := pl_get (K := K) (B := B) hk h
  have hs : (lk kvs k).isSome = (xs.any fun kv => decide (kv.1 = leafOf k)) := by
    clear hg
    induction h with
    | nil => rfl
    | @cons p x ps xs' q1 qs ih =>
      rw [lk_cons, List.any_cons]
      obtain ⟨e, _⟩ := q1
      by_cases hp : p.1 = k
      · have : decide (x.1 = leafOf k) = true := decide_eq_true (Leaf.key_inj (by rw [← e, hk]; exact hp))
        rw [if_pos hp, this]; rfl
      · have : decide (x.1 = leafOf k) = false := decide_eq_false (fun z => hp (by rw [e, z, hk]))
        rw [if_neg hp, this, Bool.false_or]
        exact ih
  unfold putN stored
  rw [hs]
  split
  · rename_i hx
    clear hg hs hx
    induction h with
    | nil => exact .nil
    | @cons p x ps xs' q1 qs ih =>
      rw [List.map_cons, List.map_cons]
      refine .cons ?_ ih
      obtain ⟨e, r0, v', r1, r2⟩ := q1
      by_cases hp : p.1 = k
      · rw [if_pos hp, if_pos (Leaf.key_inj (by rw [← e, hk]; exact hp))]
        exact ⟨e, r0, q.2.2⟩
      · rw [if_neg hp, if_neg (fun z => hp (by rw [e, z, hk]))]
        exact ⟨e, r0, v', r1, r2⟩
  · exact Paired.snoc h q
theorem lk_none_iff {α : Type} {k : NestedKey} : ∀ {kvs : List (NestedKey × α)}, lk kvs k = none → k ∉ kvs.map (·.1)
  | [], _ => by simp
  | p :: r, h => by
    rw [lk_cons] at h
    by_cases hp : p.1 = k
    · rw [if_pos hp] at h; cases h
    · rw [if_neg hp] at h
      have := lk_none_iff h
      simp only [List.map_cons, List.mem_cons, not_or]
      exact ⟨fun z => hp z.symm, this⟩
theorem putN_keys {α : Type} (kvs : List (NestedKey × α)) (k : NestedKey) (d : α) : (putN kvs k d).map (·.1) = if (lk kvs k).isSome then kvs.map (·.1) else kvs.map (·.1) ++ [k] := by
  unfold putN
  split
  · rw [List.map_map]
    apply List.map_congr_left
    intro p _
    show (if p.1 = k then (p.1, d) else p).1 = p.1
    split <;> rfl
  · rw [List.map_append]; rfl
theorem putN_nodup {α : Type} {kvs : List (NestedKey × α)} {k : NestedKey} {d : α} (h : (kvs.map (·.1)).Nodup) : ((putN kvs k d).map (·.1)).Nodup := by
  rw [putN_keys]
  cases hl : lk kvs k with
  | some _ => exact h
  | none =>
    show (kvs.map (·.1) ++ [k]).Nodup
    rw [List.nodup_append]
    refine ⟨h, by simp, fun a ha b hb => ?_⟩
    rw [List.mem_singleton.mp hb]
    intro z
    exact lk_none_iff hl (z ▸ ha)
theorem putN_mem {α : Type} {kvs : List (NestedKey × α)} {k : NestedKey} {d : α} {p : NestedKey × α} (h : p ∈ putN kvs k d) : p.1 = k ∨ ∃ q ∈ kvs, q.1 = p.1 := by
  have : p.1 ∈ (putN kvs k d).map (·.1) := List.mem_map_of_mem h
  rw [putN_keys] at this
  have two : p.1 ∈ kvs.map (·.1) ∨ p.1 = k := by
    split at this
    · exact .inl this
    · rcases List.mem_append.mp this with z | z
      · exact .inl z
      · exact .inr (List.mem_singleton.mp z)
  rcases two with z | z
  · obtain ⟨q, hq, e⟩ := List.mem_map.mp z
    exact .inr ⟨q, hq, e⟩
  · exact .inl z
theorem putN_len {α : Type} (kvs : List (NestedKey × α)) (k : NestedKey) (d : α) : (putN kvs k d).length ≤ kvs.length + 1 := by
  unfold putN
  split
  · rw [List.length_map]; omega
  · rw [List.length_append]; simp
section
variable {X : Cx} {pins : List (Addr × Obj)} {σ : L2.St} {B H : Hp} {s : Shared} {a : Addr} {ho : HO} {kvs : List (NestedKey × D)} {y : V} {u : Value} {kd : D} {k : NestedKey} {A : Around} {E : Value → Shared → Prop}
theorem raw_at {P : Program} {w : World} {h : Heap} {es : Array DictEntry} {ep : Nat} (hok : HOk P w H h) (e : H a = some (rawD a es ep)) : ∃ o, h.get? a = some o ∧ o.ExactDict ∧ o.data = .dict es ep := by
  have x : ObjOk P w H h a (rawD a es ep) := hok a _ e
  exact x.1
/-- the dict in one of its two readings -/
theorem dict_two (hok : HOk X.prog X.w H s.heap) (sb : Same B H) (e : H a = some ho) (m : MoOk X.K B a (.dct kvs) ho) (hk : kindOk kvs k = true) (rk : Rp X.K B y kd) (nkd : nk kd = some k) (ry : RelV y u) :
    (∃ vs, s.heap.DictOf (leafKind X.prog X.w) a vs ∧ Paired (PL X.K B) kvs vs ∧ (leafKind X.prog X.w).is (leafOf k) u = true ∧ (leafOf k).key = k ∧ isT k = false) ∨
    (∃ xs b, s.heap.DictOfH (nestedKind X.prog X.w) a xs ∧ Paired (PH X.K B) kvs xs ∧ u = .ref b ∧ y = .ref b ∧ (nestedKind X.prog X.w).is s.heap k b ∧ isT k = true) := by
  obtain ⟨es, ep, rfl, hs, pr, nd, ok1, hl, hd⟩ := m
  clear ok1
  obtain ⟨o, q1, q2, q3⟩ := raw_at hok e
  obtain ⟨h1, h2⟩ := kindOk_at hk
  have hn := nested_of hok sb rk nkd ry
  cases ht : isT k with
  | false =>
    left
    obtain ⟨l1, l2⟩ := leaf_is hn ht
    obtain ⟨vs, i1, i2, i3⟩ := toL (P := X.prog) (w := X.w) hok sb pr (fun p hp => by rw [h1 p hp, ht])
    refine ⟨vs, ⟨o, es, ep, q1, q2, q3, fun x hx => i1 x (Array.mem_toList_iff.mpr hx), i2, ?_⟩, i3, l1, l2, rfl⟩
    have : kvs.map (·.1) = (vs.map (·.1)).map Leaf.key := by
      clear i1 i2 pr nd hl hd h1 hk
      induction i3 with
      | nil => rfl
      | cons q qs ih => rw [List.map_cons, List.map_cons, List.map_cons, ih, q.1]
    rw [this] at nd
    exact List.Pairwise.of_map Leaf.key (fun _ _ hne z => hne (by rw [z])) nd
  | true =>
    right
    obtain ⟨b, rfl⟩ := isT_ref hn ht
    have ey : y = .ref b := by
      cases y <;> first | (cases ry; rfl) | (obtain ⟨_, z⟩ := ry; cases z) | (cases ry)
    obtain ⟨xs, i1, i2, i3⟩ := toH (P := X.prog) (w := X.w) hok sb pr (fun p hp => by rw [h1 p hp, ht]) hd
    refine ⟨xs, b, ⟨o, es, ep, q1, q2, q3, i1, i2, ?_⟩, i3, rfl, ey, ⟨hn, h2⟩, rfl⟩
    have : kvs.map (·.1) = xs.map (·.1) := by
      clear i1 i2 pr nd hl hd h1 hk
      induction i3 with
      | nil => rfl
      | cons q qs ih => rw [List.map_cons, List.map_cons, ih, q.1]
    rw [← this]
    exact nd
theorem room8 (hu : A.units + 16 < cLine) : (nestedKind X.prog X.w).room A.in1 := by
  show A.in1.units + 8 < cLine
  have : A.in1.units = A.units + 1 := rfl
  omega
theorem n_getItem {d : D} {Q : Value → Shared → Prop} (hu : A.units + 16 < cLine) (I : L2.Inv X pins σ H s) (sb : Same B H) (e : H a = some ho) (m : MoOk X.K B a (.dct kvs) ho) (hk : kindOk kvs k = true) (rk : Rp X.K B y kd) (nkd : nk kd = some k) (ry : RelV y u) (hl : lk kvs k = some d)
    (h : ∀ v w' s', L2.Inv X pins σ H s' → RelV v w' → Rp X.K B v d → Q w' s') : wpAny (model X.prog X.w) A (getItem (.ref a) u) Q E s := by
  rcases dict_two I.hok sb e m hk rk nkd ry with ⟨vs, dd, pl, il, lk', _⟩ | ⟨xs, b, dd, ph, rfl, _, ib, _⟩
  · have g := pl_get lk' pl
    rw [hl] at g
    obtain ⟨p, e1, v, r1, r2⟩ := g
    exact wpAny_getItem_of il dd.mapOf e1 (h v p _ (I.tok _) r1 r2)
  · have g := ph_get k ph
    rw [hl] at g
    obtain ⟨p, e1, v, r1, r2⟩ := g
    exact wpAny_getItem_heap (room8 hu) ib dd e1 (h v p.2 _ (I.tok _) r1 r2)
theorem n_in {Q : Value → Shared → Prop} (hu : A.units + 16 < cLine) (I : L2.Inv X pins σ H s) (sb : Same B H) (e : H a = some ho) (m : MoOk X.K B a (.dct kvs) ho) (hk : kindOk kvs k = true) (rk : Rp X.K B y kd) (nkd : nk kd = some k) (ry : RelV y u)
    (h : ∀ s', L2.Inv X pins σ H s' → Q (.bool (lk kvs k).isSome) s') : wpAny (model X.prog X.w) A (compareOp .In u (.ref a)) Q E s := by
  have hs : (a == sysModules) = false := by obtain ⟨_, _, _, hs, _⟩ := m; exact hs
  rcases dict_two I.hok sb e m hk rk nkd ry with ⟨vs, dd, pl, il, lk', _⟩ | ⟨xs, b, dd, ph, rfl, _, ib, _⟩
  · have g := pl_get lk' pl
    refine wpAny_in_of il hs dd.mapOf ?_
    have q : (valueAt vs (leafOf k)).isSome = (lk kvs k).isSome := by
      cases hl : lk kvs k with
      | none => rw [hl] at g; rw [g]; rfl
      | some d => rw [hl] at g; obtain ⟨p, e1, _⟩ := g; rw [e1]; rfl
    rw [q]
    exact h _ (I.tok _)
  · have g := ph_get k ph
    refine wpAny_in_heap (room8 hu) ib hs dd ?_
    have q : (atKey xs k).isSome = (lk kvs k).isSome := by
      cases hl : lk kvs k with
      | none => rw [hl] at g; rw [g]; rfl
      | some d => rw [hl] at g; obtain ⟨p, e1, _⟩ := g; rw [e1]; rfl
    rw [q]
    exact h _ (I.tok _)
theorem n_notIn {Q : Value → Shared → Prop} (hu : A.units + 16 < cLine) (I : L2.Inv X pins σ H s) (sb : Same B H) (e : H a = some ho) (m : MoOk X.K B a (.dct kvs) ho) (hk : kindOk kvs k = true) (rk : Rp X.K B y kd) (nkd : nk kd = some k) (ry : RelV y u)
    (h : ∀ s', L2.Inv X pins σ H s' → Q (.bool (!(lk kvs k).isSome)) s') : wpAny (model X.prog X.w) A (compareOp .NotIn u (.ref a)) Q E s := by
  have hs : (a == sysModules) = false := by obtain ⟨_, _, _, hs, _⟩ := m; exact hs
  rcases dict_two I.hok sb e m hk rk nkd ry with ⟨vs, dd, pl, il, lk', _⟩ | ⟨xs, b, dd, ph, rfl, _, ib, _⟩
  · have g := pl_get lk' pl
    refine wpAny_notIn_of il hs dd.mapOf ?_
    have q : (valueAt vs (leafOf k)).isSome = (lk kvs k).isSome := by
      cases hl : lk kvs k with
      | none => rw [hl] at g; rw [g]; rfl
      | some d => rw [hl] at g; obtain ⟨p, e1, _⟩ := g; rw [e1]; rfl
    rw [q]
    exact h _ (I.tok _)
  · have g := ph_get k ph
    refine wpAny_notIn_heap (room8 hu) ib hs dd ?_
    have q : (atKey xs k).isSome = (lk kvs k).isSome := by
      cases hl : lk kvs k with
      | none => rw [hl] at g; rw [g]; rfl
      | some d => rw [hl] at g; obtain ⟨p, e1, _⟩ := g; rw [e1]; rfl
    rw [q]
    exact h _ (I.tok _)
/-- d.get(k) -/
theorem n_get {Q : Value → Shared → Prop} (hu : A.units + 16 < cLine) (I : L2.Inv X pins σ H s) (sb : Same B H) (e : H a = some ho) (m : MoOk X.K B a (.dct kvs) ho) (hk : kindOk kvs k = true) (rk : Rp X.K B y kd) (nkd : nk kd = some k) (ry : RelV y u)
    (h : ∀ v w' s', L2.Inv X pins σ H s' → RelV v w' → Rp X.K B v ((lk kvs k).getD .non) → Q w' s') : wpAny (model X.prog X.w) A (call (.builtin "dict.get") [.ref a, u]) Q E s := by
  have hs : (a == sysModules) = false := by obtain ⟨_, _, _, hs, _⟩ := m; exact hs
  rcases dict_two I.hok sb e m hk rk nkd ry with ⟨vs, dd, pl, il, lk', _⟩ | ⟨xs, b, dd, ph, rfl, _, ib, _⟩
  · have g := pl_get lk' pl
    refine call_meetsIn PySem.F.slot_dict_get dd.typeIs PySem.F.entry_dict_get (PySem.F.args_dict_get_2 _ _) (meets_dict_get (leafKind X.prog X.w) a il hs) ⟨_, dd.mapOf, ?_⟩
    cases hl : lk kvs k with
    | none =>
      rw [hl] at g h
      rw [g]
      exact h .non _ _ (I.tok _) rfl .non
    | some d =>
      rw [hl] at g h
      obtain ⟨p, e1, v, r1, r2⟩ := g
      rw [e1]
      exact h v p _ (I.tok _) r1 r2
  · have g := ph_get k ph
    refine call_meetsIn PySem.F.slot_dict_get dd.typeIs PySem.F.entry_dict_get (PySem.F.args_dict_get_2 _ _) (meetsH_dict_get (nestedKind X.prog X.w) a b hs) ⟨room8 hu, k, xs, ib, dd, ?_⟩
    cases hl : lk kvs k with
    | none =>
      rw [hl] at g h
      rw [g]
      exact h .non _ _ (I.tok _) rfl .non
    | some d =>
      rw [hl] at g h
      obtain ⟨p, e1, v, r1, r2⟩ := g
      rw [e1]
      exact h v p.2 _ (I.tok _) r1 r2
theorem raw_ok {P : Program} {w : World} {h' : Heap} {o : Obj} {es : Array DictEntry} {ep : Nat} (q1 : h'.get? a = some o) (q2 : o.ExactDict) (q3 : o.data = .dict es ep) : ObjOk P w H h' a (rawD a es ep) :=
  ⟨⟨o, q1, q2, q3⟩, ⟨o, q1⟩, fun h1 h2 ⟨o', z1, z2⟩ kk => ⟨o', kk _ z1, z2⟩⟩
/-- d[k] = v -/
theorem n_set {d : D} {v : V} {r : Value} {Q : Unit → Shared → Prop} (hu : A.units + 16 < cLine) (I : L2.Inv X pins σ H s) (sb : Same B H) (hB : B a = none) (e : H a = some ho) (m : MoOk X.K B a (.dct kvs) ho) (hk : kindOk kvs k = true) (rk : Rp X.K B y kd) (nkd : nk kd = some k) (ry : RelV y u) (rv : RelV v r) (rd : Rp X.K B v d) (hz : kvs.length < sizeLine)
    (h : ∀ s' ho', L2.Inv X pins σ (upd H a ho') s' → MoOk X.K B a (.dct (putN kvs k d)) ho' → Q () s') : wpAny (model X.prog X.w) A (setItem (.ref a) u r) Q E s := by
  have two := dict_two I.hok sb e m hk rk nkd ry
  obtain ⟨h1, h2⟩ := kindOk_at hk
  obtain ⟨es, ep, rfl, hs, pr, nd, ok1, hl, hd⟩ := m
  have len := putN_len kvs k d
  have hd' : ∀ p ∈ putN kvs k d, p.1.depth ≤ 8 := fun p hp => by
    rcases putN_mem hp with z | ⟨q, hq, z⟩
    · rw [z]; exact h2
    · rw [← z]; exact hd q hq
  have hT : ∀ p ∈ putN kvs k d, isT p.1 = isT k := fun p hp => by
    rcases putN_mem hp with z | ⟨q, hq, z⟩
    · rw [z]
    · rw [← z]; exact h1 q hq
  rcases two with ⟨vs, dd, pl, il, lk', ht⟩ | ⟨xs, b, dd, ph, rfl, rfl, ib, ht⟩
  · have hvl : vs.length ≤ sizeLine := by rw [← Paired.length pl]; exact hl
    refine wpAny_setItem_pairs (hsz := hvl) il dd fun h' dd' hsb => ?_
    obtain ⟨o, es', ep', q1, q2, q3, q4, q5, _⟩ := dd'
    have pp : Paired (PL X.K B) (putN kvs k d) (stored vs (leafOf k) r) := pl_put lk' pl ⟨lk'.symm, ⟨kd, nkd⟩, v, rv, rd⟩
    refine h _ _ (d_write (ob := rawD a es' ep') I (by rw [e]; exact True.intro) hsb ⟨o, q1⟩ (raw_ok q1 q2 q3)) ⟨es', ep', rfl, hs, fromL (P := X.prog) (w := X.w) (fun x hx => q4 x (Array.mem_toList_iff.mp hx)) q5 pp, putN_nodup nd, .inl fun p hp => by rw [hT p hp, ht], by omega, hd'⟩
  · have hvl : xs.length ≤ sizeLine := by rw [← Paired.length ph]; exact hl
    refine wpAny_setItem_heap (hsz := hvl) (room8 hu) ib dd fun h' dd' hsb => ?_
    obtain ⟨o, es', ep', q1, q2, q3, q4, _, _⟩ := dd'
    have pp : Paired (PH X.K B) (putN kvs k d) (storedH xs k b r) := ph_put ph ⟨rfl, ⟨kd, rk, nkd⟩, v, rv, rd⟩
    refine h _ _ (d_write (ob := rawD a es' ep') I (by rw [e]; exact True.intro) hsb ⟨o, q1⟩ (raw_ok q1 q2 q3)) ⟨es', ep', rfl, hs, by rw [q4]; exact fromH pp, putN_nodup nd, .inr fun p hp => by rw [hT p hp, ht], by omega, hd'⟩
end
end R
/-! Q5: dicts in slots -/
namespace R
open PySem PySem.Spec PyProof.Rows L2
def dAt (j : Nat) (ρ : Slots) : Option (List (NestedKey × D)) := match ρ[j]? with | some (some (.own (.dct kvs))) => some kvs | _ => none
theorem dAt_at {j : Nat} {ρ : Slots} {kvs : List (NestedKey × D)} (h : dAt j ρ = some kvs) : ρ[j]? = some (some (.own (.dct kvs))) := by
  unfold dAt at h
  split at h
  · rename_i e; cases h; exact e
  · cases h
/-- a question at a key -/
def kAt (kd : Option D) (kvs : Option (List (NestedKey × D))) : Option (Option D) := match kd with
  | some kd => (match kvs with | some kvs => (match nk kd with | some k => if kindOk kvs k = true then some (lk kvs k) else none | none => none) | none => none)
  | none => none
theorem kAt_at {kd : Option D} {kvs : Option (List (NestedKey × D))} {o : Option D} (h : kAt kd kvs = some o) : ∃ d l k, kd = some d ∧ kvs = some l ∧ nk d = some k ∧ kindOk l k = true ∧ o = lk l k := by
  unfold kAt at h
  split at h
  · split at h
    · split at h
      · split at h
        · rename_i k hk hc
          cases h
          exact ⟨_, _, k, rfl, rfl, hk, hc, rfl⟩
        · cases h
      · cases h
    · cases h
  · cases h
def mDIn (neg : Bool) (mk : ME) (j : Nat) : ME := fun ρ => match kAt (mk ρ) (dAt j ρ) with | some o => some (.bl (if neg then !o.isSome else o.isSome)) | none => none
def mDIx (j : Nat) (mk : ME) : ME := fun ρ => match kAt (mk ρ) (dAt j ρ) with | some (some d) => some d | _ => none
def mDGet (j : Nat) (mk : ME) : ME := fun ρ => match kAt (mk ρ) (dAt j ρ) with | some o => some (o.getD .non) | none => none
def mDLen (j : Nat) : ME := fun ρ => match dAt j ρ with | some kvs => some (.int (kvs.length : Int)) | none => none
def mDPut (j : Nat) (mk mv : ME) : MS := fun ρ => match mv ρ with
  | some d => (match mk ρ with
    | some kd => (match dAt j ρ with
      | some kvs => (match nk kd with
        | some k => if kindOk kvs k = true ∧ kvs.length < sizeLine then .nx (ρ.set j (some (.own (.dct (putN kvs k d))))) else .stuck
        | none => .stuck)
      | none => .stuck)
    | none => .stuck)
  | none => .stuck
def mDNew (j : Nat) : MS := fun ρ => .nx (ρ.set j (some (.own (.dct []))))
def mDNew1 (j : Nat) (mk mv : ME) : MS := fun ρ => match mk ρ with
  | some kd => (match mv ρ with
    | some d => (match nk kd with | some k => if k.depth ≤ 8 then .nx (ρ.set j (some (.own (.dct [(k, d)])))) else .stuck | none => .stuck)
    | none => .stuck)
  | none => .stuck
/-- the dict at y, asked for x -/
def DK (K : PySem.W.Frag) (x y : V) (H : Hp) (R : Hp → Option D → Prop) : Prop := ∃ B a ho kvs kd k, y = .ref a ∧ Same B H ∧ H a = some ho ∧ MoOk K B a (.dct kvs) ho ∧ kindOk kvs k = true ∧ Rp K B x kd ∧ nk kd = some k ∧ R B (lk kvs k)
section
variable {X : Cx} {a : Expr} {ma mv : ME} {pos p pos' apos cpos : Pos} {x : Str} {j : Nat}
theorem op_dnotin (hu : X.A.units + 64 < cLine) : OpR X (compareOp .NotIn) (fun x y H Q => DK X.K x y H fun _ o => Q (.bl (!o.isSome)) H) := by
  intro pins s σ H x y v u Q I rx ry h
  obtain ⟨B, a, ho, kvs, kd, k, rfl, sb, e, m, hk, rk, nkd, q⟩ := h
  cases ry
  exact n_notIn (by omega) I sb e m hk rk nkd rx fun s' I' => ⟨.bl _, H, I', rfl, q⟩
theorem op_din (hu : X.A.units + 64 < cLine) : OpR X (compareOp .In) (fun x y H Q => DK X.K x y H fun _ o => Q (.bl o.isSome) H) := by
  intro pins s σ H x y v u Q I rx ry h
  obtain ⟨B, a, ho, kvs, kd, k, rfl, sb, e, m, hk, rk, nkd, q⟩ := h
  cases ry
  exact n_in (by omega) I sb e m hk rk nkd rx fun s' I' => ⟨.bl _, H, I', rfl, q⟩
theorem ix_dict (hu : X.A.units + 64 < cLine) : IxR X (fun y x H Q => DK X.K x y H fun B o => ∃ d, o = some d ∧ ∀ v, Rp X.K B v d → Q v H) := by
  intro value slice pins s σ H y x v u Q I ry rx h hs
  obtain ⟨B, a, ho, kvs, kd, k, rfl, sb, e, m, hk, rk, nkd, d, hl, q⟩ := h
  cases ry
  have hT : s.TypeIs (.ref a) "dict" := by
    obtain ⟨es, ep, rfl, _⟩ := m
    obtain ⟨o, q1, q2, _⟩ := raw_at I.hok e
    exact ⟨o, q1, q2.1⟩
  exact tail_any hT PySem.F.slot_dict_getitem.lookup (n_getItem (by omega) I sb e m hk rk nkd rx hl fun v w' s' I' rv rp => ⟨v, H, I', rv, q v rp⟩) hs
theorem dk_of_rl {gx : Option (Addr × Value × Option Addr)} {mk : ME} {σ : L2.St} {H0 B H : Hp} {ρ : Slots} {o : Option D} (r : Rl X.K gx H0 B H σ ρ) (h : kAt (mk ρ) (dAt j ρ) = some o) (R : Hp → Hp → Option D → Prop) (Q : V → V → Hp → Prop)
    (hq : ∀ v B1 H1 l, Gr B H B1 H1 → σ[j]? = some (some (.ref l)) → DK X.K v (.ref l) H1 (fun B2 o' => B2 = B1 ∧ o' = o)  → Q v (.ref l) H1) :
    ∃ H0' B' ρ' d, Rl X.K gx H0' B' H σ ρ' ∧ mk ρ' = some d ∧ ∀ v B1 H1, Gr B' H B1 H1 → Rp X.K B1 v d → ∃ y, σ[j]? = some (some y) ∧ Q v y H1 := by
  obtain ⟨d, l, k, h1, h2, h3, h4, h5⟩ := kAt_at h
  have hj := dAt_at h2
  refine ⟨H0, B, ρ, d, r, h1, fun v B1 H1 g q => ?_⟩
  obtain ⟨a, ho, p1, p2, p3, p4, p5⟩ := (r.grow g).own j _ hj
  exact ⟨.ref a, p1, hq v B1 H1 a g p1 ⟨B1, a, ho, l, d, k, rfl, g.bh, p4, p5, h4, q, h3, rfl, h5.symm⟩⟩
theorem re_dnotin {gx : Option (Addr × Value × Option Addr)} (hu : X.A.units + 64 < cLine) (j : Nat) (ha : RE X gx a ma) (hN : X.N[j]? = some x := by rfl) (hv : Vis X.env.scope x := by first | exact Or.inl rfl | exact Or.inr (Or.inl rfl) | exact Or.inr (Or.inr rfl)) (hd : (x == ("__debug__" : Str)) = false := by decide)
    (hcd : (x == ("__classdict__" : Str)) = false := by decide) : RE X gx (.Compare a [.NotIn] [.Name x p] pos) (mDIn true ma j) :=
  pe_mono (pe_cmpR (op_dnotin hu) ha (pe_var (i := j) hN hv hd hcd) rfl) fun σ H Q ⟨H0, B, ρ, c, r, e, k⟩ => by
    unfold mDIn at e
    cases hk : kAt (ma ρ) (dAt j ρ) with
    | none => rw [hk] at e; cases e
    | some o =>
      rw [hk] at e
      cases e
      refine dk_of_rl r hk (fun _ _ _ => True) _ fun v B1 H1 l g hl q => ?_
      obtain ⟨B2, a, ho, kvs, kd, k2, q1, q2, q3, q4, q5, q6, q7, rfl, q9⟩ := q
      exact ⟨B2, a, ho, kvs, kd, k2, q1, q2, q3, q4, q5, q6, q7, by rw [q9]; exact k _ B2 H1 g (.bl _)⟩
theorem rt_dnotin {gx : Option (Addr × Value × Option Addr)} (hu : X.A.units + 64 < cLine) (j : Nat) (ha : RE X gx a ma) (hN : X.N[j]? = some x := by rfl) (hv : Vis X.env.scope x := by first | exact Or.inl rfl | exact Or.inr (Or.inl rfl) | exact Or.inr (Or.inr rfl)) (hd : (x == ("__debug__" : Str)) = false := by decide)
    (hcd : (x == ("__classdict__" : Str)) = false := by decide) : RT X gx (.Compare a [.NotIn] [.Name x p] pos) (mT (mDIn true ma j)) :=
  pt_mono (pt_cmpR (op_dnotin hu) ha (pe_var (i := j) hN hv hd hcd) rfl) (tTest_c fun σ H Q ⟨H0, B, ρ, c, r, e, k⟩ => by
    unfold mDIn at e
    cases hk : kAt (ma ρ) (dAt j ρ) with
    | none => rw [hk] at e; cases e
    | some o =>
      rw [hk] at e
      cases e
      refine dk_of_rl r hk (fun _ _ _ => True) _ fun v B1 H1 l g hl q => ?_
      obtain ⟨B2, a, ho, kvs, kd, k2, q1, q2, q3, q4, q5, q6, q7, rfl, q9⟩ := q
      exact ⟨B2, a, ho, kvs, kd, k2, q1, q2, q3, q4, q5, q6, q7, by rw [q9]; exact k _ B2 H1 g (.bl _)⟩)
/-- d[k] -/
theorem re_dix {gx : Option (Addr × Value × Option Addr)} (hu : X.A.units + 64 < cLine) (j : Nat) (ha : RE X gx a ma) (hN : X.N[j]? = some x := by rfl) (hv : Vis X.env.scope x := by first | exact Or.inl rfl | exact Or.inr (Or.inl rfl) | exact Or.inr (Or.inr rfl)) (hd : (x == ("__debug__" : Str)) = false := by decide)
    (hcd : (x == ("__classdict__" : Str)) = false := by decide) (hs : PlainIx a := by intro _ _; rfl) : RE X gx (.Subscript (.Name x p) a pos) (mDIx j ma) :=
  pe_mono (pe_ix (ix_dict hu) (pe_var (i := j) hN hv hd hcd) ha hs) fun σ H Q ⟨H0, B, ρ, c, r, e, k⟩ => by
    unfold mDIx at e
    split at e
    · rename_i d hk
      cases e
      obtain ⟨kd, l, kk, h1, h2, h3, h4, h5⟩ := kAt_at hk
      obtain ⟨a0, ho, p1, p2, p3, p4, p5⟩ := r.own j _ (dAt_at h2)
      refine ⟨.ref a0, p1, H0, B, ρ, kd, r, h1, fun v B1 H1 g q => ?_⟩
      obtain ⟨a1, ho1, o1, o2, o3, o4, o5⟩ := (r.grow g).own j _ (dAt_at h2)
      rw [p1] at o1
      cases o1
      exact ⟨B1, a0, ho1, l, kd, kk, rfl, g.bh, o4, o5, h4, q, h3, c, h5.symm, fun v' rp => k v' B1 H1 g rp⟩
    · cases e
/-- len(d) -/
theorem call_dlen : CallR X (.builtin "len") (fun xs H Q => ∃ a es ep, xs = [.ref a] ∧ H a = some (rawD a es ep) ∧ (a == sysModules) = false ∧ es.size ≤ sizeLine ∧ (∃ (B : Hp) (kvs : List (NestedKey × D)), MoOk X.K B a (.dct kvs) (rawD a es ep) ∧ Same B H) ∧ Q (.int (es.size : Int)) H) := by
  intro pins s σ H xs us Q I r h
  obtain ⟨a, es, ep, rfl, e, hs, hz, ⟨B, kvs, m, sb⟩, q⟩ := h
  obtain ⟨u, rfl, rx⟩ := vals1 r
  cases rx
  obtain ⟨es', ep', e', _, pr, nd, ok1, hl, hd⟩ := m
  obtain ⟨o, q1, q2, q3⟩ := raw_at I.hok e
  have ee : es' = es := by
    obtain ⟨o', q1', q2', q3'⟩ := raw_at (es := es') (ep := ep') I.hok (by rw [← e']; exact e)
    rw [q1] at q1'
    cases q1'
    rw [q3] at q3'
    cases q3'
    rfl
  subst ee
  have hsz : es'.size = kvs.length := by rw [← Array.length_toList]; exact (Paired.length pr).symm
  rcases ok1 with ht | ht
  · obtain ⟨vs, i1, i2, i3⟩ := toL (P := X.prog) (w := X.w) I.hok sb pr ht
    have hlen : vs.length = es'.size := by rw [hsz]; exact (Paired.length i3).symm
    have dd : s.heap.DictOf (leafKind X.prog X.w) a vs := by
      refine ⟨o, es', ep, q1, q2, q3, fun x hx => i1 x (Array.mem_toList_iff.mpr hx), i2, ?_⟩
      have : kvs.map (·.1) = (vs.map (·.1)).map Leaf.key := by
        clear i1 i2 pr nd hl hd hsz hlen ht
        induction i3 with
        | nil => rfl
        | cons q qs ih => rw [List.map_cons, List.map_cons, List.map_cons, ih, q.1]
      rw [this] at nd
      exact List.Pairwise.of_map Leaf.key (fun _ _ hne z => hne (by rw [z])) nd
    refine call_len_dict hs dd (by rw [hlen]; rw [sizeLine_eq] at hz; omega) ?_
    rw [hlen]
    exact ⟨.int _, H, I.tok _, ⟨_, rfl⟩, q⟩
  · obtain ⟨xs, i1, i2, i3⟩ := toH (P := X.prog) (w := X.w) I.hok sb pr ht hd
    have hlen : xs.length = es'.size := by rw [hsz]; exact (Paired.length i3).symm
    have dd : s.heap.DictOfH (nestedKind X.prog X.w) a xs := by
      refine ⟨o, es', ep, q1, q2, q3, i1, i2, ?_⟩
      have : kvs.map (·.1) = xs.map (·.1) := by
        clear i1 i2 pr nd hl hd hsz hlen ht
        induction i3 with
        | nil => rfl
        | cons q qs ih => rw [List.map_cons, List.map_cons, ih, q.1]
      rw [← this]
      exact nd
    refine call_len_dictH hs dd (by rw [hlen]; rw [sizeLine_eq] at hz; omega) ?_
    rw [hlen]
    exact ⟨.int _, H, I.tok _, ⟨_, rfl⟩, q⟩
theorem re_dlen {gx : Option (Addr × Value × Option Addr)} (j : Nat) {pl : Pos} (hg : Gl X "len") (hm : X.mg "len" = none) (hN : X.N[j]? = some x := by rfl) (hv : Vis X.env.scope x := by first | exact Or.inl rfl | exact Or.inr (Or.inl rfl) | exact Or.inr (Or.inr rfl)) (hd : (x == ("__debug__" : Str)) = false := by decide)
    (hcd : (x == ("__classdict__" : Str)) = false := by decide) (hs : starEach [.Name x p] X.env = (false, eval (.Name x p) X.env) :: starEach [] X.env := by rfl) : RE X gx (.Call (.Name "len" pl) [.Name x p] [] pos) (mDLen j) :=
  pe_mono (pe_callB call_dlen hg hm PySem.boot_len (pa_cons (pe_var (i := j) hN hv hd hcd) pa_nil hs) (by decide) (by decide) hs rfl) fun σ H Q ⟨H0, B, ρ, c, r, e, k⟩ => by
    unfold mDLen at e
    split at e
    · rename_i kvs hk
      cases e
      obtain ⟨a0, ho, p1, p2, p3, p4, p5⟩ := r.own j _ (dAt_at hk)
      obtain ⟨es, ep, e1, e2, e3, e4, e5, e6, e7⟩ := id p5
      have hsz : es.size = kvs.length := by rw [← Array.length_toList]; exact (Paired.length e3).symm
      refine ⟨.ref a0, p1, a0, es, ep, rfl, by rw [← e1]; exact p4, e2, by rw [hsz]; exact e6, ⟨B, kvs, by rw [← e1]; exact p5, r.bh⟩, ?_⟩
      rw [hsz]
      exact k _ B H (Gr.refl r.bh) (.int _)
    · cases e
/-- d.get(k) -/
theorem mt_dget (hu : X.A.units + 64 < cLine) : MtR X "dict.get" (fun y xs H Q => ∃ x, xs = [x] ∧ DK X.K x y H fun B o => ∀ v, Rp X.K B v (o.getD .non) → Q v H) := by
  intro pins s σ H y xs v us Q I ry rs h
  obtain ⟨x, rfl, B, a, ho, kvs, kd, k, rfl, sb, e, m, hk, rk, nkd, q⟩ := h
  obtain ⟨u, rfl, rx⟩ := vals1 rs
  cases ry
  exact n_get (by omega) I sb e m hk rk nkd rx fun v w' s' I' rv rp => ⟨v, H, I', rv, q v rp⟩
theorem re_dget {gx : Option (Addr × Value × Option Addr)} (hu : X.A.units + 64 < cLine) (j : Nat) (ha : RE X gx a ma) (hN : X.N[j]? = some x := by rfl) (hv : Vis X.env.scope x := by first | exact Or.inl rfl | exact Or.inr (Or.inl rfl) | exact Or.inr (Or.inr rfl)) (hd : (x == ("__debug__" : Str)) = false := by decide)
    (hcd : (x == ("__classdict__" : Str)) = false := by decide)
    (hbase : attributeBase (.Name x p) "get" X.env (eval (.Name x p) X.env) = eval (.Name x p) X.env := by rfl)
    (hfew : ((backTo cpos (starEach [a] X.env)).all (fun x => !x.1) && (backToKw cpos (keywordEach [] X.env)).all (fun x => x.1.isSome)
      && decide ([a].length + ([] : List Keyword).length + (if ([] : List Keyword).isEmpty then 0 else 1) < 30)) = true := by rfl)
    (hline : (apos.endLine == cpos.line) = true := by rfl) (htr : backTo cpos (starEach [a] X.env) = [(false, eval a X.env)] := by rfl) : RE X gx (.Call (.Attribute (.Name x p) "get" apos) [a] [] cpos) (mDGet j ma) := by
  refine ⟨fun pins s σ H Q I ⟨H0, B, ρ, c, r, e, k⟩ => ?_⟩
  unfold mDGet at e
  cases hk : kAt (ma ρ) (dAt j ρ) with
  | none => rw [hk] at e; cases e
  | some o =>
    rw [hk] at e
    cases e
    obtain ⟨kd, l, kk, h1, h2, h3, h4, h5⟩ := kAt_at hk
    obtain ⟨a0, ho, p1, p2, p3, p4, p5⟩ := r.own j _ (dAt_at h2)
    refine wpAny_Call_method_late hbase hfew hline rfl (thn ((pe_var (pos := p) (i := j) hN hv hd hcd).run pins s σ H (fun y H1 => y = .ref a0 ∧ H1 = H) I ⟨.ref a0, p1, rfl, rfl⟩) fun v s1 ⟨y, H1, I1, r1, ey, eH⟩ => ?_)
    subst ey eH
    cases r1
    obtain ⟨es, ep, e1, _⟩ := id p5
    subst e1
    obtain ⟨o', q1, q2, _⟩ := raw_at I1.hok p4
    refine ⟨"dict", "dict.get", PySem.F.plainAttrs_dict, PySem.F.slot_dict_get, PySem.F.type_dict_get, ⟨o', q1, q2.1⟩, fun b q => ?_, ?_⟩
    · cases q
      exact ⟨o', q1, q2.2.1⟩
    rw [htr]
    refine Calls.callWith_builtin rfl (Calls.evalArgs_plain (Calls.spliced_cons (thn (ha.run pins s1 σ H1 (fun v H' => ∃ B', Gr B H1 B' H' ∧ Rp X.K B' v kd) I1 ⟨H0, B, ρ, kd, r, h1, fun v B' H' g q => ⟨B', g, q⟩⟩) fun u s2 ⟨v, H2, I2, r2, B2, g2, q2⟩ => Calls.spliced_nil ?_)))
    obtain ⟨a1, ho1, o1, o2, o3, o4, o5⟩ := (r.grow g2).own j _ (dAt_at h2)
    rw [p1] at o1
    cases o1
    exact mt_dget hu pins s2 σ H2 (.ref a0) [v] (.ref a0) [u] Q I2 rfl (.cons r2 .nil) ⟨v, rfl, B2, a0, ho1, l, kd, kk, rfl, g2.bh, o4, o5, h4, q2, h3, fun v' rp => k v' B2 H2 g2 (by rw [h5]; exact rp)⟩
end
end R
/-! Q6: stores into dicts and lists; new dicts -/
namespace R
open PySem PySem.Spec PyProof.Rows L2
section
variable {X : Cx} {W : WX} {a e : Expr} {ma mv : ME} {pos p pos' apos cpos : Pos} {x : Str} {j : Nat}
theorem Gr.chg {B0 H0 B H : Hp} {l : Addr} {ho : HO} (g : Gr B0 H0 B H) (h0 : H0 l = none) (hb : B l = none) : Gr B0 H0 B (upd H l ho) :=
  ⟨g.b, fun b o e => by rw [upd_ne (ne_of_none e h0)]; exact g.h _ _ e, fun b o e => by rw [upd_ne (ne_of_none e hb)]; exact g.bh _ _ e, g.nw⟩
/-- d[k] = v -/
theorem rs_dput {gx : Option (Addr × Value × Option Addr)} (hu : X.A.units + 64 < cLine) (j : Nat) (ha : RE X gx a ma) (he : RE X gx e mv) (hs : swapsWith e (some (.Subscript (.Name x p) a pos')) pos.line X.env = pure false := by rfl) (hN : X.N[j]? = some x := by rfl) (hv : Vis X.env.scope x := by first | exact Or.inl rfl | exact Or.inr (Or.inl rfl) | exact Or.inr (Or.inr rfl)) (hd : (x == ("__debug__" : Str)) = false := by decide)
    (hcd : (x == ("__classdict__" : Str)) = false := by decide) : RS X gx W (.Assign [.Subscript (.Name x p) a pos'] e pos) (mDPut j ma mv) := by
  refine ⟨fun pins s σ H Ds I ⟨B0, H0, B, ρ, g, r, k⟩ => ?_⟩
  unfold mDPut at k
  cases h1 : mv ρ with
  | none => rw [h1] at k; exact k.elim
  | some d =>
    cases h2 : ma ρ with
    | none => rw [h1, h2] at k; exact k.elim
    | some kd =>
      cases h3 : dAt j ρ with
      | none => rw [h1, h2, h3] at k; exact k.elim
      | some kvs =>
        rw [h1, h2, h3] at k
        simp only at k
        cases h4 : nk kd with
        | none => rw [h4] at k; exact k.elim
        | some kk =>
          rw [h4] at k
          simp only at k
          split at k
          · rename_i hc
            have hj := dAt_at h3
            refine wpAny_Assign_Subscript (thn (he.run pins s σ H (fun v H' => ∃ B', Gr B H B' H' ∧ Rp X.K B' v d) I ⟨H0, B, ρ, d, r, h1, fun v B' H' g q => ⟨B', g, q⟩⟩) fun rv s1 ⟨v, H1, I1, r1, B1, g1, q1⟩ => ?_) hs
            obtain ⟨l, ho, p1, p2, p3, p4, p5⟩ := (r.grow g1).own j _ hj
            refine thn ((pe_var (pos := p) (i := j) hN hv hd hcd).run pins s1 σ H1 (fun y H' => y = .ref l ∧ H' = H1) I1 ⟨.ref l, p1, rfl, rfl⟩) fun ov s2 ⟨y, H2, I2, r2, ey, eH⟩ => ?_
            subst ey eH
            refine thn (ha.run pins s2 σ H2 (fun v H' => ∃ B', Gr B1 H2 B' H' ∧ Rp X.K B' v kd) I2 ⟨H0, B1, ρ, kd, r.grow g1, h2, fun v B' H' g q => ⟨B', g, q⟩⟩) fun iv s3 ⟨ix, H3, I3, r3, B3, g3, q3⟩ => ?_
            cases r2
            obtain ⟨l', ho', o1, o2, o3, o4, o5⟩ := ((r.grow g1).grow g3).own j _ hj
            rw [p1] at o1
            cases o1
            refine n_set (by omega) I3 g3.bh o3 o4 o5 hc.1 q3 h4 r3 r1 (q1.mono g3.b) hc.2 fun s4 ho2 I4 m4 => ?_
            have gg := (g.trans g1).trans g3
            have r5 := ((r.grow g1).grow g3).chg hj p1 m4
            exact ⟨σ, _, I4, k σ B3 _ (gg.chg p2 o3) (g1.b.trans g3.b) r5⟩
          · exact k.elim
/-! {} -/
theorem raw_empty {P : Program} {w : World} {H : Hp} (h : Heap) : ObjOk P w H (h.push { cls := .type "dict", data := .dict #[] }) h.objs.size (rawD h.objs.size #[] 0) :=
  raw_ok (Heap.get?_push_size _ rfl) ⟨rfl, rfl, rfl⟩ rfl
theorem pe_dnewR : PE X (.Dict [] [] pos) (fun _ H Q => ∀ p, H p = none → (p == sysModules) = false → Q (.ref p) (upd H p (rawD p #[] 0))) := ⟨fun pins s σ H Q I h =>
  wpAny_Dict_empty ⟨.ref s.heap.objs.size, _, I.laid (a := s.heap.objs.size) (o := rawD s.heap.objs.size #[] 0) (t' := s.toks) (fun _ _ q => Heap.get?_push_of_some _ q) (Nat.le_refl _) (raw_empty s.heap), rfl, h _ (I.hok.fresh (Nat.le_refl _)) (beq_eq_false_iff_ne.mpr (Ne.symm (Nat.ne_of_lt I.big)))⟩⟩
theorem Rl.newO {gx : Option (Addr × Value × Option Addr)} {K : PySem.W.Frag} {H0 B H B' H' : Hp} {σ : L2.St} {ρ : Slots} (r : Rl K gx H0 B H σ ρ) (g0 : Same H0 H) (g' : Gr B H B' H') {i : Nat} {l : Addr} {ho : HO} {o : MO} (h1 : H l = none) (h2 : B' l = none) (h3 : H' l = some ho) (h4 : MoOk K B' l o ho) :
    Rl K gx H0 B' H' (σ.set i (some (.ref l))) (ρ.set i (some (.own o))) :=
  (r.grow g').setO (g0.free h1) h2 h3 h4 fun j o' hj hr hs => by
    obtain ⟨l', ho, p1, p2, p3, p4, p5⟩ := r.own j o' hr
    rw [hs] at p1
    cases p1
    rw [h1] at p4
    cases p4
theorem rs_dnew {gx : Option (Addr × Value × Option Addr)} {py : Pos} (j : Nat) (hN : X.N.Nodup) (hi : X.N[j]? = some x := by rfl) (hx : Loc X.env.scope x := by first | exact Or.inl rfl | exact Or.inr rfl) (hs : swapsWith (.Dict [] [] p) (some (.Name x pos')) pos.line X.env = pure false := by rfl)
    (hf : X.fn x = true ∨ X.env.scope.names.lookup x = some .local := by first | exact .inl rfl | exact .inr rfl | assumption) : RS X gx W (.Assign [.Name x pos'] (.Dict [] [] p) pos) (mDNew j) :=
  ps_mono (ps_set hN hi hx pe_dnewR hs hf) fun Ds σ H ⟨B0, H0, B, ρ, g, r, k⟩ => by
    intro l hl hsm
    have gn : Gr B H B (upd H l (rawD l #[] 0)) := Gr.newOwn r.bh hl
    exact k _ B _ (g.trans gn) (Same.refl _) (r.newO g.h gn hl (r.bh.free hl) upd_same ⟨#[], 0, rfl, hsm, .nil, List.nodup_nil, .inl (fun _ h => by cases h), Nat.zero_le _, fun _ h => by cases h⟩)
/-- {k: v} -/
theorem pe_dnew1 {gx : Option (Addr × Value × Option Addr)} {kd d : D} (hu : X.A.units + 64 < cLine) (ha : RE X gx a ma) (he : RE X gx e mv) : PE X (.Dict [some a] [e] pos) (fun σ H Q => ∃ H0 B ρ kd d k, Rl X.K gx H0 B H σ ρ ∧ ma ρ = some kd ∧ mv ρ = some d ∧ nk kd = some k ∧ k.depth ≤ 8 ∧
    ∀ l B' H' ho, Gr B H B' (upd H' l ho) → H l = none → B' l = none → MoOk X.K B' l (.dct [(k, d)]) ho → Q (.ref l) (upd H' l ho)) := by
  refine ⟨fun pins s σ H Q I h => ?_⟩
  obtain ⟨H0, B, ρ, kd, d, k, r, h1, h2, h3, h4, q⟩ := h
  have hn := I.hok.fresh (Nat.le_refl s.heap.objs.size)
  have hsm : (s.heap.objs.size == sysModules) = false := beq_eq_false_iff_ne.mpr (Ne.symm (Nat.ne_of_lt I.big))
  have I1 := I.laid (a := s.heap.objs.size) (o := rawD s.heap.objs.size #[] 0) (h' := s.heap.push { cls := .type "dict", data := .dict #[] }) (t' := s.toks) (fun _ _ q => Heap.get?_push_of_some _ q) (Nat.le_refl _) (raw_empty s.heap)
  have gn : Gr B H B (upd H s.heap.objs.size (rawD s.heap.objs.size #[] 0)) := Gr.newOwn r.bh hn
  have hpp : PPs X pos [some a] [e] [(cE X.K gx ma, cE X.K gx mv)] := pps_cons ha he pps_nil
  have walk := hpp.run pins _ σ _ (fun ps H2 => ∃ v u B2, ps = [(v, u)] ∧ Gr B (upd H s.heap.objs.size (rawD s.heap.objs.size #[] 0)) B2 H2 ∧ Rp X.K B2 v kd ∧ Rp X.K B2 u d) I1
    ⟨H0, B, ρ, kd, r.grow gn, h1, fun v B1 H1 g1 q1 => ⟨H0, B1, ρ, d, r.grow (gn.trans g1), h2, fun u B2 H2 g2 q2 => ⟨v, u, B2, rfl, g1.trans g2, q1.mono g2.b, q2⟩⟩⟩
  cases ht : isT k with
  | false =>
    refine wpAny_Dict_walk (knd := leafKind X.prog X.w) rfl rfl (by simp) (by simp) (thn walk fun ws s2 ⟨ps, H2, I2, rel, v, u, B2, eps, g2, q1, q2⟩ => ?_)
    subst eps
    obtain ⟨w1, w2, rfl, rw1, rw2⟩ : ∃ w1 w2, ws = [(w1, w2)] ∧ RelV v w1 ∧ RelV u w2 := by
      cases rel with
      | @cons _ b _ _ hh tt =>
        cases tt
        exact ⟨b.1, b.2, rfl, hh.1, hh.2⟩
    have hl2 : H2 s.heap.objs.size = some (rawD s.heap.objs.size #[] 0) := g2.h _ _ upd_same
    have hb2 : B2 s.heap.objs.size = none := g2.nw _ (by rw [upd_same]; simp) (r.bh.free hn)
    obtain ⟨l1, l2⟩ := leaf_is (nested_of I2.hok g2.bh q1 h3 rw1) ht
    obtain ⟨o, z1, z2, z3⟩ := raw_at I2.hok hl2
    refine ⟨[(leafOf k, w2)], ⟨l1, rfl, trivial⟩, ⟨o, #[], 0, z1, z2, z3, fun _ hx => by simp at hx, .nil, List.nodup_nil⟩, fun h' dd' hsb => ?_⟩
    obtain ⟨o', es', ep', y1, y2, y3, y4, y5, _⟩ := dd'
    have m' : MoOk X.K B2 s.heap.objs.size (.dct [(k, d)]) (rawD s.heap.objs.size es' ep') :=
      ⟨es', ep', rfl, hsm, fromL (P := X.prog) (w := X.w) (fun x hx => y4 x (Array.mem_toList_iff.mp hx)) y5 (.cons ⟨l2.symm, ⟨kd, h3⟩, u, rw2, q2⟩ .nil), by simp, .inl (fun p hp => by rw [List.mem_singleton.mp hp]; exact ht), by simp; decide, fun p hp => by rw [List.mem_singleton.mp hp]; exact h4⟩
    have I3 := d_write (t' := s2.toks + [(w1, w2)].length) (ob := rawD s.heap.objs.size es' ep') I2 (by rw [hl2]; exact True.intro) hsb ⟨o', y1⟩ (raw_ok y1 y2 y3)
    exact ⟨.ref s.heap.objs.size, _, I3, rfl, q _ B2 H2 _ ((gn.trans g2).chg hn hb2) hn hb2 m'⟩
  | true =>
    rw [arm_eval_Dict, zip_pairTrees [some a] [e] X.env pos rfl rfl, dictDisplay_pairs (pairTrees [some a] [e] X.env pos) (fun z => by cases z) (by show 1 < 17; decide)]
    refine wpAny_bind (wpAny_standAt (wpAny_bind (wpAny_subDictH (knd := nestedKind X.prog X.w) (by show X.A.units + 8 < cLine; omega) (by show 1 ≤ 15; decide) (thn walk fun ws s2 ⟨ps, H2, I2, rel, v, u, B2, eps, g2, q1, q2⟩ => ?_))))
    subst eps
    obtain ⟨w1, w2, rfl, rw1, rw2⟩ : ∃ w1 w2, ws = [(w1, w2)] ∧ RelV v w1 ∧ RelV u w2 := by
      cases rel with
      | @cons _ b _ _ hh tt =>
        cases tt
        exact ⟨b.1, b.2, rfl, hh.1, hh.2⟩
    have hl2 : H2 s.heap.objs.size = some (rawD s.heap.objs.size #[] 0) := g2.h _ _ upd_same
    have hb2 : B2 s.heap.objs.size = none := g2.nw _ (by rw [upd_same]; simp) (r.bh.free hn)
    have nst := nested_of I2.hok g2.bh q1 h3 rw1
    obtain ⟨b, rfl⟩ := isT_ref nst ht
    have ev : v = .ref b := by
      cases v <;> first | (cases rw1; rfl) | (obtain ⟨_, z⟩ := rw1; cases z) | (cases rw1)
    subst ev
    obtain ⟨o, z1, z2, z3⟩ := raw_at I2.hok hl2
    refine ⟨[(k, b, w2)], ⟨rfl, rfl, ⟨nst, h4⟩, trivial⟩, ⟨o, #[], 0, z1, z2, z3, rfl, fun _ hx => by simp at hx, List.nodup_nil⟩, fun h' tk dd' hsb => ?_⟩
    have e1 : storedAllH ([] : List (NestedKey × Addr × Value)) [(k, b, w2)] = [(k, b, w2)] := rfl
    rw [e1] at dd'
    obtain ⟨o', es', ep', y1, y2, y3, y4, _, _⟩ := dd'
    have m' : MoOk X.K B2 s.heap.objs.size (.dct [(k, d)]) (rawD s.heap.objs.size es' ep') :=
      ⟨es', ep', rfl, hsm, by rw [y4]; exact fromH (P := X.prog) (w := X.w) (.cons ⟨rfl, ⟨kd, q1, h3⟩, u, rw2, q2⟩ .nil), by simp, .inr (fun p hp => by rw [List.mem_singleton.mp hp]; exact ht), by simp; decide, fun p hp => by rw [List.mem_singleton.mp hp]; exact h4⟩
    have I3 := d_write (t' := tk) (ob := rawD s.heap.objs.size es' ep') I2 (by rw [hl2]; exact True.intro) hsb ⟨o', y1⟩ (raw_ok y1 y2 y3)
    exact wpAny_pure ⟨.ref s.heap.objs.size, _, I3, rfl, q _ B2 H2 _ ((gn.trans g2).chg hn hb2) hn hb2 m'⟩
theorem rs_dnew1 {gx : Option (Addr × Value × Option Addr)} {k : Expr} (hu : X.A.units + 64 < cLine) (j : Nat) (hN : X.N.Nodup) (ha : RE X gx a ma) (he : RE X gx e mv) (hi : X.N[j]? = some x := by rfl) (hx : Loc X.env.scope x := by first | exact Or.inl rfl | exact Or.inr rfl) (hs : swapsWith (.Dict [some a] [e] p) (some (.Name x pos')) pos.line X.env = pure false := by rfl)
    (hf : X.fn x = true ∨ X.env.scope.names.lookup x = some .local := by first | exact .inl rfl | exact .inr rfl | assumption) : RS X gx W (.Assign [.Name x pos'] (.Dict [some a] [e] p) pos) (mDNew1 j ma mv) :=
  ps_mono (ps_set hN hi hx (pe_dnew1 (kd := .non) (d := .non) hu ha he) hs hf) fun Ds σ H ⟨B0, H0, B, ρ, g, r, k⟩ => by
    unfold mDNew1 at k
    cases h1 : ma ρ with
    | none => rw [h1] at k; exact k.elim
    | some kd =>
      cases h2 : mv ρ with
      | none => rw [h1, h2] at k; exact k.elim
      | some d =>
        rw [h1, h2] at k
        simp only at k
        cases h3 : nk kd with
        | none => rw [h3] at k; exact k.elim
        | some kk =>
          rw [h3] at k
          simp only at k
          split at k
          · rename_i hd
            refine ⟨H0, B, ρ, kd, d, kk, r, h1, h2, h3, hd, fun l B' H' ho g' hl hb m => ?_⟩
            exact k _ B' _ (g.trans g') g'.b (r.newO g.h g' hl hb upd_same m)
          · exact k.elim
/-! xs[i] = v -/
def mPutL (j : Nat) (mi mv : ME) : MS := fun ρ => match mv ρ with
  | some d => (match ρ[j]? with
    | some (some (.own (.lst xs))) => (match mi ρ with
      | some (.int k) => (match ixN xs.length k with | some i => .nx (ρ.set j (some (.own (.lst (xs.set i d))))) | none => .stuck)
      | _ => .stuck)
    | _ => .stuck)
  | none => .stuck
theorem rs_putL {gx : Option (Addr × Value × Option Addr)} (j : Nat) (ha : RE X gx a ma) (he : RE X gx e mv) (hN : X.N[j]? = some x := by rfl) (hv : Vis X.env.scope x := by first | exact Or.inl rfl | exact Or.inr (Or.inl rfl) | exact Or.inr (Or.inr rfl)) (hd : (x == ("__debug__" : Str)) = false := by decide)
    (hcd : (x == ("__classdict__" : Str)) = false := by decide) (hs : swapsWithSole [.Subscript (.Name x p) a pos'] e pos.line X.env = pure false := by rfl) (hw : swappedStores [.Subscript (.Name x p) a pos'] e X.env = pure none := by rfl)
    (h1 : (assignEach [.Subscript (.Name x p) a pos'] X.env).map (·.2) = [assign (.Subscript (.Name x p) a pos') X.env] := by rfl)
    (has : ∀ v, assign (.Subscript (.Name x p) a pos') X.env v = (do
      let ov ← holding [v] (eval (.Name x p) X.env)
      let iv ← holding [v, ov] (eval a X.env)
      standAt pos'
      holding [v, ov, iv] (setItem ov iv v)
      release [v, ov, iv] []) := by intro _; rfl) : RS X gx W (.Assign [.Subscript (.Name x p) a pos'] e pos) (mPutL j ma mv) :=
  ps_mono (ps_asg he (pg_sub (pe_var (pos := p) (i := j) hN hv hd hcd) ha set_list has) hs hw h1) fun Ds σ H ⟨B0, H0, B, ρ, g, r, k⟩ => by
    unfold mPutL at k
    cases hm : mv ρ with
    | none => rw [hm] at k; exact k.elim
    | some d =>
      rw [hm] at k
      simp only at k
      split at k
      · rename_i xs hx
        split at k
        · rename_i ki hki
          split at k
          · rename_i i hi
            refine ⟨H0, B, ρ, d, r, hm, fun v B1 H1 g1 q1 => ?_⟩
            obtain ⟨l, ho, p1, p2, p3, p4, vs, p5, p6⟩ := (r.grow g1).own j _ hx
            subst p5
            refine ⟨.ref l, p1, H0, B1, ρ, _, r.grow g1, hki, fun iv B2 H2 g2 q2 => ?_⟩
            have p4' : H2 l = some (.lst vs) := g2.h _ _ p4
            refine ⟨l, vs, ki, i, rfl, q2.int_inv, p4', by rw [p6.length]; exact hi, ?_⟩
            have hb2 : B2 l = none := g2.nw l (by rw [p4]; simp) p3
            have r5 := ((r.grow g1).grow g2).chg (o := .lst (xs.set i d)) (ho := .lst (vs.set i v)) hx p1 ⟨_, rfl, (p6.mono g2.b).set (q1.mono g2.b) i⟩
            exact k _ B2 _ (((g.trans g1).trans g2).chg p2 hb2) (g1.b.trans g2.b) r5
          · exact k.elim
        · exact k.elim
      · exact k.elim
end
end R
/-! Q7: instances: fields, methods, properties, making -/
namespace R
open PySem PySem.Spec PyProof.Rows L2
theorem ClsAt.inj {K : PySem.W.Frag} {c : String} {C C' : Addr} (h : ClsAt K c C) (h' : ClsAt K c C') : C = C' := by
  unfold ClsAt at h h'
  rw [h] at h'
  cases h'
  rfl
theorem zip_lookup {K : PySem.W.Frag} {B : Hp} {f : Str} {d : D} : ∀ {ns : List Str} {vs : List V} {ds : List D}, Rps K B vs ds → ns.length = vs.length → (ns.zip ds).lookup f = some d → ∃ v, (ns.zip vs).lookup f = some v ∧ Rp K B v d
  | [], _, _, _, _, h => by cases h
  | _ :: _, _, _, .nil, hl, _ => by cases hl
  | n :: ns, _, _, .cons (v := v) (d := d') q qs, hl, h => by
    rw [List.zip_cons_cons, List.lookup_cons] at h ⊢
    cases hf : f == n with
    | true =>
      rw [hf] at h
      cases h
      exact ⟨v, rfl, q⟩
    | false =>
      rw [hf] at h
      exact zip_lookup qs (by simpa using hl) h
theorem zip_none {f : Str} : ∀ {ns : List Str} {vs : List V}, f ∉ ns → (ns.zip vs).lookup f = none
  | [], _, _ => by simp
  | _ :: _, [], _ => by simp
  | n :: ns, v :: vs, h => by
    rw [List.zip_cons_cons, List.lookup_cons]
    have : (f == n) = false := beq_eq_false_iff_ne.mpr fun z => h (by rw [z]; exact List.mem_cons_self)
    rw [this]
    exact zip_none fun z => h (List.mem_cons_of_mem _ z)
def mFld (c : String) (f : Str) (m : ME) : ME := fun ρ => match m ρ with
  | some (.ins c' ns ds) => if c' = c then (ns.zip ds).lookup f else none
  | _ => none
section
variable {X : Cx} {C : Addr} {c : String} {f : Str} {e : Expr} {me : ME} {pos apos p : Pos}
theorem re_fld {gx : Option (Addr × Value × Option Addr)} (A : ClsAt X.K c C) (hc : Cls X.K C) (hn : NoAttr X.K C f) (he : RE X gx e me) (hb : attributeBase e f X.env (eval e X.env) = eval e X.env := by rfl) : RE X gx (.Attribute e f pos) (mFld c f me) :=
  pe_mono (pe_fld he hb) fun σ H Q ⟨H0, B, ρ, d, r, e, k⟩ => by
    unfold mFld at e
    split at e
    · rename_i c' ns ds hm
      split at e
      · rename_i ec
        subst ec
        refine ⟨H0, B, ρ, _, r, hm, fun v B1 H1 g q => ?_⟩
        cases q with
        | @ins a C' dx c ns vs ds q0 q1 q2 q3 =>
          have := q0.inj A
          subst this
          obtain ⟨w, h1, h2⟩ := zip_lookup q3 q2 e
          exact ⟨a, C', dx, _, w, rfl, g.bh _ _ q1, hc, hn, h1, k w B1 H1 g h2⟩
      · cases e
    · cases e
theorem ret_k {K : PySem.W.Frag} {B H B1 H1 : Hp} {s : Sl} {d : D} {Q : VK} (g1 : Gr B H B1 H1) (e : slD s = some d) (k : ∀ v B' H', Gr B H B' H' → Rp K B' v d → Q v H') (v : V) (B2 H2 : Hp) (g2 : Gr B1 H1 B2 H2) (ro : RetOk K H1 B2 H2 v s) : Q v H2 := by
  cases s with
  | d d =>
    cases e
    exact k v B2 H2 (g1.trans g2) ro
  | own o =>
    cases o with
    | lst xs =>
      cases e
      obtain ⟨l, ho, e1, q1, q2, q3, vs', e2, q4⟩ := ro
      subst e1 e2
      exact k _ _ _ (g1.trans (g2.freeze q1 q2 q3)) (.lst upd_same (q4.mono (same_upd q2)))
    | ins x c ns ds =>
      cases e
      obtain ⟨l, ho, e1, q1, q2, q3, _, C, dx, vs', q0, e2, q5, q4⟩ := ro
      subst e1 e2
      exact k _ _ _ (g1.trans (g2.freeze q1 q2 q3)) (.ins q0 upd_same q5 (q4.mono (same_upd q2)))
    | dct kvs => cases e
  | xc _ => cases e
/-- the method m of the class c keeps g -/
structure Mt (P : Program) (w : World) (K : PySem.W.Frag) (mg : Str → Option Value) (base : Heap) (c : String) (m : Str) (k : Nat) (ps : List Str) (g : List D → Option Sl) : Prop where
  ex : ∃ C f fd, ClsAt K c C ∧ Cls K C ∧ Meth K C m f ∧ FnOk P w K mg base CX0 k f fd ps (spR K g) ∧ Binds K fd ps []
def gS (g : List D → Option Sl) (ds : List D) : Option D := match g ds with | some s => slD s | none => none
theorem gS_at {g : List D → Option Sl} {ds : List D} {d : D} (h : gS g ds = some d) : ∃ s, g ds = some s ∧ slD s = some d := by
  unfold gS at h
  split at h
  · rename_i s hs; exact ⟨s, hs, h⟩
  · cases h
def mMeth (c : String) (m : Str) (g : List D → Option Sl) (mo : ME) (ma : Slots → Option (List D)) : ME := fun ρ => match mo ρ with
  | some (.ins c' ns ds) => if c' = c ∧ m ∉ ns then (match ma ρ with | some as => gS g (.ins c' ns ds :: as) | none => none) else none
  | _ => none
theorem tMeth_c {gx : Option (Addr × Value × Option Addr)} {m : Str} {g : List D → Option Sl} {mo : ME} {ma : Slots → Option (List D)} {t : TA} {ta : TE} (A : ClsAt X.K c C) (ht : ∀ σ H Q, cA X.K gx ma σ H Q → t σ H Q) (hta : ∀ σ H Q, cE X.K gx mo σ H Q → ta σ H Q) (σ : L2.St) (H : Hp) (Q : VK) (q : cE X.K gx (mMeth c m g mo ma) σ H Q) : tMeth C m (spR X.K g) [] E0 ta t σ H Q := by
  obtain ⟨H0, B, ρ, d, r, e, k⟩ := q
  unfold mMeth at e
  split at e
  · rename_i c' ns ds hm
    split at e
    · rename_i ec
      obtain ⟨ec, en⟩ := ec
      subst ec
      split at e
      · rename_i as ha
        obtain ⟨s, h1, h2⟩ := gS_at e
        refine hta σ H _ ⟨H0, B, ρ, _, r, hm, fun v B1 H1 g1 q1 => ?_⟩
        cases q1 with
        | @ins a C' dx c ns vs ds q0 q1 q2 q3 =>
          have := q0.inj A
          subst this
          refine ⟨a, dx, _, rfl, g1.bh _ _ q1, zip_none en, ht σ H1 _ ⟨H0, B1, ρ, as, r.grow g1, ha, fun vs2 B2 H2 g2 r2 => ?_⟩⟩
          refine ⟨B2, _, s, g2.bh, .cons (Rp.mono g2.b (.ins q0 q1 q2 q3)) (by rw [List.append_nil]; exact r2), h1, fun v B3 H3 g3 ro => ret_k (g1.trans g2) h2 k v B3 H3 g3 ro⟩
      · cases e
    · cases e
  · cases e
theorem re_meth {gx : Option (Addr × Value × Option Addr)} {m : Str} {kk : Nat} {ps : List Str} {g : List D → Option Sl} {o : Expr} {es : List Expr} {mo : ME} {ma : Slots → Option (List D)} {pl : Sem Bool} (M : Mt X.prog X.w X.K X.mg X.base c m kk ps g) (hr : Room kk X.A) (ho : RE X gx o mo) (ha : RA X gx (e :: es) ma)
    (hst : starEach (e :: es) X.env = (false, eval e X.env) :: starEach es X.env := by rfl) (hpl : (backTo pos (starEach es X.env)).any (·.1) = false := by rfl)
    (ht : eval (.Call (.Attribute o m apos) (e :: es) [] pos) X.env = (do
      let ov ← eval o X.env
      standAt apos.atName
      let (f, first) ← holding [ov] (getMethod ov m pl)
      callWith pos f first (backTo pos (starEach (e :: es) X.env)) (backToKw pos (keywordEach [] X.env))) := by rfl) : RE X gx (.Call (.Attribute o m apos) (e :: es) [] pos) (mMeth c m g mo ma) := by
  obtain ⟨C, f, fd, A, hc, hm, F, hb⟩ := M.ex
  exact pe_mono (pe_meth (pl := pl) ho hc hm F hr hb .nil pass0 ha hst hpl ht) (tMeth_c A (fun _ _ _ q => q) (fun _ _ _ q => q))
theorem re_meth0 {gx : Option (Addr × Value × Option Addr)} {m : Str} {kk : Nat} {ps : List Str} {g : List D → Option Sl} {o : Expr} {mo : ME} {pl : Sem Bool} (M : Mt X.prog X.w X.K X.mg X.base c m kk ps g) (hr : Room kk X.A) (ho : RE X gx o mo)
    (ht : eval (.Call (.Attribute o m apos) [] [] pos) X.env = (do
      let ov ← eval o X.env
      standAt apos.atName
      let (f, first) ← holding [ov] (getMethod ov m pl)
      callWith pos f first (backTo pos (starEach [] X.env)) (backToKw pos (keywordEach [] X.env))) := by rfl) : RE X gx (.Call (.Attribute o m apos) [] [] pos) (mMeth c m g mo mNil) := by
  obtain ⟨C, f, fd, A, hc, hm, F, hb⟩ := M.ex
  exact pe_mono (pe_meth0 (pl := pl) ho hc hm F hr hb .nil pass0 ht) (tMeth_c A (fun σ H Q q => by
    obtain ⟨H0, B, ρ, ds, r, e, k⟩ := q
    cases e
    exact k [] B H (Gr.refl r.bh) .nil) (fun _ _ _ q => q))
end
end R
/-! Q8: properties; self.f = e; making -/
namespace R
open PySem PySem.Spec PyProof.Rows L2
section
variable {X : Cx} {W : WX} {C : Addr} {c : String} {f : Str} {e : Expr} {me mv : ME} {pos apos p pos' : Pos} {x : Str}
/-- the property f of the class c keeps g -/
structure Pr (P : Program) (w : World) (K : PySem.W.Frag) (mg : Str → Option Value) (base : Heap) (c : String) (f : Str) (k : Nat) (ps : List Str) (g : List D → Option Sl) : Prop where
  ex : ∃ C p gg fd, ClsAt K c C ∧ Cls K C ∧ PropOf K C f p gg ∧ FnOk P w K mg base CX0 k gg fd ps (spR K g) ∧ Binds K fd ps []
def mProp (c : String) (g : List D → Option Sl) (mo : ME) : ME := fun ρ => match mo ρ with
  | some (.ins c' ns ds) => if c' = c then gS g [.ins c' ns ds] else none
  | _ => none
theorem re_prop {gx : Option (Addr × Value × Option Addr)} {kk : Nat} {ps : List Str} {g : List D → Option Sl} (M : Pr X.prog X.w X.K X.mg X.base c f kk ps g) (hr : Room (kk + 1) X.A) (he : RE X gx e me) (hb : attributeBase e f X.env (eval e X.env) = eval e X.env := by rfl) : RE X gx (.Attribute e f pos) (mProp c g me) := by
  obtain ⟨C, p, gg, fd, A, hc, hp, F, hbd⟩ := M.ex
  refine pe_mono (pe_prop he hc hp F hr hbd .nil (E := E0) pass0 hb) fun σ H Q ⟨H0, B, ρ, d, r, e, k⟩ => ?_
  unfold mProp at e
  split at e
  · rename_i c' ns ds hm
    split at e
    · rename_i ec
      subst ec
      obtain ⟨s, h1, h2⟩ := gS_at e
      refine ⟨H0, B, ρ, _, r, hm, fun v B1 H1 g1 q1 => ?_⟩
      cases q1 with
      | @ins a C' dx c ns vs ds q0 q1 q2 q3 =>
        have := q0.inj A
        subst this
        exact ⟨a, dx, _, rfl, g1.bh _ _ q1, B1, _, s, g1.bh, .cons (.ins q0 q1 q2 q3) .nil, h1, fun v B3 H3 g3 ro => ret_k g1 h2 k v B3 H3 g3 ro⟩
    · cases e
  · cases e
/-! self.f = e -/
def mSetFld (j : Nat) (f : Str) (mv : ME) : MS := fun ρ => match mv ρ with
  | some d => (match ρ[j]? with
    | some (some (.own (.ins x c ns ds))) => if f ∉ ns ∧ ns.length < 900 then .nx (ρ.set j (some (.own (.ins x c (ns ++ [f]) (ds ++ [d]))))) else .stuck
    | _ => .stuck)
  | none => .stuck
theorem putF_new {f : Str} {v : V} : ∀ {ns : List Str} {vs : List V}, f ∉ ns → ns.length = vs.length → putF f v (ns.zip vs) = (ns ++ [f]).zip (vs ++ [v])
  | [], [], _, _ => rfl
  | [], _ :: _, _, h => by cases h
  | _ :: _, [], _, h => by cases h
  | n :: ns, u :: us, h, hl => by
    rw [List.zip_cons_cons, List.cons_append, List.cons_append, List.zip_cons_cons]
    unfold putF
    rw [if_neg (fun z => h (by rw [← z]; exact List.mem_cons_self)), putF_new (fun z => h (List.mem_cons_of_mem _ z)) (by simpa using hl)]
theorem rs_setFld {gx : Option (Addr × Value × Option Addr)} (c : String) (hcl : ∀ C, ClsAt X.K c C → Cls X.K C ∧ NoAttr X.K C f) (j : Nat) (he : RE X gx e mv) (hN : X.N[j]? = some x := by rfl) (hv : Vis X.env.scope x := by first | exact Or.inl rfl | exact Or.inr (Or.inl rfl) | exact Or.inr (Or.inr rfl)) (hd : (x == ("__debug__" : Str)) = false := by decide)
    (hcd : (x == ("__classdict__" : Str)) = false := by decide) (hs : swapsWith e (some (.Attribute (.Name x p) f pos')) pos.line X.env = pure false := by rfl) : RS X gx W (.Assign [.Attribute (.Name x p) f pos'] e pos) (fun ρ => match ρ[j]? with | some (some (.own (.ins _ c' _ _))) => if c' = c then mSetFld j f mv ρ else .stuck | _ => .stuck) :=
  ps_mono (ps_fld (pe_var (pos := p) (i := j) hN hv hd hcd) he hs) fun Ds σ H ⟨B0, H0, B, ρ, g, r, k⟩ => by
    simp only at k
    split at k
    · rename_i x0 c' ns0 ds0 hj
      split at k
      · rename_i ec
        subst ec
        unfold mSetFld at k
        cases hm : mv ρ with
        | none => rw [hm] at k; exact k.elim
        | some d =>
          rw [hm, hj] at k
          simp only at k
          split at k
          · rename_i hc
            refine ⟨H0, B, ρ, d, r, hm, fun v B1 H1 g1 q1 => ?_⟩
            obtain ⟨l, ho, p1, p2, p3, p4, hx, C, dx, vs, p5, p6, p7, p8⟩ := (r.grow g1).own j _ hj
            subst p6
            obtain ⟨k1, k2⟩ := hcl C p5
            refine ⟨.ref l, p1, l, C, dx, _, rfl, p4, k1, k2, by rw [List.length_zip]; omega, ?_⟩
            rw [putF_new hc.1 p7]
            have r5 := (r.grow g1).chg (o := .ins x0 c' (ns0 ++ [f]) (ds0 ++ [d])) (ho := .ins C dx ((ns0 ++ [f]).zip (vs ++ [v]))) hj p1 ⟨hx, C, dx, vs ++ [v], p5, rfl, by simp [p7], p8.append (.one q1)⟩
            exact k _ B1 _ ((g.trans g1).chg p2 p3) g1.b r5
          · exact k.elim
      · exact k.elim
    · exact k.elim
end
/-! __init__ -/
def spI (K : PySem.W.Frag) (c : String) (gi : Addr → List D → Option (List Str × List D)) : Sp := fun vs H Q _ => ∃ B Hb x dx C rest ds ns fds, vs = .ref x :: rest ∧ H = upd (upd Hb dx (.own x)) x (.ins C dx []) ∧ Hb x = none ∧ Hb dx = none ∧ dx ≠ x ∧ Same B Hb ∧ ClsAt K c C ∧ Rps K B rest ds ∧ gi x ds = some (ns, fds) ∧
  ∀ B' H' C' dx' vs', Gr B (upd Hb dx (.own x)) B' H' → B' x = none → ClsAt K c C' → H' x = some (.ins C' dx' (ns.zip vs')) → ns.length = vs'.length → Rps K B' vs' fds → Q .non H'
def envI (n : Nat) (x : Addr) (c : String) (ds : List D) : Slots := some (.own (.ins x c [] [])) :: envOf (n - 1) ds
def selfOf (x : Addr) (c : String) (ρ : Slots) : Option (List Str × List D) := match ρ[(0 : Nat)]? with
  | some (some (.own (.ins x' c' ns fds))) => if x' = x ∧ c' = c then some (ns, fds) else none
  | _ => none
def gI (n a : Nat) (c : String) (m : MS) : Addr → List D → Option (List Str × List D) := fun x ds => if ds.length + 1 = a then (match m (envI n x c ds) with
  | .nx ρ => selfOf x c ρ
  | _ => none) else none
theorem rl_startI {gx : Option (Addr × Value × Option Addr)} {K : PySem.W.Frag} {B Hb : Hp} {N : List Str} {n0 : Str} {vs : List V} {ds : List D} {x dx C : Addr} {c : String} (e : Same B Hb) (hx : Hb x = none) (hd : Hb dx = none) (hne : dx ≠ x) (hC : ClsAt K c C) (r : Rps K B vs ds) :
    Rl K gx (upd Hb dx (.own x)) B (upd (upd Hb dx (.own x)) x (.ins C dx [])) (L2.start (n0 :: N) (.ref x :: vs)) (envI (N.length + 1) x c ds) := by
  have hx1 : upd Hb dx (.own x) x = none := by rw [upd_ne (Ne.symm hne)]; exact hx
  have r1 := rl_start (gx := gx) (N := N) e r
  have e2 : L2.start (n0 :: N) (.ref x :: vs) = some (.ref x) :: L2.start N vs := by
    unfold L2.start
    simp
  have sB : Same B (upd (upd Hb dx (.own x)) x (.ins C dx [])) := (e.trans (same_upd hd)).trans (same_upd hx1)
  rw [e2]
  unfold envI
  rw [Nat.add_sub_cancel]
  refine ⟨sB, by simp [r1.len], fun i d q => ?_, fun i o q => ?_, fun i j o o' l hij q1 q2 s1 s2 => ?_, fun i o q => ?_⟩
  · cases i with
    | zero => simp at q
    | succ i =>
      rw [List.getElem?_cons_succ] at q ⊢
      exact r1.dat i d q
  · cases i with
    | zero =>
      simp only [List.getElem?_cons_zero, Option.some.injEq, Sl.own.injEq] at q
      subst q
      exact ⟨x, _, rfl, hx1, e.free hx, upd_same, rfl, C, dx, [], hC, rfl, rfl, .nil⟩
    | succ i =>
      rw [List.getElem?_cons_succ] at q
      unfold envOf at q
      rw [List.getElem?_append] at q
      split at q
      · rw [List.getElem?_map] at q
        cases hd : ds[i]? with
        | none => rw [hd] at q; cases q
        | some d => rw [hd] at q; cases q
      · obtain ⟨_, h⟩ := List.getElem?_eq_some_iff.mp q
        simp at h
  · have no : ∀ {i : Nat} {o : MO}, (envOf N.length ds)[i]? = some (some (.own o)) → False := fun {i o} q => by
      unfold envOf at q
      rw [List.getElem?_append] at q
      split at q
      · rw [List.getElem?_map] at q
        cases hd : ds[i]? with
        | none => rw [hd] at q; cases q
        | some d => rw [hd] at q; cases q
      · obtain ⟨_, h⟩ := List.getElem?_eq_some_iff.mp q
        simp at h
    cases i with
    | zero =>
      cases j with
      | zero => exact hij rfl
      | succ j => exact no (by rw [List.getElem?_cons_succ] at q2; exact q2)
    | succ i => exact no (by rw [List.getElem?_cons_succ] at q1; exact q1)
  · cases i with
    | zero => simp at q
    | succ i =>
      rw [List.getElem?_cons_succ] at q
      unfold envOf at q
      rw [List.getElem?_append] at q
      split at q
      · rw [List.getElem?_map] at q
        cases hd : ds[i]? with
        | none => rw [hd] at q; cases q
        | some d => rw [hd] at q; cases q
      · obtain ⟨_, h⟩ := List.getElem?_eq_some_iff.mp q
        simp at h
theorem fn_okI {P : Program} {w : World} {K : PySem.W.Frag} {mg : Str → Option Value} {base : Heap} {x qual : Str} {st : Stmt} {f : Addr} {fd : FuncData} {n0 : Str} {N ps : List Str} {k : Nat} {m : MS} {c : String} (F : Fun K x qual st f fd) (S : FnScope (n0 :: N) ps (defScope st))
    (hbody : ∀ (cdv : Value) (A : Around) (outer : List Env) (s : Shared) (H : Hp) (E : XK), Room k (A.deeper (envOfC qual (defScope st) s.heap.objs.size f cdv)) →
      RSs (cxOf CX0 P w K mg base (n0 :: N) qual (defScope st) f cdv A outer s H E).nox none (fun _ _ _ _ => False) (defBody st) m) : FnOk P w K mg base CX0 (k + 1) f fd ps (spI K c (gI (N.length + 1) ps.length c m)) := by
  refine F.ok S (fun vs H Q E h => ?_) (fun cdv A outer s H vs Q E hr h => ?_)
  · obtain ⟨B, Hb, x, dx, C, rest, ds, ns, fds, rfl, _, _, _, _, _, _, r, e, _⟩ := h
    unfold gI at e
    split at e
    · rename_i hl
      rw [List.length_cons, r.length]; exact hl
    · cases e
  · obtain ⟨B, Hb, x, dx, C, rest, ds, ns, fds, rfl, rfl, h1, h2, h3, h4, h5, r, hg, kk⟩ := h
    have hx1 : upd Hb dx (.own x) x = none := by rw [upd_ne (Ne.symm h3)]; exact h1
    refine ⟨_, hbody cdv A outer s _ E hr, B, upd Hb dx (.own x), B, envI (N.length + 1) x c ds, ⟨Same.refl _, same_upd hx1, (h4.trans (same_upd h2)).trans (same_upd hx1), fun _ _ z => z⟩, rl_startI h4 h1 h2 h3 h5 r, ?_⟩
    unfold gI at hg
    split at hg
    · cases hm : m (envI (N.length + 1) x c ds) with
      | nx ρ' =>
        rw [hm] at hg
        simp only at hg
        unfold selfOf at hg
        split at hg
        · rename_i x' c' ns' fds' h0
          split at hg
          · rename_i hc
            obtain ⟨rfl, rfl⟩ := hc
            cases hg
            intro σ' B' H' g' s' r'
            obtain ⟨l, ho, p1, p2, p3, p4, hx, C', dx', vs', p5, p6, p7, p8⟩ := r'.own 0 _ h0
            subst hx p6
            exact kk B' H' C' dx' vs' g' p3 p5 p4 p7 p8
          · cases hg
        · cases hg
      | stuck => rw [hm] at hg; cases hg
      | brk _ => rw [hm] at hg; cases hg
      | cnt _ => rw [hm] at hg; cases hg
      | exc _ _ => rw [hm] at hg; cases hg
      | ret _ => rw [hm] at hg; cases hg
    · cases hg
end R
/-! Q9: making by a class; own operators -/
namespace R
open PySem PySem.Spec PyProof.Rows L2
/-- the class x makes by gi -/
structure Mkc (P : Program) (w : World) (K : PySem.W.Frag) (mg : Str → Option Value) (base : Heap) (x : Str) (c : String) (k : Nat) (ps : List Str) (gi : Addr → List D → Option (List Str × List D)) : Prop where
  ex : ∃ C f fd, ClsAt K c C ∧ Mk K C f ∧ FnOk P w K mg base CX0 k f fd ps (spI K c gi) ∧ Binds K fd ps [] ∧ mg x = some (.ref C)
open Classical in
noncomputable def giD (c : String) (gi : Addr → List D → Option (List Str × List D)) (ds : List D) : Option D := if h : ∃ r, ∀ x, gi x ds = some r then some (.ins c (choose h).1 (choose h).2) else none
theorem giD_eq {c : String} {gi : Addr → List D → Option (List Str × List D)} {ds : List D} {ns : List Str} {fds : List D} (h : ∀ x, gi x ds = some (ns, fds)) : giD c gi ds = some (.ins c ns fds) := by
  unfold giD
  have hx : ∃ r, ∀ x, gi x ds = some r := ⟨_, h⟩
  rw [dif_pos hx]
  have := Classical.choose_spec hx (0 : Addr)
  rw [h 0] at this
  rw [← Option.some.inj this]
theorem giD_at {c : String} {gi : Addr → List D → Option (List Str × List D)} {ds : List D} {d : D} (h : giD c gi ds = some d) : ∃ ns fds, d = .ins c ns fds ∧ ∀ x, gi x ds = some (ns, fds) := by
  unfold giD at h
  split at h
  · rename_i hx
    cases h
    exact ⟨_, _, rfl, fun x => Classical.choose_spec hx x⟩
  · cases h
noncomputable def mMake (c : String) (gi : Addr → List D → Option (List Str × List D)) (ma : Slots → Option (List D)) : ME := fun ρ => match ma ρ with | some ds => giD c gi ds | none => none
section
variable {X : Cx} {C : Addr} {c : String} {e : Expr} {es : List Expr} {x : Str} {pos p : Pos} {kk : Nat} {ps : List Str}
theorem re_make {gx : Option (Addr × Value × Option Addr)} {gi : Addr → List D → Option (List Str × List D)} {ma : Slots → Option (List D)} (M : Mkc X.prog X.w X.K X.mg X.base x c kk ps gi) (hr : Room (kk + 1) X.A) (hg : Gl X x) (ha : RA X gx (e :: es) ma)
    (hdb : (x == ("__debug__" : Str)) = false := by decide) (he : starEach (e :: es) X.env = (false, eval e X.env) :: starEach es X.env := by rfl) (hpl : (backTo pos (starEach es X.env)).any (·.1) = false := by rfl) :
    RE X gx (.Call (.Name x p) (e :: es) [] pos) (mMake c gi ma) := by
  obtain ⟨C, f, fd, A, hk, F, hb, hm⟩ := M.ex
  refine pe_mono (pe_make (dvs := []) (E := E0) hk F hr hg hm hb .nil pass0 ha hdb he hpl) fun σ H Q ⟨H0, B, ρ, d, r, e, k⟩ => ?_
  unfold mMake at e
  split at e
  · rename_i ds hd
    obtain ⟨ns, fds, rfl, hi⟩ := giD_at e
    refine ⟨H0, B, ρ, ds, r, hd, fun vs B1 H1 g1 r1 y dx h1 h2 h3 => ?_⟩
    refine ⟨B1, H1, y, dx, C, vs ++ [], ds, ns, fds, rfl, rfl, h1, h2, h3, g1.bh, A, by rw [List.append_nil]; exact r1, hi y, fun B' H' C' dx' vs' g' q1 q2 q3 q4 q5 => ⟨rfl, ?_⟩⟩
    have gn : Gr B1 H1 B1 (upd H1 dx (.own y)) := Gr.newOwn g1.bh h2
    have gg := (g1.trans gn).trans g'
    exact k _ _ _ (gg.freeze (g1.h.free h1) q1 q3) (.ins q2 upd_same q4 (q5.mono (same_upd q1)))
  · cases e
/-! own operators -/
theorem ins_at {P : Program} {w : World} {H : Hp} {h : Heap} {a dx : Addr} {fs : List (Str × V)} (hok : HOk P w H h) (e : H a = some (.ins C dx fs)) : ∃ ox od, PySem.W.InstAt h a ox C od := by
  obtain ⟨_, _, _, q, mA, ⟨oD, es, ep, e2, _⟩, _⟩ := (show ObjOk P w H h a (.ins C dx fs) from hok a _ e)
  exact ⟨_, some oD, q, rfl, rfl, e2⟩
theorem bin_own {prog : Program} {w : World} {K : PySem.W.Frag} {A : Around} {E : Value → Shared → Prop} {s : Shared} {a f : Addr} {ox : Obj} {od : Option Obj} {op : Operator} {b : Value} {Q : Value → Shared → Prop} (kin : K.In s.heap) (ia : PySem.W.InstAt s.heap a ox C od) (hb : PySem.W.Looks (model prog w) s.heap (typeOf b) (.ref C)) (hc : PySem.W.selfFirst K C = true)
    (hs : PySem.W.findIn K (.ref C) (PySem.dunder op.info.2) = some (some (.ref f))) (hf : PySem.W.isFn K (.ref f) = true)
    (h : wpAny (model prog w) A (call (.ref f) [.ref a, b]) (PySem.W.CmpBack Q) E s) : wpAny (model prog w) A (binaryOp op (.ref a) b) Q E s := by
  obtain ⟨cd, rest, hcd, hm⟩ := PySem.W.ksp_first hc
  unfold binaryOp
  refine wpAny_holding (wpAny_bind ?_)
  unfold binaryOp1
  refine wpAny_bind (ia.type.here (wpAny_bind (hb.here (wpAny_bind ((PySem.W.fills_K kin hcd hm hs).here ?_)))))
  simp only [beq_self_eq_true, if_true]
  refine wpAny_bind (wpAny_pure ?_)
  simp only [Bool.and_false, Bool.false_eq_true, if_false, Bool.false_and]
  refine wpAny_bind (wpAny_pure ?_)
  simp only [Bool.false_eq_true, if_false]
  refine wpAny_bind (m := tryMethod (.ref a) _ b) (wpAny_mono (PySem.W.ksp_try kin ia hs hf h) (fun r s' hr => ?_) fun _ _ z => z)
  obtain ⟨v, rfl, hq⟩ := hr
  exact wpAny_pure (wpAny_pure hq)
/-- an own operator of the class c keeps g -/
structure Op (P : Program) (w : World) (K : PySem.W.Frag) (mg : Str → Option Value) (base : Heap) (c : String) (name : Str) (k : Nat) (ps : List Str) (g : List D → Option Sl) : Prop where
  ex : ∃ C f fd, ClsAt K c C ∧ PySem.W.selfFirst K C = true ∧ PySem.W.findIn K (.ref C) name = some (some (.ref f)) ∧ PySem.W.isFn K (.ref f) = true ∧ FnOk P w K mg base CX0 k f fd ps (spR K g) ∧ Binds K fd ps []
def fBin (c : String) (g : List D → Option Sl) : D → D → Option D
  | .ins c1 n1 d1, .ins c2 n2 d2 => if c1 = c ∧ c2 = c then (match gS g [.ins c1 n1 d1, .ins c2 n2 d2] with | some (.ins c3 n3 d3) => some (.ins c3 n3 d3) | _ => none) else none
  | _, _ => none
theorem op_bin {op : Operator} {g : List D → Option Sl} (M : Op X.prog X.w X.K X.mg X.base c (PySem.dunder op.info.2) kk ps g) (hr : Room kk X.A) :
    OpR X (binaryOp op) (fun x y H Q => ∃ C a b dx dx' fs fs', ClsAt X.K c C ∧ x = .ref a ∧ y = .ref b ∧ H a = some (.ins C dx fs) ∧ H b = some (.ins C dx' fs') ∧ spR X.K g [x, y] H (fun v H' => (∃ l, v = .ref l) ∧ Q v H') E0) := by
  obtain ⟨C, f, fd, A, hc, hs, hf, F, hbd⟩ := M.ex
  intro pins s σ H x y v u Q I rx ry h
  obtain ⟨C', a, b, dx, dx', fs, fs', A', rfl, rfl, ea, eb, q⟩ := h
  have := A'.inj A
  subst this
  cases rx
  cases ry
  obtain ⟨ox, od, ia⟩ := ins_at I.hok ea
  obtain ⟨oy, od', ib⟩ := ins_at I.hok eb
  refine bin_own I.kIn ia ib.type hc hs hf ?_
  refine wpAny_mono (run_fn (us := [.ref a, .ref b]) (vs := [.ref a, .ref b]) (dvs := []) F hr hbd .nil pass0 I (.cons rfl (.cons rfl .nil)) q) (fun r s' hr' => ?_) fun _ _ z => z
  obtain ⟨v, H', I', rv, ⟨l, rfl⟩, qq⟩ := hr'
  cases rv
  exact ⟨.ref l, H', I', rfl, qq⟩
theorem re_bin {gx : Option (Addr × Value × Option Addr)} {op : Operator} {g : List D → Option Sl} {a b : Expr} {ma mb : ME} (M : Op X.prog X.w X.K X.mg X.base c (PySem.dunder op.info.2) kk ps g) (hr : Room kk X.A) (ha : RE X gx a ma) (hb : RE X gx b mb) : RE X gx (.BinOp a op b pos) (m2 (fBin c g) ma mb) := by
  have hA : ∃ C, ClsAt X.K c C := by obtain ⟨C, _, _, A, _⟩ := M.ex; exact ⟨C, A⟩
  obtain ⟨C, A⟩ := hA
  refine pe_mono (pe_op (op_bin M hr) ha hb) fun σ H Q ⟨H0, B, ρ, d, r, e, k⟩ => ?_
  obtain ⟨da, db, h1, h2, h3⟩ := m2_at e
  unfold fBin at h3
  split at h3
  · rename_i c1 n1 d1 c2 n2 d2
    split at h3
    · rename_i hc
      obtain ⟨rfl, rfl⟩ := hc
      split at h3
      · rename_i c3 n3 d3 hg
        cases h3
        obtain ⟨s, g1, g2⟩ := gS_at hg
        refine ⟨H0, B, ρ, _, r, h1, fun v B1 H1 gr1 q1 => ⟨H0, B1, ρ, _, r.grow gr1, h2, fun u B2 H2 gr2 q2 => ?_⟩⟩
        have q1' := q1.mono gr2.b
        have qq := q1'
        have qq2 := q2
        cases q1' with
        | @ins aa C1 dx1 _ _ vs1 _ z0 z1 z2 z3 =>
          cases q2 with
          | @ins bb C2 dx2 _ _ vs2 _ y0 y1 y2 y3 =>
            have e1 := z0.inj A
            have e2 := y0.inj A
            subst e1 e2
            refine ⟨C2, aa, bb, dx1, dx2, _, _, A, rfl, rfl, gr2.bh _ _ z1, gr2.bh _ _ y1, B2, _, s, gr2.bh, .cons qq (.cons qq2 .nil), g1, fun v B3 H3 g3 ro => ?_⟩
            exact ret_k (Q := fun v H' => (∃ l, v = .ref l) ∧ Q v H') (gr1.trans gr2) g2 (fun v B' H' gg rp => ⟨by cases rp; exact ⟨_, rfl⟩, k v B' H' gg rp⟩) v B3 H3 g3 ro
      · cases h3
    · cases h3
  · cases h3
end
end R
/-! QA: ~x, v in x, isinstance(x, C) -/
namespace R
open PySem PySem.Spec PyProof.Rows L2
section
variable {X : Cx} {C : Addr} {c : String} {e : Expr} {es : List Expr} {x : Str} {pos p : Pos} {kk : Nat} {ps : List Str} {a b : Expr} {ma mb : ME} {g : List D → Option Sl}
theorem inv_own {M : Model} {K : PySem.W.Frag} {A : Around} {E : Value → Shared → Prop} {s : Shared} {a f : Addr} {ox : Obj} {od : Option Obj} {Q : Value → Shared → Prop} (kin : K.In s.heap) (ia : PySem.W.InstAt s.heap a ox C od) (hs : PySem.W.findIn K (.ref C) "__invert__" = some (some (.ref f))) (hf : PySem.W.isFn K (.ref f) = true)
    (h : wpAny M A (call (.ref f) [.ref a]) Q E s) : wpAny M A (unaryOp .Invert (.ref a)) Q E s := by
  unfold unaryOp
  exact wpAny_holding (wpAny_bind (PySem.W.special_fn kin ia hs (beq_iff_eq.mp hf) (wpAny_mono h (fun _ _ z => wpAny_pure z) fun _ _ z => z)))
def fUn (c : String) (g : List D → Option Sl) : D → Option D
  | .ins c1 n1 d1 => if c1 = c then gS g [.ins c1 n1 d1] else none
  | _ => none
theorem re_inv {gx : Option (Addr × Value × Option Addr)} (M : Op X.prog X.w X.K X.mg X.base c "__invert__" kk ps g) (hr : Room kk X.A) (ha : RE X gx a ma) : RE X gx (.UnaryOp .Invert a pos) (m1 (fUn c g) ma) := by
  obtain ⟨C, f, fd, A, hc, hs, hf, F, hbd⟩ := M.ex
  have un : UnR X (unaryOp .Invert) (fun x H Q => ∃ aa dx fs, x = .ref aa ∧ H aa = some (.ins C dx fs) ∧ spR X.K g [x] H Q E0) := by
    intro pins s σ H x v Q I rx h
    obtain ⟨aa, dx, fs, rfl, ea, q⟩ := h
    cases rx
    obtain ⟨ox, od, ia⟩ := ins_at I.hok ea
    exact inv_own I.kIn ia hs hf (run_fn (us := [.ref aa]) (vs := [.ref aa]) (dvs := []) F hr hbd .nil pass0 I (.cons rfl .nil) q)
  refine pe_mono (pe_un un ha) fun σ H Q ⟨H0, B, ρ, d, r, e, k⟩ => ?_
  unfold m1 at e
  split at e
  · rename_i da hd
    unfold fUn at e
    split at e
    · rename_i c1 n1 d1
      split at e
      · rename_i ec
        subst ec
        obtain ⟨s, g1, g2⟩ := gS_at e
        refine ⟨H0, B, ρ, _, r, hd, fun v B1 H1 gr1 q1 => ?_⟩
        have qq := q1
        cases q1 with
        | @ins aa C1 dx1 _ _ vs1 _ z0 z1 z2 z3 =>
          have e1 := z0.inj A
          subst e1
          exact ⟨aa, dx1, _, rfl, gr1.bh _ _ z1, B1, _, s, gr1.bh, .cons qq .nil, g1, fun v B3 H3 g3 ro => ret_k gr1 g2 k v B3 H3 g3 ro⟩
      · cases e
    · cases e
  · cases e
theorem in_own {M : Model} {K : PySem.W.Frag} {A : Around} {E : Value → Shared → Prop} {s : Shared} {a f : Addr} {ox : Obj} {od : Option Obj} {v : Value} {Q : Bool → Shared → Prop} (kin : K.In s.heap) (ia : PySem.W.InstAt s.heap a ox C od) (hs : PySem.W.findIn K (.ref C) "__contains__" = some (some (.ref f))) (hf : PySem.W.isFn K (.ref f) = true)
    (h : wpAny M A (call (.ref f) [.ref a, v]) (fun r s' => wpAny M A (truthy r) Q E s') E s) : wpAny M A (contains (.ref a) v) Q E s := by
  unfold contains
  refine wpAny_holding (wpAny_bind (wpAny_bind (ia.type.here ((PySem.W.looks_findIn kin hs).here ?_))))
  rw [if_neg (by simp)]
  exact wpAny_bind (PySem.W.unlessNone_K kin ia hs hf h)
/-- v in x -/
def fInO (c : String) (g : List D → Option Sl) : D → D → Option D := fun v x => match x with
  | .ins c1 n1 d1 => if c1 = c then (match gS g [.ins c1 n1 d1, v] with | some (.bl t) => some (.bl t) | _ => none) else none
  | _ => none
theorem op_inO (M : Op X.prog X.w X.K X.mg X.base c "__contains__" kk ps g) (hr : Room kk X.A) :
    OpR X (compareOp .In) (fun v x H Q => ∃ C aa dx fs, ClsAt X.K c C ∧ x = .ref aa ∧ H aa = some (.ins C dx fs) ∧ spR X.K g [x, v] H (fun r H' => (∃ t, r = .bl t) ∧ Q r H') E0) := by
  obtain ⟨C, f, fd, A, hc, hs, hf, F, hbd⟩ := M.ex
  intro pins s σ H v x u w' Q I rv rx h
  obtain ⟨C', aa, dx, fs, A', rfl, ea, q⟩ := h
  have := A'.inj A
  subst this
  cases rx
  obtain ⟨ox, od, ia⟩ := ins_at I.hok ea
  refine wpAny_bind (in_own I.kIn ia hs hf ?_)
  refine wpAny_mono (run_fn (us := [.ref aa, u]) (vs := [.ref aa, v]) (dvs := []) F hr hbd .nil pass0 I (.cons rfl (.cons rv .nil)) q) (fun r s' hr' => ?_) fun _ _ z => z
  obtain ⟨v', H', I', rv', ⟨t, rfl⟩, qq⟩ := hr'
  cases rv'
  exact wpAny_truthy_bool (wpAny_pure ⟨.bl t, H', I', rfl, qq⟩)
theorem tInO_c {gx : Option (Addr × Value × Option Addr)} (M : Op X.prog X.w X.K X.mg X.base c "__contains__" kk ps g) (σ : L2.St) (H : Hp) (Q : VK) (q : cE X.K gx (m2 (fInO c g) ma mb) σ H Q) : tOp (fun v x H Q => ∃ C aa dx fs, ClsAt X.K c C ∧ x = .ref aa ∧ H aa = some (.ins C dx fs) ∧ spR X.K g [x, v] H (fun r H' => (∃ t, r = .bl t) ∧ Q r H') E0) (cE X.K gx ma) (cE X.K gx mb) σ H Q := by
  obtain ⟨C, f, fd, A, _⟩ := M.ex
  obtain ⟨H0, B, ρ, d, r, e, k⟩ := q
  obtain ⟨dv, dx, h1, h2, h3⟩ := m2_at e
  unfold fInO at h3
  split at h3
  · rename_i c1 n1 d1
    split at h3
    · rename_i ec
      subst ec
      split at h3
      · rename_i t hg
        cases h3
        obtain ⟨s, g1, g2⟩ := gS_at hg
        refine ⟨H0, B, ρ, _, r, h1, fun v B1 H1 gr1 q1 => ⟨H0, B1, ρ, _, r.grow gr1, h2, fun u B2 H2 gr2 q2 => ?_⟩⟩
        have qq := q2
        cases q2 with
        | @ins aa C1 dx1 _ _ vs1 _ z0 z1 z2 z3 =>
          have e1 := z0.inj A
          subst e1
          exact ⟨C1, aa, dx1, _, A, rfl, gr2.bh _ _ z1, B2, _, s, gr2.bh, .cons qq (.cons (q1.mono gr2.b) .nil), g1, fun v B3 H3 g3 ro => ret_k (Q := fun r H' => (∃ t, r = .bl t) ∧ Q r H') (gr1.trans gr2) g2 (fun v B' H' gg rp => ⟨⟨t, rp.bl_inv⟩, k v B' H' gg rp⟩) v B3 H3 g3 ro⟩
      · cases h3
    · cases h3
  · cases h3
theorem re_inO {gx : Option (Addr × Value × Option Addr)} (M : Op X.prog X.w X.K X.mg X.base c "__contains__" kk ps g) (hr : Room kk X.A) (ha : RE X gx a ma) (hb : RE X gx b mb) (hm : behindInMarks .In b = false := by rfl) : RE X gx (.Compare a [.In] [b] pos) (m2 (fInO c g) ma mb) := pe_mono (pe_cmpR (op_inO M hr) ha hb hm) (tInO_c M)
/-- isinstance(x, C) -/
structure IsC (K : PySem.W.Frag) (C : Addr) : Prop where
  q1 : Cls K C ∧ PySem.W.findIn K (.ref C) "__class__" = some (some (.builtin "object.__class__")) ∧ PySem.W.specialIn K (.builtin "object.__class__") "__get__" = some (some (.builtin "getset_descriptor.__get__"))
  q2 : PySem.W.takesIn K (.builtin "object.__class__") = some true ∧ PySem.W.mroIn K C (.type "object") = some true ∧ PySem.W.kitOne K (.ref C) (.ref C) = some true
theorem is_call (z : IsC X.K C) : CallR X (.builtin "isinstance") (fun xs H Q => ∃ a dx fs, H a = some (.ins C dx fs) ∧ xs = [.ref a, .ref C] ∧ Q (.bl true) H) := by
  intro pins s σ H xs us Q I r h
  obtain ⟨a, dx, fs, ha, rfl, q⟩ := h
  obtain ⟨u, w', rfl, ru, rw'⟩ := vals2 r
  obtain ⟨z1, z2, z3⟩ := z.q1
  obtain ⟨z4, z5, z6⟩ := z.q2
  cases rw'
  exact isinst_ok I ru (TyOf.ins ha z1 z2 z3 z4 z5) z6 fun tk => ⟨V.bl true, H, I.tok _, rfl, q⟩
def mIsC (c : String) (m : ME) : ME := fun ρ => match m ρ with | some (.ins c' _ _) => if c' = c then some (.bl true) else none | _ => none
theorem re_isC {gx : Option (Addr × Value × Option Addr)} {pc pi : Pos} {xc : Str} (A : ClsAt X.K c C) (hi : IsC X.K C) (hg : Gl X "isinstance") (hm : X.mg "isinstance" = none) (hgc : Gl X xc) (hmc : X.mg xc = some (.ref C)) (ha : RE X gx a ma) (hdb : (xc == ("__debug__" : Str)) = false := by decide)
    (he : starEach [a, .Name xc pc] X.env = (false, eval a X.env) :: starEach [.Name xc pc] X.env := by rfl) (he2 : starEach [.Name xc pc] X.env = (false, eval (.Name xc pc) X.env) :: starEach [] X.env := by rfl) (hpl : (backTo pos (starEach [.Name xc pc] X.env)).any (·.1) = false := by rfl) :
    RE X gx (.Call (.Name "isinstance" pi) [a, .Name xc pc] [] pos) (mIsC c ma) := by
  refine pe_mono (pe_callB (is_call hi) hg hm (by decide +kernel) (pa_cons ha (pa_cons (pe_glob (v := .ref C) hgc hmc rfl hdb) pa_nil he2) he) (by decide) (by decide) he hpl) fun σ H Q ⟨H0, B, ρ, d, r, e, k⟩ => ?_
  unfold mIsC at e
  split at e
  · rename_i c' ns ds hmm
    split at e
    · rename_i ec
      subst ec
      cases e
      refine ⟨H0, B, ρ, _, r, hmm, fun v B1 H1 g1 q1 => ?_⟩
      cases q1 with
      | @ins aa C1 dx1 _ _ vs1 _ z0 z1 z2 z3 =>
        have e1 := z0.inj A
        subst e1
        exact ⟨aa, dx1, _, g1.bh _ _ z1, rfl, k _ B1 H1 g1 (.bl true)⟩
    · cases e
  · cases e
end
end R
/-! QB: calls with keywords -/
namespace R
open PySem PySem.Spec PyProof.Rows L2
/-- the def x keeps g; n values by place, then those of the names ks -/
structure Clk (P : Program) (w : World) (K : PySem.W.Frag) (mg : Str → Option Value) (base : Heap) (x : Str) (k : Nat) (ps : List Str) (n : Nat) (ks : List Str) (g : List D → Option Sl) : Prop where
  ex : ∃ f fd, FnOk P w K mg base CX0 k f fd ps (spR K g) ∧ mg x = some (.ref f) ∧ PySem.W.keepIn K (.ref f) = true ∧ KBn K fd ps n ks (· ++ ·) (· ++ ·)
def mCat (n m : Nat) (ma mk : Slots → Option (List D)) : Slots → Option (List D) := fun ρ => match ma ρ with
  | some as => (match mk ρ with | some bs => if as.length = n ∧ bs.length = m then some (as ++ bs) else none | none => none)
  | none => none
section
variable {X : Cx} {kk n : Nat} {ps ks : List Str} {x : Str} {p pos kpos : Pos} {e ke : Expr} {es : List Expr} {kws : List Keyword} {ma mk : Slots → Option (List D)} {me : ME} {g : List D → Option Sl} {nm : Option Str}
abbrev RK (X : Cx) (gx : Option (Addr × Value × Option Addr)) (kws : List Keyword) (m : Slots → Option (List D)) : Prop := PK X kws (cA X.K gx m)
theorem pk_mono {t t' : TA} (h : PK X kws t) (i : ∀ σ H Q, t' σ H Q → t σ H Q) : PK X kws t' := ⟨fun pos pins s σ H Q I q => h.run pos pins s σ H Q I (i σ H Q q)⟩
theorem rk_nil {gx : Option (Addr × Value × Option Addr)} : RK X gx [] mNil := pk_mono pk_nil fun σ H Q ⟨H0, B, ρ, ds, r, e, k⟩ => by
  cases e
  exact k [] B H (Gr.refl r.bh) .nil
theorem rk_cons {gx : Option (Addr × Value × Option Addr)} (ha : RE X gx ke me) (hr : RK X gx kws mk) : RK X gx (⟨nm, ke, kpos⟩ :: kws) (mCons me mk) := pk_mono (pk_cons ha hr) fun σ H Q ⟨H0, B, ρ, ds, r, e, k⟩ => by
  obtain ⟨d, es, e1, e2, rfl⟩ := mCons_at e
  exact ⟨H0, B, ρ, d, r, e1, fun v B1 H1 g1 r1 => ⟨H0, B1, ρ, es, r.grow g1, e2, fun vs B2 H2 g2 r2 => k _ B2 H2 (g1.trans g2) (.cons (r1.mono g2.b) r2)⟩⟩
theorem re_clk {gx : Option (Addr × Value × Option Addr)} {mm : Nat} (M : Clk X.prog X.w X.K X.mg X.base x kk ps n ks g) (hr : Room kk X.A) (hg : Gl X x) (ha : RA X gx (e :: es) ma) (hkw : RK X gx kws mk) (hall : (backToKw pos (keywordEach kws X.env)).all (·.1.isSome) = true := by rfl) (hks : (backToKw pos (keywordEach kws X.env)).filterMap (·.1) = ks := by rfl)
    (hdb : (x == ("__debug__" : Str)) = false := by decide) (he : starEach (e :: es) X.env = (false, eval e X.env) :: starEach es X.env := by rfl)
    (hpl : ((backTo pos (starEach (e :: es) X.env)).any (·.1) || (backToKw pos (keywordEach kws X.env)).any (·.1.isNone)) = false := by rfl)  (hmm : ks.length = mm := by rfl) : RE X gx (.Call (.Name x p) (e :: es) kws pos) (mCall g (mCat n mm ma mk)) := by
  subst hmm
  obtain ⟨f, fd, F, hm, hk, hb⟩ := M.ex
  refine pe_mono (pe_callN (E := E0) F hr hg hm hk hb pass0 ha hkw hall hks hdb he hpl) fun σ H Q ⟨H0, B, ρ, d, r, e, k⟩ => ?_
  unfold mCall at e
  split at e
  · rename_i ds hd
    unfold mCat at hd
    split at hd
    · rename_i as h1
      split at hd
      · rename_i bs h2
        split at hd
        · rename_i hl
          cases hd
          obtain ⟨s, g1, g2⟩ := gS_at (show gS g (as ++ bs) = some d from e)
          refine ⟨H0, B, ρ, as, r, h1, fun vs B1 H1 gr1 r1 => ⟨H0, B1, ρ, bs, r.grow gr1, h2, fun zs B2 H2 gr2 r2 => ?_⟩⟩
          refine ⟨by rw [r1.length]; exact hl.1, by rw [r2.length]; exact hl.2, B2, as ++ bs, s, gr2.bh, (r1.mono gr2.b).append r2, g1, fun v B3 H3 g3 ro => ret_k (gr1.trans gr2) g2 k v B3 H3 g3 ro⟩
        · cases hd
      · cases hd
    · cases hd
  · cases e
end
end R
/-! QC: sorted, of signs and of ints -/
namespace R
open PySem PySem.Spec PyProof.Rows L2
def insN (c : Nat) : List Nat → List Nat
  | [] => [c]
  | d :: r => if c ≤ d then c :: d :: r else d :: insN c r
def sortN : List Nat → List Nat
  | [] => []
  | c :: r => insN c (sortN r)
theorem insN_perm (c : Nat) : ∀ l : List Nat, (insN c l).Perm (c :: l)
  | [] => List.Perm.refl _
  | d :: r => by
    unfold insN
    split
    · exact List.Perm.refl _
    · exact ((insN_perm c r).cons d).trans (List.Perm.swap c d r)
theorem sortN_perm : ∀ l : List Nat, (sortN l).Perm l
  | [] => List.Perm.refl _
  | c :: r => (insN_perm c _).trans ((sortN_perm r).cons c)
theorem insN_sorted (c : Nat) : ∀ {l : List Nat}, l.Pairwise (· ≤ ·) → (insN c l).Pairwise (· ≤ ·)
  | [], _ => by simp [insN]
  | d :: r, h => by
    unfold insN
    have hh := List.pairwise_cons.mp h
    split
    · rename_i hc
      refine List.pairwise_cons.mpr ⟨fun x hx => ?_, h⟩
      rcases List.mem_cons.mp hx with e | hx
      · rw [e]; exact hc
      · exact Nat.le_trans hc (hh.1 x hx)
    · rename_i hc
      refine List.pairwise_cons.mpr ⟨fun x hx => ?_, insN_sorted c hh.2⟩
      rcases List.mem_cons.mp ((insN_perm c r).mem_iff.mp hx) with e | hx
      · rw [e]; omega
      · exact hh.1 x hx
theorem sortN_sorted : ∀ l : List Nat, (sortN l).Pairwise (· ≤ ·)
  | [] => .nil
  | c :: r => insN_sorted c (sortN_sorted r)
theorem sorted_uniq {α : Type} {le : α → α → Prop} (anti : ∀ a b, le a b → le b a → a = b) : ∀ {l m : List α}, l.Perm m → l.Pairwise le → m.Pairwise le → l = m
  | [], m, p, _, _ => by rw [List.nil_perm.mp p]
  | a :: l, [], p, _, _ => by
    have := p.length_eq
    simp at this
  | a :: l, b :: m, p, h1, h2 => by
    have g1 := List.pairwise_cons.mp h1
    have g2 := List.pairwise_cons.mp h2
    have e : a = b := by
      rcases List.mem_cons.mp (p.mem_iff.mp List.mem_cons_self) with e | ha
      · exact e
      · rcases List.mem_cons.mp (p.symm.mem_iff.mp List.mem_cons_self) with e | hb
        · exact e.symm
        · exact anti a b (g1.1 b hb) (g2.1 a ha)
    subst e
    rw [sorted_uniq anti p.cons_inv g1.2 g2.2]
def chars : List D → Option (List Nat)
  | [] => some []
  | .str [c] :: r => match chars r with | some cs => some (c :: cs) | none => none
  | _ => none
def ch1 (c : Nat) : Str := ⟨#[c]⟩
theorem chars_ok {K : PySem.W.Frag} {B : Hp} : ∀ {vs : List V} {ds : List D} {cs : List Nat}, Rps K B vs ds → chars ds = some cs → vs = (cs.map ch1).map V.str
  | _, _, _, .nil, h => by cases h; rfl
  | _, _, _, .cons (d := d) q qs, h => by
    unfold chars at h
    split at h
    · cases h
      rename_i e
      cases e
    · rename_i c r e
      cases e
      split at h
      · rename_i cs hc
        cases h
        rw [List.map_cons, List.map_cons, q.str_inv, chars_ok qs hc]
        rfl
      · cases h
    · cases h
theorem rps_chars {K : PySem.W.Frag} {B : Hp} : ∀ cs : List Nat, Rps K B ((cs.map ch1).map V.str) (cs.map fun c => D.str [c])
  | [] => .nil
  | c :: cs => .cons (.str [c]) (rps_chars cs)
theorem lt1 (a b : Nat) : ltCps (ch1 a).cps.toList (ch1 b).cps.toList = decide (a < b) := by
  show ltCps [a] [b] = _
  unfold ltCps
  by_cases h : a < b
  · simp [h]
  · by_cases h2 : b < a
    · simp [h, h2, ltCps]
    · simp [h, h2, ltCps]
theorem rising_le : ∀ {a : Nat} {r : List Nat}, risingS (ch1 a) (r.map ch1) = true → (a :: r).Pairwise (· ≤ ·)
  | _, [], _ => by simp
  | a, b :: r, h => by
    rw [List.map_cons] at h
    unfold risingS at h
    rw [lt1, Bool.and_eq_true] at h
    have ih := rising_le h.2
    have hab : a ≤ b := by simpa using h.1
    refine List.pairwise_cons.mpr ⟨fun x hx => ?_, ih⟩
    rcases List.mem_cons.mp hx with e | hx
    · rw [e]; exact hab
    · exact Nat.le_trans hab ((List.pairwise_cons.mp ih).1 x hx)
theorem ch1_inj {a b : Nat} (h : ch1 a = ch1 b) : a = b := by
  unfold ch1 at h
  cases h
  rfl
theorem perm_map {cs : List Nat} {ys : List Str} (p : ys.Perm (cs.map ch1)) : ∃ zs : List Nat, ys = zs.map ch1 ∧ zs.Perm cs := by
  have h : ∀ y ∈ ys, ∃ c, y = ch1 c := fun y hy => by
    obtain ⟨c, _, e⟩ := List.mem_map.mp (p.mem_iff.mp hy)
    exact ⟨c, e.symm⟩
  have : ∀ {ys : List Str}, (∀ y ∈ ys, ∃ c, y = ch1 c) → ∃ zs : List Nat, ys = zs.map ch1 := by
    intro ys
    induction ys with
    | nil => intro _; exact ⟨[], rfl⟩
    | cons y ys ih =>
      intro h
      obtain ⟨c, e⟩ := h y List.mem_cons_self
      obtain ⟨zs, e2⟩ := ih fun z hz => h z (List.mem_cons_of_mem _ hz)
      exact ⟨c :: zs, by rw [e, e2]; rfl⟩
  obtain ⟨zs, rfl⟩ := this h
  refine ⟨zs, rfl, ?_⟩
  have q := p.map (fun s : Str => s.cps.toList.headD 0)
  rw [List.map_map, List.map_map] at q
  have e : ((fun s : Str => s.cps.toList.headD 0) ∘ ch1) = id := by funext c; rfl
  rw [e, List.map_id, List.map_id] at q
  exact q
def fSortC : List D → Option (List D)
  | [.lst xs] => (match chars xs with | some cs => if cs.length < 64 then some ((sortN cs).map fun c => D.str [c]) else none | none => none)
  | _ => none
theorem rf_sortC {gx : Option (Addr × Value × Option Addr)} {X : Cx} {e : Expr} {ma : Slots → Option (List D)} {pos p : Pos} (hg : Gl X "sorted") (hm : X.mg "sorted" = none) (ha : RAb X gx [e] ma)
    (he : starEach [e] X.env = (false, eval e X.env) :: starEach [] X.env := by rfl) (hpl : (backTo pos (starEach [] X.env)).any (·.1) = false := by rfl) : RF X gx (.Call (.Name "sorted" p) [e] [] pos) (mCF fSortC ma) := by
  refine pe_mono (pe_callB cr_sortedS hg hm (by decide +kernel) ha (by decide) (by decide) he hpl) fun σ H Q ⟨H0, B, ρ, c, rl, e, k⟩ => ?_
  unfold mCF at e
  split at e
  · rename_i ds hd
    refine ⟨H0, B, ρ, ds, rl, hd, fun vs B1 H1 g1 r1 => ?_⟩
    unfold fSortC at e
    split at e
    · rename_i xs
      split at e
      · rename_i cs hc
        split at e
        · rename_i hl
          cases e
          cases r1 with
          | cons r rr =>
            cases rr
            obtain ⟨l, us, e1, h1, r1⟩ := r.lst g1.bh
            subst e1
            have := chars_ok r1 hc
            subst this
            refine ⟨l, cs.map ch1, rfl, SqL.of h1, by simpa using hl, fun ys q py sy hq => ?_⟩
            obtain ⟨zs, rfl, pz⟩ := perm_map py
            have hz : zs = sortN cs := by
              refine sorted_uniq (le := fun a b : Nat => a ≤ b) (fun a b h1 h2 => Nat.le_antisymm h1 h2) (pz.trans (sortN_perm cs).symm) ?_ (sortN_sorted cs)
              cases zs with
              | nil => exact .nil
              | cons z zs => exact rising_le sy
            subst hz
            exact k q _ B1 _ (g1.trans (Gr.newOwn g1.bh hq)) (g1.h.free hq) (g1.bh.free hq) upd_same (rps_chars _)
        · cases e
      · cases e
    · cases e
  · cases e
end R
/-! QD: small rules -/
namespace R
open PySem PySem.Spec PyProof.Rows L2
section
variable {X : Cx} {W : WX} {st : Stmt} {e : Expr} {me : ME} {pos p : Pos} {x : Str}
def mDo (m : ME) : MS := fun ρ => match m ρ with | some _ => .nx ρ | none => .stuck
theorem rs_do {gx : Option (Addr × Value × Option Addr)} (he : RE X gx e me) (hs : swapsWith e none pos.line X.env = pure false := by rfl) : RS X gx W (.Expr e pos) (mDo me) := ps_mono (ps_expr he hs) fun Ds σ H ⟨B0, H0, B, ρ, g, r, k⟩ => by
  unfold mDo at k
  cases hm : me ρ with
  | none => rw [hm] at k; exact k.elim
  | some d =>
    rw [hm] at k
    exact ⟨H0, B, ρ, d, r, hm, fun v B' H' g' q => k σ B' H' (g.trans g') g'.b (r.grow g')⟩
def mStuck : MS := fun _ => .stuck
theorem rs_stuck {gx : Option (Addr × Value × Option Addr)} : RS X gx W st mStuck := ps_mono ps_never fun Ds σ H ⟨B0, H0, B, ρ, g, r, k⟩ => k
/-- a global constant -/
theorem re_gstr {gx : Option (Addr × Value × Option Addr)} {s : String} {t : Tok} (hg : Gl X x) (hm : X.mg x = some (.str ⟨(S s).toArray⟩ t)) (hd : (x == ("__debug__" : Str)) = false := by decide) : RE X gx (.Name x pos) (mC (.str (S s))) := pe_mono (pe_glob (v := .str ⟨(S s).toArray⟩) hg hm ⟨t, rfl⟩ hd) (tC_c fun _ => .str _)
theorem re_gint {gx : Option (Addr × Value × Option Addr)} {i : Int} {t : Tok} (hg : Gl X x) (hm : X.mg x = some (.int i t)) (hd : (x == ("__debug__" : Str)) = false := by decide) : RE X gx (.Name x pos) (mC (.int i)) := pe_mono (pe_glob (v := .int i) hg hm ⟨t, rfl⟩ hd) (tC_c fun _ => .int i)
/-- texts compared -/
def fGeS : D → D → Option D
  | .int i, .int j => some (.bl (decide (j ≤ i)))
  | .str a, .str b => some (.bl (!decide (a < b)))
  | _, _ => none
def rGeU : R2 := fun x y H Q => (∃ i j, x = .int i ∧ y = .int j ∧ Q (.bl (decide (j ≤ i))) H) ∨ ∃ i j, x = .str i ∧ y = .str j ∧ Q (.bl (!decide (i.cps.toList < j.cps.toList))) H
theorem op_geU : OpR X (compareOp .GtE) rGeU := op_ge.or op_ge_str
theorem ok_geS (K : PySem.W.Frag) : Op2 K rGeU fGeS := by
  intro B H x y a b c e ra rb h Q k
  unfold fGeS at h
  split at h
  · cases h
    rw [ra.int, rb.int]
    exact .inl ⟨_, _, rfl, rfl, k _ B H (Gr.refl e) (.bl _)⟩
  · cases h
    rw [ra.str, rb.str]
    exact .inr ⟨_, _, rfl, rfl, k _ B H (Gr.refl e) (.bl _)⟩
  · cases h
def fFind1 (x : List Nat) : List D → Option D
  | [.str y] => some (.int (Txt.find ⟨x.toArray⟩ ⟨y.toArray⟩))
  | _ => none
theorem ok_find1 (K : PySem.W.Frag) : MtOk K (fun x xs H Q => ∃ a b, x = .str a ∧ xs = [.str b] ∧ Q (.int (Txt.find a b)) H) fFind1 := by
  intro B H x vs ds c e r h Q k
  unfold fFind1 at h
  split at h
  · cases h
    cases r with
    | cons r rr =>
      cases rr
      rw [r.str]
      exact ⟨_, _, rfl, rfl, k _ B H (Gr.refl e) (.int _)⟩
  · cases h
end
end R
/-! QE: what may raise -/
namespace R
open PySem PySem.Spec PyProof.Rows L2
/-- what a def gives: a value, or an exception -/
inductive RO where
  | val (s : Sl) | exc (x : XD)
def finX : Out → Option RO
  | .ret s => some (.val s)
  | .nx _ => some (.val (.d .non))
  | .exc x _ => some (.exc x)
  | _ => none
def gX (n a : Nat) (m : MS) : List D → Option RO := fun ds => if ds.length = a then finX (m (envOf n ds)) else none
def spX (K : PySem.W.Frag) (g : List D → Option RO) : Sp := fun vs H Q E => ∃ B ds r, Same B H ∧ Rps K B vs ds ∧ g ds = some r ∧ (match r with
  | .val s => ∀ v B' H', Gr B H B' H' → RetOk K H B' H' v s → Q v H'
  | .exc x => ∀ cls d B' H', Gr B H B' H' → XOk K B' x cls d → E cls d H')
/-- .. where it does not raise -/
def gV (g : List D → Option RO) : List D → Option Sl := fun ds => match g ds with | some (.val s) => some s | _ => none
theorem gV_eq {g : List D → Option RO} {ds : List D} {s : Sl} (h : g ds = some (.val s)) : gV g ds = some s := by unfold gV; rw [h]
theorem gV_at {g : List D → Option RO} {ds : List D} {s : Sl} (h : gV g ds = some s) : g ds = some (.val s) := by
  unfold gV at h
  split at h
  · rename_i e; cases h; exact e
  · cases h
theorem gX_val {n a : Nat} {m : MS} {ds : List D} {s : Sl} (h : gOf n a m ds = some s) : gX n a m ds = some (.val s) := by
  unfold gOf at h
  unfold gX
  split at h
  · rename_i hl
    rw [if_pos hl]
    cases hm : m (envOf n ds) <;> rw [hm] at h <;> first | (cases h; done) | (cases h; rfl)
  · cases h
theorem fn_okX {P : Program} {w : World} {K : PySem.W.Frag} {mg : Str → Option Value} {base : Heap} {x qual : Str} {st : Stmt} {f : Addr} {fd : FuncData} {N ps : List Str} {k : Nat} {m : MS} (F : Fun K x qual st f fd) (S : FnScope N ps (defScope st))
    (hbody : ∀ (cdv : Value) (A : Around) (outer : List Env) (s : Shared) (H : Hp) (E : XK), Room k (A.deeper (envOfC qual (defScope st) s.heap.objs.size f cdv)) →
      RSs (cxOf (L2.CX P w) P w K mg base N qual (defScope st) f cdv A outer s H E) none (fun cls d _ H' => E cls d H') (defBody st) m) : FnOk P w K mg base (L2.CX P w) (k + 1) f fd ps (spX K (gX N.length ps.length m)) := by
  refine F.okX S (fun vs H Q E h => ?_) (fun cdv A outer s H vs Q E hr h => ?_)
  · obtain ⟨B, ds, s, _, r, e, _⟩ := h
    unfold gX at e
    split at e
    · rw [r.length]; assumption
    · cases e
  · obtain ⟨B, ds, sl, e, r, hg, kk⟩ := h
    refine ⟨_, hbody cdv A outer s H E hr, B, H, B, envOf N.length ds, Gr.refl e, rl_start e r, ?_⟩
    unfold gX at hg
    split at hg
    · cases hm : m (envOf N.length ds) with
      | stuck => rw [hm] at hg; cases hg
      | brk _ => rw [hm] at hg; cases hg
      | cnt _ => rw [hm] at hg; cases hg
      | exc x ρ' =>
        rw [hm] at hg
        cases hg
        exact fun cls d σ' B' H' g' _ r' xo => kk cls d B' H' g' xo
      | nx ρ' =>
        rw [hm] at hg
        cases hg
        exact fun σ' B' H' g' _ r' => kk .non B' H' g' .non
      | ret s' =>
        rw [hm] at hg
        cases hg
        exact fun v B' H' g' ro => kk v B' H' g' ro
    · cases hg
/-- where it does not raise, it is like any other def -/
theorem FnOk.calm {P : Program} {w : World} {K : PySem.W.Frag} {mg : Str → Option Value} {base : Heap} {k : Nat} {f : Addr} {fd : FuncData} {ps : List Str} {g : List D → Option RO} (F : FnOk P w K mg base (L2.CX P w) k f fd ps (spX K g)) : FnOk P w K mg base CX0 k f fd ps (spR K (gV g)) where
  len := fun vs H Q E h => by
    obtain ⟨B, ds, s, e, r, hg, kk⟩ := h
    exact F.len vs H Q (fun _ _ _ => False) ⟨B, ds, .val s, e, r, gV_at hg, kk⟩
  run := fun A outer s H args us vs Q E hr he hb hv h => by
    obtain ⟨B, ds, sl, e, r, hg, kk⟩ := h
    refine codeAny_mono (F.run A outer s H args us vs Q (fun _ _ _ => False) hr he hb hv ⟨B, ds, .val sl, e, r, gV_at hg, kk⟩) fun res s' hq => ?_
    cases res with
    | error e =>
      obtain ⟨_, _, _, _, _, _, _, _, _, _, _, _, z⟩ := hq
      exact z.elim
    | ok fl => cases fl <;> exact hq
structure ClX (P : Program) (w : World) (K : PySem.W.Frag) (mg : Str → Option Value) (base : Heap) (x : Str) (k : Nat) (ps : List Str) (g : List D → Option RO) : Prop where
  ex : ∃ f fd, FnOk P w K mg base (L2.CX P w) k f fd ps (spX K g) ∧ mg x = some (.ref f) ∧ PySem.W.keepIn K (.ref f) = true ∧ Binds K fd ps []
theorem ClX.calm {P : Program} {w : World} {K : PySem.W.Frag} {mg : Str → Option Value} {base : Heap} {x : Str} {k : Nat} {ps : List Str} {g : List D → Option RO} (C : ClX P w K mg base x k ps g) : Cl P w K mg base x k ps (gV g) := by
  obtain ⟨f, fd, F, h1, h2, h3⟩ := C.ex
  exact ⟨f, fd, FnOk.calm F, h1, h2, h3⟩
/-! expressions that may raise -/
def cX (K : PySem.W.Frag) (gx : Option (Addr × Value × Option Addr)) (W : WX) (m : Slots → Option RO) : TE := fun σ H Q => ∃ H0 B ρ r, Rl K gx H0 B H σ ρ ∧ m ρ = some r ∧ (match r with
  | .val s => ∀ v B' H', Gr B H B' H' → RetOk K H B' H' v s → Q v H'
  | .exc x => ∀ cls d B' H', Gr B H B' H' → XOk K B' x cls d → W cls d σ H')
abbrev RX (X : Cx) (gx : Option (Addr × Value × Option Addr)) (W : WX) (e : Expr) (m : Slots → Option RO) : Prop := PE X e (cX X.K gx W m)
theorem RetOk.old {K : PySem.W.Frag} {H0 H B' H' : Hp} {v : V} {s : Sl} (h : Same H0 H) (r : RetOk K H B' H' v s) : RetOk K H0 B' H' v s := by
  cases s with
  | d _ => exact r
  | own o =>
    obtain ⟨l, ho, e, q1, q2⟩ := r
    exact ⟨l, ho, e, h.free q1, q2⟩
  | xc _ => exact r
def mCallX (g : List D → Option RO) (ma : Slots → Option (List D)) : Slots → Option RO := fun ρ => match ma ρ with | some ds => g ds | none => none
section
variable {X : Cx} {gx : Option (Addr × Value × Option Addr)} {W : WX} {k : Nat} {ps : List Str} {x : Str} {p pos : Pos} {e : Expr} {es : List Expr} {ma : Slots → Option (List D)} {g : List D → Option RO} {m : Slots → Option RO}
theorem RetOk.grown {K : PySem.W.Frag} {H H1 B' H' : Hp} {v : V} {s : Sl} (h : Same H H1) (r : RetOk K H1 B' H' v s) : RetOk K H B' H' v s := r.old h
theorem rx_cl (C : ClX X.prog X.w X.K X.mg X.base x k ps g) (tk : Takes X W) (hr : Room k X.A) (hg : Gl X x) (ha : RA X gx (e :: es) ma) (hdb : (x == ("__debug__" : Str)) = false := by decide) (he : starEach (e :: es) X.env = (false, eval e X.env) :: starEach es X.env := by rfl) (hpl : (backTo pos (starEach es X.env)).any (·.1) = false := by rfl) :
    RX X gx W (.Call (.Name x p) (e :: es) [] pos) (mCallX g ma) := by
  obtain ⟨f, fd, F, h1, h2, h3⟩ := C.ex
  refine pe_mono (pe_callS F hr hg h1 h2 h3 (fun σ => passAt tk σ) ha hdb he hpl) fun σ H Q ⟨H0, B, ρ, ro, r, e, k⟩ => ?_
  unfold mCallX at e
  cases h4 : ma ρ with
  | none => rw [h4] at e; cases e
  | some ds =>
    rw [h4] at e
    refine ⟨H0, B, ρ, ds, r, h4, fun vs B1 H1 g1 r1 => ⟨B1, ds, ro, g1.bh, r1, e, ?_⟩⟩
    cases ro with
    | val s => exact fun v B2 H2 g2 q => k v B2 H2 (g1.trans g2) (q.old g1.h)
    | exc x => exact fun cls d B2 H2 g2 q => k cls d B2 H2 (g1.trans g2) q
/-! statements -/
def mDoX (m : Slots → Option RO) : MS := fun ρ => match m ρ with | some (.val _) => .nx ρ | some (.exc x) => .exc x ρ | none => .stuck
theorem rs_doX (he : RX X gx W e m) (hs : swapsWith e none pos.line X.env = pure false := by rfl) : RS X gx W (.Expr e pos) (mDoX m) := ps_mono (ps_expr he hs) fun Ds σ H ⟨B0, H0, B, ρ, g, r, k⟩ => by
  unfold mDoX at k
  cases hm : m ρ with
  | none => rw [hm] at k; exact k.elim
  | some ro =>
    rw [hm] at k
    refine ⟨H0, B, ρ, ro, r, hm, ?_⟩
    cases ro with
    | val s => exact fun v B' H' g' q => k σ B' H' (g.trans g') g'.b (r.grow g')
    | exc x => exact fun cls d B' H' g' q => k cls d σ B' H' (g.trans g') g'.b (r.grow g') q
def mSetX (i : Nat) (m : Slots → Option RO) : MS := fun ρ => match m ρ with | some (.val s) => (match slD s with | some d => .nx (ρ.set i (some (.d d))) | none => .stuck) | some (.exc x) => .exc x ρ | none => .stuck
theorem rs_setX {i : Nat} {y : Str} {pos' : Pos} (hN : X.N.Nodup) (he : RX X gx W e m) (hi : X.N[i]? = some y := by rfl) (hx : Loc X.env.scope y := by first | exact Or.inl rfl | exact Or.inr rfl) (hs : swapsWith e (some (.Name y pos')) pos.line X.env = pure false := by rfl)
    (hf : X.fn y = true ∨ X.env.scope.names.lookup y = some .local := by first | exact .inl rfl | exact .inr rfl | assumption) : RS X gx W (.Assign [.Name y pos'] e pos) (mSetX i m) :=
  ps_mono (ps_set hN hi hx he hs hf) fun Ds σ H ⟨B0, H0, B, ρ, g, r, k⟩ => by
    unfold mSetX at k
    cases hm : m ρ with
    | none => rw [hm] at k; exact k.elim
    | some ro =>
      rw [hm] at k
      refine ⟨H0, B, ρ, ro, r, hm, ?_⟩
      cases ro with
      | val s =>
        simp only at k
        cases hd : slD s with
        | none => rw [hd] at k; exact k.elim
        | some d =>
          rw [hd] at k
          exact fun v B' H' g' q => ret_k (Gr.refl r.bh) hd (Q := fun v H' => Ds.nx (σ.set i (some v)) H') (fun v B2 H2 g2 rp => k _ B2 H2 (g.trans g2) g2.b ((r.grow g2).setD rp)) v B' H' g' q
      | exc x => exact fun cls d B' H' g' q => k cls d σ B' H' (g.trans g') g'.b (r.grow g') q
def mRetX (m : Slots → Option RO) : MS := fun ρ => match m ρ with | some (.val s) => .ret s | some (.exc x) => .exc x ρ | none => .stuck
theorem rs_retX (he : RX X gx W e m) : RS X gx W (.Return (some e) pos) (mRetX m) := ps_mono (ps_ret he) fun Ds σ H ⟨B0, H0, B, ρ, g, r, k⟩ => by
  unfold mRetX at k
  cases hm : m ρ with
  | none => rw [hm] at k; exact k.elim
  | some ro =>
    rw [hm] at k
    refine ⟨H0, B, ρ, ro, r, hm, ?_⟩
    cases ro with
    | val s => exact fun v B' H' g' q => k v B' H' (g.trans g') (q.old g.h)
    | exc x => exact fun cls d B' H' g' q => k cls d σ B' H' (g.trans g') g'.b (r.grow g') q
/-! operators that may raise -/
structure OpX (P : Program) (w : World) (K : PySem.W.Frag) (mg : Str → Option Value) (base : Heap) (c : String) (name : Str) (k : Nat) (ps : List Str) (g : List D → Option RO) : Prop where
  ex : ∃ C f fd, ClsAt K c C ∧ PySem.W.selfFirst K C = true ∧ PySem.W.findIn K (.ref C) name = some (some (.ref f)) ∧ PySem.W.isFn K (.ref f) = true ∧ FnOk P w K mg base (L2.CX P w) k f fd ps (spX K g) ∧ Binds K fd ps []
theorem OpX.calm {P : Program} {w : World} {K : PySem.W.Frag} {mg : Str → Option Value} {base : Heap} {c : String} {name : Str} {k : Nat} {ps : List Str} {g : List D → Option RO} (C : OpX P w K mg base c name k ps g) : Op P w K mg base c name k ps (gV g) := by
  obtain ⟨C, f, fd, h1, h2, h3, h4, F, h5⟩ := C.ex
  exact ⟨C, f, fd, h1, h2, h3, h4, FnOk.calm F, h5⟩
/-- an instance comes of it, or an exception -/
def insR : Option RO → Option RO
  | some (.val (.d (.ins c n d))) => some (.val (.d (.ins c n d)))
  | some (.exc x) => some (.exc x)
  | _ => none
def mBinX (c : String) (g : List D → Option RO) (ma mb : ME) : Slots → Option RO := fun ρ => match ma ρ with
  | some (.ins c1 n1 d1) => (match mb ρ with
    | some (.ins c2 n2 d2) => if c1 = c ∧ c2 = c then insR (g [.ins c1 n1 d1, .ins c2 n2 d2]) else none
    | _ => none)
  | _ => none
theorem rx_bin {op : Operator} {c : String} {a b : Expr} {ma mb : ME} (M : OpX X.prog X.w X.K X.mg X.base c (PySem.dunder op.info.2) k ps g) (tk : Takes X W) (hr : Room k X.A) (ha : RE X gx a ma) (hb : RE X gx b mb) : RX X gx W (.BinOp a op b pos) (mBinX c g ma mb) := by
  obtain ⟨C, f, fd, A, hc, hs, hf, F, hbd⟩ := M.ex
  refine ⟨fun pins s σ H Q I h => ?_⟩
  obtain ⟨H0, B, ρ, ro, r, e, kk⟩ := h
  unfold mBinX at e
  split at e
  · rename_i c1 n1 d1 h1
    split at e
    · rename_i c2 n2 d2 h2
      split at e
      · rename_i hcc
        obtain ⟨rfl, rfl⟩ := hcc
        refine wpAny_BinOp (binT (R := fun x y H2 => ∃ aa bb dx dx' fs fs' B2, x = .ref aa ∧ y = .ref bb ∧ H2 aa = some (.ins C dx fs) ∧ H2 bb = some (.ins C dx' fs') ∧ Gr B H B2 H2 ∧ Rps X.K B2 [x, y] [.ins c2 n1 d1, .ins c2 n2 d2]) ha hb I ?_ fun v u s2 x y H2 I2 rx ry q => ?_)
        · refine ⟨H0, B, ρ, _, r, h1, fun v B1 H1 gr1 q1 => ⟨H0, B1, ρ, _, r.grow gr1, h2, fun u B2 H2 gr2 q2 => ?_⟩⟩
          have q1' := q1.mono gr2.b
          have qq := q1'
          have qq2 := q2
          cases q1' with
          | @ins aa C1 dx1 _ _ vs1 _ z0 z1 z2 z3 =>
            cases q2 with
            | @ins bb C2 dx2 _ _ vs2 _ y0 y1 y2 y3 =>
              have e1 := z0.inj A
              have e2 := y0.inj A
              subst e1 e2
              exact ⟨aa, bb, dx1, dx2, _, _, B2, rfl, rfl, gr2.bh _ _ z1, gr2.bh _ _ y1, gr1.trans gr2, .cons qq (.cons qq2 .nil)⟩
        · obtain ⟨aa, bb, dx, dx', fs, fs', B2, rfl, rfl, ea, eb, gr, rps⟩ := q
          cases rx
          cases ry
          obtain ⟨ox, od, ia⟩ := ins_at I2.hok ea
          obtain ⟨oy, od', ib⟩ := ins_at I2.hok eb
          refine bin_own I2.kIn ia ib.type hc hs hf ?_
          cases hg : g [.ins c2 n1 d1, .ins c2 n2 d2] with
          | none => rw [hg] at e; cases e
          | some ro2 =>
            rw [hg] at e
            refine wpAny_mono (run_fnS (E := WE W) (us := [.ref aa, .ref bb]) (vs := [.ref aa, .ref bb]) (Q := fun v H' => (∃ l, v = .ref l) ∧ Q v H') F hr hbd (passAt tk σ) I2 (.cons rfl (.cons rfl .nil)) ⟨B2, _, ro2, gr.bh, rps, hg, ?_⟩) (fun r s' hr' => ?_) fun _ _ z => z
            · cases ro2 with
              | exc x =>
                cases e
                exact fun cls d B3 H3 g3 q => kk cls d B3 H3 (gr.trans g3) q
              | val sl =>
                unfold insR at e
                split at e
                · rename_i c3 n3 d3 hh
                  cases hh
                  cases e
                  exact fun v B3 H3 g3 q => ⟨by cases q; exact ⟨_, rfl⟩, kk v B3 H3 (gr.trans g3) q⟩
                · rename_i hh; cases hh
                · cases e
            · obtain ⟨v, H', I', rv, ⟨l, rfl⟩, qq⟩ := hr'
              cases rv
              exact ⟨.ref l, H', I', rfl, qq⟩
      · cases e
    · cases e
  · cases e
end
end R
/-! QF: raise, try, a caught exception -/
namespace R
open PySem PySem.Spec PyProof.Rows L2
/-! an own exception class, its __init__ -/
def spXI (C : Addr) (ns : List Str) : Sp := fun vs H Q _ => ∃ a ws, vs = .ref a :: ws ∧ ws.length = ns.length ∧ H a = some (exo a C none) ∧
  ∀ d fs H', H d = none → d ≠ a → H' a = some (exo a C (some d)) → H' d = some (exd d fs) → (∀ b, b ≠ a → b ≠ d → H' b = H b) → ns.map (fun f => fs.lookup f) = ws.map some → Q .non H'
section
variable {P : Program} {w : World} {K : PySem.W.Frag} {mg : Str → Option Value} {base : Heap} {x qual : Str} {st : Stmt} {f : Addr} {fd : FuncData} {k : Nat} {C : Addr}
theorem xi1 {n0 n1 f1 : Str} (F : Fun K x qual st f fd) (S : FnScope [n0, n1] [n0, n1] (defScope st)) (T : OexC K C) (h1 : PySem.W.findIn K (.ref C) f1 = some none)
    (hbody : ∀ (cdv : Value) (A : Around) (outer : List Env) (s : Shared) (H : Hp) (E : XK), PSs (cxOf CX0 P w K mg base [n0, n1] qual (defScope st) f cdv A outer s H E).nox (defBody st) (tOst K f1 (tVar 0) (tVar 1))) : FnOk P w K mg base CX0 (k + 1) f fd [n0, n1] (spXI C [f1]) := by
  refine F.ok S (fun vs H Q E h => ?_) (fun cdv A outer s H vs Q E hr h => ⟨_, hbody cdv A outer s H E, ?_⟩)
  · obtain ⟨a, ws, rfl, hl, _⟩ := h
    simpa using hl
  · obtain ⟨a, ws, rfl, hl, ha, q⟩ := h
    match ws, hl with
    | [y], _ =>
      refine ⟨y, rfl, .ref a, rfl, a, C, rfl, T, h1, .inl ⟨ha, fun d hd hne => ?_⟩⟩
      exact q d [(f1, y)] _ hd hne upd_same (by rw [upd_ne hne, upd_same]) (fun b h1 h2 => by rw [upd_ne h1, upd_ne h2]) (by simp [List.lookup])
theorem xi2 {n0 n1 n2 f1 f2 : Str} (F : Fun K x qual st f fd) (S : FnScope [n0, n1, n2] [n0, n1, n2] (defScope st)) (T : OexC K C) (h1 : PySem.W.findIn K (.ref C) f1 = some none) (h2 : PySem.W.findIn K (.ref C) f2 = some none) (hne : f1 ≠ f2)
    (hbody : ∀ (cdv : Value) (A : Around) (outer : List Env) (s : Shared) (H : Hp) (E : XK), PSs (cxOf CX0 P w K mg base [n0, n1, n2] qual (defScope st) f cdv A outer s H E).nox (defBody st) (tSeq (tOst K f1 (tVar 0) (tVar 1)) (tOst K f2 (tVar 0) (tVar 2)))) : FnOk P w K mg base CX0 (k + 1) f fd [n0, n1, n2] (spXI C [f1, f2]) := by
  refine F.ok S (fun vs H Q E h => ?_) (fun cdv A outer s H vs Q E hr h => ⟨_, hbody cdv A outer s H E, ?_⟩)
  · obtain ⟨a, ws, rfl, hl, _⟩ := h
    simpa using hl
  · obtain ⟨a, ws, rfl, hl, ha, q⟩ := h
    match ws, hl with
    | [y, z], _ =>
      refine ⟨y, rfl, .ref a, rfl, a, C, rfl, T, h1, .inl ⟨ha, fun d hd hne' => ?_⟩⟩
      have e1 : upd (upd H d (exd d [(f1, y)])) a (exo a C (some d)) d = some (exd d [(f1, y)]) := by rw [upd_ne hne', upd_same]
      refine ⟨z, rfl, .ref a, rfl, a, C, rfl, T, h2, .inr ⟨d, [(f1, y)], upd_same, e1, by simp, ?_⟩⟩
      refine q d [(f2, z), (f1, y)] _ hd hne' (by rw [upd_ne (Ne.symm hne'), upd_same]) upd_same (fun b h1 h2 => by rw [upd_ne h2, upd_ne h1, upd_ne h2]) ?_
      have b1 : (f1 == f2) = false := by simpa using hne
      simp [List.lookup, b1]
end
structure Xc (P : Program) (w : World) (K : PySem.W.Frag) (mg : Str → Option Value) (base : Heap) (x : Str) (c : String) (k : Nat) (ns : List Str) : Prop where
  ex : ∃ C fI fd ps, ClsAt K c C ∧ OexC K C ∧ PySem.W.findIn K (.ref C) "__init__" = some (some (.ref fI)) ∧ PySem.W.typeIn K (.ref fI) = some (.type "function") ∧ FnOk P w K mg base CX0 k fI fd ps (spXI C ns) ∧ Binds K fd ps [] ∧ mg x = some (.ref C)
def mRaise (c : String) (ns : List Str) (ma : Slots → Option (List D)) : MS := fun ρ => match ma ρ with
  | some ds => if ds.length = ns.length ∧ ds.length ≤ 1000 then .exc ⟨c, ns, ds⟩ ρ else .stuck
  | none => .stuck
section
variable {X : Cx} {gx : Option (Addr × Value × Option Addr)} {W : WX} {k : Nat} {x : Str} {p pos pos2 : Pos} {e : Expr} {es : List Expr} {ma : Slots → Option (List D)} {c : String} {ns : List Str}
theorem rs_raise (M : Xc X.prog X.w X.K X.mg X.base x c k ns) (hc : X.calm = true) (tk : Takes X W) (hr : Room (k + 1) X.A) (hg : Gl X x) (ha : RA X gx (e :: es) ma) (hdb : (x == ("__debug__" : Str)) = false := by decide) (he : starEach (e :: es) X.env = (false, eval e X.env) :: starEach es X.env := by rfl) (hpl : (backTo pos (starEach es X.env)).any (·.1) = false := by rfl) :
    RS X gx W (.Raise (some (.Call (.Name x p) (e :: es) [] pos)) none pos2) (mRaise c ns ma) := by
  obtain ⟨C, fI, fd, ps, A, T, iC, tI, F, hb, hm⟩ := M.ex
  refine ps_mono (ps_raise hc tk (pmk_oex T iC tI F hr hb .nil (fun _ _ _ _ _ _ _ h => h.elim) hg hm ha hdb he hpl)) fun Ds σ H ⟨B0, H0, B, ρ, g, r, kk⟩ => ?_
  unfold mRaise at kk
  cases h1 : ma ρ with
  | none => rw [h1] at kk; exact kk.elim
  | some ds =>
    rw [h1] at kk
    simp only at kk
    split at kk
    · rename_i hl
      refine ⟨H0, B, ρ, ds, r, h1, fun vs B1 H1 g1 r1 => ⟨by rw [r1.length]; exact hl.2, fun a na => ⟨a, vs, by rw [List.append_nil], by rw [r1.length]; exact hl.1, upd_same, fun d fs H' hd hne ea ed hoth hns => ⟨rfl, d, fs, ea, ed, ?_, ?_⟩⟩⟩⟩
      · rw [upd_ne hne] at hd; exact hd
      · have hd1 : H1 d = none := by rw [upd_ne hne] at hd; exact hd
        have hB1 : B1 d = none := g1.bh.free hd1
        have sH : Same H1 (upd (del H' a) d (.xd fs)) := fun b o hb => by
          have b1 : b ≠ d := ne_of_none hb hd1
          have b2 : b ≠ a := ne_of_none hb na
          rw [upd_ne b1, del_ne b2, hoth b b2 b1, upd_ne b2]
          exact hb
        have g2 : Gr B1 H1 (upd B1 d (.xd fs)) (upd (del H' a) d (.xd fs)) := ⟨same_upd hB1, sH, fun b o hb => by
          by_cases e : b = d
          · subst e
            rw [upd_same] at hb ⊢
            exact hb
          · rw [upd_ne e] at hb
            exact sH b o (g1.bh _ _ hb), fun b h1 h2 => by
          have : b ≠ d := fun z => h1 (z ▸ hd1)
          rw [upd_ne this]
          exact h2⟩
        exact kk (.ref C) (some d) σ _ _ (g.trans (g1.trans g2)) ((g1.trans g2).b) (r.grow (g1.trans g2)) ⟨C, rfl, A, .inr ⟨d, fs, vs, rfl, upd_same, hns, r1.mono (same_upd hB1)⟩⟩
    · exact kk.elim
end
/-! try .. except C as n -/
def dropX : Option Sl → Option Sl
  | some (.xc _) => none
  | s => s
theorem dropX_d {s : Option Sl} {d : D} (h : dropX s = some (.d d)) : s = some (.d d) := by
  cases s with
  | none => cases h
  | some s => cases s <;> first | exact h | cases h
theorem dropX_o {s : Option Sl} {d : MO} (h : dropX s = some (.own d)) : s = some (.own d) := by
  cases s with
  | none => cases h
  | some s => cases s <;> first | exact h | cases h
theorem dropX_x {s : Option Sl} {d : XD} (h : dropX s = some (.xc d)) : False := by
  cases s with
  | none => cases h
  | some s => cases s <;> cases h
theorem Rl.drop {K : PySem.W.Frag} {gx : Option (Addr × Value × Option Addr)} {H0 B H : Hp} {σ : L2.St} {ρ : Slots} (r : Rl K gx H0 B H σ ρ) : Rl K none H0 B H σ (ρ.map dropX) where
  bh := r.bh
  len := by rw [List.length_map]; exact r.len
  dat := fun i d h => by
    rw [List.getElem?_map] at h
    cases e : ρ[i]? with
    | none => rw [e] at h; cases h
    | some s =>
      rw [e] at h
      have h : dropX s = some (.d d) := Option.some.inj h
      exact r.dat i d (by rw [e, dropX_d h])
  own := fun i d h => by
    rw [List.getElem?_map] at h
    cases e : ρ[i]? with
    | none => rw [e] at h; cases h
    | some s =>
      rw [e] at h
      have h : dropX s = some (.own d) := Option.some.inj h
      exact r.own i d (by rw [e, dropX_o h])
  sep := fun i j o o' l hij h1 h2 => by
    rw [List.getElem?_map] at h1 h2
    cases e1 : ρ[i]? with
    | none => rw [e1] at h1; cases h1
    | some s1 =>
      cases e2 : ρ[j]? with
      | none => rw [e2] at h2; cases h2
      | some s2 =>
        rw [e1] at h1
        rw [e2] at h2
        have h1 : dropX s1 = some (.own o) := Option.some.inj h1
        have h2 : dropX s2 = some (.own o') := Option.some.inj h2
        exact r.sep i j o o' l hij (by rw [e1, dropX_o h1]) (by rw [e2, dropX_o h2])
  exc := fun i d h => by
    rw [List.getElem?_map] at h
    cases e : ρ[i]? with
    | none => rw [e] at h; cases h
    | some s =>
      rw [e] at h
      exact (dropX_x (Option.some.inj h)).elim
theorem Rl.setX {K : PySem.W.Frag} {H0 B H : Hp} {σ : L2.St} {ρ : Slots} (r : Rl K none H0 B H σ ρ) {i : Nat} {a : Addr} {cls : Value} {d : Option Addr} {x : XD} (xo : XOk K B x cls d) : Rl K (some (a, cls, d)) H0 B H (σ.set i (some (.ref a))) (ρ.set i (some (.xc x))) where
  bh := r.bh
  len := by rw [List.length_set, List.length_set]; exact r.len
  dat := fun j e q => by
    rcases set_get q with ⟨rfl, e1, hl⟩ | ⟨hne, q⟩
    · cases e1
    · obtain ⟨v', h1, h2⟩ := r.dat j e q
      exact ⟨v', by rw [set_off hne]; exact h1, h2⟩
  own := fun j o q => by
    rcases set_get q with ⟨rfl, e1, hl⟩ | ⟨hne, q⟩
    · cases e1
    · obtain ⟨l, ho, h1, h2⟩ := r.own j o q
      exact ⟨l, ho, by rw [set_off hne]; exact h1, h2⟩
  sep := fun j k o o' l hjk q1 q2 s1 s2 => by
    rcases set_get q1 with ⟨_, e1, _⟩ | ⟨n1, q1⟩
    · cases e1
    · rcases set_get q2 with ⟨_, e2, _⟩ | ⟨n2, q2⟩
      · cases e2
      · rw [set_off n1] at s1
        rw [set_off n2] at s2
        exact r.sep j k o o' l hjk q1 q2 s1 s2
  exc := fun j y q => by
    rcases set_get q with ⟨rfl, e1, hl⟩ | ⟨hne, q⟩
    · cases e1
      exact ⟨a, cls, d, rfl, set_at (by rw [r.len]; exact hl), xo⟩
    · obtain ⟨_, _, _, z, _⟩ := r.exc j y q
      cases z
def mTry (tbl : String → Option Bool) (i : Nat) (mb mh : MS) : MS := fun ρ => match mb ρ with
  | .exc x ρ' => (match tbl x.c with
    | some true => (match mh (ρ'.set i (some (.xc x))) with
      | .nx ρ2 => .nx ((ρ2.map dropX).set i none)
      | .brk ρ2 => .brk ((ρ2.map dropX).set i none)
      | .cnt ρ2 => .cnt ((ρ2.map dropX).set i none)
      | .ret s => .ret s
      | .exc _ _ => .stuck
      | .stuck => .stuck)
    | some false => .exc x ρ'
    | none => .stuck)
  | o => o
section
variable {X : Cx} {W : WX} {x n : Str} {cV : Value} {i : Nat} {body suite : List Stmt} {b₀ : Stmt} {np pos pos' : Pos} {tbl : String → Option Bool} {mb mh : MS}
theorem rs_try (hs : X.stack = X.env :: X.outer) (hf : X.env.frame = some X.env.locals) (hN : X.N.Nodup) (hi : X.N[i]? = some n) (hln : X.env.kindOf n = some .local) (hc : Names X x cV) (tk : Takes X W)
    (ht : ∀ c' C' b, tbl c' = some b → ClsAt X.K c' C' → PySem.W.exmOne X.K (.ref C') cV = some b)
    (hb : ∀ (W' : WX) (pn : List (Addr × Obj)) (xe : Value → Shared → Prop), Takes (X.tr pn xe) W' → PassesOwn (model X.prog X.w) X.A X.env xe → RSs (X.tr pn xe) none W' body mb)
    (hsu : ∀ (a : Addr) (oe : Obj) (cls : Value) (d : Option Addr) (pn : List (Addr × Obj)), Zc cls d oe → (∃ vs, oe.data = .fields vs) → RSs (X.suite a ((a, oe) :: pn)) (some (a, cls, d)) (fun _ _ _ _ => False) (b₀ :: suite) mh) :
    RS X none W (.Try body [.ExceptHandler (some (.Name x np)) (some n) (b₀ :: suite) pos'] [] [] pos) (mTry tbl i mb mh) :=
  ps_mono (ps_try_as (tb := fun W' => cS X.K none W' mb) (ts := fun a cls d => cS X.K (some (a, cls, d)) (fun _ _ _ _ => False) mh) hs hf hN hi hln hc tk hb hsu) fun Ds σ H ⟨B0, H0, B, ρ, g, r, k⟩ => by
    refine ⟨B0, H0, B, ρ, g, r, ?_⟩
    unfold mTry at k
    cases hm : mb ρ with
    | nx _ => rw [hm] at k; exact k
    | brk _ => rw [hm] at k; exact k
    | cnt _ => rw [hm] at k; exact k
    | ret _ => rw [hm] at k; exact k
    | stuck => rw [hm] at k; exact k
    | exc xd ρ' =>
      rw [hm] at k
      simp only at k
      intro cls d σ' B' H' g' sB r' xo
      have xo' := xo
      obtain ⟨C', e1, e2, e3⟩ := xo
      cases hb : tbl xd.c with
      | none => rw [hb] at k; exact k.elim
      | some b =>
        rw [hb] at k
        refine ⟨b, by rw [e1]; exact ht _ _ _ hb e2, fun hbt a na => ?_, fun hbf => ?_⟩
        · subst hbt
          simp only at k
          refine ⟨B0, H0, B', ρ'.set i (some (.xc xd)), g', r'.setX xo', ?_⟩
          cases hh : mh (ρ'.set i (some (.xc xd))) with
          | stuck => rw [hh] at k; exact k
          | exc _ _ => rw [hh] at k; exact k.elim
          | ret s => rw [hh] at k; exact fun v B2 H2 g2 ro => k v B2 H2 g2 ro
          | nx ρ2 => rw [hh] at k; exact fun σ2 B2 H2 g2 s2 r2 => k (σ2.set i none) B2 H2 g2 (sB.trans s2) ((r2.drop).wipe1 i)
          | brk ρ2 => rw [hh] at k; exact fun σ2 B2 H2 g2 s2 r2 => k (σ2.set i none) B2 H2 g2 (sB.trans s2) ((r2.drop).wipe1 i)
          | cnt ρ2 => rw [hh] at k; exact fun σ2 B2 H2 g2 s2 r2 => k (σ2.set i none) B2 H2 g2 (sB.trans s2) ((r2.drop).wipe1 i)
        · subst hbf
          simp only at k
          exact k cls d σ' B' H' g' sB r' xo'
end
/-! the caught exception: its fields, its class -/
def mXF (c : String) (f : Str) (i : Nat) : ME := fun ρ => match ρ[i]? with
  | some (some (.xc x)) => if x.c = c then (x.ns.zip x.ds).lookup f else none
  | _ => none
theorem xf_at {K : PySem.W.Frag} {B : Hp} {f : Str} {fs : List (Str × V)} {dd : D} : ∀ {ns : List Str} {vs : List V} {ds : List D}, ns.map (fun f => fs.lookup f) = vs.map some → Rps K B vs ds → (ns.zip ds).lookup f = some dd → ∃ v, fs.lookup f = some v ∧ Rp K B v dd
  | [], _, _, _, _, h => by simp at h
  | _ :: _, [], _, h, _, _ => by cases h
  | n :: ns, v :: vs, _, h, .cons (d := d) r rs, hl => by
    rw [List.map_cons, List.map_cons] at h
    injection h with h1 h2
    rw [List.zip_cons_cons, List.lookup_cons] at hl
    by_cases e : f = n
    · subst e
      rw [beq_self_eq_true] at hl
      cases hl
      exact ⟨v, h1, r⟩
    · rw [beq_eq_false_iff_ne.mpr e] at hl
      exact xf_at h2 rs hl
section
variable {X : Cx} {a C : Addr} {oe : Obj} {cls : Value} {d : Option Addr} {pn : List (Addr × Obj)} {c : String} {f n : Str} {p p2 pos : Pos}
theorem re_xf (T : XfC X.K C) (A : ClsAt X.K c C) (hno : PySem.W.findIn X.K (.ref C) f = some none) (hz : Zc cls d oe) (hf : ∃ vs, oe.data = .fields vs) (i : Nat) (hN : X.N[i]? = some n := by rfl) (hv : Vis X.env.scope n := by first | exact Or.inl rfl | exact Or.inr (Or.inl rfl) | exact Or.inr (Or.inr rfl)) (hd : (n == ("__debug__" : Str)) = false := by decide)
    (hcd : (n == ("__classdict__" : Str)) = false := by decide) (hb : attributeBase (.Name n p) f X.env (eval (.Name n p) X.env) = eval (.Name n p) X.env := by rfl) : RE (X.suite a ((a, oe) :: pn)) (some (a, cls, d)) (.Attribute (.Name n p) f pos) (mXF c f i) :=
  pe_mono (pe_xf T hno hz hf (pe_var (X := X.suite a ((a, oe) :: pn)) hN hv hd hcd) hb) fun σ H Q ⟨H0, B, ρ, dd, r, e, k⟩ => by
    unfold mXF at e
    split at e
    · rename_i xd hx
      split at e
      · rename_i hc
        obtain ⟨a', cls', d', e1, e2, C', e3, e4, e5⟩ := r.exc i xd hx
        cases e1
        rw [hc] at e4
        have := e4.inj A
        subst this
        rcases e5 with ⟨z, _⟩ | ⟨dx, fs, vs, q1, q2, q3, q4⟩
        · rw [z] at e; simp at e
        · obtain ⟨v, v1, v2⟩ := xf_at q3 q4 e
          exact ⟨.ref a, e2, rfl, e3, dx, fs, v, q1, r.bh _ _ q2, v1, k v B H (Gr.refl r.bh) v2⟩
      · cases e
    · cases e
def mXIs (tbl : String → Option Bool) (i : Nat) : ME := fun ρ => match ρ[i]? with
  | some (some (.xc x)) => (match tbl x.c with | some b => some (.bl b) | none => none)
  | _ => none
def rIsX (K : PySem.W.Frag) (cls : Value) (a : Addr) : List V → Hp → VK → Prop := fun xs H Q => ∃ (D : Addr) (c : V) (cv : Value) (b : Bool), cls = .ref D ∧ ExcC K D ∧ xs = [.ref a, c] ∧ (∀ u, RelV c u → u = cv) ∧ PySem.W.kitOne K (.ref D) cv = some b ∧ (∀ dd, d = some dd → ∃ fs, H dd = some (.xd fs)) ∧ Q (.bl b) H
theorem call_isX (hz : Zc cls d oe) (hf : ∃ vs, oe.data = .fields vs) : CallR (X.suite a ((a, oe) :: pn)) (.builtin "isinstance") (rIsX (d := d) X.K cls a) := by
  intro pins s σ H xs us Q I r h
  obtain ⟨D, c, cv, b, rfl, EC, rfl, hcv, e, hdd, q⟩ := h
  cases r with
  | cons rx rr =>
    cases rr with
    | cons rt rr =>
      cases rr
      cases rx
      have ec := hcv _ rt
      subst ec
      obtain ⟨hget, _⟩ := I.pin (a, oe) (List.mem_append.mpr (.inl List.mem_cons_self))
      obtain ⟨vs, hv⟩ := hf
      have hcl : (PySem.W.clsIn X.K D).isSome = true := by
        obtain ⟨cd, hc, _⟩ := PySem.W.any_some EC.hd
        rw [hc]; rfl
      have J : ∃ od, PySem.W.InstAt s.heap a oe D od := by
        obtain ⟨oc, od, oda, osl⟩ := oe
        obtain ⟨h1, h2⟩ := hz
        dsimp only at h1 h2 hv
        subst h1 h2 hv
        cases od with
        | none => exact ⟨none, hget, rfl, rfl, trivial⟩
        | some dd =>
          obtain ⟨fs, ef⟩ := hdd dd rfl
          have hx : ObjOk X.prog X.w H s.heap dd (.xd fs) := I.hok dd _ ef
          obtain ⟨mA, hns, hr⟩ := hx
          obtain ⟨od, ho, hl⟩ := lookIn_ns hns
          exact ⟨some od, hget, rfl, rfl, ho⟩
      obtain ⟨od, J⟩ := J
      exact PySem.W.kia_one (PySem.W.kitx_exc hcl EC.hg EC.hk EC.hs EC.ha EC.hn EC.ht EC.hm) I.kIn J e (fun z => nomatch z) fun tk => ⟨.bl b, H, I.kept (t' := tk) fun _ _ z => z, rfl, q⟩
theorem re_xis {e2 : Expr} {tbl : String → Option Bool} {cw : V} {cv : Value} (ht : ∀ c' C' b, tbl c' = some b → ClsAt X.K c' C' → ExcC X.K C' ∧ PySem.W.kitOne X.K (.ref C') cv = some b) (hcv : ∀ u, RelV cw u → u = cv) (hz : Zc cls d oe) (hf : ∃ vs, oe.data = .fields vs)
    (hg : Gl X "isinstance") (hm : X.mg "isinstance" = none) (h2 : PE (X.suite a ((a, oe) :: pn)) e2 (tC cw)) (i : Nat) (hN : X.N[i]? = some n := by rfl) (hv : Vis X.env.scope n := by first | exact Or.inl rfl | exact Or.inr (Or.inl rfl) | exact Or.inr (Or.inr rfl)) (hd : (n == ("__debug__" : Str)) = false := by decide)
    (hcd : (n == ("__classdict__" : Str)) = false := by decide)
    (he : starEach [.Name n p, e2] X.env = (false, eval (.Name n p) X.env) :: starEach [e2] X.env := by rfl) (he2 : starEach [e2] X.env = [(false, eval e2 X.env)] := by rfl) (hpl : (backTo pos (starEach [e2] X.env)).any (·.1) = false := by rfl) :
    RE (X.suite a ((a, oe) :: pn)) (some (a, cls, d)) (.Call (.Name "isinstance" p2) [.Name n p, e2] [] pos) (mXIs tbl i) := by
  have hbt : bootBuiltins "isinstance" = some (.builtin "isinstance") := by decide +kernel
  refine pe_mono (pe_callB (X := X.suite a ((a, oe) :: pn)) (call_isX hz hf) hg hm hbt (pa_cons (pe_var (X := X.suite a ((a, oe) :: pn)) hN hv hd hcd) (pa_cons h2 pa_nil he2) he) (by decide) (by decide) he hpl) fun σ H Q ⟨H0, B, ρ, dd, r, e, k⟩ => ?_
  unfold mXIs at e
  split at e
  · rename_i xd hx
    split at e
    · rename_i b hb
      cases e
      obtain ⟨a', cls', d', e1, e2, C', e3, e4, e5⟩ := r.exc i xd hx
      cases e1
      obtain ⟨t1, t2⟩ := ht _ _ _ hb e4
      refine ⟨.ref a, e2, C', cw, cv, b, e3, t1, rfl, hcv, t2, fun dd hdd => ?_, k (.bl b) B H (Gr.refl r.bh) (.bl b)⟩
      rcases e5 with ⟨_, _, z⟩ | ⟨dx, fs, vs, q1, q2, q3, q4⟩
      · rw [z] at hdd; cases hdd
      · rw [q1] at hdd; cases hdd; exact ⟨fs, r.bh _ _ q2⟩
    · cases e
  · cases e
end
end R
/-! QG: tables of classes -/
namespace R
open PySem PySem.Spec PyProof.Rows L2
def tb (l : List (String × Bool)) : String → Option Bool := fun c => l.lookup c
theorem tb0 {K : PySem.W.Frag} {P : Addr → Bool → Prop} : ∀ c' C' b', tb [] c' = some b' → ClsAt K c' C' → P C' b' := fun _ _ _ h => by cases h
theorem tbc {K : PySem.W.Frag} {c : String} {C : Addr} {b : Bool} {l : List (String × Bool)} {P : Addr → Bool → Prop} (A : ClsAt K c C) (h : P C b) (r : ∀ c' C' b', tb l c' = some b' → ClsAt K c' C' → P C' b') : ∀ c' C' b', tb ((c, b) :: l) c' = some b' → ClsAt K c' C' → P C' b' := fun c' C' b' hb A' => by
  unfold tb at hb
  rw [List.lookup_cons] at hb
  by_cases e : c' = c
  · subst e
    rw [beq_self_eq_true] at hb
    cases hb
    rw [A'.inj A]
    exact h
  · rw [beq_eq_false_iff_ne.mpr e] at hb
    exact r c' C' b' hb A'
/-- a class of the program, by its name -/
theorem pe_cls {X : Cx} {x : Str} {C : Addr} {pos : Pos} (hg : Gl X x) (hm : X.mg x = some (.ref C)) (hd : (x == ("__debug__" : Str)) = false := by decide) : PE X (.Name x pos) (tC (.ref C)) := pe_glob (v := .ref C) hg hm rfl hd
theorem kit_of {K : PySem.W.Frag} {t : Value} {C : Addr} {b : Bool} (h1 : PySem.W.hasDictIn K C = true) (h2 : PySem.W.typeIn K (.ref C) = some (.type "type")) (h4 : PySem.W.subIn K (.ref C) (.ref C) = some true) (h3 : PySem.W.subIn K t (.ref C) = some b) : PySem.W.kitOne K t (.ref C) = some b := by
  unfold PySem.W.kitOne
  by_cases e : (t == Value.ref C) = true
  · rw [if_pos e]
    rw [beq_iff_eq.mp e, h4] at h3
    exact h3
  · rw [if_neg e]
    unfold PySem.W.kitCls
    obtain ⟨cd, hc, _⟩ := PySem.W.any_some h1
    simp only
    rw [if_pos (by rw [hc, h2]; rfl)]
    exact h3
theorem kit_ty {K : PySem.W.Frag} {C : Addr} {T : String} {b : Bool} (hm : PySem.W.kitMeta T = true) (h : PySem.W.subIn K (.ref C) (.type T) = some b) : PySem.W.kitOne K (.ref C) (.type T) = some b := by
  unfold PySem.W.kitOne
  rw [if_neg (by intro z; exact nomatch (beq_iff_eq.mp z))]
  unfold PySem.W.kitCls
  simp only
  rw [if_pos hm]
  exact h
theorem hu_s {n : Nat} (h : n + 64 < cLine) : n + 1 < cLine := by omega
theorem relV_ref {C : Addr} : ∀ u, RelV (.ref C) u → u = .ref C := fun _ h => h
theorem relV_ty {n : String} : ∀ u, RelV (.ty n) u → u = .type n := fun _ h => h
end R
namespace F
open PySem L2 R
/-! ### is_alphabet -/
def m_is_alphabet : MS :=
  (mSeq (mIf (mNot (mT (mChain fLe fLe (mC (.int 1)) (mCB fLen (mCons (mBor 0) mNil)) (mC (.int (6))))))
    (mRet (mC (.bl false)))
    mNext)
  (mSeq (mFor (mEnum (mVar 0)) (gTup [(gN 1), (gN 2)])
    (mSeq (mIf (mT (m2 fNotIn (mBor 2) (mC (.str (S "abcdefghijklmnopqrstuvwxyz")))))
      (mRet (mC (.bl false)))
      mNext)
    (mIf (mAnd (mT (m2 fGt (mBor 1) (mC (.int 0)))) (mT (m2 fGeS (m2 fIx (mBor 0) (m2 fSub (mBor 1) (mC (.int 1)))) (mBor 2))))
      (mRet (mC (.bl false)))
      mNext)))
  (mRet (mC (.bl true)))))
def g_is_alphabet : List D → Option Sl := gOf 3 1 m_is_alphabet
/-! ### check_alphabet -/
def m_check_alphabet : MS :=
  (mIf (mNot (mT (mCall g_is_alphabet (mCons (mVar 0) mNil))))
    mStuck
    mNext)
def g_check_alphabet : List D → Option Sl := gOf 1 1 m_check_alphabet
/-! ### frozen -/
def g_frozen : Nat → List D → Option Sl
  | 0 => fun _ => none
  | n + 1 => gOf 2 1 (
    (mSeq (mIf (mT (mCB fIsi (mCons (mBor 0) (mCons (mTup (mCons (mC (.ty "list")) (mCons (mC (.ty "tuple")) mNil))) mNil))))
    (mRet (mCB fTuple (mCons (mF (mLc (mItems (mVar 0)) 1 mYes (mCall (g_frozen n) (mCons (mVar 1) mNil)))) mNil)))
    mNext)
  (mRet (mVar 0))))
/-! ### form_step -/
def m_form_step : MS :=
  (mSeq (mIf (mT (m2 fIs (mBor 1) (mC .non)))
    (mRet (mC .non))
    mNext)
  (mRet (m2 fIx (m2 fIx (m2 fIx (mBor 0) (mBor 1)) (mC (.int 1))) (mBor 2))))
def g_form_step : List D → Option Sl := gOf 3 3 m_form_step
/-! ### form_start -/
def m_form_start : MS :=
  (mSeq (mIf (mT (m2 fEq (mCB fLen (mCons (mBor 0) mNil)) (mC (.int 0))))
    (mRet (mC .non))
    mNext)
  (mRet (mC (.int 0))))
def g_form_start : List D → Option Sl := gOf 1 1 m_form_start
/-! ### form_stops -/
def m_form_stops : MS :=
  (mRet (mAndV (m2 fIsNot (mBor 1) (mC .non)) (m2 fIx (m2 fIx (mBor 0) (mBor 1)) (mC (.int 0)))))
def g_form_stops : List D → Option Sl := gOf 2 2 m_form_stops
/-! ### live_flags -/
noncomputable def m_live_flags : MS :=
  (mSeq (mSetF 1 (mLc (mItems (mVar 0)) 4 mYes (m2 fIx (mBor 4) (mC (.int 0)))))
  (mSeq (mSet 2 (mC (.bl true)))
  (mSeq (mWhile (mT (mVar 2))
    (mSeq (mSet 2 (mC (.bl false)))
    (mFor (mRev1 (mCB fLen (mCons (mBor 0) mNil))) (gN 3)
      (mIf (mAnd (mNot (mT (m2 fIx (mBor 1) (mBor 3)))) (mT (mCB fAny (mCons (mF (mLc (mItems (m2 fIx (m2 fIx (mBor 0) (mBor 3)) (mC (.int 1)))) 5 mYes (mAndV (m2 fIsNot (mBor 5) (mC .non)) (m2 fIx (mBor 1) (mBor 5))))) mNil))))
        (mSeq (mPutL 1 (mVar 3) (mC (.bl true)))
        (mSet 2 (mC (.bl true))))
        mNext))))
  (mRetO 1))))
noncomputable def g_live_flags : List D → Option Sl := gOf 6 1 m_live_flags
/-! ### live_moves -/
noncomputable def m_live_moves : MS :=
  (mSeq (mSet 1 (mCall g_live_flags (mCons (mVar 0) mNil)))
  (mSeq (mSetF 2 (mLst mNil))
  (mSeq (mFor (mItems (mVar 0)) (gN 3)
    (mApp 2 (mF (mLc (mItems (m2 fIx (mBor 3) (mC (.int 1)))) 4 mYes (mIfE (mAnd (mT (m2 fIsNot (mBor 4) (mC .non))) (mT (m2 fIx (mBor 1) (mBor 4)))) (mVar 4) (mC .non))))))
  (mRetO 2))))
noncomputable def g_live_moves : List D → Option Sl := gOf 5 1 m_live_moves
/-! ### numbered -/
def m_numbered : MS :=
  (mSeq (mDNew 1)
  (mSeq (mSetF 2 (mLst mNil))
  (mSeq (mFor (mItems (mVar 0)) (gN 3)
    (mSeq (mIf (mT (mDIn true (mVar 3) 1))
      (mDPut 1 (mVar 3) (mDLen 1))
      mNext)
    (mApp 2 (mDIx 1 (mVar 3)))))
  (mRetO 2))))
def g_numbered : List D → Option Sl := gOf 4 1 m_numbered
/-! ### state_classes -/
noncomputable def m_state_classes : MS :=
  (mSeq (mSet 2 (mCall g_numbered (mCons (mF (mLc (mItems (mVar 0)) 7 mYes (m2 fIx (mBor 7) (mC (.int 0))))) mNil)))
  (mWhile (mT (mC (.bl true)))
    (mSeq (mSetF 3 (mLst mNil))
    (mSeq (mFor (mZip (mCons (mVar 2) (mCons (mVar 1) mNil))) (gTup [(gN 4), (gN 5)])
      (mApp 3 (mTup (mCons (mVar 4) (mCons (mCB fTuple (mCons (mF (mLc (mItems (mVar 5)) 8 mYes (mIfE (mT (m2 fIs (mBor 8) (mC .non))) (mC .non) (m2 fIx (mBor 2) (mBor 8))))) mNil)) mNil)))))
    (mFz 3 (mSeq (mSet 6 (mCall g_numbered (mCons (mVar 3) mNil)))
    (mSeq (mIf (mT (m2 fEq (mBor 6) (mBor 2)))
      (mRet (mVar 2))
      mNext)
    (mSet 2 (mVar 6)))))))))
noncomputable def g_state_classes : List D → Option Sl := gOf 9 2 m_state_classes
/-! ### least_form -/
noncomputable def m_least_form : MS :=
  (mSeq (mSet 2 (mCall (g_frozen 4) (mCons (mVar 0) mNil)))
  (mSeq (mIf (mOr (mT (m2 fEq (mCB fLen (mCons (mBor 2) mNil)) (mC (.int 0)))) (mNot (mT (m2 fIx (mCall g_live_flags (mCons (mVar 2) mNil)) (mC (.int 0))))))
    (mRet (mTup mNil))
    mNext)
  (mSeq (mSet 3 (mCall g_live_moves (mCons (mVar 2) mNil)))
  (mSeq (mSet 4 (mCall g_state_classes (mCons (mVar 2) (mCons (mVar 3) mNil))))
  (mSeq (mSetF 5 (mLst (mCons (mC (.int 0)) mNil)))
  (mSeq (mDNew1 6 (m2 fIx (mBor 4) (mC (.int 0))) (mC (.int 0)))
  (mSeq (mSetF 7 (mLst mNil))
  (mSeq (mWhile (mT (m2 fLt (mCB fLen (mCons (mBor 7) mNil)) (mCB fLen (mCons (mBor 5) mNil))))
    (mSeq (mSet 8 (m2 fIx (mBor 5) (mCB fLen (mCons (mBor 7) mNil))))
    (mSeq (mSetF 9 (mLst mNil))
    (mSeq (mFor (mRng1 (mCons (mVar 1) mNil)) (gN 10)
      (mSeq (mSet 11 (m2 fIx (m2 fIx (mBor 3) (mBor 8)) (mBor 10)))
      (mSeq (mIf (mAnd (mT (m2 fIsNot (mBor 11) (mC .non))) (mT (mDIn true (m2 fIx (mBor 4) (mBor 11)) 6)))
        (mSeq (mDPut 6 (m2 fIx (mBor 4) (mBor 11)) (mCB fLen (mCons (mBor 5) mNil)))
        (mApp 5 (mVar 11)))
        mNext)
      (mApp 9 (mIfE (mT (m2 fIs (mBor 11) (mC .non))) (mC .non) (mDIx 6 (m2 fIx (mBor 4) (mBor 11))))))))
    (mApp 7 (mTup (mCons (m2 fIx (m2 fIx (mBor 2) (mBor 8)) (mC (.int 0))) (mCons (mCB fTuple (mCons (mBor 9) mNil)) mNil))))))))
  (mRet (mCB fTuple (mCons (mBor 7) mNil)))))))))))
noncomputable def g_least_form : List D → Option Sl := gOf 12 2 m_least_form
/-! ### pair_is_open -/
def m_pair_is_open : MS :=
  (mSeq (mIf (mT (m2 fEq (mBor 1) (mC (.str (S "both")))))
    (mRet (mAndV (m2 fIsNot (m2 fIx (mBor 0) (mC (.int 0))) (mC .non)) (m2 fIsNot (m2 fIx (mBor 0) (mC (.int 1))) (mC .non))))
    mNext)
  (mSeq (mIf (mT (m2 fEq (mBor 1) (mC (.str (S "first")))))
    (mRet (m2 fIsNot (m2 fIx (mBor 0) (mC (.int 0))) (mC .non)))
    mNext)
  (mRet (mOrV (m2 fIsNot (m2 fIx (mBor 0) (mC (.int 0))) (mC .non)) (m2 fIsNot (m2 fIx (mBor 0) (mC (.int 1))) (mC .non))))))
def g_pair_is_open : List D → Option Sl := gOf 2 2 m_pair_is_open
/-! ### pair_ends -/
def m_pair_ends : MS :=
  (mSeq (mIf (mT (m2 fEq (mBor 3) (mC (.str (S "both")))))
    (mRet (mAndV (mCall g_form_stops (mCons (mVar 0) (mCons (m2 fIx (mBor 2) (mC (.int 0))) mNil))) (mCall g_form_stops (mCons (mVar 1) (mCons (m2 fIx (mBor 2) (mC (.int 1))) mNil)))))
    mNext)
  (mSeq (mIf (mT (m2 fEq (mBor 3) (mC (.str (S "first")))))
    (mRet (mAndV (mCall g_form_stops (mCons (mVar 0) (mCons (m2 fIx (mBor 2) (mC (.int 0))) mNil))) (mNotV (mCall g_form_stops (mCons (mVar 1) (mCons (m2 fIx (mBor 2) (mC (.int 1))) mNil))))))
    mNext)
  (mRet (mOrV (mCall g_form_stops (mCons (mVar 0) (mCons (m2 fIx (mBor 2) (mC (.int 0))) mNil))) (mCall g_form_stops (mCons (mVar 1) (mCons (m2 fIx (mBor 2) (mC (.int 1))) mNil)))))))
def g_pair_ends : List D → Option Sl := gOf 4 4 m_pair_ends
/-! ### paired_form -/
noncomputable def m_paired_form : MS :=
  (mSeq (mSet 4 (mTup (mCons (mCall g_form_start (mCons (mVar 0) mNil)) (mCons (mCall g_form_start (mCons (mVar 1) mNil)) mNil))))
  (mSeq (mIf (mNot (mT (mCall g_pair_is_open (mCons (mVar 4) (mCons (mVar 3) mNil)))))
    (mRet (mTup mNil))
    mNext)
  (mSeq (mSetF 5 (mLst (mCons (mVar 4) mNil)))
  (mSeq (mDNew1 6 (mVar 4) (mC (.int 0)))
  (mSeq (mSetF 7 (mLst mNil))
  (mSeq (mWhile (mT (m2 fLt (mCB fLen (mCons (mBor 7) mNil)) (mCB fLen (mCons (mBor 5) mNil))))
    (mSeq (mSet 8 (m2 fIx (mBor 5) (mCB fLen (mCons (mBor 7) mNil))))
    (mSeq (mSetF 9 (mLst mNil))
    (mSeq (mFor (mRng1 (mCons (mVar 2) mNil)) (gN 10)
      (mSeq (mSet 11 (mTup (mCons (mCall g_form_step (mCons (mVar 0) (mCons (m2 fIx (mBor 8) (mC (.int 0))) (mCons (mVar 10) mNil)))) (mCons (mCall g_form_step (mCons (mVar 1) (mCons (m2 fIx (mBor 8) (mC (.int 1))) (mCons (mVar 10) mNil)))) mNil))))
      (mSeq (mIf (mAnd (mT (mCall g_pair_is_open (mCons (mVar 11) (mCons (mVar 3) mNil)))) (mT (mDIn true (mVar 11) 6)))
        (mSeq (mDPut 6 (mVar 11) (mCB fLen (mCons (mBor 5) mNil)))
        (mApp 5 (mVar 11)))
        mNext)
      (mApp 9 (mDGet 6 (mVar 11))))))
    (mApp 7 (mTup (mCons (mCall g_pair_ends (mCons (mVar 0) (mCons (mVar 1) (mCons (mVar 8) (mCons (mVar 3) mNil))))) (mCons (mCB fTuple (mCons (mBor 9) mNil)) mNil))))))))
  (mFz 7 (mRet (mCall g_least_form (mCat 1 1 (mCons (mVar 7) mNil) (mCons (mVar 2) mNil)))))))))))
noncomputable def g_paired_form : List D → Option Sl := gOf 12 4 m_paired_form
/-! ### flipped_form -/
noncomputable def m_flipped_form : MS :=
  (mSeq (mSet 2 (mCB fLen (mCons (mBor 0) mNil)))
  (mSeq (mSetF 3 (mLst mNil))
  (mSeq (mFor (mItems (mVar 0)) (gTup [(gN 4), (gN 5)])
    (mApp 3 (mTup (mCons (mNotV (mVar 4)) (mCons (mCB fTuple (mCons (mF (mLc (mItems (mVar 5)) 7 mYes (mIfE (mT (m2 fIs (mBor 7) (mC .non))) (mVar 2) (mVar 7)))) mNil)) mNil)))))
  (mSeq (mApp 3 (mTup (mCons (mC (.bl true)) (mCons (mCB fTuple (mCons (mF (mLc (mRng1 (mCons (mVar 1) mNil)) 6 mYes (mVar 2))) mNil)) mNil))))
  (mFz 3 (mRet (mCall g_least_form (mCat 1 1 (mCons (mVar 3) mNil) (mCons (mVar 1) mNil)))))))))
noncomputable def g_flipped_form : List D → Option Sl := gOf 8 2 m_flipped_form
/-! ### is_move -/
def m_is_move : MS :=
  (mSeq (mIf (mT (m2 fIs (mBor 1) (mC .non)))
    (mRet (mC (.bl true)))
    mNext)
  (mRet (mAndV (mCB fIsi (mCons (mBor 1) (mCons (mC (.ty "int")) mNil))) (mAndV (mNotV (mCB fIsi (mCons (mBor 1) (mCons (mC (.ty "bool")) mNil)))) (mChain fLe fLt (mC (.int 0)) (mBor 1) (mCB fLen (mCons (mBor 0) mNil)))))))
def g_is_move : List D → Option Sl := gOf 2 2 m_is_move
/-! ### check_form -/
def m_check_form : MS :=
  (mFor (mEnum (mVar 0)) (gTup [(gN 2), (gTup [(gN 3), (gN 4)])])
    (mIf (mOr (mT (m2 fNe (mCB fLen (mCons (mBor 4) mNil)) (mBor 1))) (mNot (mT (mCB fAll (mCons (mF (mLc (mItems (mVar 4)) 5 mYes (mCall g_is_move (mCons (mVar 0) (mCons (mVar 5) mNil))))) mNil)))))
      mStuck
      mNext))
def g_check_form : List D → Option Sl := gOf 6 2 m_check_form
/-! ### check_same_alphabet -/
def m_check_same_alphabet : MS :=
  (mIf (mT (m2 fNe (mFld "TextSet" "alphabet" (mVar 0)) (mFld "TextSet" "alphabet" (mVar 1))))
    (mRaise "AlphabetsDiffer" ["one", "two"] (mCons (mFld "TextSet" "alphabet" (mVar 0)) (mCons (mFld "TextSet" "alphabet" (mVar 1)) mNil)))
    mNext)
def gx_check_same_alphabet : List D → Option RO := gX 2 2 m_check_same_alphabet
def g_check_same_alphabet : List D → Option Sl := gV gx_check_same_alphabet
/-! ### TextSet___init__ -/
noncomputable def m_TextSet___init__ : MS :=
  (mSeq (mDo (mCall g_check_alphabet (mCons (mVar 1) mNil)))
  (mSeq (mSet 3 (mCall (g_frozen 4) (mCons (mVar 2) mNil)))
  (mSeq (mDo (mCall g_check_form (mCons (mVar 3) (mCons (mCB fLen (mCons (mBor 1) mNil)) mNil))))
  (mSeq (fun ρ => match ρ[(0 : Nat)]? with | some (some (.own (.ins _ c _ _))) => if c = "TextSet" then mSetFld 0 "alphabet" (mVar 1) ρ else .stuck | _ => .stuck)
  (fun ρ => match ρ[(0 : Nat)]? with | some (some (.own (.ins _ c _ _))) => if c = "TextSet" then mSetFld 0 "form" (mCall g_least_form (mCat 1 1 (mCons (mVar 3) mNil) (mCons (mCB fLen (mCons (mBor 1) mNil)) mNil))) ρ else .stuck | _ => .stuck)))))
noncomputable def g_TextSet___init__ : Addr → List D → Option (List Str × List D) := gI 4 3 "TextSet" m_TextSet___init__
/-! ### TextSet___or__ -/
noncomputable def m_TextSet___or__ : MS :=
  (mSeq (mDoX (mCallX gx_check_same_alphabet (mCons (mVar 0) (mCons (mVar 1) mNil))))
  (mRet (mMake "TextSet" g_TextSet___init__ (mCons (mFld "TextSet" "alphabet" (mVar 0)) (mCons (mCall g_paired_form (mCons (mFld "TextSet" "form" (mVar 0)) (mCons (mFld "TextSet" "form" (mVar 1)) (mCons (mCB fLen (mCons (mFld "TextSet" "alphabet" (mVar 0)) mNil)) (mCons (mC (.str (S "either"))) mNil))))) mNil)))))
noncomputable def gx_TextSet___or__ : List D → Option RO := gX 2 2 m_TextSet___or__
noncomputable def g_TextSet___or__ : List D → Option Sl := gV gx_TextSet___or__
/-! ### TextSet___and__ -/
noncomputable def m_TextSet___and__ : MS :=
  (mSeq (mDoX (mCallX gx_check_same_alphabet (mCons (mVar 0) (mCons (mVar 1) mNil))))
  (mRet (mMake "TextSet" g_TextSet___init__ (mCons (mFld "TextSet" "alphabet" (mVar 0)) (mCons (mCall g_paired_form (mCons (mFld "TextSet" "form" (mVar 0)) (mCons (mFld "TextSet" "form" (mVar 1)) (mCons (mCB fLen (mCons (mFld "TextSet" "alphabet" (mVar 0)) mNil)) (mCons (mC (.str (S "both"))) mNil))))) mNil)))))
noncomputable def gx_TextSet___and__ : List D → Option RO := gX 2 2 m_TextSet___and__
noncomputable def g_TextSet___and__ : List D → Option Sl := gV gx_TextSet___and__
/-! ### TextSet___sub__ -/
noncomputable def m_TextSet___sub__ : MS :=
  (mSeq (mDoX (mCallX gx_check_same_alphabet (mCons (mVar 0) (mCons (mVar 1) mNil))))
  (mRet (mMake "TextSet" g_TextSet___init__ (mCons (mFld "TextSet" "alphabet" (mVar 0)) (mCons (mCall g_paired_form (mCons (mFld "TextSet" "form" (mVar 0)) (mCons (mFld "TextSet" "form" (mVar 1)) (mCons (mCB fLen (mCons (mFld "TextSet" "alphabet" (mVar 0)) mNil)) (mCons (mC (.str (S "first"))) mNil))))) mNil)))))
noncomputable def gx_TextSet___sub__ : List D → Option RO := gX 2 2 m_TextSet___sub__
noncomputable def g_TextSet___sub__ : List D → Option Sl := gV gx_TextSet___sub__
/-! ### TextSet___invert__ -/
noncomputable def m_TextSet___invert__ : MS :=
  (mRet (mMake "TextSet" g_TextSet___init__ (mCons (mFld "TextSet" "alphabet" (mVar 0)) (mCons (mCall g_flipped_form (mCons (mFld "TextSet" "form" (mVar 0)) (mCons (mCB fLen (mCons (mFld "TextSet" "alphabet" (mVar 0)) mNil)) mNil))) mNil))))
noncomputable def g_TextSet___invert__ : List D → Option Sl := gOf 1 1 m_TextSet___invert__
/-! ### TextSet_begin -/
def m_TextSet_begin : MS :=
  (mRet (mCall g_form_start (mCons (mFld "TextSet" "form" (mVar 0)) mNil)))
def g_TextSet_begin : List D → Option Sl := gOf 1 1 m_TextSet_begin
/-! ### TextSet_step -/
def m_TextSet_step : MS :=
  (mSeq (mSet 3 (mMt fFind1 (mFld "TextSet" "alphabet" (mVar 0)) (mCons (mBor 2) mNil)))
  (mSeq (mIf (mT (m2 fLt (mBor 3) (mC (.int 0))))
    (mRet (mC .non))
    mNext)
  (mRet (mCall g_form_step (mCons (mFld "TextSet" "form" (mVar 0)) (mCons (mVar 1) (mCons (mVar 3) mNil)))))))
def g_TextSet_step : List D → Option Sl := gOf 4 3 m_TextSet_step
/-! ### TextSet_steps -/
def m_TextSet_steps : MS :=
  (mSeq (mSet 3 (mVar 1))
  (mSeq (mFor (mItems (mVar 2)) (gN 4)
    (mSet 3 (mMeth "TextSet" "step" g_TextSet_step (mVar 0) (mCons (mVar 3) (mCons (mVar 4) mNil)))))
  (mRet (mVar 3))))
def g_TextSet_steps : List D → Option Sl := gOf 5 3 m_TextSet_steps
/-! ### TextSet_stops -/
def m_TextSet_stops : MS :=
  (mRet (mCall g_form_stops (mCons (mFld "TextSet" "form" (mVar 0)) (mCons (mVar 1) mNil))))
def g_TextSet_stops : List D → Option Sl := gOf 2 2 m_TextSet_stops
/-! ### TextSet___contains__ -/
def m_TextSet___contains__ : MS :=
  (mRet (mMeth "TextSet" "stops" g_TextSet_stops (mVar 0) (mCons (mMeth "TextSet" "steps" g_TextSet_steps (mVar 0) (mCons (mMeth "TextSet" "begin" g_TextSet_begin (mVar 0) mNil) (mCons (mVar 1) mNil))) mNil)))
def g_TextSet___contains__ : List D → Option Sl := gOf 2 2 m_TextSet___contains__
/-! ### TextSet_is_empty -/
def m_TextSet_is_empty : MS :=
  (mRet (m2 fEq (mCB fLen (mCons (mFld "TextSet" "form" (mVar 0)) mNil)) (mC (.int 0))))
def g_TextSet_is_empty : List D → Option Sl := gOf 1 1 m_TextSet_is_empty
/-! ### TextSet_state_after -/
def m_TextSet_state_after : MS :=
  (mRet (mMeth "TextSet" "steps" g_TextSet_steps (mVar 0) (mCons (mMeth "TextSet" "begin" g_TextSet_begin (mVar 0) mNil) (mCons (mVar 1) mNil))))
def g_TextSet_state_after : List D → Option Sl := gOf 2 2 m_TextSet_state_after
/-! ### _law_whole -/
def m__law_whole : MS :=
  (mRet (mAndV (mCB fIsi (mCons (mBor 0) (mCons (mC (.ty "int")) mNil))) (mNotV (mCB fIsi (mCons (mBor 0) (mCons (mC (.ty "bool")) mNil))))))
def g__law_whole : List D → Option Sl := gOf 1 1 m__law_whole
/-! ### _law_cell -/
def m__law_cell : MS :=
  (mSeq (mIf (mT (m2 fLt (mBor 1) (mCB fLen (mCons (mBor 0) mNil))))
    (mRet (m2 fIx (mBor 0) (mBor 1)))
    mNext)
  (mSeq (mSet 2 (mC (.int 17)))
  (mSeq (mFor (mItems (mVar 0)) (gN 3)
    (mSet 2 (m2 fMod (mCB fInt (mCons (m2 fAdd (m2 fMul (mBor 2) (mC (.int 31))) (m2 fMod (mCB fInt (mCons (mBor 3) mNil)) (mC (.int 1000003)))) mNil)) (mC (.int 1000003)))))
  (mRet (m2 fMod (mCB fInt (mCons (m2 fMul (m2 fMul (m2 fAdd (mBor 2) (mC (.int 7))) (m2 fAdd (mBor 1) (mC (.int 3)))) (mC (.int 69621))) mNil)) (mC (.int 2147483647)))))))
def g__law_cell : List D → Option Sl := gOf 4 2 m__law_cell
/-! ### _law_digits -/
def m__law_digits : MS :=
  (mSeq (mSetF 2 (mLst mNil))
  (mSeq (mSet 3 (mCB fInt (mCons (mBor 0) mNil)))
  (mSeq (mIf (mT (m2 fGe (mBor 3) (m2 fPow (mC (.int 10)) (mC (.int 18)))))
    (mSeq (mSet 3 (m2 fSub (mBor 3) (m2 fPow (mC (.int 10)) (mC (.int 18)))))
    (mSeq (mFor (mItems (mVar 1)) (gN 6)
      (mSeq (mApp 2 (m2 fMod (mCB fInt (mCons (mBor 3) mNil)) (mBor 6)))
      (mSet 3 (m2 fDiv (mCB fInt (mCons (mBor 3) mNil)) (mBor 6)))))
    (mRetO 2)))
    mNext)
  (mSeq (mSet 4 (m2 fMod (mCB fInt (mCons (mBor 3) mNil)) (mC (.int 2147483629))))
  (mSeq (mFor (mRng1 (mCons (mCB fLen (mCons (mBor 1) mNil)) mNil)) (gN 5)
    (mSeq (mSet 4 (m2 fMod (mCB fInt (mCons (m2 fAdd (m2 fAdd (m2 fMul (mBor 4) (mC (.int 48271))) (m2 fMul (mC (.int 974711)) (mBor 5))) (mC (.int 12345))) mNil)) (mC (.int 2147483647))))
    (mSeq (mSet 7 (m2 fMod (mCB fInt (mCons (m2 fMul (mBor 4) (m2 fAdd (m2 fDiv (mBor 4) (mC (.int 65537))) (mC (.int 3)))) mNil)) (mC (.int 2147483629))))
    (mApp 2 (m2 fMod (m2 fDiv (mBor 7) (mC (.int 19))) (m2 fIx (mBor 1) (mBor 5)))))))
  (mRetO 2))))))
def g__law_digits : List D → Option Sl := gOf 8 2 m__law_digits
/-! ### _law_letters -/
def m__law_letters : MS :=
  (mSeq (mSet 3 (mC (.str (S "abcdefghijklmnopqrstuvwxyz"))))
  (mSeq (mSetF 4 (mLst mNil))
  (mSeq (mFor (mRng1 (mCons (mVar 2) mNil)) (gN 5)
    (mSeq (mSet 6 (m2 fMod (mCB fInt (mCons (m2 fIx (mBor 0) (m2 fAdd (mBor 1) (mBor 5))) mNil)) (mCB fLen (mCons (mBor 3) mNil))))
    (mSeq (mApp 4 (m2 fIx (mBor 3) (mBor 6)))
    (mSet 3 (m2 fAdd (mSl (mBor 3) mNo (mPart (mVar 6))) (mSl (mBor 3) (mPart (m2 fAdd (mBor 6) (mC (.int 1)))) mNo))))))
  (mRet (mMt fJoin (mC (.str (S ""))) (mCons (mF (mCF fSortC (mCons (mBor 4) mNil))) mNil))))))
def g__law_letters : List D → Option Sl := gOf 7 3 m__law_letters
/-! ### _law_other -/
def m__law_other : MS :=
  (mSeq (mIf (mOr (mT (m2 fIs (mBor 0) (mC .non))) (mT (m2 fGe (mBor 0) (m2 fMul (mC (.int 2)) (mBor 1)))))
    (mRet (mVar 0))
    mNext)
  (mRet (m2 fAdd (m2 fMod (mCB fInt (mCons (mBor 0) mNil)) (mBor 1)) (m2 fMul (mBor 1) (m2 fMod (mCB fInt (mCons (mBor 2) mNil)) (mC (.int 2)))))))
def g__law_other : List D → Option Sl := gOf 3 3 m__law_other
/-! ### _law_form -/
def m__law_form : MS :=
  (mSeq (mSet 5 (m2 fDiv (mBor 2) (mC (.int 2))))
  (mSeq (mSetF 6 (mLst mNil))
  (mSeq (mFor (mRng1 (mCons (mVar 2) mNil)) (gN 7)
    (mSeq (mSet 8 (mCall g__law_digits (mCons (m2 fAdd (mCall g__law_cell (mCons (mVar 0) (mCons (m2 fAdd (mBor 1) (mBor 7)) mNil))) (m2 fMul (mC (.int 977)) (mBor 7))) (mCons (m2 fAdd (m2 fAdd (mF (mLst (mCons (mC (.int 8)) (mCons (mC (.int 5)) mNil)))) (m2 fMul (mF (mLst (mCons (m2 fAdd (mBor 2) (mC (.int 1))) mNil))) (mC (.int 6)))) (mF (mLst (mCons (mC (.int 60)) mNil)))) mNil))))
    (mSeq (mSet 9 (m2 fLt (m2 fIx (mBor 8) (mC (.int 1))) (mC (.int 3))))
    (mSeq (mSetF 10 (mLc (mRng1 (mCons (mVar 3) mNil)) 11 mYes (m2 fIx (mF (mLst (mCons (mC .non) (mCons (m2 fIx (mBor 8) (m2 fAdd (mC (.int 2)) (mBor 11))) mNil)))) (mCB fInt (mCons (m2 fLt (m2 fIx (mBor 8) (m2 fAdd (mC (.int 2)) (mBor 11))) (mBor 2)) mNil)))))
    (mSeq (mIf (mAnd (mT (mVar 4)) (mAnd (mT (m2 fLe (mBor 5) (mBor 7))) (mT (m2 fLt (mBor 7) (m2 fMul (mC (.int 2)) (mBor 5))))))
      (mSeq (mSet 9 (m2 fIx (m2 fIx (mBor 6) (m2 fSub (mBor 7) (mBor 5))) (mC (.int 0))))
      (mSetF 10 (mLc (mRng1 (mCons (mVar 3) mNil)) 11 mYes (mCall g__law_other (mCons (m2 fIx (m2 fIx (m2 fIx (mBor 6) (m2 fSub (mBor 7) (mBor 5))) (mC (.int 1))) (mBor 11)) (mCons (mVar 5) (mCons (m2 fIx (mBor 8) (m2 fAdd (mC (.int 2)) (mBor 11))) mNil)))))))
      (mIf (mAnd (mT (m2 fEq (m2 fIx (mBor 8) (mC (.int 0))) (mC (.int 6)))) (mT (m2 fGt (mBor 7) (mC (.int 0)))))
        (mSeq (mSet 9 (m2 fIx (m2 fIx (mBor 6) (m2 fMod (mCB fInt (mCons (m2 fIx (mBor 8) (mC (.int 8))) mNil)) (mBor 7))) (mC (.int 0))))
        (mSet 10 (m2 fIx (m2 fIx (mBor 6) (m2 fMod (mCB fInt (mCons (m2 fIx (mBor 8) (mC (.int 8))) mNil)) (mBor 7))) (mC (.int 1)))))
        (mIf (mAnd (mT (m2 fEq (m2 fIx (mBor 8) (mC (.int 0))) (mC (.int 7)))) (mT (m2 fGt (mBor 7) (mC (.int 0)))))
          (mSeq (mSet 9 (mC (.bl false)))
          (mSetF 10 (mLc (mRng1 (mCons (mVar 3) mNil)) 11 mYes (m2 fIx (mF (mLst (mCons (mC .non) (mCons (mVar 7) mNil)))) (m2 fMod (mCB fInt (mCons (m2 fIx (mBor 8) (m2 fAdd (mC (.int 2)) (mBor 11))) mNil)) (mC (.int 2)))))))
          mNext)))
    (mApp 6 (mTup (mCons (mVar 9) (mCons (mCB fTuple (mCons (mBor 10) mNil)) mNil)))))))))
  (mRet (mCB fTuple (mCons (mBor 6) mNil))))))
def g__law_form : List D → Option Sl := gOf 12 5 m__law_form
/-! ### _law_filled -/
def m__law_filled : MS :=
  (mSeq (mSetF 2 (mLst mNil))
  (mSeq (mIf (mT (m2 fGt (mCB fLen (mCons (mBor 0) mNil)) (mC (.int 0))))
    (mSetF 2 (mLst (mCons (mC (.int 0)) mNil)))
    mNext)
  (mSeq (mFor (mRng1 (mCons (mCB fLen (mCons (mBor 0) mNil)) mNil)) (gN 3)
    (mSeq (mIf (mT (m2 fGe (mBor 3) (mCB fLen (mCons (mBor 2) mNil))))
      (fun ρ => .brk ρ)
      mNext)
    (mSeq (mIf (mT (m2 fIx (m2 fIx (mBor 0) (m2 fIx (mBor 2) (mBor 3))) (mC (.int 0))))
      (mRet (mVar 0))
      mNext)
    (mFor (mItems (m2 fIx (m2 fIx (mBor 0) (m2 fIx (mBor 2) (mBor 3))) (mC (.int 1)))) (gN 5)
      (mIf (mAnd (mT (m2 fIsNot (mBor 5) (mC .non))) (mT (m2 fNotIn (mBor 5) (mBor 2))))
        (mApp 2 (mVar 5))
        mNext)))))
  (mSeq (mIf (mOr (mT (m2 fEq (mCB fLen (mCons (mBor 2) mNil)) (mC (.int 0)))) (mT (m2 fEq (mBor 1) (mC (.int 0)))))
    (mRet (mVar 0))
    mNext)
  (mSeq (mSet 4 (m2 fIx (mBor 2) (mNeg (mC (.int 1)))))
  (mRet (m2 fAdd (m2 fAdd (mSl (mBor 0) mNo (mPart (mVar 4))) (mTup (mCons (mTup (mCons (mC (.bl true)) (mCons (m2 fIx (m2 fIx (mBor 0) (mBor 4)) (mC (.int 1))) mNil))) mNil))) (mSl (mBor 0) (mPart (m2 fAdd (mBor 4) (mC (.int 1)))) mNo))))))))
def g__law_filled : List D → Option Sl := gOf 6 2 m__law_filled
/-! ### _law_is_form -/
def m__law_is_form : MS :=
  (mSeq (mIf (mNot (mT (mCB fIsi (mCons (mBor 0) (mCons (mC (.ty "tuple")) mNil)))))
    (mRet (mC (.bl false)))
    mNext)
  (mSeq (mFor (mItems (mVar 0)) (gN 2)
    (mSeq (mIf (mOr (mNot (mT (mCB fIsi (mCons (mBor 2) (mCons (mC (.ty "tuple")) mNil))))) (mOr (mT (m2 fNe (mCB fLen (mCons (mBor 2) mNil)) (mC (.int 2)))) (mNot (mT (mCB fIsi (mCons (m2 fIx (mBor 2) (mC (.int 0))) (mCons (mC (.ty "bool")) mNil)))))))
      (mRet (mC (.bl false)))
      mNext)
    (mSeq (mIf (mOr (mNot (mT (mCB fIsi (mCons (m2 fIx (mBor 2) (mC (.int 1))) (mCons (mC (.ty "tuple")) mNil))))) (mT (m2 fNe (mCB fLen (mCons (m2 fIx (mBor 2) (mC (.int 1))) mNil)) (mBor 1))))
      (mRet (mC (.bl false)))
      mNext)
    (mFor (mItems (m2 fIx (mBor 2) (mC (.int 1)))) (gN 3)
      (mIf (mAnd (mT (m2 fIsNot (mBor 3) (mC .non))) (mOr (mNot (mT (mCall g__law_whole (mCons (mVar 3) mNil)))) (mOr (mT (m2 fLt (mBor 3) (mC (.int 0)))) (mT (m2 fGe (mBor 3) (mCB fLen (mCons (mBor 0) mNil)))))))
        (mRet (mC (.bl false)))
        mNext)))))
  (mRet (mC (.bl true)))))
def g__law_is_form : List D → Option Sl := gOf 4 2 m__law_is_form
/-! ### _law_first -/
def m__law_first : MS :=
  (mRet (m2 fIx (mF (mLst (mCons (mC .non) (mCons (mC (.int 0)) mNil)))) (mCB fInt (mCons (m2 fGt (mCB fLen (mCons (mBor 0) mNil)) (mC (.int 0))) mNil))))
def g__law_first : List D → Option Sl := gOf 1 1 m__law_first
/-! ### _law_ends -/
def m__law_ends : MS :=
  (mRet (mAndV (m2 fIsNot (mBor 1) (mC .non)) (m2 fIx (m2 fIx (mBor 0) (mBor 1)) (mC (.int 0)))))
def g__law_ends : List D → Option Sl := gOf 2 2 m__law_ends
/-! ### _law_next -/
def m__law_next : MS :=
  (mSeq (mIf (mT (m2 fIs (mBor 1) (mC .non)))
    (mRet (mC .non))
    mNext)
  (mRet (m2 fIx (m2 fIx (m2 fIx (mBor 0) (mBor 1)) (mC (.int 1))) (mBor 2))))
def g__law_next : List D → Option Sl := gOf 3 3 m__law_next
end F
/-! T0: how the wider mirrors are worked out; loops by their invariants; dicts by their keys -/
namespace R
open PySem L2
/-! while -/
theorem while_rule {c : Slots → Option Bool} {b : MS} (I : Slots → Prop) (μ : Slots → Nat) (Q : Out → Prop)
    (step : ∀ ρ, I ρ → (c ρ = some false ∧ Q (.nx ρ)) ∨ (c ρ = some true ∧ ((∃ ρ', b ρ = .nx ρ' ∧ I ρ' ∧ μ ρ' < μ ρ) ∨ ∃ s, b ρ = .ret s ∧ Q (.ret s)))) : ∀ ρ, I ρ → Q (mWhile c b ρ) := by
  have key : ∀ (n : Nat) (ρ : Slots), μ ρ < n → I ρ → ∃ o, whGo c b n ρ = some o ∧ Q o := by
    intro n
    induction n with
    | zero => intro ρ h; exact absurd h (Nat.not_lt_zero _)
    | succ n ih =>
      intro ρ hl hI
      rcases step ρ hI with ⟨h1, h2⟩ | ⟨h1, ⟨ρ', h2, h3, h4⟩ | ⟨s, h2, h3⟩⟩
      · exact ⟨_, by unfold whGo; rw [h1], h2⟩
      · obtain ⟨o, e, q⟩ := ih ρ' (by omega) h3
        exact ⟨o, by unfold whGo; rw [h1]; simp only [h2]; exact e, q⟩
      · exact ⟨_, by unfold whGo; rw [h1]; simp only [h2], h3⟩
  intro ρ hI
  obtain ⟨o, e, q⟩ := key (μ ρ + 1) ρ (Nat.lt_succ_self _) hI
  rw [while_eq e]
  exact q
/-! for, that may be left -/
theorem for_rule {mg : D → Slots → Option Slots} {b : MS} (P : Nat → Slots → Prop) (Q : Out → Prop) : ∀ (xs : List D) (k : Nat) (ρ : Slots), P k ρ →
    (∀ i x ρ, xs[i]? = some x → P (k + i) ρ → ∃ ρ1, mg x ρ = some ρ1 ∧ ((∃ ρ2, (b ρ1 = .nx ρ2 ∨ b ρ1 = .cnt ρ2) ∧ P (k + i + 1) ρ2) ∨ (∃ ρ2, b ρ1 = .brk ρ2 ∧ Q (.nx ρ2)) ∨ ∃ s, b ρ1 = .ret s ∧ Q (.ret s))) →
    (∀ ρ, P (k + xs.length) ρ → Q (.nx ρ)) → Q (forGo mg b xs ρ)
  | [], k, ρ, h, _, he => by unfold forGo; exact he ρ (by simpa using h)
  | x :: xs, k, ρ, h, hs, he => by
    obtain ⟨ρ1, h1, h2⟩ := hs 0 x ρ rfl (by simpa using h)
    unfold forGo
    rw [h1]
    have rec' : ∀ ρ2, P (k + 0 + 1) ρ2 → Q (forGo mg b xs ρ2) := fun ρ2 q =>
      for_rule P Q xs (k + 1) ρ2 (by simpa using q) (fun i y ρ hy hp => by
        have := hs (i + 1) y ρ (by simpa using hy) (by rw [show k + (i + 1) = k + 1 + i by omega]; exact hp)
        rw [show k + (i + 1) + 1 = k + 1 + i + 1 by omega] at this
        exact this) (fun ρ q => he ρ (by rw [List.length_cons, show k + (xs.length + 1) = k + 1 + xs.length by omega]; exact q))
    rcases h2 with ⟨ρ2, h2 | h2, h3⟩ | ⟨ρ2, h2, h3⟩ | ⟨s, h2, h3⟩
    · simp only [h2]; exact rec' ρ2 h3
    · simp only [h2]; exact rec' ρ2 h3
    · simp only [h2]; exact h3
    · simp only [h2]; exact h3
theorem while_st {α : Type} (emb : α → Slots) {c : Slots → Option Bool} {b : MS} (I : α → Prop) (μ : α → Nat) (Q : Out → Prop)
    (step : ∀ s, I s → (c (emb s) = some false ∧ Q (.nx (emb s))) ∨ (c (emb s) = some true ∧ ((∃ s', b (emb s) = .nx (emb s') ∧ I s' ∧ μ s' < μ s) ∨ ∃ v, b (emb s) = .ret v ∧ Q (.ret v)))) : ∀ s, I s → Q (mWhile c b (emb s)) := by
  have key : ∀ (n : Nat) (s : α), μ s < n → I s → ∃ o, whGo c b n (emb s) = some o ∧ Q o := by
    intro n
    induction n with
    | zero => intro s h; exact absurd h (Nat.not_lt_zero _)
    | succ n ih =>
      intro s hl hI
      rcases step s hI with ⟨h1, h2⟩ | ⟨h1, ⟨s', h2, h3, h4⟩ | ⟨v, h2, h3⟩⟩
      · exact ⟨_, by unfold whGo; rw [h1], h2⟩
      · obtain ⟨o, e, q⟩ := ih s' (by omega) h3
        exact ⟨o, by unfold whGo; rw [h1]; simp only [h2]; exact e, q⟩
      · exact ⟨_, by unfold whGo; rw [h1]; simp only [h2], h3⟩
  intro s hI
  obtain ⟨o, e, q⟩ := key (μ s + 1) s (Nat.lt_succ_self _) hI
  rw [while_eq e]
  exact q
theorem for_st {α : Type} (emb : α → Slots) {mg : D → Slots → Option Slots} {b : MS} (P : Nat → α → Prop) (Q : Out → Prop) {xs : List D} {s : α} (h0 : P 0 s)
    (hs : ∀ i x s, xs[i]? = some x → P i s → ∃ ρ1, mg x (emb s) = some ρ1 ∧ ((∃ s', (b ρ1 = .nx (emb s') ∨ b ρ1 = .cnt (emb s')) ∧ P (i + 1) s') ∨ (∃ ρ2, b ρ1 = .brk ρ2 ∧ Q (.nx ρ2)) ∨ ∃ v, b ρ1 = .ret v ∧ Q (.ret v)))
    (he : ∀ s, P xs.length s → Q (.nx (emb s))) : Q (forGo mg b xs (emb s)) := by
  refine for_rule (fun k ρ => ∃ s, ρ = emb s ∧ P k s) Q xs 0 (emb s) ⟨s, rfl, h0⟩ (fun i x ρ hx hp => ?_) (fun ρ hp => ?_)
  · obtain ⟨s, rfl, hp⟩ := hp
    rw [Nat.zero_add] at hp
    obtain ⟨ρ1, h1, h2⟩ := hs i x s hx hp
    refine ⟨ρ1, h1, ?_⟩
    rcases h2 with ⟨s', h2, h3⟩ | h2 | h2
    · exact .inl ⟨_, h2, s', rfl, by rw [Nat.zero_add]; exact h3⟩
    · exact .inr (.inl h2)
    · exact .inr (.inr h2)
  · obtain ⟨s, rfl, hp⟩ := hp
    rw [Nat.zero_add] at hp
    exact he s hp
/-! evaluation -/
def dA (s : Option (Option Sl)) : Option (List (NestedKey × D)) := match s with | some (some (.own (.dct kvs))) => some kvs | _ => none
def oDIn (neg : Bool) (o : Option (Option D)) : Option D := match o with | some o => some (.bl (if neg then !o.isSome else o.isSome)) | none => none
def oDIx (o : Option (Option D)) : Option D := match o with | some (some d) => some d | _ => none
def oDGet (o : Option (Option D)) : Option D := match o with | some o => some (o.getD .non) | none => none
def oDLen (o : Option (List (NestedKey × D))) : Option D := match o with | some kvs => some (.int (kvs.length : Int)) | none => none
def dput (kvs : List (NestedKey × D)) (kd d : D) : Option (List (NestedKey × D)) := match nk kd with | some k => if kindOk kvs k = true ∧ kvs.length < sizeLine then some (putN kvs k d) else none | none => none
def setDO (j : Nat) (o : Option (List (NestedKey × D))) (ρ : Slots) : Out := match o with | some kvs => .nx (ρ.set j (some (.own (.dct kvs)))) | none => .stuck
def oDPut (j : Nat) (v kd : Option D) (o : Option (List (NestedKey × D))) (ρ : Slots) : Out := match v with
  | some d => (match kd with
    | some kd => (match o with
      | some kvs => setDO j (dput kvs kd d) ρ
      | none => .stuck)
    | none => .stuck)
  | none => .stuck
def dnew1 (kd d : D) : Option (List (NestedKey × D)) := match nk kd with | some k => if k.depth ≤ 8 then some [(k, d)] else none | none => none
def oDNew1 (j : Nat) (kd v : Option D) (ρ : Slots) : Out := match kd with
  | some kd => (match v with
    | some d => setDO j (dnew1 kd d) ρ
    | none => .stuck)
  | none => .stuck
def setLO (j : Nat) (o : Option (List D)) (ρ : Slots) : Out := match o with | some xs => .nx (ρ.set j (some (.own (.lst xs)))) | none => .stuck
def putL (xs : List D) (k : D) (d : D) : Option (List D) := match k with | .int k => (match ixN xs.length k with | some i => some (xs.set i d) | none => none) | _ => none
def oPutL (j : Nat) (v : Option D) (s : Option (Option Sl)) (mi : ME) (ρ : Slots) : Out := match v with
  | some d => (match s with
    | some (some (.own (.lst xs))) => (match mi ρ with
      | some k => setLO j (putL xs k d) ρ
      | none => .stuck)
    | _ => .stuck)
  | none => .stuck
def oAsg (d : Option D) (mg : MG) (ρ : Slots) : Out := match d with | some d => (match mg d ρ with | some ρ' => .nx ρ' | none => .stuck) | none => .stuck
def oEnum (d : Option D) : Option (List D) := match d with
  | some d => (match enumOf d with | some xs => some (xs.zipIdx.map fun p => .tup [.int (p.2 : Int), p.1]) | none => none)
  | none => none
def oZip (d : Option (List D)) : Option (List D) := match d with
  | some [.lst xs, .lst ys] => some ((xs.zip ys).map fun p => .tup [p.1, p.2])
  | _ => none
def oRev1 (d : Option D) : Option (List D) := match d with
  | some (.int j) => if -4000000000000000000 ≤ j ∧ j < 4000000000000000000 then some (revD 0 j.toNat) else none
  | _ => none
def fldD (c : String) (f : Str) (d : D) : Option D := match d with | .ins c' ns ds => if c' = c then (ns.zip ds).lookup f else none | _ => none
def methD (c : String) (m : Str) (g : List D → Option Sl) (d : D) (as : List D) : Option D := match d with | .ins c' ns ds => if c' = c ∧ m ∉ ns then gS g (.ins c' ns ds :: as) else none | _ => none
def oMeth (c : String) (m : Str) (g : List D → Option Sl) (o : Option D) (as : Option (List D)) : Option D := match o with | some d => (match as with | some as => methD c m g d as | none => none) | none => none
def propD (c : String) (g : List D → Option Sl) (d : D) : Option D := match d with | .ins c' ns ds => if c' = c then gS g [.ins c' ns ds] else none | _ => none
noncomputable def oMake (c : String) (gi : Addr → List D → Option (List Str × List D)) (as : Option (List D)) : Option D := match as with | some ds => @giD c gi ds | none => none
def oCat (n m : Nat) (a b : Option (List D)) : Option (List D) := match a with
  | some as => (match b with | some bs => if as.length = n ∧ bs.length = m then some (as ++ bs) else none | none => none)
  | none => none
def frzO (i : Nat) (s : Option (Option Sl)) (ρ : Slots) : Slots := match s with | some (some (.own (.lst xs))) => ρ.set i (some (.d (.lst xs))) | _ => ρ
def oDo (d : Option D) (ρ : Slots) : Out := match d with | some _ => .nx ρ | none => .stuck
section
variable {ρ : Slots} {i j : Nat} {m mk mv mi : ME} {ma mf : Slots → Option (List D)} {neg : Bool} {g : List D → Option Sl} {mg : MG} {gs : List MG} {c : String} {f : Str} {d e : D} {ds : List D} {kvs : List (NestedKey × D)} {o : Option D}
theorem r_din : mDIn neg mk j ρ = oDIn neg (kAt (mk ρ) (dA ρ[j]?)) := id rfl
theorem r_dix : mDIx j mk ρ = oDIx (kAt (mk ρ) (dA ρ[j]?)) := id rfl
theorem r_dget : mDGet j mk ρ = oDGet (kAt (mk ρ) (dA ρ[j]?)) := id rfl
theorem r_dlen : mDLen j ρ = oDLen (dA ρ[j]?) := id rfl
theorem r_dput : mDPut j mk mv ρ = oDPut j (mv ρ) (mk ρ) (dA ρ[j]?) ρ := by
  unfold mDPut oDPut dput setDO
  rw [show dAt j ρ = dA ρ[j]? from rfl]
  cases mv ρ with
  | none => rfl
  | some d =>
    cases mk ρ with
    | none => rfl
    | some kd =>
      cases dA ρ[j]? with
      | none => rfl
      | some kvs =>
        cases hk : nk kd with
        | none => simp only [hk]
        | some k => simp only [hk]; split <;> rfl
theorem r_dnew : mDNew j ρ = .nx (ρ.set j (some (.own (.dct [])))) := id rfl
theorem r_dnew1 : mDNew1 j mk mv ρ = oDNew1 j (mk ρ) (mv ρ) ρ := by
  unfold mDNew1 oDNew1 dnew1 setDO
  cases mk ρ with
  | none => rfl
  | some kd =>
    cases mv ρ with
    | none => rfl
    | some d =>
      cases hk : nk kd with
      | none => simp only [hk]
      | some k => simp only [hk]; split <;> rfl
theorem r_putL : mPutL j mi mv ρ = oPutL j (mv ρ) ρ[j]? mi ρ := by
  unfold mPutL oPutL putL setLO
  cases mv ρ with
  | none => rfl
  | some d =>
    cases hs : ρ[j]? with
    | none => rfl
    | some s =>
      cases s with
      | none => rfl
      | some s =>
        cases s with
        | d _ => rfl
        | xc _ => rfl
        | own o =>
          cases o with
          | dct _ => rfl
          | ins _ _ _ _ => rfl
          | lst xs =>
            cases hm : mi ρ with
            | none => rfl
            | some k =>
              cases k <;> simp only
              cases ixN _ _ <;> rfl
theorem r_asg : mAsg m mg ρ = oAsg (m ρ) mg ρ := id rfl
theorem r_enum : mEnum m ρ = oEnum (m ρ) := id rfl
theorem r_zip : mZip ma ρ = oZip (ma ρ) := id rfl
theorem r_rev1 : mRev1 m ρ = oRev1 (m ρ) := id rfl
theorem r_fld : mFld c f m ρ = o1 (fldD c f) (m ρ) := by unfold mFld o1 fldD; cases m ρ with | none => rfl | some d => cases d <;> rfl
theorem r_meth : mMeth c f g m ma ρ = oMeth c f g (m ρ) (ma ρ) := by
  unfold mMeth oMeth methD
  cases m ρ with
  | none => rfl
  | some d =>
    cases d <;> cases ma ρ <;> first | rfl | (simp only; split <;> rfl)
theorem r_prop : mProp c g m ρ = o1 (propD c g) (m ρ) := by unfold mProp o1 propD; cases m ρ with | none => rfl | some d => cases d <;> rfl
theorem r_make {gi : Addr → List D → Option (List Str × List D)} : mMake c gi ma ρ = oMake c gi (ma ρ) := id rfl
theorem r_cat {n k : Nat} : mCat n k ma mf ρ = oCat n k (ma ρ) (mf ρ) := id rfl
theorem r_do : mDo m ρ = oDo (m ρ) ρ := id rfl
theorem r_frz : frz i ρ = frzO i ρ[i]? ρ := id rfl
theorem v_frzL : frzO i (some (some (.own (.lst ds)))) ρ = ρ.set i (some (.d (.lst ds))) := id rfl
theorem v_frzD : frzO i (some (some (.d d))) ρ = ρ := id rfl
theorem v_frzN : frzO i (some none) ρ = ρ := id rfl
theorem r_stuck : mStuck ρ = .stuck := id rfl
theorem r_gTup : gTup gs (.tup ds) ρ = gT gs ds ρ := id rfl
theorem r_gT0 : gT [] [] ρ = some ρ := id rfl
theorem r_gTN : gT (gN i :: gs) (d :: ds) ρ = gT gs ds (ρ.set i (some (.d d))) := id rfl
theorem r_gTT {hs : List MG} {es : List D} : gT (gTup hs :: gs) (.tup es :: ds) ρ = (match gT hs es ρ with | some ρ1 => gT gs ds ρ1 | none => none) := id rfl
theorem v_dA : dA (some (some (.own (.dct kvs)))) = some kvs := id rfl
theorem v_din : oDIn true (some o) = some (.bl (!o.isSome)) := id rfl
theorem v_dinT : oDIn false (some o) = some (.bl o.isSome) := id rfl
theorem v_dix : oDIx (some (some d)) = some d := id rfl
theorem v_dgetS : oDGet (some (some d)) = some d := id rfl
theorem v_dgetN : oDGet (some none) = some .non := id rfl
theorem v_dlen : oDLen (some kvs) = some (.int (kvs.length : Int)) := id rfl
theorem v_dput : oDPut j (some d) (some e) (some kvs) ρ = setDO j (dput kvs e d) ρ := id rfl
theorem v_dnew1 : oDNew1 j (some d) (some e) ρ = setDO j (dnew1 d e) ρ := id rfl
theorem v_setDO : setDO j (some kvs) ρ = .nx (ρ.set j (some (.own (.dct kvs)))) := id rfl
theorem v_setLO : setLO j (some ds) ρ = .nx (ρ.set j (some (.own (.lst ds)))) := id rfl
theorem v_putL {k : D} (h : mi ρ = some k) : oPutL j (some d) (some (some (.own (.lst ds)))) mi ρ = setLO j (putL ds k d) ρ := by unfold oPutL; simp only [h]
theorem v_asg : oAsg (some d) mg ρ = (match mg d ρ with | some ρ' => .nx ρ' | none => .stuck) := id rfl
theorem v_enumL : oEnum (some (.lst ds)) = some (ds.zipIdx.map fun p => .tup [.int (p.2 : Int), p.1]) := id rfl
theorem v_enumT : oEnum (some (.tup ds)) = some (ds.zipIdx.map fun p => .tup [.int (p.2 : Int), p.1]) := id rfl
theorem v_enumS {cs : List Nat} : oEnum (some (.str cs)) = some ((cs.map fun c => D.str [c]).zipIdx.map fun p => .tup [.int (p.2 : Int), p.1]) := id rfl
theorem v_zip {es : List D} : oZip (some [.lst ds, .lst es]) = some ((ds.zip es).map fun p => .tup [p.1, p.2]) := id rfl
theorem v_rev1 {n : Nat} (h : n ≤ 100000000) : oRev1 (some (.int (n : Int))) = some (revD 0 n) := by
  unfold oRev1
  simp only
  rw [if_pos (by omega)]
  simp
theorem v_meth {as : List D} : oMeth c f g (some d) (some as) = methD c f g d as := id rfl
theorem v_make {gi : Addr → List D → Option (List Str × List D)} : oMake c gi (some ds) = giD c gi ds := id rfl
theorem v_cat {n k : Nat} {as bs : List D} : oCat n k (some as) (some bs) = if as.length = n ∧ bs.length = k then some (as ++ bs) else none := id rfl
theorem v_do : oDo (some d) ρ = .nx ρ := id rfl
theorem v_mk (h : m ρ = some d) : m ρ = some d := h
def oDoX (r : Option RO) (ρ : Slots) : Out := match r with | some (.val _) => .nx ρ | some (.exc x) => .exc x ρ | none => .stuck
def oSetX (i : Nat) (r : Option RO) (ρ : Slots) : Out := match r with | some (.val s) => (match slD s with | some d => .nx (ρ.set i (some (.d d))) | none => .stuck) | some (.exc x) => .exc x ρ | none => .stuck
def oRetX (r : Option RO) (ρ : Slots) : Out := match r with | some (.val s) => .ret s | some (.exc x) => .exc x ρ | none => .stuck
def oCallX (g : List D → Option RO) (a : Option (List D)) : Option RO := match a with | some ds => g ds | none => none
def oRaise (c : String) (ns : List Str) (a : Option (List D)) (ρ : Slots) : Out := match a with
  | some ds => if ds.length = ns.length ∧ ds.length ≤ 1000 then .exc ⟨c, ns, ds⟩ ρ else .stuck
  | none => .stuck
def binX (c : String) (g : List D → Option RO) (a b : D) : Option RO := match a with
  | .ins c1 n1 d1 => (match b with
    | .ins c2 n2 d2 => if c1 = c ∧ c2 = c then insR (g [.ins c1 n1 d1, .ins c2 n2 d2]) else none
    | _ => none)
  | _ => none
def oBinX (c : String) (g : List D → Option RO) (a b : Option D) : Option RO := match a with | some a => (match b with | some b => binX c g a b | none => none) | none => none
def tryO (tbl : String → Option Bool) (i : Nat) (mh : MS) (o : Out) : Out := match o with
  | .exc x ρ' => (match tbl x.c with
    | some true => (match mh (ρ'.set i (some (.xc x))) with
      | .nx ρ2 => .nx ((ρ2.map dropX).set i none)
      | .brk ρ2 => .brk ((ρ2.map dropX).set i none)
      | .cnt ρ2 => .cnt ((ρ2.map dropX).set i none)
      | .ret s => .ret s
      | .exc _ _ => .stuck
      | .stuck => .stuck)
    | some false => .exc x ρ'
    | none => .stuck)
  | o => o
def catO (i : Nat) (o : Out) : Out := match o with
      | .nx ρ2 => .nx ((ρ2.map dropX).set i none)
      | .brk ρ2 => .brk ((ρ2.map dropX).set i none)
      | .cnt ρ2 => .cnt ((ρ2.map dropX).set i none)
      | .ret s => .ret s
      | .exc _ _ => .stuck
      | .stuck => .stuck
def xfO (c : String) (f : Str) (s : Option (Option Sl)) : Option D := match s with
  | some (some (.xc x)) => if x.c = c then (x.ns.zip x.ds).lookup f else none
  | _ => none
def xisO (tbl : String → Option Bool) (s : Option (Option Sl)) : Option D := match s with
  | some (some (.xc x)) => (match tbl x.c with | some b => some (.bl b) | none => none)
  | _ => none
section
variable {mx : Slots → Option RO} {gg : List D → Option RO} {ns : List Str} {mb mh : MS} {tbl : String → Option Bool} {ma' mb' : ME} {x : XD} {s : Sl} {a b : D}
theorem r_doX : mDoX mx ρ = oDoX (mx ρ) ρ := id rfl
theorem r_setX : mSetX i mx ρ = oSetX i (mx ρ) ρ := id rfl
theorem r_retX : mRetX mx ρ = oRetX (mx ρ) ρ := id rfl
theorem r_callX : mCallX gg ma ρ = oCallX gg (ma ρ) := id rfl
theorem r_raise : mRaise c ns ma ρ = oRaise c ns (ma ρ) ρ := id rfl
theorem r_binX : mBinX c gg ma' mb' ρ = oBinX c gg (ma' ρ) (mb' ρ) := by
  unfold mBinX oBinX binX
  cases ma' ρ with
  | none => rfl
  | some a =>
    cases mb' ρ with
    | none => cases a <;> rfl
    | some b => cases a <;> cases b <;> rfl
theorem r_try : mTry tbl i mb mh ρ = tryO tbl i mh (mb ρ) := id rfl
theorem r_xf : mXF c f i ρ = xfO c f ρ[i]? := id rfl
theorem r_xis : mXIs tbl i ρ = xisO tbl ρ[i]? := id rfl
theorem v_doXv : oDoX (some (.val s)) ρ = .nx ρ := id rfl
theorem v_doXe : oDoX (some (.exc x)) ρ = .exc x ρ := id rfl
theorem v_setXv : oSetX i (some (.val (.d d))) ρ = .nx (ρ.set i (some (.d d))) := id rfl
theorem v_setXe : oSetX i (some (.exc x)) ρ = .exc x ρ := id rfl
theorem v_retXv : oRetX (some (.val s)) ρ = .ret s := id rfl
theorem v_retXe : oRetX (some (.exc x)) ρ = .exc x ρ := id rfl
theorem v_callX : oCallX gg (some ds) = gg ds := id rfl
theorem v_raise : oRaise c ns (some ds) ρ = if ds.length = ns.length ∧ ds.length ≤ 1000 then .exc ⟨c, ns, ds⟩ ρ else .stuck := id rfl
theorem v_binX : oBinX c gg (some a) (some b) = binX c gg a b := id rfl
theorem v_tryN {ρ' : Slots} : tryO tbl i mh (.nx ρ') = .nx ρ' := id rfl
theorem v_tryR : tryO tbl i mh (.ret s) = .ret s := id rfl
theorem v_tryT {ρ' : Slots} (h : tbl x.c = some true) : tryO tbl i mh (.exc x ρ') = catO i (mh (ρ'.set i (some (.xc x)))) := by unfold tryO; simp only [h]; rfl
theorem v_catR : catO i (.ret s) = .ret s := id rfl
theorem v_catN {ρ' : Slots} : catO i (.nx ρ') = .nx ((ρ'.map dropX).set i none) := id rfl
theorem v_xf : xfO c f (some (some (.xc x))) = if x.c = c then (x.ns.zip x.ds).lookup f else none := id rfl
theorem v_xis : xisO tbl (some (some (.xc x))) = (match tbl x.c with | some b => some (.bl b) | none => none) := id rfl
theorem b_exc {bb : MS} {ρ' : Slots} : bindO (.exc x ρ') bb = .exc x ρ' := id rfl
end
end
theorem v_rngN {n : Nat} (h : n ≤ 100000000) : oRng1 (some [.int (n : Int)]) = some (rngD 0 n) := by
  unfold oRng1
  simp only
  rw [if_pos (by omega)]
  simp
theorem sl_b {n : Nat} (h : n ≤ 16777216) : n ≤ sizeLine := by rw [sizeLine_eq]; exact h
/-! dicts whose values are the numbers of their keys -/
def ixd (ks : List NestedKey) : List (NestedKey × D) := ks.zipIdx.map fun p => (p.1, .int (p.2 : Int))
theorem ixd_len (ks : List NestedKey) : (ixd ks).length = ks.length := by unfold ixd; rw [List.length_map, List.length_zipIdx]
theorem ixd_snoc (ks : List NestedKey) (k : NestedKey) : ixd (ks ++ [k]) = ixd ks ++ [(k, .int (ks.length : Int))] := by
  unfold ixd
  rw [List.zipIdx_append, List.map_append]
  simp
theorem lk_app {α : Type} (a b : List (NestedKey × α)) (k : NestedKey) : lk (a ++ b) k = (lk a k).or (lk b k) := by
  unfold lk
  rw [List.find?_append]
  cases a.find? fun p => decide (p.1 = k) <;> simp
theorem lk_none {α : Type} {a : List (NestedKey × α)} {k : NestedKey} (h : k ∉ a.map (·.1)) : lk a k = none := by
  unfold lk
  rw [List.find?_eq_none.mpr]
  · rfl
  · intro p hp z
    exact h (List.mem_map.mpr ⟨p, hp, of_decide_eq_true z⟩)
theorem ixd_keys (ks : List NestedKey) : (ixd ks).map (·.1) = ks := by
  unfold ixd
  rw [List.map_map]
  have : ((fun x => x.1) ∘ fun p : NestedKey × Nat => (p.1, D.int (p.2 : Int))) = Prod.fst := rfl
  rw [this]
  exact List.zipIdx_map_fst 0 ks
theorem ixd_out {ks : List NestedKey} {k : NestedKey} (h : k ∉ ks) : lk (ixd ks) k = none := lk_none (by rw [ixd_keys]; exact h)
theorem ixd_from (k : NestedKey) : ∀ (ks : List NestedKey) (n i : Nat), ks[i]? = some k → (∀ j, j < i → ks[j]? ≠ some k) → lk ((ks.zipIdx n).map fun p => (p.1, D.int (p.2 : Int))) k = some (.int ((n + i : Nat) : Int))
  | [], _, _, h, _ => by simp at h
  | a :: ks, n, 0, h, _ => by
    simp only [List.getElem?_cons_zero, Option.some.injEq] at h
    subst h
    rw [List.zipIdx_cons, List.map_cons, lk_cons, if_pos rfl, Nat.add_zero]
  | a :: ks, n, i + 1, h, hn => by
    have h0 : a ≠ k := fun z => hn 0 (Nat.succ_pos _) (by simp [z])
    rw [List.zipIdx_cons, List.map_cons, lk_cons, if_neg h0, ixd_from k ks (n + 1) i (by simpa using h) (fun j hj => by have := hn (j + 1) (by omega); simpa using this)]
    congr 2
    omega
theorem ixd_at {ks : List NestedKey} {k : NestedKey} {i : Nat} (hd : ks.Nodup) (h : ks[i]? = some k) : lk (ixd ks) k = some (.int (i : Int)) := by
  have := ixd_from k ks 0 i h (fun j hj e => by
    obtain ⟨hi, e1⟩ := List.getElem?_eq_some_iff.mp h
    obtain ⟨hj', e2⟩ := List.getElem?_eq_some_iff.mp e
    have := (List.nodup_iff_pairwise_ne.mp hd)
    rw [List.pairwise_iff_getElem] at this
    exact this j i hj' hi hj (by rw [e2, e1]))
  rw [Nat.zero_add] at this
  exact this
theorem ixd_put {ks : List NestedKey} {k : NestedKey} (h : k ∉ ks) : putN (ixd ks) k (.int (ks.length : Int)) = ixd (ks ++ [k]) := by
  unfold putN
  rw [ixd_out h]
  simp only [Option.isSome_none, Bool.false_eq_true, if_false]
  rw [ixd_snoc]
theorem ixd_kind {ks : List NestedKey} {k : NestedKey} (h : ∀ x ∈ ks, isT x = isT k) (hd : k.depth ≤ 8) : kindOk (ixd ks) k = true := by
  unfold kindOk
  rw [Bool.and_eq_true, List.all_eq_true]
  refine ⟨fun p hp => ?_, decide_eq_true hd⟩
  have : p.1 ∈ (ixd ks).map (·.1) := List.mem_map.mpr ⟨p, hp, rfl⟩
  rw [ixd_keys] at this
  exact beq_iff_eq.mpr (h _ this)
/-- a question -/
theorem kAt_eq {kd : D} {kvs : List (NestedKey × D)} {k : NestedKey} (h : nk kd = some k) (hk : kindOk kvs k = true) : kAt (some kd) (some kvs) = some (lk kvs k) := by
  unfold kAt
  simp only [h]
  rw [if_pos hk]
theorem dput_eq {kd d : D} {kvs : List (NestedKey × D)} {k : NestedKey} (h : nk kd = some k) (hk : kindOk kvs k = true) (hl : kvs.length < 16777216) : dput kvs kd d = some (putN kvs k d) := by
  unfold dput
  simp only [h]
  rw [if_pos ⟨hk, by rw [sizeLine_eq]; exact hl⟩]
theorem dnew1_eq {kd d : D} {k : NestedKey} (h : nk kd = some k) (hk : k.depth ≤ 8) : dnew1 kd d = some [(k, d)] := by
  unfold dnew1
  simp only [h]
  rw [if_pos hk]
end R
open PySem L2 R
local macro_rules | `(tactic| walk_at "ev") => `(tactic| simp only [r_doX, r_setX, r_retX, r_callX, r_raise, r_binX, r_try, r_xf, r_xis, v_doXv, v_doXe, v_setXv, v_setXe, v_retXv, v_retXe, v_callX, v_raise, v_binX, v_tryN, v_tryR, v_catR, v_catN, v_xf, v_xis, b_exc, r_frz, v_frzL, v_frzD, v_frzN, r_din, r_dix, r_dget, r_dlen, r_dput, r_dnew, r_dnew1, r_putL, r_asg, r_enum, r_zip, r_rev1, r_fld, r_meth, r_prop, r_make, r_cat, r_do, r_gTup, r_gT0, r_gTN, r_gTT, v_dA, v_din, v_dinT, v_dix, v_dgetS, v_dgetN, v_dlen, v_dput, v_dnew1, v_setDO, v_setLO, v_asg, v_enumL, v_enumT, v_enumS, v_zip, v_meth, v_make, v_cat, v_do, Option.isSome_some, Option.isSome_none, true_and, and_true, and_self, r_g1, r_g2, r_g3, r_g4, r_seq, r_if, r_set, r_setF, r_ret, r_retF, r_retO, r_app, r_for, r_par, r_next, r_fz, r_var, r_bor, r_c, r_2, r_1, r_cb, r_cf, r_nil, r_cons, r_t, r_and, r_or, r_not, r_andV, r_orV, r_notV, r_neg, r_ife, r_chain, r_tup, r_lst, r_f, r_no, r_part, r_sl, r_call, r_callF, r_mt, r_items, r_rng1, r_rng2, r_lc, r_yes, r_gN,
  b_nx, b_ret, b_brk, b_cnt, i_t, i_f, v_set, v_setF, v_ret, v_retF, v_retS, v_retSo, v_app, v_for, v_par, v_var, v_bor, v_borO, v_2, v_1, v_L, v_LF, v_cons, v_t, v_andT, v_andF, v_orT, v_orF, v_not, v_andVT, v_andVF, v_orVT, v_orVF, v_notV, v_neg, v_ifT, v_ifF, v_chT, v_chF, v_tup, v_lst, v_f, v_part, v_sl, v_mt, v_items, it_str, it_lst, it_lsk, it_tup, v_rng1, v_lc, f_ret, f_nx, sd_d, sd_o, sl_simp, sl_lt, at0, at1, at2, at3, at4, atl3, atl4, fEq_str, fNe_str, fEq_int, fNe_int, fEq_bl, fNe_non_str, dS, fCmp_int, fAdd_int, fSub_int, fInt_int, fLen_lst, fLen_lsk, fLen_tup, fIx_tup, fIx_lst, fIx_lsk,
  R.envOf, List.map_cons, List.map_nil, List.length_cons, List.length_nil, List.replicate, List.cons_append, List.nil_append, List.append_nil, List.getElem?_cons_zero, List.getElem?_cons_succ, List.set_cons_zero, List.set_cons_succ, Nat.reduceAdd, Nat.reduceSub, Nat.zero_add, if_true, if_false, reduceIte, reduceCtorEq, Nat.sub_self, Nat.reduceLeDiff, Nat.reduceLT, String.reduceEq, decide_true, decide_false, Bool.not_true, Bool.not_false, Int.reduceEq, Int.reduceLE, Int.reduceLT, Int.reduceNeg, Int.reduceAdd, Int.reduceSub, Int.cast_ofNat_Int, Int.natCast_add])
local macro_rules | `(tactic| walk_at "evh") => `(tactic| simp only [r_doX, r_setX, r_retX, r_callX, r_raise, r_binX, r_try, r_xf, r_xis, v_doXv, v_doXe, v_setXv, v_setXe, v_retXv, v_retXe, v_callX, v_raise, v_binX, v_tryN, v_tryR, v_catR, v_catN, v_xf, v_xis, b_exc, r_frz, v_frzL, v_frzD, v_frzN, r_din, r_dix, r_dget, r_dlen, r_dput, r_dnew, r_dnew1, r_putL, r_asg, r_enum, r_zip, r_rev1, r_fld, r_meth, r_prop, r_make, r_cat, r_do, r_gTup, r_gT0, r_gTN, r_gTT, v_dA, v_din, v_dinT, v_dix, v_dgetS, v_dgetN, v_dlen, v_dput, v_dnew1, v_setDO, v_setLO, v_asg, v_enumL, v_enumT, v_enumS, v_zip, v_meth, v_make, v_cat, v_do, Option.isSome_some, Option.isSome_none, true_and, and_true, and_self, r_g1, r_g2, r_g3, r_g4, r_seq, r_if, r_set, r_setF, r_ret, r_retF, r_retO, r_app, r_for, r_par, r_next, r_fz, r_var, r_bor, r_c, r_2, r_1, r_cb, r_cf, r_nil, r_cons, r_t, r_and, r_or, r_not, r_andV, r_orV, r_notV, r_neg, r_ife, r_chain, r_tup, r_lst, r_f, r_no, r_part, r_sl, r_call, r_callF, r_mt, r_items, r_rng1, r_rng2, r_lc, r_yes, r_gN,
  b_nx, b_ret, b_brk, b_cnt, i_t, i_f, v_set, v_setF, v_ret, v_retF, v_retS, v_retSo, v_app, v_for, v_par, v_var, v_bor, v_borO, v_2, v_1, v_L, v_LF, v_cons, v_t, v_andT, v_andF, v_orT, v_orF, v_not, v_andVT, v_andVF, v_orVT, v_orVF, v_notV, v_neg, v_ifT, v_ifF, v_chT, v_chF, v_tup, v_lst, v_f, v_part, v_sl, v_mt, v_items, it_str, it_lst, it_lsk, it_tup, v_rng1, v_lc, f_ret, f_nx, sd_d, sd_o, sl_simp, sl_lt, at0, at1, at2, at3, at4, atl3, atl4, fEq_str, fNe_str, fEq_int, fNe_int, fEq_bl, fNe_non_str, dS, fCmp_int, fAdd_int, fSub_int, fInt_int, fLen_lst, fLen_lsk, fLen_tup, fIx_tup, fIx_lst, fIx_lsk,
  R.envOf, List.map_cons, List.map_nil, List.length_cons, List.length_nil, List.replicate, List.cons_append, List.nil_append, List.append_nil, List.getElem?_cons_zero, List.getElem?_cons_succ, List.set_cons_zero, List.set_cons_succ, Nat.reduceAdd, Nat.reduceSub, Nat.zero_add, if_true, if_false, reduceIte, reduceCtorEq, Nat.sub_self, Nat.reduceLeDiff, Nat.reduceLT, String.reduceEq, decide_true, decide_false, Bool.not_true, Bool.not_false, Int.reduceEq, Int.reduceLE, Int.reduceLT, Int.reduceNeg, Int.reduceAdd, Int.reduceSub, Int.cast_ofNat_Int, Int.natCast_add, *])
namespace F
open PySem L2 R
theorem at_ex {α : Type} {l : List α} {i : Nat} (h : i < l.length) : ∃ v, l[i]? = some v := ⟨_, List.getElem?_eq_getElem h⟩
theorem ixn {n j : Nat} (h : j < n) : ixN n (j : Int) = some j := by
  unfold ixN
  rw [if_pos (by omega), if_pos (by omega)]
  simp
abbrev Fs := Bool × List (Option Nat)
abbrev Fm := List Fs
def oD : Option Nat → D
  | none => .non
  | some n => .int (n : Int)
def sD (s : Fs) : D := .tup [.bl s.1, .tup (s.2.map oD)]
def fD (f : Fm) : D := .tup (f.map sD)
structure Ok (w : Nat) (f : Fm) : Prop where
  row : ∀ (i : Nat) (b : Bool) (r : List (Option Nat)), f[i]? = some (b, r) → r.length = w
  tgt : ∀ (i : Nat) (b : Bool) (r : List (Option Nat)) (j : Nat), f[i]? = some (b, r) → some j ∈ r → j < f.length
  bnd : f.length ≤ 16000000
  wid : w ≤ 1000
theorem Ok.len {w : Nat} {f : Fm} (h : Ok w f) : f.length ≤ 16777216 := by have := h.bnd; omega
def step (f : Fm) (s : Option Nat) (k : Nat) : Option Nat := match s with
  | none => none
  | some i => match f[i]? with | some (_, r) => (r[k]?).getD none | none => none
def start (f : Fm) : Option Nat := if f.length = 0 then none else some 0
def stops (f : Fm) (s : Option Nat) : Bool := match s with
  | none => false
  | some i => match f[i]? with | some (b, _) => b | none => false
theorem sD_at {f : Fm} {i : Nat} {b : Bool} {r : List (Option Nat)} (h : f[i]? = some (b, r)) : fIx (fD f) (.int (i : Int)) = some (sD (b, r)) := atI_nat (by rw [List.getElem?_map, h]; rfl)
theorem oD_at {r : List (Option Nat)} {k : Nat} {o : Option Nat} (h : r[k]? = some o) : atI (r.map oD) (k : Int) = some (oD o) := atI_nat (by rw [List.getElem?_map, h]; rfl)
theorem sD_0 (s : Fs) : fIx (sD s) (.int 0) = some (.bl s.1) := atI_nat (j := 0) rfl
theorem sD_1 (s : Fs) : fIx (sD s) (.int 1) = some (.tup (s.2.map oD)) := atI_nat (j := 1) rfl
theorem oD_s (i : Nat) : oD (some i) = .int (i : Int) := rfl
theorem oD_n : oD none = .non := rfl
theorem is_non (o : Option Nat) : fIs (oD o) .non = some (.bl o.isNone) := by cases o <;> rfl
theorem isn_non (o : Option Nat) : fIsNot (oD o) .non = some (.bl o.isSome) := by cases o <;> rfl
theorem is_n : fIs D.non .non = some (.bl true) := rfl
theorem is_i {n : Int} : fIs (D.int n) .non = some (.bl false) := rfl
theorem isn_n : fIsNot D.non .non = some (.bl false) := rfl
theorem isn_i {n : Int} : fIsNot (D.int n) .non = some (.bl true) := rfl
theorem form_step_eq {w : Nat} {f : Fm} (ok : Ok w f) (s : Option Nat) (hs : ∀ i, s = some i → i < f.length) (k : Nat) (hk : k < w) : g_form_step [fD f, oD s, .int (k : Int)] = some (.d (oD (step f s k))) := by
  unfold g_form_step m_form_step
  cases s with
  | none =>
    have h := is_n
    unfold oD step
    walk_at "evh"
  | some i =>
    have h := is_i (n := (i : Int))
    have e : f[i]? = some (f[i]'(hs i rfl)) := List.getElem?_eq_getElem _
    generalize f[i]'(hs i rfl) = x at e
    obtain ⟨b, r⟩ := x
    have hr := ok.row i b r e
    have e2 : r[k]? = some (r[k]'(by omega)) := List.getElem?_eq_getElem _
    generalize r[k]'(by omega) = y at e2
    have h1 := sD_at e
    have h2 := sD_1 (b, r)
    have h3 := oD_at e2
    have h4 : step f (some i) k = y := by unfold step; simp only [e, e2, Option.getD_some]
    rw [h4]
    clear h4 hr hs hk ok
    have h5 := oD_s i
    simp only at h2
    walk_at "evh"
theorem form_start_eq (f : Fm) : g_form_start [fD f] = some (.d (oD (start f))) := by
  unfold g_form_start m_form_start start fD
  by_cases h : f.length = 0
  · have h2 : decide (((f.map sD).length : Int) = 0) = true := decide_eq_true (by simpa using h)
    rw [if_pos h]
    walk_at "evh"
    rfl
  · have h2 : decide (((f.map sD).length : Int) = 0) = false := decide_eq_false (by simpa using h)
    rw [if_neg h]
    walk_at "evh"
    rfl
theorem form_stops_eq {f : Fm} (s : Option Nat) (hs : ∀ i, s = some i → i < f.length) : g_form_stops [fD f, oD s] = some (.d (.bl (stops f s))) := by
  unfold g_form_stops m_form_stops
  cases s with
  | none =>
    have h := isn_n
    unfold oD stops
    walk_at "evh"
  | some i =>
    have h := isn_i (n := (i : Int))
    have e : f[i]? = some (f[i]'(hs i rfl)) := List.getElem?_eq_getElem _
    generalize f[i]'(hs i rfl) = x at e
    obtain ⟨b, r⟩ := x
    have h1 := sD_at e
    have h2 := sD_0 (b, r)
    have h4 : stops f (some i) = b := by unfold stops; simp only [e]
    rw [h4]
    clear h4 hs
    unfold oD
    simp only at h2
    walk_at "evh"
/-! frozen -/
theorem isi_non : fIsi [.non, .tup [.ty "list", .ty "tuple"]] = some (.bl false) := by
  show (match kitAll "NoneType" ["list", "tuple"] with | some b => some (D.bl b) | none => none) = _
  have : kitAll "NoneType" ["list", "tuple"] = some false := by decide +kernel
  rw [this]
theorem isi_int (i : Int) : fIsi [.int i, .tup [.ty "list", .ty "tuple"]] = some (.bl false) := by
  show (match kitAll "int" ["list", "tuple"] with | some b => some (D.bl b) | none => none) = _
  have : kitAll "int" ["list", "tuple"] = some false := by decide +kernel
  rw [this]
theorem isi_bl (i : Bool) : fIsi [.bl i, .tup [.ty "list", .ty "tuple"]] = some (.bl false) := by
  show (match kitAll "bool" ["list", "tuple"] with | some b => some (D.bl b) | none => none) = _
  have : kitAll "bool" ["list", "tuple"] = some false := by decide +kernel
  rw [this]
theorem isi_str (i : List Nat) : fIsi [.str i, .tup [.ty "list", .ty "tuple"]] = some (.bl false) := by
  show (match kitAll "str" ["list", "tuple"] with | some b => some (D.bl b) | none => none) = _
  have : kitAll "str" ["list", "tuple"] = some false := by decide +kernel
  rw [this]
theorem isi_tup (i : List D) : fIsi [.tup i, .tup [.ty "list", .ty "tuple"]] = some (.bl true) := by
  show (match kitAll "tuple" ["list", "tuple"] with | some b => some (D.bl b) | none => none) = _
  have : kitAll "tuple" ["list", "tuple"] = some true := by decide +kernel
  rw [this]
theorem isi_lst (i : List D) : fIsi [.lst i, .tup [.ty "list", .ty "tuple"]] = some (.bl true) := by
  show (match kitAll "list" ["list", "tuple"] with | some b => some (D.bl b) | none => none) = _
  have : kitAll "list" ["list", "tuple"] = some true := by decide +kernel
  rw [this]
/-- data that is its own frozen form -/
theorem fz_atom {n : Nat} {d : D} (h : fIsi [d, .tup [.ty "list", .ty "tuple"]] = some (.bl false)) : g_frozen (n + 1) [d] = some (.d d) := by
  unfold g_frozen
  walk_at "evh"
theorem fz_seq {n : Nat} {xs ys : List D} (d : D) (hd : d = .lst xs ∨ d = .tup xs) (hl : xs.length ≤ 16777216) (h : ∀ (i : Nat) (x y : D), xs[i]? = some x → ys[i]? = some y → g_frozen n [x] = some (.d y)) (hy : xs.length = ys.length) : g_frozen (n + 1) [d] = some (.d (.tup ys)) := by
  have hz : xs.length ≤ sizeLine := sl_b hl
  have go : ∀ (ρ : Slots), ρ.length = 2 → ∀ (xs ys : List D), xs.length = ys.length → (∀ (i : Nat) (x y : D), xs[i]? = some x → ys[i]? = some y → g_frozen n [x] = some (.d y)) → lcGo 1 mYes (mCall (g_frozen n) (mCons (mVar 1) mNil)) ρ xs = some ys := by
    intro ρ hρ xs
    induction xs with
    | nil => intro ys hl h; cases ys with
      | nil => rfl
      | cons _ _ => cases hl
    | cons x xs ih =>
      intro ys hl h
      cases ys with
      | nil => cases hl
      | cons y ys =>
        obtain ⟨a, b, rfl⟩ : ∃ a b, ρ = [a, b] := by
          match ρ, hρ with
          | [a, b], _ => exact ⟨a, b, rfl⟩
        have h0 := v_call (h 0 x y rfl rfl)
        have h1 := ih ys (by simpa using hl) (fun i x y hx hy => h (i + 1) x y (by simpa using hx) (by simpa using hy))
        rw [sd_d] at h0
        unfold lcGo
        walk_at "evh"
  have hg : ∀ a b, lcGo 1 mYes (mCall (g_frozen n) (mCons (mVar 1) mNil)) [a, b] xs = some ys := fun a b => go [a, b] rfl xs ys hy h
  unfold g_frozen
  rcases hd with rfl | rfl
  · have h1 := isi_lst xs
    clear go h hy hl
    have h3 : fTuple [.lst ys] = some (.tup ys) := rfl
    walk_at "evh"
  · have h1 := isi_tup xs
    clear go h hy hl
    have h3 : fTuple [.lst ys] = some (.tup ys) := rfl
    walk_at "evh"
theorem fz_o (n : Nat) (o : Option Nat) : g_frozen (n + 1) [oD o] = some (.d (oD o)) := by
  cases o with
  | none => exact fz_atom isi_non
  | some k => exact fz_atom (isi_int _)
theorem fz_s (n : Nat) (s : Fs) (h : s.2.length ≤ 1000) : g_frozen (n + 3) [sD s] = some (.d (sD s)) := by
  refine fz_seq (sD s) (.inr rfl) (by simp) (fun i x y hx hy => ?_) rfl
  rw [hx] at hy
  cases hy
  match i, hx with
  | 0, hx => cases hx; exact fz_atom (isi_bl _)
  | 1, hx =>
    cases hx
    refine fz_seq _ (.inr rfl) (by rw [List.length_map]; omega) (fun i x y hx hy => ?_) rfl
    rw [hx] at hy
    cases hy
    rw [List.getElem?_map] at hx
    cases e : s.2[i]? with
    | none => rw [e] at hx; cases hx
    | some o => rw [e] at hx; cases hx; exact fz_o _ _
theorem fz_f {w : Nat} {f : Fm} (ok : Ok w f) (d : D) (hd : d = .lst (f.map sD) ∨ d = fD f) : g_frozen 4 [d] = some (.d (fD f)) := by
  refine fz_seq (xs := f.map sD) d hd (by rw [List.length_map]; exact ok.len) (fun i x y hx hy => ?_) rfl
  rw [hx] at hy
  cases hy
  rw [List.getElem?_map] at hx
  cases e : f[i]? with
  | none => rw [e] at hx; cases hx
  | some o =>
    rw [e] at hx
    cases hx
    exact fz_s 0 o (by have := ok.row i o.1 o.2 e; have := ok.wid; omega)
end F
namespace F
open PySem L2 R
/-! live_flags -/
inductive Live (f : Fm) : Nat → Prop
  | ends {i : Nat} {r : List (Option Nat)} : f[i]? = some (true, r) → Live f i
  | step {i j : Nat} {b : Bool} {r : List (Option Nat)} : f[i]? = some (b, r) → some j ∈ r → Live f j → Live f i
/-- some move of i leads to a flag -/
def fo (fl : List Bool) : Option Nat → Bool
  | none => false
  | some j => fl.getD j false
def hit (fl : List Bool) (r : List (Option Nat)) : Bool := r.any (fo fl)
def bD (fl : List Bool) : List D := fl.map D.bl
theorem bD_at {fl : List Bool} {i : Nat} {b : Bool} (h : fl[i]? = some b) : atI (bD fl) (i : Int) = some (.bl b) := atI_nat (by unfold bD; rw [List.getElem?_map, h]; rfl)
theorem bools_bD : ∀ fl : List Bool, bools (bD fl) = some fl
  | [] => rfl
  | b :: fl => by show (match bools (bD fl) with | some bs => some (b :: bs) | none => none) = _; rw [bools_bD fl]
theorem any_bD (fl : List Bool) : fAny [.lst (bD fl)] = some (.bl (fl.any id)) := by
  show (match bools (bD fl) with | some bs => some (D.bl (bs.any id)) | none => none) = _
  rw [bools_bD]
/-- the comprehension of live_flags -/
theorem lc_hit {fl : List Bool} {ρ : Slots} {a2 a3 a4 : Option Sl} {fd : D} : ∀ (r : List (Option Nat)), (∀ j, some j ∈ r → j < fl.length) →
    lcGo 5 mYes (mAndV (m2 fIsNot (mBor 5) (mC .non)) (m2 fIx (mBor 1) (mBor 5))) [some (.d fd), some (.own (.lst (bD fl))), a2, a3, a4, none] (r.map oD) = some (bD (r.map (fo fl)))
  | [], _ => rfl
  | o :: r, h => by
    have ih := lc_hit (fl := fl) (ρ := ρ) (a2 := a2) (a3 := a3) (a4 := a4) (fd := fd) r (fun j hj => h j (List.mem_cons_of_mem _ hj))
    rw [List.map_cons]
    unfold lcGo
    cases o with
    | none =>
      have h1 := isn_n
      have h2 := oD_n
      walk_at "evh"
      rfl
    | some j =>
      have hj := h j List.mem_cons_self
      have h1 := isn_i (n := (j : Int))
      have h2 := oD_s j
      obtain ⟨v, e⟩ := at_ex hj
      have h3 := bD_at e
      have h4 : fl.getD j false = v := by rw [List.getD_eq_getElem?_getD, e]; rfl
      clear h hj
      walk_at "evh"
      show some (D.bl v :: bD (r.map (fo fl))) = some (D.bl (fl.getD j false) :: bD (r.map (fo fl)))
      rw [h4]
abbrev LFbody : MS := (mIf (mAnd (mNot (mT (m2 fIx (mBor 1) (mBor 3)))) (mT (mCB fAny (mCons (mF (mLc (mItems (m2 fIx (m2 fIx (mBor 0) (mBor 3)) (mC (.int 1)))) 5 mYes (mAndV (m2 fIsNot (mBor 5) (mC .non)) (m2 fIx (mBor 1) (mBor 5))))) mNil))))
        (mSeq (mPutL 1 (mVar 3) (mC (.bl true)))
        (mSet 2 (mC (.bl true))))
        mNext)
theorem lf_turn {w : Nat} {f : Fm} (ok : Ok w f) {fl : List Bool} (hfl : fl.length = f.length) {i : Nat} {b : Bool} {r : List (Option Nat)} (e : f[i]? = some (b, r)) (ch : Bool) {a4 : Option Sl} {v : Bool} (hv : fl[i]? = some v) :
    LFbody [some (.d (fD f)), some (.own (.lst (bD fl))), some (.d (.bl ch)), some (.d (.int (i : Int))), a4, none] =
      if !v && hit fl r then .nx [some (.d (fD f)), some (.own (.lst (bD (fl.set i true)))), some (.d (.bl true)), some (.d (.int (i : Int))), a4, none]
      else .nx [some (.d (fD f)), some (.own (.lst (bD fl))), some (.d (.bl ch)), some (.d (.int (i : Int))), a4, none] := by
  have h1 := bD_at hv
  have h2 := sD_at e
  have h3 := sD_1 (b, r)
  simp only at h3
  have h4 : (r.map oD).length ≤ sizeLine := by rw [List.length_map]; have := ok.row i b r e; have := ok.wid; exact sl_ok _ (by omega)
  have h5 := lc_hit (fl := fl) (ρ := []) (a2 := some (.d (.bl ch))) (a3 := some (.d (.int (i : Int)))) (a4 := a4) (fd := fD f) r (fun j hj => by rw [hfl]; exact ok.tgt i b r j e hj)
  have h6 := any_bD (r.map (fo fl))
  have h7 : (r.map (fo fl)).any id = hit fl r := by unfold hit; rw [List.any_map]; rfl
  rw [h7] at h6
  have hi : i < f.length := (List.getElem?_eq_some_iff.mp e).1
  have h8 : putL (bD fl) (.int (i : Int)) (.bl true) = some (bD (fl.set i true)) := by
    unfold putL bD
    simp only
    rw [ixn (by rw [List.length_map]; omega)]
    simp only [List.map_set]
  have h9 : fIx (D.lst (bD fl)) (.int (i : Int)) = some (.bl v) := h1
  clear ok hfl h7 hi h1
  cases v with
  | true =>
    walk_at "evh"
    simp
  | false =>
    cases hh : hit fl r with
    | true =>
      rw [hh] at h6
      walk_at "evh"
      rw [v_putL (k := .int (i : Int)) (by rfl)]
      walk_at "evh"
      simp
    | false =>
      rw [hh] at h6
      walk_at "evh"
      simp
def cnt (fl : List Bool) : Nat := fl.countP (! ·)
theorem cnt_set : ∀ {fl : List Bool} {i : Nat}, fl[i]? = some false → cnt (fl.set i true) + 1 = cnt fl
  | [], _, h => by simp at h
  | b :: fl, 0, h => by
    simp only [List.getElem?_cons_zero, Option.some.injEq] at h
    subst h
    unfold cnt
    simp
  | b :: fl, i + 1, h => by
    have ih := cnt_set (fl := fl) (i := i) (by simpa using h)
    unfold cnt at ih ⊢
    rw [List.set_cons_succ, List.countP_cons, List.countP_cons]
    omega
/-- what flags say so far -/
structure Fl (f : Fm) (fl : List Bool) : Prop where
  len : fl.length = f.length
  live : ∀ i : Nat, fl[i]? = some true → Live f i
  ends : ∀ (i : Nat) (r : List (Option Nat)), f[i]? = some (true, r) → fl[i]? = some true
theorem Fl.set {f : Fm} {fl : List Bool} (h : Fl f fl) {i : Nat} {b : Bool} {r : List (Option Nat)} (e : f[i]? = some (b, r)) (hh : hit fl r = true) : Fl f (fl.set i true) where
  len := by rw [List.length_set]; exact h.len
  live := fun j hj => by
    rcases set_get hj with ⟨rfl, _, _⟩ | ⟨_, hj⟩
    · unfold hit at hh
      obtain ⟨o, ho, h2⟩ := List.any_eq_true.mp hh
      cases o with
      | none => cases h2
      | some k =>
        refine .step e ho (h.live k ?_)
        have h2 : fl.getD k false = true := h2
        rw [List.getD_eq_getElem?_getD] at h2
        cases hk : fl[k]? with
        | none => rw [hk] at h2; cases h2
        | some v => rw [hk] at h2; simp only [Option.getD_some] at h2; rw [h2]
    · exact h.live j hj
  ends := fun j r hj => by
    have := h.ends j r hj
    by_cases hij : i = j
    · subst hij
      exact set_at (List.getElem?_eq_some_iff.mp this).1
    · rw [set_off hij]; exact this
abbrev LFs := List Bool × Bool × Option Sl
def lfE (f : Fm) (s : LFs) : Slots := [some (.d (fD f)), some (.own (.lst (bD s.1))), some (.d (.bl s.2.1)), s.2.2, none, none]
theorem lf_for {w : Nat} {f : Fm} (ok : Ok w f) (fl0 : List Bool) (a0 : Option Sl) (h0 : Fl f fl0) : ∃ s : LFs, forGo (gN 3) LFbody (revD 0 f.length) (lfE f (fl0, false, a0)) = .nx (lfE f s) ∧ Fl f s.1 ∧
    (s.2.1 = true → cnt s.1 < cnt fl0) ∧ (s.2.1 = false → s.1 = fl0 ∧ ∀ (i : Nat) (b : Bool) (r : List (Option Nat)), f[i]? = some (b, r) → hit fl0 r = true → fl0[i]? = some true) := by
  refine for_st (lfE f) (fun k s => Fl f s.1 ∧ (s.2.1 = true → cnt s.1 < cnt fl0) ∧ (s.2.1 = false → s.1 = fl0 ∧ ∀ (i : Nat) (b : Bool) (r : List (Option Nat)), f[i]? = some (b, r) → f.length ≤ i + k → hit fl0 r = true → fl0[i]? = some true))
    (fun o => ∃ s, o = .nx (lfE f s) ∧ Fl f s.1 ∧ (s.2.1 = true → cnt s.1 < cnt fl0) ∧ (s.2.1 = false → s.1 = fl0 ∧ ∀ (i : Nat) (b : Bool) (r : List (Option Nat)), f[i]? = some (b, r) → hit fl0 r = true → fl0[i]? = some true)) ?_ ?_ ?_
  · refine ⟨h0, (fun z => nomatch z), fun _ => ⟨rfl, fun i b r e hl => ?_⟩⟩
    have := (List.getElem?_eq_some_iff.mp e).1
    omega
  · intro k x s hx hp
    obtain ⟨fl, ch, a3⟩ := s
    obtain ⟨p1, p2, p3⟩ := hp
    simp only at p1 p2 p3
    unfold revD at hx
    rw [List.getElem?_map] at hx
    cases hr : (List.range f.length)[k]? with
    | none => rw [hr] at hx; cases hx
    | some k' =>
      rw [hr] at hx
      cases hx
      have hk : k < f.length := by have := (List.getElem?_eq_some_iff.mp hr).1; rwa [List.length_range] at this
      have : k' = k := by rw [List.getElem?_range hk] at hr; cases hr; rfl
      subst this
      refine ⟨[some (.d (fD f)), some (.own (.lst (bD fl))), some (.d (.bl ch)), some (.d (.int ((f.length - 1 - k' : Nat) : Int))), none, none], ?_, ?_⟩
      · rw [show ((f.length - 1 - k' : Nat) : Int) = 0 + (f.length : Int) - 1 - (k' : Int) by omega]
        rfl
      · obtain ⟨⟨b, r⟩, e⟩ := at_ex (l := f) (i := f.length - 1 - k') (by omega)
        obtain ⟨v, hv⟩ := at_ex (l := fl) (i := f.length - 1 - k') (by rw [p1.len]; omega)
        rw [lf_turn ok p1.len e ch hv]
        refine .inl ?_
        cases hvh : (!v && hit fl r) with
        | true =>
          rw [if_pos rfl]
          rw [Bool.and_eq_true] at hvh
          have v0 : v = false := by simpa using hvh.1
          subst v0
          refine ⟨(fl.set (f.length - 1 - k') true, true, _), .inl rfl, p1.set e hvh.2, fun _ => ?_, fun z => nomatch z⟩
          have := cnt_set hv
          show cnt (fl.set (f.length - 1 - k') true) < cnt fl0
          cases ch with
          | true => have := p2 rfl; omega
          | false => have := (p3 rfl).1; subst this; omega
        | false =>
          rw [if_neg (by decide)]
          refine ⟨(fl, ch, _), .inl rfl, p1, p2, fun hc => ⟨(p3 hc).1, fun i b' r' e' hl hh => ?_⟩⟩
          by_cases hi : i = f.length - 1 - k'
          · subst hi
            rw [e] at e'
            cases e'
            have := (p3 hc).1
            subst this
            rw [hh, Bool.and_true] at hvh
            have : v = true := by simpa using hvh
            rw [this] at hv
            exact hv
          · exact (p3 hc).2 i b' r' e' (by omega) hh
  · intro s hp
    obtain ⟨p1, p2, p3⟩ := hp
    refine ⟨s, rfl, p1, p2, fun hc => ⟨(p3 hc).1, fun i b r e hh => (p3 hc).2 i b r e ?_ hh⟩⟩
    unfold revD
    rw [List.length_map, List.length_range]
    omega
theorem live_flags_eq {w : Nat} {f : Fm} (ok : Ok w f) : ∃ fl, g_live_flags [fD f] = some (.own (.lst (bD fl))) ∧ fl.length = f.length ∧ ∀ i : Nat, fl[i]? = some true ↔ Live f i := by
  have h0 : lcGo 4 mYes (m2 fIx (mBor 4) (mC (.int 0))) [some (.d (fD f)), none, none, none, none, none] (f.map sD) = some (bD (f.map (·.1))) := by
    rw [lc_map (fun d => match fIx d (.int 0) with | some d => d | none => .non)]
    · unfold bD
      rw [List.map_map, List.map_map]
      congr 1
    · intro x hx
      obtain ⟨s, _, rfl⟩ := List.mem_map.mp hx
      have := sD_0 s
      walk_at "evh"
  have h1 : (f.map sD).length ≤ sizeLine := by rw [List.length_map]; exact sl_b ok.len
  have hw : ∃ s : LFs, mWhile (mT (mVar 2)) (mSeq (mSet 2 (mC (.bl false))) (mFor (mRev1 (mCB fLen (mCons (mBor 0) mNil))) (gN 3) LFbody)) (lfE f (f.map (·.1), true, none)) = .nx (lfE f s) ∧ Fl f s.1 ∧ ∀ (i : Nat) (b : Bool) (r : List (Option Nat)), f[i]? = some (b, r) → hit s.1 r = true → s.1[i]? = some true := by
    refine while_st (lfE f) (fun s => Fl f s.1 ∧ (s.2.1 = false → ∀ (i : Nat) (b : Bool) (r : List (Option Nat)), f[i]? = some (b, r) → hit s.1 r = true → s.1[i]? = some true)) (fun s => 2 * cnt s.1 + (if s.2.1 = true then 1 else 0)) (fun o => ∃ s, o = .nx (lfE f s) ∧ Fl f s.1 ∧ ∀ (i : Nat) (b : Bool) (r : List (Option Nat)), f[i]? = some (b, r) → hit s.1 r = true → s.1[i]? = some true) ?_ _ ?_
    · intro s hs
      obtain ⟨fl, ch, a3⟩ := s
      obtain ⟨p1, p2⟩ := hs
      simp only at p1 p2
      cases ch with
      | false => exact .inl ⟨rfl, _, rfl, p1, p2 rfl⟩
      | true =>
        refine .inr ⟨rfl, .inl ?_⟩
        obtain ⟨s', q1, q2, q3, q4⟩ := lf_for ok fl a3 p1
        refine ⟨s', ?_, ⟨q2, fun hc => ?_⟩, ?_⟩
        · have e1 : fLen [fD f] = some (.int (f.length : Int)) := by show some (D.int ((f.map sD).length : Int)) = _; rw [List.length_map]
          have e2 := v_rev1 (n := f.length) (by have := ok.len; omega)
          unfold lfE at q1 ⊢
          walk_at "evh"
        · obtain ⟨r1, r2⟩ := q4 hc
          rw [r1]
          exact r2
        · show 2 * cnt s'.1 + (if s'.2.1 = true then 1 else 0) < 2 * cnt fl + (if true = true then 1 else 0)
          cases hc : s'.2.1 with
          | true => have := q3 hc; simp; omega
          | false => have := (q4 hc).1; rw [this]; simp
    · refine ⟨⟨by rw [List.length_map], fun i hi => ?_, fun i r e => ?_⟩, fun z => nomatch z⟩
      · rw [List.getElem?_map] at hi
        cases e : f[i]? with
        | none => rw [e] at hi; cases hi
        | some s =>
          rw [e] at hi
          obtain ⟨b, r⟩ := s
          simp only [Option.map_some, Option.some.injEq] at hi
          subst hi
          exact .ends e
      · rw [List.getElem?_map, e]
        rfl
  obtain ⟨s, q1, q2, q3⟩ := hw
  refine ⟨s.1, ?_, q2.len, fun i => ⟨q2.live i, fun hl => ?_⟩⟩
  · unfold g_live_flags m_live_flags
    unfold lfE at q1
    have e0 : itemsOf (fD f) = some (f.map sD) := rfl
    walk_at "evh"
  · induction hl with
    | ends e => exact q2.ends _ _ e
    | step e hm _ ih =>
      refine q3 _ _ _ e ?_
      unfold hit
      rw [List.any_eq_true]
      refine ⟨_, hm, ?_⟩
      show s.1.getD _ false = true
      rw [List.getD_eq_getElem?_getD, ih]
      rfl
end F
namespace F
open PySem L2 R
/-! == of encoded values -/
structure EqT {α : Type} [DecidableEq α] (enc : α → D) (k : Nat) : Prop where
  py : ∀ a, isPy (enc a) = true
  lay : ∀ a, (R.py (enc a)).canLay0 = true
  dep : ∀ a, (R.py (enc a)).depth ≤ k
  eqv : ∀ a b, PyData.eqv (R.py (enc a)) (R.py (enc b)) = decide (a = b)
theorem eqt_nat : EqT (fun n : Nat => D.int (n : Int)) 0 where
  py := fun _ => rfl
  lay := fun _ => rfl
  dep := fun _ => Nat.le_refl _
  eqv := fun a b => by
    show ((a : Int) == (b : Int)) = _
    rw [Bool.eq_iff_iff]
    simp [Int.ofNat_inj]
theorem eqt_int : EqT D.int 0 where
  py := fun _ => rfl
  lay := fun _ => rfl
  dep := fun _ => Nat.le_refl _
  eqv := fun a b => by
    show (a == b) = _
    rw [Bool.eq_iff_iff]
    simp
theorem eqt_bool : EqT D.bl 0 where
  py := fun _ => rfl
  lay := fun _ => rfl
  dep := fun _ => Nat.le_refl _
  eqv := fun a b => by
    show (a == b) = _
    rw [Bool.eq_iff_iff]
    simp
theorem eqt_o : EqT oD 0 where
  py := fun a => by cases a <;> rfl
  lay := fun a => by cases a <;> rfl
  dep := fun a => by cases a <;> exact Nat.le_refl _
  eqv := fun a b => by
    cases a with
    | none => cases b <;> rfl
    | some a =>
      cases b with
      | none => rfl
      | some b =>
        show ((a : Int) == (b : Int)) = _
        rw [Bool.eq_iff_iff]
        simp [Int.ofNat_inj]
section
variable {α : Type} [DecidableEq α] {enc : α → D} {k : Nat}
theorem EqT.pys (h : EqT enc k) : ∀ l : List α, arePy (l.map enc) = true ∧ PyData.canLayAll0 (R.pys (l.map enc)) = true ∧ PyData.depthAll (R.pys (l.map enc)) ≤ k
  | [] => ⟨rfl, rfl, Nat.zero_le _⟩
  | a :: l => by
    obtain ⟨h1, h2, h3⟩ := h.pys l
    refine ⟨?_, ?_, ?_⟩
    · show (isPy (enc a) && arePy (l.map enc)) = true
      rw [h.py a, h1]; rfl
    · show ((R.py (enc a)).canLay0 && PyData.canLayAll0 (R.pys (l.map enc))) = true
      rw [h.lay a, h2]; rfl
    · show max (R.py (enc a)).depth (PyData.depthAll (R.pys (l.map enc))) ≤ k
      have := h.dep a
      omega
theorem EqT.all (h : EqT enc k) : ∀ l m : List α, PyData.eqvAll (R.pys (l.map enc)) (R.pys (m.map enc)) = decide (l = m)
  | [], [] => rfl
  | [], _ :: _ => rfl
  | _ :: _, [] => rfl
  | a :: l, b :: m => by
    show (PyData.eqv (R.py (enc a)) (R.py (enc b)) && PyData.eqvAll (R.pys (l.map enc)) (R.pys (m.map enc))) = _
    rw [h.eqv a b, h.all l m, Bool.eq_iff_iff]
    simp
theorem EqT.tup (h : EqT enc k) : EqT (fun l : List α => D.tup (l.map enc)) (k + 1) where
  py := fun l => (h.pys l).1
  lay := fun l => (h.pys l).2.1
  dep := fun l => Nat.succ_le_succ (h.pys l).2.2
  eqv := fun l m => h.all l m
theorem EqT.lst (h : EqT enc k) : EqT (fun l : List α => D.lst (l.map enc)) (k + 1) where
  py := fun l => (h.pys l).1
  lay := fun l => (h.pys l).2.1
  dep := fun l => Nat.succ_le_succ (h.pys l).2.2
  eqv := fun l m => h.all l m
theorem EqT.pair {β : Type} [DecidableEq β] {enc' : β → D} (h : EqT enc k) (h' : EqT enc' k) : EqT (fun p : α × β => D.tup [enc p.1, enc' p.2]) (k + 1) where
  py := fun p => by show (isPy (enc p.1) && (isPy (enc' p.2) && true)) = true; rw [h.py, h'.py]; rfl
  lay := fun p => by show ((R.py (enc p.1)).canLay0 && ((R.py (enc' p.2)).canLay0 && true)) = true; rw [h.lay, h'.lay]; rfl
  dep := fun p => by
    show max (R.py (enc p.1)).depth (max (R.py (enc' p.2)).depth 0) + 1 ≤ k + 1
    have := h.dep p.1
    have := h'.dep p.2
    omega
  eqv := fun p q => by
    show (PyData.eqv (R.py (enc p.1)) (R.py (enc q.1)) && (PyData.eqv (R.py (enc' p.2)) (R.py (enc' q.2)) && true)) = _
    rw [h.eqv, h'.eqv, Bool.eq_iff_iff]
    obtain ⟨a, b⟩ := p
    obtain ⟨c, d⟩ := q
    simp
theorem EqT.mono {k' : Nat} (h : EqT enc k) (hk : k ≤ k') : EqT enc k' := ⟨h.py, h.lay, fun a => Nat.le_trans (h.dep a) hk, h.eqv⟩
theorem EqT.dp (h : EqT enc k) (hk : k ≤ 64) (a b : α) : dpD (enc a) (enc b) = some (decide (a = b)) := by
  unfold dpD
  have s : ∀ a, SeqAt.shaped (R.py (enc a)) = true := fun a => by
    unfold SeqAt.shaped
    rw [h.lay a, decide_eq_true (Nat.le_trans (h.dep a) hk)]
    rfl
  rw [h.py a, h.py b, s a, s b, h.eqv a b]
  rfl
theorem EqT.eq (h : EqT enc k) (hk : k ≤ 64) (a b : α) (hs : scD (enc a) (enc b) = none) : fEq (enc a) (enc b) = some (.bl (decide (a = b))) := by
  unfold fEq eqD
  rw [hs]
  simp only [h.dp hk a b]
theorem EqT.ne (h : EqT enc k) (hk : k ≤ 64) (a b : α) (hs : scD (enc a) (enc b) = none) : fNe (enc a) (enc b) = some (.bl (!decide (a = b))) := by
  unfold fNe eqD
  rw [hs]
  simp only [h.dp hk a b]
end
theorem eqt_s : EqT sD 2 := EqT.pair (eqt_bool.mono (Nat.zero_le 1)) eqt_o.tup
theorem eqt_f : EqT fD 3 := eqt_s.tup
theorem eq_f (f g : Fm) : fEq (fD f) (fD g) = some (.bl (decide (f = g))) := eqt_f.eq (by decide) f g rfl
theorem ne_f (f g : Fm) : fNe (fD f) (fD g) = some (.bl (!decide (f = g))) := eqt_f.ne (by decide) f g rfl
def nD (l : List Nat) : List D := l.map fun (n : Nat) => D.int (n : Int)
theorem eq_nD (l m : List Nat) : fEq (.lst (nD l)) (.lst (nD m)) = some (.bl (decide (l = m))) := eqt_nat.lst.eq (by decide) l m rfl
theorem nD_at {l : List Nat} {i v : Nat} (h : l[i]? = some v) : atI (nD l) (i : Int) = some (.int (v : Int)) := atI_nat (by unfold nD; rw [List.getElem?_map, h]; rfl)

/-! numbers of first appearance -/
section
variable {α : Type} [DecidableEq α]
def ps : List α → α → Nat
  | [], _ => 0
  | a :: l, k => if a = k then 0 else ps l k + 1
theorem ps_at : ∀ {l : List α} {k : α}, k ∈ l → l[ps l k]? = some k
  | [], _, h => by cases h
  | a :: l, k, h => by
    unfold ps
    by_cases e : a = k
    · rw [if_pos e, e]; rfl
    · rw [if_neg e, List.getElem?_cons_succ]
      rcases List.mem_cons.mp h with h | h
      · exact absurd h.symm e
      · exact ps_at h
theorem ps_lt {l : List α} {k : α} (h : k ∈ l) : ps l k < l.length := (List.getElem?_eq_some_iff.mp (ps_at h)).1
theorem ps_app {l : List α} {k : α} (m : List α) : k ∈ l → ps (l ++ m) k = ps l k := by
  induction l with
  | nil => intro h; cases h
  | cons a l ih =>
    intro h
    rw [List.cons_append]
    unfold ps
    by_cases e : a = k
    · rw [if_pos e, if_pos e]
    · rw [if_neg e, if_neg e]
      rcases List.mem_cons.mp h with h | h
      · exact absurd h.symm e
      · rw [ih h]
theorem ps_new {l : List α} {k : α} (m : List α) : k ∉ l → ps (l ++ k :: m) k = l.length := by
  induction l with
  | nil => intro _; show (if k = k then 0 else _) = _; rw [if_pos rfl]; rfl
  | cons a l ih =>
    intro h
    rw [List.cons_append]
    unfold ps
    rw [if_neg (fun e => h (by rw [e]; exact List.mem_cons_self)), ih (fun z => h (List.mem_cons_of_mem _ z))]
    rfl
theorem ps_of {l : List α} {k : α} {i : Nat} (hd : l.Nodup) (h : l[i]? = some k) : ps l k = i := by
  have hm := List.mem_of_getElem? h
  have := ps_at hm
  obtain ⟨h1, e1⟩ := List.getElem?_eq_some_iff.mp this
  obtain ⟨h2, e2⟩ := List.getElem?_eq_some_iff.mp h
  have hp := List.nodup_iff_pairwise_ne.mp hd
  rw [List.pairwise_iff_getElem] at hp
  rcases Nat.lt_trichotomy (ps l k) i with hl | hl | hl
  · exact absurd (e1.trans e2.symm) (hp _ _ h1 h2 hl)
  · exact hl
  · exact absurd (e2.trans e1.symm) (hp _ _ h2 h1 hl)
def numGo (seen : List α) : List α → List Nat
  | [] => []
  | k :: ks => if k ∈ seen then ps seen k :: numGo seen ks else seen.length :: numGo (seen ++ [k]) ks
def finGo (seen : List α) : List α → List α
  | [] => seen
  | k :: ks => if k ∈ seen then finGo seen ks else finGo (seen ++ [k]) ks
abbrev num (l : List α) : List Nat := numGo [] l
theorem fin_pre : ∀ (ks seen : List α), ∃ m, finGo seen ks = seen ++ m
  | [], seen => ⟨[], by simp [finGo]⟩
  | k :: ks, seen => by
    unfold finGo
    by_cases h : k ∈ seen
    · rw [if_pos h]; exact fin_pre ks seen
    · rw [if_neg h]
      obtain ⟨m, e⟩ := fin_pre ks (seen ++ [k])
      exact ⟨[k] ++ m, by rw [e, List.append_assoc]⟩
theorem fin_mem : ∀ (ks seen : List α) (x : α), x ∈ seen ∨ x ∈ ks → x ∈ finGo seen ks
  | [], seen, x, h => by
    rcases h with h | h
    · exact h
    · cases h
  | k :: ks, seen, x, h => by
    unfold finGo
    by_cases hk : k ∈ seen
    · rw [if_pos hk]
      refine fin_mem ks seen x ?_
      rcases h with h | h
      · exact .inl h
      · rcases List.mem_cons.mp h with h | h
        · rw [h]; exact .inl hk
        · exact .inr h
    · rw [if_neg hk]
      refine fin_mem ks (seen ++ [k]) x ?_
      rcases h with h | h
      · exact .inl (List.mem_append_left _ h)
      · rcases List.mem_cons.mp h with h | h
        · rw [h]; exact .inl (List.mem_append_right _ List.mem_cons_self)
        · exact .inr h
theorem num_ps : ∀ (ks seen : List α), numGo seen ks = ks.map (ps (finGo seen ks))
  | [], _ => rfl
  | k :: ks, seen => by
    unfold numGo finGo
    by_cases h : k ∈ seen
    · rw [if_pos h, if_pos h, List.map_cons, num_ps ks seen]
      obtain ⟨m, e⟩ := fin_pre ks seen
      congr 1
      rw [e, ps_app m h]
    · rw [if_neg h, if_neg h, List.map_cons, num_ps ks (seen ++ [k])]
      obtain ⟨m, e⟩ := fin_pre ks (seen ++ [k])
      congr 1
      rw [e, List.append_assoc]
      exact (ps_new m h).symm
theorem num_len (ks seen : List α) : (numGo seen ks).length = ks.length := by rw [num_ps, List.length_map]
/-- equal numbers, equal keys -/
theorem num_inj {ks : List α} {i j n : Nat} {a b : α} (hi : ks[i]? = some a) (hj : ks[j]? = some b) (h1 : (num ks)[i]? = some n) (h2 : (num ks)[j]? = some n) : a = b := by
  unfold num at h1 h2
  rw [num_ps, List.getElem?_map, hi] at h1
  rw [num_ps, List.getElem?_map, hj] at h2
  simp only [Option.map_some, Option.some.injEq] at h1 h2
  have m1 := ps_at (fin_mem ks [] a (.inr (List.mem_of_getElem? hi)))
  have m2 := ps_at (fin_mem ks [] b (.inr (List.mem_of_getElem? hj)))
  rw [h1] at m1
  rw [h2] at m2
  rw [m1] at m2
  exact Option.some.inj m2
theorem num_fn {ks : List α} {i j : Nat} {a : α} (hi : ks[i]? = some a) (hj : ks[j]? = some a) : (num ks)[i]? = (num ks)[j]? := by
  unfold num
  rw [num_ps, List.getElem?_map, hi, List.getElem?_map, hj]
theorem num_map {β : Type} [DecidableEq β] (φ : α → β) : ∀ (ks seen : List α), (∀ a b, (a ∈ seen ∨ a ∈ ks) → (b ∈ seen ∨ b ∈ ks) → φ a = φ b → a = b) → numGo (seen.map φ) (ks.map φ) = numGo seen ks
  | [], _, _ => rfl
  | k :: ks, seen, h => by
    rw [List.map_cons]
    unfold numGo
    have hm : φ k ∈ seen.map φ ↔ k ∈ seen := by
      constructor
      · intro z
        obtain ⟨a, ha, e⟩ := List.mem_map.mp z
        rw [← h a k (.inl ha) (.inr List.mem_cons_self) e]
        exact ha
      · exact fun z => List.mem_map.mpr ⟨k, z, rfl⟩
    have hp : ∀ (l : List α), (∀ a ∈ l, φ a = φ k → a = k) → ps (l.map φ) (φ k) = ps l k := by
      intro l
      induction l with
      | nil => intro _; rfl
      | cons a l ih =>
        intro hl
        rw [List.map_cons]
        unfold ps
        by_cases e : a = k
        · rw [if_pos e, if_pos (by rw [e])]
        · rw [if_neg e, if_neg (fun z => e (hl a List.mem_cons_self z)), ih (fun b hb => hl b (List.mem_cons_of_mem _ hb))]
    by_cases hk : k ∈ seen
    · rw [if_pos hk, if_pos (hm.mpr hk), hp seen (fun a ha e => h a k (.inl ha) (.inr List.mem_cons_self) e), num_map φ ks seen (fun a b ha hb => h a b (ha.imp id (List.mem_cons_of_mem _)) (hb.imp id (List.mem_cons_of_mem _)))]
    · rw [if_neg hk, if_neg (fun z => hk (hm.mp z)), List.length_map]
      have := num_map φ ks (seen ++ [k]) (fun a b ha hb => h a b
        (by rcases ha with ha | ha
            · rcases List.mem_append.mp ha with ha | ha
              · exact .inl ha
              · rw [List.mem_singleton] at ha; rw [ha]; exact .inr List.mem_cons_self
            · exact .inr (List.mem_cons_of_mem _ ha))
        (by rcases hb with ha | ha
            · rcases List.mem_append.mp ha with ha | ha
              · exact .inl ha
              · rw [List.mem_singleton] at ha; rw [ha]; exact .inr List.mem_cons_self
            · exact .inr (List.mem_cons_of_mem _ ha)))
      rw [List.map_append] at this
      rw [← this]
      rfl
theorem num_idem (ks : List α) : num (num ks) = num ks := by
  have e : num ks = ks.map (ps (finGo [] ks)) := num_ps ks []
  have : numGo (([] : List α).map (ps (finGo [] ks))) (ks.map (ps (finGo [] ks))) = numGo [] ks := num_map _ ks [] (fun a b ha hb h => by
    rcases ha with ha | ha
    · cases ha
    · rcases hb with hb | hb
      · cases hb
      · have m1 := ps_at (fin_mem ks [] a (.inr ha))
        have m2 := ps_at (fin_mem ks [] b (.inr hb))
        rw [h, m2] at m1
        exact (Option.some.inj m1).symm)
  rw [← e] at this
  exact this
end
end F
namespace F
open PySem L2 R
/-! numbered -/
theorem numGo_cons {α : Type} [DecidableEq α] (seen : List α) (k : α) (ks : List α) : numGo seen (k :: ks) = if k ∈ seen then ps seen k :: numGo seen ks else seen.length :: numGo (seen ++ [k]) ks := rfl
abbrev NMs := List NestedKey × List Nat × Option Sl
def nmE (kd : D) (s : NMs) : Slots := [some (.d kd), some (.own (.dct (ixd s.1))), some (.own (.lst (nD s.2.1))), s.2.2]
theorem ixd_ps {ks : List NestedKey} {k : NestedKey} (hd : ks.Nodup) (h : k ∈ ks) : lk (ixd ks) k = some (.int (ps ks k : Int)) := ixd_at hd (ps_at h)
theorem nD_snoc (l : List Nat) (n : Nat) : nD l ++ [D.int (n : Int)] = nD (l ++ [n]) := by unfold nD; rw [List.map_append]; rfl
theorem nD_len (l : List Nat) : (nD l).length = l.length := by unfold nD; rw [List.length_map]
theorem nodup_snoc {α : Type} {l : List α} {k : α} (h : l.Nodup) (hk : k ∉ l) : (l ++ [k]).Nodup := by
  rw [List.nodup_append]
  exact ⟨h, by simp, fun a ha b hb => by rw [List.mem_singleton] at hb; subst hb; exact fun e => hk (e ▸ ha)⟩
theorem numbered_eq {ds : List D} {ks : List NestedKey} {t : Bool} (hl : ds.length = ks.length) (hk : ∀ (i : Nat) (d : D) (k : NestedKey), ds[i]? = some d → ks[i]? = some k → nk d = some k ∧ isT k = t ∧ k.depth ≤ 8) (hn : ds.length ≤ 16777216) (kd : D) (hkd : itemsOf kd = some ds) : g_numbered [kd] = some (.own (.lst (nD (num ks)))) := by
  have hw : ∃ s : NMs, forGo (gN 3) (mSeq (mIf (mT (mDIn true (mVar 3) 1)) (mDPut 1 (mVar 3) (mDLen 1)) mNext) (mApp 2 (mDIx 1 (mVar 3)))) ds (nmE kd ([], [], none)) = .nx (nmE kd s) ∧ s.2.1 = num ks := by
    refine for_st (nmE kd) (fun i s => s.1.Nodup ∧ s.1.length ≤ i ∧ s.2.1.length = i ∧ (∀ k ∈ s.1, isT k = t) ∧ s.2.1 ++ numGo s.1 (ks.drop i) = num ks) (fun o => ∃ s : NMs, o = .nx (nmE kd s) ∧ s.2.1 = num ks) ?_ ?_ ?_
    · exact ⟨List.nodup_nil, Nat.le_refl _, rfl, (fun _ h => nomatch h), rfl⟩
    · intro i x s hx hp
      obtain ⟨seen, out, a3⟩ := s
      obtain ⟨p1, p2, p3, p4, p5⟩ := hp
      simp only at p1 p2 p3 p4 p5
      have hi : i < ds.length := (List.getElem?_eq_some_iff.mp hx).1
      obtain ⟨k, hki⟩ := at_ex (l := ks) (i := i) (by omega)
      obtain ⟨h1, h2, h3⟩ := hk i x k hx hki
      have hkind : ∀ ks' : List NestedKey, (∀ y ∈ ks', isT y = t) → kindOk (ixd ks') k = true := fun ks' hh => ixd_kind (fun y hy => by rw [hh y hy, h2]) h3
      have hdrop : ks.drop i = k :: ks.drop (i + 1) := by
        have e := (List.getElem?_eq_some_iff.mp hki)
        rw [List.drop_eq_getElem_cons e.1, e.2]
      rw [hdrop] at p5
      rw [numGo_cons] at p5
      have q1 := kAt_eq h1 (hkind seen p4)
      have hout : (nD out).length < sizeLine := by rw [nD_len, sizeLine_eq]; omega
      refine ⟨nmE kd (seen, out, some (.d x)), rfl, .inl ?_⟩
      by_cases hm : k ∈ seen
      · rw [ixd_ps p1 hm] at q1
        rw [if_pos hm] at p5
        refine ⟨(seen, out ++ [ps seen k], some (.d x)), .inl ?_, p1, by show seen.length ≤ i + 1; omega, by simp [p3], p4, ?_⟩
        · have e := nD_snoc out (ps seen k)
          unfold nmE
          simp only
          clear hdrop hki hkind hk p5 p4 p3 p2 p1 hl hn hm
          walk_at "evh"
        · show (out ++ [ps seen k]) ++ numGo seen (ks.drop (i + 1)) = num ks
          rw [List.append_assoc]; exact p5
      · rw [ixd_out hm] at q1
        rw [if_neg hm] at p5
        have p4' : ∀ y ∈ seen ++ [k], isT y = t := fun y hy => by
          rcases List.mem_append.mp hy with hy | hy
          · exact p4 y hy
          · rw [List.mem_singleton] at hy; rw [hy]; exact h2
        have q2 : dput (ixd seen) x (.int (seen.length : Int)) = some (ixd (seen ++ [k])) := by rw [dput_eq h1 (hkind seen p4) (by rw [ixd_len]; omega), ixd_put hm]
        have nd2 := nodup_snoc p1 hm
        have q3 := kAt_eq h1 (hkind (seen ++ [k]) p4')
        rw [ixd_at nd2 (i := seen.length) (by simp)] at q3
        refine ⟨(seen ++ [k], out ++ [seen.length], some (.d x)), .inl ?_, nd2, by simp; omega, by simp [p3], p4', ?_⟩
        · have e := nD_snoc out seen.length
          have e2 := ixd_len seen
          unfold nmE
          simp only
          clear hdrop hki hkind hk p5 p4 p3 p2 p1 hl hn hm p4' nd2
          walk_at "evh"
        · show (out ++ [seen.length]) ++ numGo (seen ++ [k]) (ks.drop (i + 1)) = num ks
          rw [List.append_assoc]; exact p5
    · intro s hp
      refine ⟨s, rfl, ?_⟩
      have := hp.2.2.2.2
      rw [hl, List.drop_length] at this
      simpa [numGo] using this
  obtain ⟨s, q1, q2⟩ := hw
  unfold g_numbered m_numbered
  unfold nmE at q1
  have e1 : ixd [] = [] := rfl
  have e2 : nD [] = [] := rfl
  rw [q2] at q1
  simp only [e1, e2] at q1
  have e3 : (0 : Nat) ≤ sizeLine := Nat.zero_le _
  clear hk q2
  walk_at "evh"
/-! live_moves -/
def keep (fl : List Bool) (o : Option Nat) : Option Nat := match o with
  | none => none
  | some j => if fl.getD j false = true then some j else none
def rowsOf (f : Fm) (fl : List Bool) : List (List (Option Nat)) := f.map fun s => s.2.map (keep fl)
def lD (r : List (Option Nat)) : D := .lst (r.map oD)
theorem lc_keep {fl : List Bool} {a0 a2 a3 : Option Sl} : ∀ (r : List (Option Nat)), (∀ j, some j ∈ r → j < fl.length) →
    lcGo 4 mYes (mIfE (mAnd (mT (m2 fIsNot (mBor 4) (mC .non))) (mT (m2 fIx (mBor 1) (mBor 4)))) (mVar 4) (mC .non)) [a0, some (.d (.lst (bD fl))), a2, a3, none] (r.map oD) = some ((r.map (keep fl)).map oD)
  | [], _ => rfl
  | o :: r, h => by
    have ih := lc_keep (fl := fl) (a0 := a0) (a2 := a2) (a3 := a3) r (fun j hj => h j (List.mem_cons_of_mem _ hj))
    rw [List.map_cons]
    unfold lcGo
    cases o with
    | none =>
      have h1 := isn_n
      have h2 := oD_n
      walk_at "evh"
      rfl
    | some j =>
      have hj := h j List.mem_cons_self
      have h1 := isn_i (n := (j : Int))
      have h2 := oD_s j
      obtain ⟨v, e⟩ := at_ex hj
      have h3 := bD_at e
      have h4 : keep fl (some j) = if v = true then some j else none := by show (if fl.getD j false = true then some j else none) = _; rw [List.getD_eq_getElem?_getD, e]; rfl
      clear h hj
      rw [List.map_cons, List.map_cons, h4]
      clear h4
      cases v with
      | true =>
        walk_at "evh"
      | false =>
        have h5 := oD_n
        simp only [Bool.false_eq_true, if_false]
        walk_at "evh"
abbrev LMs := List (List (Option Nat)) × Option Sl
def lmE (f : Fm) (fl : List Bool) (s : LMs) : Slots := [some (.d (fD f)), some (.d (.lst (bD fl))), some (.own (.lst (s.1.map lD))), s.2, none]
theorem live_moves_eq {w : Nat} {f : Fm} (ok : Ok w f) : ∃ fl, g_live_moves [fD f] = some (.own (.lst ((rowsOf f fl).map lD))) ∧ fl.length = f.length ∧ ∀ i : Nat, fl[i]? = some true ↔ Live f i := by
  obtain ⟨fl, h1, h2, h3⟩ := live_flags_eq ok
  refine ⟨fl, ?_, h2, h3⟩
  have hw : ∃ s : LMs, forGo (gN 3) (mApp 2 (mF (mLc (mItems (m2 fIx (mBor 3) (mC (.int 1)))) 4 mYes (mIfE (mAnd (mT (m2 fIsNot (mBor 4) (mC .non))) (mT (m2 fIx (mBor 1) (mBor 4)))) (mVar 4) (mC .non))))) (f.map sD) (lmE f fl ([], none)) = .nx (lmE f fl s) ∧ s.1 = rowsOf f fl := by
    refine for_st (lmE f fl) (fun i s => s.1 = (rowsOf f fl).take i) (fun o => ∃ s : LMs, o = .nx (lmE f fl s) ∧ s.1 = rowsOf f fl) (by rfl) ?_ ?_
    · intro i x s hx hp
      obtain ⟨out, a3⟩ := s
      simp only at hp
      rw [List.getElem?_map] at hx
      cases e : f[i]? with
      | none => rw [e] at hx; cases hx
      | some p =>
        rw [e] at hx
        cases hx
        obtain ⟨b, r⟩ := p
        have hi : i < f.length := (List.getElem?_eq_some_iff.mp e).1
        refine ⟨lmE f fl (out, some (.d (sD (b, r)))), rfl, .inl ⟨(out ++ [r.map (keep fl)], some (.d (sD (b, r)))), .inl ?_, ?_⟩⟩
        · have q1 := sD_1 (b, r)
          have q2 : (r.map oD).length ≤ sizeLine := by rw [List.length_map]; have := ok.row i b r e; have := ok.wid; exact sl_ok _ (by omega)
          have q3 := lc_keep (fl := fl) (a0 := some (.d (fD f))) (a2 := some (.own (.lst (out.map lD)))) (a3 := some (.d (sD (b, r)))) r (fun j hj => by rw [h2]; exact ok.tgt i b r j e hj)
          have q4 : (out.map lD).length < sizeLine := by
            rw [List.length_map, hp, List.length_take, sizeLine_eq]
            have := ok.len
            omega
          have q5 : out.map lD ++ [D.lst ((r.map (keep fl)).map oD)] = (out ++ [r.map (keep fl)]).map lD := by rw [List.map_append]; rfl
          simp only at q1
          unfold lmE
          simp only
          clear h1 h2 h3 hp hi
          walk_at "evh"
        · show out ++ [r.map (keep fl)] = (rowsOf f fl).take (i + 1)
          rw [List.take_add_one, ← hp]
          unfold rowsOf
          rw [List.getElem?_map, e]
          rfl
    · intro s hp
      refine ⟨s, rfl, ?_⟩
      rw [hp]
      apply List.take_of_length_le
      unfold rowsOf
      rw [List.length_map, List.length_map]
      exact Nat.le_refl _
  obtain ⟨s, q1, q2⟩ := hw
  rw [← q2]
  clear q2
  unfold g_live_moves m_live_moves
  unfold lmE at q1
  have e0 := v_call h1
  rw [sd_o] at e0
  have e1 : itemsOf (fD f) = some (f.map sD) := rfl
  have e3 : (0 : Nat) ≤ sizeLine := Nat.zero_le _
  simp only [List.map_nil] at q1
  clear h1 h2 h3
  walk_at "evh"
end F
namespace F
open PySem L2 R
/-! state_classes -/
def oN : Option Nat → NestedKey
  | none => .none
  | some n => .num (n : Int)
abbrev Ky := Nat × List (Option Nat)
def kN (p : Ky) : NestedKey := .tup [.num (p.1 : Int), .tup (p.2.map oN)]
def kD (p : Ky) : D := .tup [.int (p.1 : Int), .tup (p.2.map oD)]
theorem nk_o (o : Option Nat) : nk (oD o) = some (oN o) := by cases o <;> rfl
theorem nks_o : ∀ r : List (Option Nat), nks (r.map oD) = some (r.map oN)
  | [] => rfl
  | o :: r => by
    show (match nk (oD o) with | some k => (match nks (r.map oD) with | some ks => some (k :: ks) | none => none) | none => none) = _
    rw [nk_o, nks_o r]
    rfl
theorem nk_k (p : Ky) : nk (kD p) = some (kN p) := by
  unfold kD kN
  simp only [nk, nks, nks_o]
theorem oN_inj {a b : Option Nat} (h : oN a = oN b) : a = b := by
  cases a with
  | none => cases b with
    | none => rfl
    | some _ => cases h
  | some x => cases b with
    | none => cases h
    | some y =>
      have : (x : Int) = (y : Int) := by injection h
      rw [Int.ofNat_inj.mp this]
theorem map_inj {α β : Type} {g : α → β} (hg : ∀ a b, g a = g b → a = b) : ∀ {l m : List α}, l.map g = m.map g → l = m
  | [], [], _ => rfl
  | [], _ :: _, h => by cases h
  | _ :: _, [], h => by cases h
  | a :: l, b :: m, h => by
    rw [List.map_cons, List.map_cons] at h
    injection h with h1 h2
    rw [hg a b h1, map_inj hg h2]
theorem kN_inj {a b : Ky} (h : kN a = kN b) : a = b := by
  obtain ⟨a1, a2⟩ := a
  obtain ⟨b1, b2⟩ := b
  unfold kN at h
  injection h with h
  injection h with h1 h2
  injection h1 with h1
  injection h2 with h2 _
  injection h2 with h2
  have h1 : a1 = b1 := Int.ofNat_inj.mp h1
  have h2 : a2 = b2 := map_inj (fun _ _ => oN_inj) h2
  rw [h1, h2]
theorem dep_o : ∀ r : List (Option Nat), NestedKey.depthAll (r.map oN) = 0
  | [] => by simp [NestedKey.depthAll]
  | o :: r => by
    rw [List.map_cons, NestedKey.depthAll, dep_o r]
    cases o <;> simp [oN, NestedKey.depth]
theorem dep_k (p : Ky) : (kN p).depth ≤ 8 := by
  unfold kN
  simp [NestedKey.depth, NestedKey.depthAll, dep_o]
def cO (cl : List Nat) (o : Option Nat) : Option Nat := match o with
  | none => none
  | some t => some (cl.getD t 0)
def keysOf (rows : List (List (Option Nat))) (cl : List Nat) : List Ky := (cl.zip rows).map fun p => (p.1, p.2.map (cO cl))
/-- a relation that no step tells apart -/
structure Bis (f : Fm) (rows : List (List (Option Nat))) (E : Nat → Nat → Prop) : Prop where
  ends : ∀ (i j : Nat) (b b' : Bool) (r r' : List (Option Nat)), E i j → f[i]? = some (b, r) → f[j]? = some (b', r') → b = b'
  move : ∀ (i j : Nat) (r r' : List (Option Nat)), E i j → rows[i]? = some r → rows[j]? = some r' → ∀ (k : Nat) (a b : Option Nat), r[k]? = some a → r'[k]? = some b → (a = none ∧ b = none) ∨ ∃ x y, a = some x ∧ b = some y ∧ E x y
structure Nu (f : Fm) (rows : List (List (Option Nat))) (cl : List Nat) : Prop where
  len : cl.length = f.length
  can : num cl = cl
  ends : ∀ (i j c : Nat) (b b' : Bool) (r r' : List (Option Nat)), cl[i]? = some c → cl[j]? = some c → f[i]? = some (b, r) → f[j]? = some (b', r') → b = b'
  bis : ∀ E, Bis f rows E → ∀ i j : Nat, i < f.length → j < f.length → E i j → cl[i]? = cl[j]?
structure Rw (w : Nat) (f : Fm) (rows : List (List (Option Nat))) : Prop where
  len : rows.length = f.length
  row : ∀ (i : Nat) (r : List (Option Nat)), rows[i]? = some r → r.length = w
  tgt : ∀ (i : Nat) (r : List (Option Nat)) (j : Nat), rows[i]? = some r → some j ∈ r → j < f.length
theorem keys_at {rows : List (List (Option Nat))} {cl : List Nat} {i c : Nat} {r : List (Option Nat)} (h1 : cl[i]? = some c) (h2 : rows[i]? = some r) : (keysOf rows cl)[i]? = some (c, r.map (cO cl)) := by
  unfold keysOf
  rw [List.getElem?_map, (List.getElem?_zip_eq_some (z := (c, r))).mpr ⟨h1, h2⟩]
  rfl
theorem keys_len {w : Nat} {f : Fm} {rows : List (List (Option Nat))} {cl : List Nat} (hr : Rw w f rows) (hc : cl.length = f.length) : (keysOf rows cl).length = f.length := by
  unfold keysOf
  rw [List.length_map, List.length_zip, hc, hr.len]
  omega
theorem keys_fst {w : Nat} {f : Fm} {rows : List (List (Option Nat))} {cl : List Nat} (hr : Rw w f rows) (hc : cl.length = f.length) : (keysOf rows cl).map (·.1) = cl := by
  unfold keysOf
  rw [List.map_map]
  have : ((fun p : Ky => p.1) ∘ fun p : Nat × List (Option Nat) => (p.1, p.2.map (cO cl))) = Prod.fst := rfl
  rw [this]
  exact List.map_fst_zip (by rw [hc, hr.len]; exact Nat.le_refl _)
theorem Nu.next {w : Nat} {f : Fm} {rows : List (List (Option Nat))} {cl : List Nat} (hr : Rw w f rows) (h : Nu f rows cl) : Nu f rows (num (keysOf rows cl)) := by
  have at' : ∀ i : Nat, i < f.length → ∃ c r, cl[i]? = some c ∧ rows[i]? = some r ∧ (keysOf rows cl)[i]? = some (c, r.map (cO cl)) := fun i hi => by
    obtain ⟨c, hc⟩ := at_ex (l := cl) (i := i) (by rw [h.len]; exact hi)
    obtain ⟨r, hr'⟩ := at_ex (l := rows) (i := i) (by rw [hr.len]; exact hi)
    exact ⟨c, r, hc, hr', keys_at hc hr'⟩
  refine ⟨by rw [num_len, keys_len hr h.len], num_idem _, fun i j c b b' r r' h1 h2 h3 h4 => ?_, fun E hE i j hi hj e => ?_⟩
  · obtain ⟨c1, r1, x1, x2, x3⟩ := at' i (List.getElem?_eq_some_iff.mp h3).1
    obtain ⟨c2, r2, y1, y2, y3⟩ := at' j (List.getElem?_eq_some_iff.mp h4).1
    have := num_inj x3 y3 h1 h2
    injection this with z _
    rw [← z] at y1
    exact h.ends i j c1 b b' r r' x1 y1 h3 h4
  · obtain ⟨c1, r1, x1, x2, x3⟩ := at' i hi
    obtain ⟨c2, r2, y1, y2, y3⟩ := at' j hj
    have hc : c1 = c2 := by
      have := h.bis E hE i j hi hj e
      rw [x1, y1] at this
      exact Option.some.inj this
    subst hc
    have hl : r1.length = r2.length := by rw [hr.row i r1 x2, hr.row j r2 y2]
    have : r1.map (cO cl) = r2.map (cO cl) := by
      apply List.ext_getElem?
      intro k
      rw [List.getElem?_map, List.getElem?_map]
      by_cases hk : k < r1.length
      · obtain ⟨a, ha⟩ := at_ex hk
        obtain ⟨b, hb⟩ := at_ex (l := r2) (i := k) (by omega)
        rw [ha, hb]
        rcases hE.move i j r1 r2 e x2 y2 k a b ha hb with ⟨rfl, rfl⟩ | ⟨x, y, rfl, rfl, exy⟩
        · rfl
        · have hx := hr.tgt i r1 x x2 (List.mem_of_getElem? ha)
          have hy := hr.tgt j r2 y y2 (List.mem_of_getElem? hb)
          have := h.bis E hE x y hx hy exy
          show some (some (cl.getD x 0)) = some (some (cl.getD y 0))
          rw [List.getD_eq_getElem?_getD, List.getD_eq_getElem?_getD, this]
      · rw [List.getElem?_eq_none (by omega), List.getElem?_eq_none (by omega)]
    rw [this] at x3
    exact num_fn x3 y3
/-! the measure: pairs that are not told apart -/
theorem cnt_lt {α : Type} {p q : α → Bool} : ∀ {l : List α}, (∀ x ∈ l, p x = true → q x = true) → (∃ x ∈ l, q x = true ∧ p x = false) → l.countP p < l.countP q
  | [], _, h => by obtain ⟨x, hx, _⟩ := h; cases hx
  | a :: l, h, hx => by
    have le : ∀ {l : List α}, (∀ x ∈ l, p x = true → q x = true) → l.countP p ≤ l.countP q := fun h => List.countP_mono_left h
    rw [List.countP_cons, List.countP_cons]
    have h' : ∀ x ∈ l, p x = true → q x = true := fun x hx => h x (List.mem_cons_of_mem _ hx)
    obtain ⟨x, hx, h1, h2⟩ := hx
    rcases List.mem_cons.mp hx with rfl | hx
    · have := le h'
      rw [h1, h2]
      simp
      omega
    · have := cnt_lt h' ⟨x, hx, h1, h2⟩
      have ha := h a List.mem_cons_self
      cases hp : p a with
      | true => rw [ha hp]; simp; omega
      | false => cases q a <;> simp <;> omega
def prs (n : Nat) : List (Nat × Nat) := (List.range n).flatMap fun i => (List.range n).map fun j => (i, j)
theorem prs_mem {n i j : Nat} (hi : i < n) (hj : j < n) : (i, j) ∈ prs n := List.mem_flatMap.mpr ⟨i, List.mem_range.mpr hi, List.mem_map.mpr ⟨j, List.mem_range.mpr hj, rfl⟩⟩
theorem prs_of {n : Nat} {p : Nat × Nat} (h : p ∈ prs n) : p.1 < n ∧ p.2 < n := by
  obtain ⟨i, hi, h⟩ := List.mem_flatMap.mp h
  obtain ⟨j, hj, rfl⟩ := List.mem_map.mp h
  exact ⟨List.mem_range.mp hi, List.mem_range.mp hj⟩
def mu (n : Nat) (cl : List Nat) : Nat := (prs n).countP fun p => decide (cl[p.1]? = cl[p.2]?)
theorem mu_lt {w : Nat} {f : Fm} {rows : List (List (Option Nat))} {cl : List Nat} (hr : Rw w f rows) (h : Nu f rows cl) (hne : num (keysOf rows cl) ≠ cl) : mu f.length (num (keysOf rows cl)) < mu f.length cl := by
  have at' : ∀ i : Nat, i < f.length → ∃ c r, cl[i]? = some c ∧ (keysOf rows cl)[i]? = some (c, r) := fun i hi => by
    obtain ⟨c, hc⟩ := at_ex (l := cl) (i := i) (by rw [h.len]; exact hi)
    obtain ⟨r, hr'⟩ := at_ex (l := rows) (i := i) (by rw [hr.len]; exact hi)
    exact ⟨c, _, hc, keys_at hc hr'⟩
  unfold mu
  refine cnt_lt (fun p hp hq => ?_) ?_
  · obtain ⟨hi, hj⟩ := prs_of hp
    obtain ⟨c1, r1, x1, x3⟩ := at' p.1 hi
    obtain ⟨c2, r2, y1, y3⟩ := at' p.2 hj
    have e := of_decide_eq_true hq
    obtain ⟨n, hn⟩ := at_ex (l := num (keysOf rows cl)) (i := p.1) (by rw [num_len, keys_len hr h.len]; exact hi)
    have := num_inj x3 y3 hn (by rw [← e]; exact hn)
    injection this with z _
    exact decide_eq_true (by rw [x1, y1, z])
  · apply Classical.byContradiction
    intro hno
    apply hne
    have inj : ∀ a b : Ky, a ∈ keysOf rows cl → b ∈ keysOf rows cl → a.1 = b.1 → a = b := fun a b ha hb hab => by
      obtain ⟨i, hi⟩ := List.mem_iff_getElem?.mp ha
      obtain ⟨j, hj⟩ := List.mem_iff_getElem?.mp hb
      have li : i < f.length := by have := (List.getElem?_eq_some_iff.mp hi).1; rwa [keys_len hr h.len] at this
      have lj : j < f.length := by have := (List.getElem?_eq_some_iff.mp hj).1; rwa [keys_len hr h.len] at this
      obtain ⟨c1, r1, x1, x3⟩ := at' i li
      obtain ⟨c2, r2, y1, y3⟩ := at' j lj
      rw [hi] at x3
      rw [hj] at y3
      cases x3
      cases y3
      simp only at hab
      subst hab
      obtain ⟨n, hn⟩ := at_ex (l := num (keysOf rows cl)) (i := i) (by rw [num_len, keys_len hr h.len]; exact li)
      by_cases e : (num (keysOf rows cl))[i]? = (num (keysOf rows cl))[j]?
      · exact num_inj hi hj hn (by rw [← e]; exact hn)
      · exact absurd ⟨(i, j), prs_mem li lj, decide_eq_true (by rw [x1, y1]), decide_eq_false e⟩ hno
    have := num_map (fun p : Ky => p.1) (keysOf rows cl) [] (fun a b ha hb e => inj a b (by rcases ha with ha | ha; cases ha; exact ha) (by rcases hb with hb | hb; cases hb; exact hb) e)
    rw [keys_fst hr h.len] at this
    have c := h.can
    unfold num at c ⊢
    rw [← this]
    exact c
end F
namespace F
open PySem L2 R
theorem lc_cls {cl : List Nat} {a0 a1 a3 a4 a5 a6 : Option Sl} : ∀ (r : List (Option Nat)), (∀ j, some j ∈ r → j < cl.length) →
    lcGo 8 mYes (mIfE (mT (m2 fIs (mBor 8) (mC .non))) (mC .non) (m2 fIx (mBor 2) (mBor 8))) [a0, a1, some (.d (.lst (nD cl))), a3, a4, a5, a6, none, none] (r.map oD) = some ((r.map (cO cl)).map oD)
  | [], _ => rfl
  | o :: r, h => by
    have ih := lc_cls (cl := cl) (a0 := a0) (a1 := a1) (a3 := a3) (a4 := a4) (a5 := a5) (a6 := a6) r (fun j hj => h j (List.mem_cons_of_mem _ hj))
    rw [List.map_cons]
    unfold lcGo
    cases o with
    | none =>
      have h1 := is_n
      have h2 := oD_n
      walk_at "evh"
      rfl
    | some j =>
      have hj := h j List.mem_cons_self
      have h1 := is_i (n := (j : Int))
      have h2 := oD_s j
      obtain ⟨v, e⟩ := at_ex hj
      have h3 := nD_at e
      have h4 : cO cl (some j) = some v := by show some (cl.getD j 0) = _; rw [List.getD_eq_getElem?_getD, e]; rfl
      clear h hj
      rw [List.map_cons, List.map_cons, h4]
      clear h4
      walk_at "evh"
      rfl
abbrev SCs := List Nat × Option Sl × Option Sl × Option Sl × Option Sl
def scE (f : Fm) (rows : List (List (Option Nat))) (s : SCs) : Slots := [some (.d (fD f)), some (.d (.lst (rows.map lD))), some (.d (.lst (nD s.1))), s.2.1, s.2.2.1, s.2.2.2.1, s.2.2.2.2, none, none]
abbrev SKs := List Ky × Option Sl × Option Sl
def skE (f : Fm) (rows : List (List (Option Nat))) (cl : List Nat) (a6 : Option Sl) (s : SKs) : Slots := [some (.d (fD f)), some (.d (.lst (rows.map lD))), some (.d (.lst (nD cl))), some (.own (.lst (s.1.map kD))), s.2.1, s.2.2, a6, none, none]
abbrev SCfor : MS := (mApp 3 (mTup (mCons (mVar 4) (mCons (mCB fTuple (mCons (mF (mLc (mItems (mVar 5)) 8 mYes (mIfE (mT (m2 fIs (mBor 8) (mC .non))) (mC .non) (m2 fIx (mBor 2) (mBor 8))))) mNil)) mNil))))
theorem sc_for {w : Nat} {f : Fm} {rows : List (List (Option Nat))} {cl : List Nat} (ok : Ok w f) (hr : Rw w f rows) (hc : cl.length = f.length) (a4 a5 a6 : Option Sl) :
    ∃ b4 b5, forGo (gTup [(gN 4), (gN 5)]) SCfor (((nD cl).zip (rows.map lD)).map fun p => .tup [p.1, p.2]) (skE f rows cl a6 ([], a4, a5)) = .nx (skE f rows cl a6 (keysOf rows cl, b4, b5)) := by
  have hw : ∃ s : SKs, forGo (gTup [(gN 4), (gN 5)]) SCfor (((nD cl).zip (rows.map lD)).map fun p => .tup [p.1, p.2]) (skE f rows cl a6 ([], a4, a5)) = .nx (skE f rows cl a6 s) ∧ s.1 = keysOf rows cl := by
    refine for_st (skE f rows cl a6) (fun i s => s.1 = (keysOf rows cl).take i) (fun o => ∃ s : SKs, o = .nx (skE f rows cl a6 s) ∧ s.1 = keysOf rows cl) (by rfl) ?_ ?_
    · intro i x s hx hp
      obtain ⟨out, b4, b5⟩ := s
      simp only at hp
      rw [List.getElem?_map] at hx
      cases e : ((nD cl).zip (rows.map lD))[i]? with
      | none => rw [e] at hx; cases hx
      | some p =>
        rw [e] at hx
        cases hx
        obtain ⟨e1, e2⟩ := List.getElem?_zip_eq_some.mp e
        unfold nD at e1
        rw [List.getElem?_map] at e1 e2
        cases h1 : cl[i]? with
        | none => rw [h1] at e1; cases e1
        | some c =>
          cases h2 : rows[i]? with
          | none => rw [h2] at e2; cases e2
          | some r =>
            rw [h1] at e1
            rw [h2] at e2
            simp only [Option.map_some, Option.some.injEq] at e1 e2
            obtain ⟨p1, p2⟩ := p
            simp only at e1 e2
            subst e1
            subst e2
            have hi : i < cl.length := (List.getElem?_eq_some_iff.mp h1).1
            have hrw := hr.row i r h2
            refine ⟨skE f rows cl a6 (out, some (.d (.int (c : Int))), some (.d (lD r))), rfl, .inl ⟨(out ++ [(c, r.map (cO cl))], some (.d (.int (c : Int))), some (.d (lD r))), .inl ?_, ?_⟩⟩
            · have q1 := lc_cls (cl := cl) (a0 := some (.d (fD f))) (a1 := some (.d (.lst (rows.map lD)))) (a3 := some (.own (.lst (out.map kD)))) (a4 := some (.d (.int (c : Int)))) (a5 := some (.d (lD r))) (a6 := a6) r (fun j hj => by rw [hc]; exact hr.tgt i r j h2 hj)
              have q2 : (r.map oD).length ≤ sizeLine := by rw [List.length_map]; have := ok.wid; exact sl_ok _ (by omega)
              have q3 : fTuple [.lst ((r.map (cO cl)).map oD)] = some (.tup ((r.map (cO cl)).map oD)) := rfl
              have q4 : (out.map kD).length < sizeLine := by
                rw [List.length_map, hp, List.length_take, sizeLine_eq, keys_len hr hc]
                have := ok.len
                omega
              have q5 : out.map kD ++ [D.tup [.int (c : Int), .tup ((r.map (cO cl)).map oD)]] = (out ++ [(c, r.map (cO cl))]).map kD := by rw [List.map_append]; rfl
              have q6 : (0 + 1 + 1 : Nat) ≤ sizeLine := by decide
              have q7 : itemsOf (lD r) = some (r.map oD) := rfl
              unfold skE
              simp only
              clear hp hi e hr hc ok h1 h2 hrw
              walk_at "evh"
            · show out ++ [(c, r.map (cO cl))] = (keysOf rows cl).take (i + 1)
              rw [List.take_add_one, ← hp, keys_at h1 h2]
              rfl
    · intro s hp
      refine ⟨s, rfl, ?_⟩
      rw [hp]
      apply List.take_of_length_le
      unfold keysOf
      rw [List.length_map, List.length_map, List.length_zip, List.length_zip, nD_len, List.length_map]
      exact Nat.le_refl _
  obtain ⟨⟨ks, b4, b5⟩, h1, h2⟩ := hw
  simp only at h2
  subst h2
  exact ⟨b4, b5, h1⟩
theorem numbered_k {ks : List Ky} (hn : ks.length ≤ 16777216) : g_numbered [.lst (ks.map kD)] = some (.own (.lst (nD (num ks)))) := by
  have := numbered_eq (ds := ks.map kD) (ks := ks.map kN) (t := true) (by rw [List.length_map, List.length_map]) (fun i d k h1 h2 => by
    rw [List.getElem?_map] at h1 h2
    cases e : ks[i]? with
    | none => rw [e] at h1; cases h1
    | some p =>
      rw [e] at h1 h2
      cases h1
      cases h2
      exact ⟨nk_k p, rfl, dep_k p⟩) (by rw [List.length_map]; exact hn) (.lst (ks.map kD)) rfl
  rw [this]
  have e := num_map kN ks [] (fun a b _ _ h => kN_inj h)
  rw [List.map_nil] at e
  unfold num
  rw [e]
theorem numbered_b {bs : List Bool} (hn : bs.length ≤ 16777216) : g_numbered [.lst (bs.map D.bl)] = some (.own (.lst (nD (num bs)))) := by
  have := numbered_eq (ds := bs.map D.bl) (ks := bs.map fun b => NestedKey.num (if b = true then 1 else 0)) (t := false) (by rw [List.length_map, List.length_map]) (fun i d k h1 h2 => by
    rw [List.getElem?_map] at h1 h2
    cases e : bs[i]? with
    | none => rw [e] at h1; cases h1
    | some p =>
      rw [e] at h1 h2
      cases h1
      cases h2
      exact ⟨rfl, rfl, by simp [NestedKey.depth]⟩) (by rw [List.length_map]; exact hn) (.lst (bs.map D.bl)) rfl
  rw [this]
  have e := num_map (fun b : Bool => NestedKey.num (if b = true then 1 else 0)) bs [] (fun a b _ _ h => by
    injection h with h
    cases a <;> cases b <;> first | rfl | cases h)
  rw [List.map_nil] at e
  unfold num
  rw [e]
/-- what the classes say -/
structure Cl (f : Fm) (rows : List (List (Option Nat))) (cl : List Nat) : Prop where
  nu : Nu f rows cl
  move : ∀ (i j c : Nat) (r r' : List (Option Nat)), cl[i]? = some c → cl[j]? = some c → rows[i]? = some r → rows[j]? = some r' → r.map (cO cl) = r'.map (cO cl)
theorem state_classes_eq {w : Nat} {f : Fm} {rows : List (List (Option Nat))} (ok : Ok w f) (hr : Rw w f rows) : ∃ cl, g_state_classes [fD f, .lst (rows.map lD)] = some (.d (.lst (nD cl))) ∧ Cl f rows cl := by
  have h0 : lcGo 7 mYes (m2 fIx (mBor 7) (mC (.int 0))) [some (.d (fD f)), some (.d (.lst (rows.map lD))), none, none, none, none, none, none, none] (f.map sD) = some ((f.map (·.1)).map D.bl) := by
    rw [lc_map (fun d => match fIx d (.int 0) with | some d => d | none => .non)]
    · rw [List.map_map, List.map_map]
      congr 1
    · intro x hx
      obtain ⟨s, _, rfl⟩ := List.mem_map.mp hx
      have := sD_0 s
      walk_at "evh"
  have h1 : (f.map sD).length ≤ sizeLine := by rw [List.length_map]; exact sl_b ok.len
  have nu0 : Nu f rows (num (f.map (·.1))) := by
    refine ⟨by rw [num_len, List.length_map], num_idem _, fun i j c b b' r r' h1 h2 h3 h4 => ?_, fun E hE i j hi hj e => ?_⟩
    · exact num_inj (ks := f.map (·.1)) (by rw [List.getElem?_map, h3]; rfl) (by rw [List.getElem?_map, h4]; rfl) h1 h2
    · obtain ⟨⟨b, r⟩, h3⟩ := at_ex hi
      obtain ⟨⟨b', r'⟩, h4⟩ := at_ex hj
      have := hE.ends i j b b' r r' e h3 h4
      subst this
      exact num_fn (ks := f.map (·.1)) (a := b) (by rw [List.getElem?_map, h3]; rfl) (by rw [List.getElem?_map, h4]; rfl)
  have hw : ∃ cl, mWhile (mT (mC (.bl true)))
    (mSeq (mSetF 3 (mLst mNil))
    (mSeq (mFor (mZip (mCons (mVar 2) (mCons (mVar 1) mNil))) (gTup [(gN 4), (gN 5)]) SCfor)
    (mFz 3 (mSeq (mSet 6 (mCall g_numbered (mCons (mVar 3) mNil)))
    (mSeq (mIf (mT (m2 fEq (mBor 6) (mBor 2))) (mRet (mVar 2)) mNext)
    (mSet 2 (mVar 6))))))) (scE f rows (num (f.map (·.1)), none, none, none, none)) = .ret (.d (.lst (nD cl))) ∧ Cl f rows cl := by
    refine while_st (scE f rows) (fun s => Nu f rows s.1) (fun s => mu f.length s.1) (fun o => ∃ cl, o = .ret (.d (.lst (nD cl))) ∧ Cl f rows cl) ?_ _ nu0
    intro s hs
    obtain ⟨cl, b3, b4, b5, b6⟩ := s
    simp only at hs
    refine .inr ⟨rfl, ?_⟩
    obtain ⟨c4, c5, q1⟩ := sc_for ok hr hs.len b4 b5 b6
    have q2 := v_call (numbered_k (ks := keysOf rows cl) (by rw [keys_len hr hs.len]; exact ok.len))
    rw [sd_o] at q2
    have q3 := eq_nD (num (keysOf rows cl)) cl
    have q4 : (0 : Nat) ≤ sizeLine := Nat.zero_le _
    by_cases he : num (keysOf rows cl) = cl
    · refine .inr ⟨.d (.lst (nD cl)), ?_, cl, rfl, hs, fun i j c r r' x1 x2 x3 x4 => ?_⟩
      · rw [decide_eq_true he] at q3
        unfold scE skE at *
        simp only [List.map_nil] at q1 ⊢
        clear h0 h1 nu0 hs he
        walk_at "evh"
      · have := num_inj (n := c) (keys_at x1 x3) (keys_at x2 x4) (by rw [he]; exact x1) (by rw [he]; exact x2)
        injection this
    · refine .inl ⟨(num (keysOf rows cl), some (.d (.lst ((keysOf rows cl).map kD))), c4, c5, some (.d (.lst (nD (num (keysOf rows cl)))))), ?_, hs.next hr, mu_lt hr hs he⟩
      rw [decide_eq_false he] at q3
      unfold scE skE at *
      simp only [List.map_nil] at q1 ⊢
      clear h0 h1 nu0 hs he
      walk_at "evh"
  obtain ⟨cl, q1, q2⟩ := hw
  refine ⟨cl, ?_, q2⟩
  unfold g_state_classes m_state_classes
  unfold scE at q1
  simp only at q1
  have e0 := v_call (numbered_b (bs := f.map (·.1)) (by rw [List.length_map]; exact ok.len))
  rw [sd_o] at e0
  have e1 : itemsOf (fD f) = some (f.map sD) := rfl
  clear nu0 q2
  walk_at "evh"
end F
namespace F
open PySem L2 R
/-! the texts that a form accepts -/
def acc (f : Fm) : Option Nat → List Nat → Bool
  | s, [] => stops f s
  | s, k :: ks => acc f (step f s k) ks
def Wd (w : Nat) (u : List Nat) : Prop := ∀ k ∈ u, k < w
theorem acc_none (f : Fm) : ∀ u, acc f none u = false
  | [] => rfl
  | _ :: u => acc_none f u
theorem Wd.tail {w k : Nat} {u : List Nat} (h : Wd w (k :: u)) : Wd w u := fun x hx => h x (List.mem_cons_of_mem _ hx)
theorem Wd.head {w k : Nat} {u : List Nat} (h : Wd w (k :: u)) : k < w := h k List.mem_cons_self
theorem Wd.cons {w k : Nat} {u : List Nat} (hk : k < w) (h : Wd w u) : Wd w (k :: u) := fun x hx => by
  rcases List.mem_cons.mp hx with rfl | hx
  · exact hk
  · exact h x hx
theorem Wd.nil {w : Nat} : Wd w [] := fun _ h => nomatch h
theorem step_at {f : Fm} {i k : Nat} {b : Bool} {r : List (Option Nat)} {o : Option Nat} (h : f[i]? = some (b, r)) (hr : r[k]? = some o) : step f (some i) k = o := by
  unfold step
  simp only [h, hr, Option.getD_some]
theorem stops_at {f : Fm} {i : Nat} {b : Bool} {r : List (Option Nat)} (h : f[i]? = some (b, r)) : stops f (some i) = b := by
  unfold stops
  simp only [h]
theorem step_lt {w : Nat} {f : Fm} (ok : Ok w f) {s : Option Nat} {k j : Nat} (h : step f s k = some j) : j < f.length := by
  unfold step at h
  cases s with
  | none => cases h
  | some i =>
    simp only at h
    cases e : f[i]? with
    | none => rw [e] at h; cases h
    | some p =>
      obtain ⟨b, r⟩ := p
      rw [e] at h
      simp only at h
      cases e2 : r[k]? with
      | none => rw [e2] at h; cases h
      | some o =>
        rw [e2] at h
        simp only [Option.getD_some] at h
        subst h
        exact ok.tgt i b r j e (List.mem_of_getElem? e2)
theorem acc_live {w : Nat} {f : Fm} (ok : Ok w f) : ∀ (u : List Nat) (i : Nat), acc f (some i) u = true → Live f i
  | [], i, h => by
    have h : stops f (some i) = true := h
    cases e : f[i]? with
    | none => unfold stops at h; simp only [e] at h; cases h
    | some p =>
      obtain ⟨b, r⟩ := p
      rw [stops_at e] at h
      subst h
      exact .ends e
  | k :: u, i, h => by
    have h : acc f (step f (some i) k) u = true := h
    cases hs : step f (some i) k with
    | none => rw [hs, acc_none] at h; cases h
    | some j =>
      rw [hs] at h
      have ih := acc_live ok u j h
      cases e : f[i]? with
      | none => unfold step at hs; simp only [e] at hs; cases hs
      | some p =>
        obtain ⟨b, r⟩ := p
        cases e2 : r[k]? with
        | none => unfold step at hs; simp only [e, e2] at hs; cases hs
        | some o =>
          rw [step_at e e2] at hs
          subst hs
          exact .step e (List.mem_of_getElem? e2) ih
theorem live_acc {w : Nat} {f : Fm} (ok : Ok w f) {i : Nat} (h : Live f i) : ∃ u, Wd w u ∧ acc f (some i) u = true := by
  induction h with
  | ends e => exact ⟨[], Wd.nil, stops_at e⟩
  | @step i j b r e hm _ ih =>
    obtain ⟨u, hu, ha⟩ := ih
    obtain ⟨k, hk⟩ := List.mem_iff_getElem?.mp hm
    have hkw : k < w := by have := (List.getElem?_eq_some_iff.mp hk).1; rwa [ok.row i b r e] at this
    exact ⟨k :: u, hu.cons hkw, by show acc f (step f (some i) k) u = true; rw [step_at e hk]; exact ha⟩
/-- nothing twice, and all among m -/
theorem nodup_le {α : Type} : ∀ {l m : List α}, l.Nodup → (∀ x ∈ l, x ∈ m) → l.length ≤ m.length
  | [], _, _, _ => Nat.zero_le _
  | a :: l, m, hn, hs => by
    obtain ⟨s, t, e⟩ := List.append_of_mem (hs a List.mem_cons_self)
    subst e
    rw [List.nodup_cons] at hn
    have := nodup_le (l := l) (m := s ++ t) hn.2 (fun x hx => by
      have := hs x (List.mem_cons_of_mem _ hx)
      rcases List.mem_append.mp this with h | h
      · exact List.mem_append_left _ h
      · rcases List.mem_cons.mp h with h | h
        · subst h; exact absurd hx hn.1
        · exact List.mem_append_right _ h)
    rw [List.length_append] at this
    rw [List.length_append, List.length_cons, List.length_cons]
    omega
/-- the numbers of the places of a form come in order -/
def Lx (a b : Nat × Nat) : Prop := a.1 < b.1 ∨ (a.1 = b.1 ∧ a.2 < b.2)
structure Lst (w : Nat) (g : Fm) : Prop where
  ok : Ok w g
  live : ∀ n : Nat, n < g.length → ∃ u, Wd w u ∧ acc g (some n) u = true
  dist : ∀ n m : Nat, n < g.length → m < g.length → (∀ u, Wd w u → acc g (some n) u = acc g (some m) u) → n = m
  bfs : ∀ n : Nat, 1 ≤ n → n < g.length → ∃ p s : Nat, p < n ∧ step g (some p) s = some n ∧ ∀ p' s' m : Nat, Lx (p', s') (p, s) → step g (some p') s' = some m → m < n
theorem step_w {w : Nat} {g : Fm} (ok : Ok w g) {p s m : Nat} (h : step g (some p) s = some m) : p < g.length ∧ s < w := by
  unfold step at h
  simp only at h
  cases e : g[p]? with
  | none => rw [e] at h; cases h
  | some x =>
    obtain ⟨b, r⟩ := x
    rw [e] at h
    simp only at h
    cases e2 : r[s]? with
    | none => rw [e2] at h; cases h
    | some o => exact ⟨(List.getElem?_eq_some_iff.mp e).1, by rw [← ok.row p b r e]; exact (List.getElem?_eq_some_iff.mp e2).1⟩
/-- a residual in the other form -/
theorem lst_step {w : Nat} {g h : Fm} (lg : Lst w g) (lh : Lst w h) {p s n : Nat} (hp : ∀ u, Wd w u → acc g (some p) u = acc h (some p) u) (hs : step g (some p) s = some n) : ∃ m, step h (some p) s = some m ∧ m < h.length ∧ ∀ u, Wd w u → acc g (some n) u = acc h (some m) u := by
  obtain ⟨hpl, hsw⟩ := step_w lg.ok hs
  have key : ∀ u, Wd w u → acc g (some n) u = acc h (step h (some p) s) u := fun u hu => by
    have := hp (s :: u) (hu.cons hsw)
    show acc g (some n) u = _
    rw [← hs]
    exact this
  cases e : step h (some p) s with
  | none =>
    obtain ⟨u, hu, ha⟩ := lg.live n (step_lt lg.ok hs)
    have := key u hu
    rw [e, acc_none, ha] at this
    cases this
  | some m =>
    rw [e] at key
    exact ⟨m, rfl, step_lt lh.ok e, key⟩
theorem lst_same_aux {w : Nat} {g h : Fm} (lg : Lst w g) (lh : Lst w h) (h0 : ∀ u, Wd w u → acc g (some 0) u = acc h (some 0) u) (hg0 : 0 < g.length) (hh0 : 0 < h.length) :
    ∀ n : Nat, (∀ k : Nat, k < n → (k < g.length ↔ k < h.length) ∧ (k < g.length → ∀ u, Wd w u → acc g (some k) u = acc h (some k) u)) → n < g.length → n < h.length ∧ ∀ u, Wd w u → acc g (some n) u = acc h (some n) u := by
  intro n ih hn
  by_cases h1 : n = 0
  · subst h1
    exact ⟨hh0, h0⟩
  · obtain ⟨p, s, hp, hs, hb⟩ := lg.bfs n (by omega) hn
    obtain ⟨m, e1, e2, e3⟩ := lst_step lg lh ((ih p hp).2 (by omega)) hs
    have hmn : m = n := by
      rcases Nat.lt_trichotomy m n with hl | hl | hl
      · have q := ih m hl
        have := lg.dist m n (by omega) hn (fun u hu => by rw [e3 u hu, q.2 (by omega) u hu])
        omega
      · exact hl
      · obtain ⟨p', s', hp', hs', hb'⟩ := lh.bfs n (by omega) (by omega)
        have lx : Lx (p', s') (p, s) := by
          unfold Lx
          apply Classical.byContradiction
          intro hno
          by_cases he : p' = p ∧ s' = s
          · obtain ⟨rfl, rfl⟩ := he
            rw [e1] at hs'
            injection hs'
            omega
          · have : Lx (p, s) (p', s') := by unfold Lx; simp only at hno ⊢; omega
            have := hb' p s m this e1
            omega
        obtain ⟨m', f1, f2, f3⟩ := lst_step lh lg (fun u hu => ((ih p' hp').2 (by omega) u hu).symm) hs'
        have hm' := hb p' s' m' lx f1
        have q := ih m' hm'
        have := lh.dist m' n (by omega) (by omega) (fun u hu => by rw [f3 u hu, ← q.2 (by omega) u hu])
        omega
    subst hmn
    exact ⟨e2, e3⟩
theorem lst_same {w : Nat} {g h : Fm} (lg : Lst w g) (lh : Lst w h) (h0 : ∀ u, Wd w u → acc g (start g) u = acc h (start h) u) : g = h := by
  by_cases hg : g.length = 0
  · by_cases hh : h.length = 0
    · rw [List.length_eq_zero_iff.mp hg, List.length_eq_zero_iff.mp hh]
    · obtain ⟨u, hu, ha⟩ := lh.live 0 (by omega)
      have := h0 u hu
      unfold start at this
      rw [if_pos hg, if_neg hh, acc_none, ha] at this
      cases this
  · by_cases hh : h.length = 0
    · obtain ⟨u, hu, ha⟩ := lg.live 0 (by omega)
      have := h0 u hu
      unfold start at this
      rw [if_pos hh, if_neg hg, acc_none, ha] at this
      cases this
    · have h00 : ∀ u, Wd w u → acc g (some 0) u = acc h (some 0) u := fun u hu => by
        have := h0 u hu
        unfold start at this
        rw [if_neg hg, if_neg hh] at this
        exact this
      have all : ∀ n k : Nat, k < n → (k < g.length ↔ k < h.length) ∧ (k < g.length → ∀ u, Wd w u → acc g (some k) u = acc h (some k) u) := by
        intro n
        induction n with
        | zero => intro k hk; omega
        | succ n ih =>
          intro k hk
          by_cases hkn : k < n
          · exact ih k hkn
          · have : k = n := by omega
            subst this
            have a1 := lst_same_aux lg lh h00 (by omega) (by omega) k ih
            have a2 := lst_same_aux lh lg (fun u hu => (h00 u hu).symm) (by omega) (by omega) k (fun j hj => ⟨(ih j hj).1.symm, fun hl u hu => ((ih j hj).2 ((ih j hj).1.mpr hl) u hu).symm⟩)
            exact ⟨⟨fun z => (a1 z).1, fun z => (a2 z).1⟩, fun z => (a1 z).2⟩
      have len : g.length = h.length := by
        have a := (all (g.length + h.length + 1) g.length (by omega)).1
        have b := (all (g.length + h.length + 1) h.length (by omega)).1
        omega
      apply List.ext_getElem?
      intro i
      by_cases hi : i < g.length
      · obtain ⟨⟨b, r⟩, e⟩ := at_ex hi
        obtain ⟨⟨b', r'⟩, e'⟩ := at_ex (l := h) (i := i) (by omega)
        rw [e, e']
        have q := (all (i + 1) i (by omega)).2 hi
        have q0 := q [] Wd.nil
        have q0 : stops g (some i) = stops h (some i) := q0
        rw [stops_at e, stops_at e'] at q0
        subst q0
        have hrl := lg.ok.row i b r e
        have hrl' := lh.ok.row i b r' e'
        congr 2
        apply List.ext_getElem?
        intro k
        by_cases hk : k < w
        · obtain ⟨o, ho⟩ := at_ex (l := r) (i := k) (by omega)
          obtain ⟨o', ho'⟩ := at_ex (l := r') (i := k) (by omega)
          rw [ho, ho']
          congr 1
          have s1 := step_at e ho
          have s2 := step_at e' ho'
          cases o with
          | some n =>
            obtain ⟨m, f1, f2, f3⟩ := lst_step lg lh q s1
            rw [s2] at f1
            subst f1
            have hn := step_lt lg.ok s1
            have := lh.dist m n f2 (by omega) (fun u hu => by rw [← f3 u hu, (all (n + 1) n (by omega)).2 hn u hu])
            rw [this]
          | none =>
            cases o' with
            | none => rfl
            | some m =>
              obtain ⟨n, f1, _, _⟩ := lst_step lh lg (fun u hu => (q u hu).symm) s2
              rw [s1] at f1
              cases f1
        · rw [List.getElem?_eq_none (by omega), List.getElem?_eq_none (by omega)]
      · rw [List.getElem?_eq_none (by omega), List.getElem?_eq_none (by omega)]
end F
namespace F
open PySem L2 R
theorem nodup_map {α β : Type} {g : α → β} : ∀ {l : List α}, (l.map g).Nodup → l.Nodup
  | [], _ => List.nodup_nil
  | a :: l, h => by
    rw [List.map_cons, List.nodup_cons] at h
    rw [List.nodup_cons]
    exact ⟨fun z => h.1 (List.mem_map.mpr ⟨a, z, rfl⟩), nodup_map h.2⟩
/-! the walk of least_form -/
section
variable (cl : List Nat)
abbrev cc (t : Nat) : Nat := cl.getD t 0
def addO (od : List Nat) (o : Option Nat) : List Nat := match o with
  | none => od
  | some t => if cc cl t ∈ od.map (cc cl) then od else od ++ [t]
def numO (od : List Nat) (o : Option Nat) : Option Nat := match o with
  | none => none
  | some t => some (ps (od.map (cc cl)) (cc cl t))
end
/-- what stands in the middle of the walk: od the found states, g the rows so far (the last one perhaps not whole) -/
structure Bf (w : Nat) (f : Fm) (rows : List (List (Option Nat))) (cl : List Nat) (od : List Nat) (g : Fm) : Prop where
  nd : (od.map (cc cl)).Nodup
  zero : od[0]? = some 0
  lt : ∀ t ∈ od, t < f.length
  live : ∀ t ∈ od, Live f t
  glen : g.length ≤ od.length
  at' : ∀ (p t : Nat) (b : Bool) (r : List (Option Nat)), od[p]? = some t → g[p]? = some (b, r) → (∃ r', f[t]? = some (b, r')) ∧ ∀ (s : Nat) (o : Option Nat), r[s]? = some o → ∃ a rt, rows[t]? = some rt ∧ rt[s]? = some a ∧ o = numO cl od a ∧ ∀ x, a = some x → cc cl x ∈ od.map (cc cl)
  bfs : ∀ n : Nat, 1 ≤ n → n < od.length → ∃ p s : Nat, p < n ∧ step g (some p) s = some n ∧ ∀ p' s' m : Nat, Lx (p', s') (p, s) → step g (some p') s' = some m → m < n
theorem numO_add {cl od : List Nat} {t : Nat} {a : Option Nat} (h : ∀ x, a = some x → cc cl x ∈ od.map (cc cl)) : numO cl (od ++ [t]) a = numO cl od a := by
  cases a with
  | none => rfl
  | some x =>
    show some (ps ((od ++ [t]).map (cc cl)) (cc cl x)) = some _
    rw [List.map_append, ps_app _ (h x rfl)]
theorem numO_lt {cl od : List Nat} {a : Option Nat} {m : Nat} (h : ∀ x, a = some x → cc cl x ∈ od.map (cc cl)) (e : numO cl od a = some m) : m < od.length := by
  cases a with
  | none => cases e
  | some x =>
    have e : ps (od.map (cc cl)) (cc cl x) = m := Option.some.inj e
    have := ps_lt (h x rfl)
    rw [List.length_map] at this
    omega
/-- steps of the rows so far lead to found states -/
theorem Bf.step_lt {w : Nat} {f : Fm} {rows : List (List (Option Nat))} {cl od : List Nat} {g : Fm} (h : Bf w f rows cl od g) {p s m : Nat} (hs : step g (some p) s = some m) : m < od.length := by
  unfold step at hs
  simp only at hs
  cases e : g[p]? with
  | none => rw [e] at hs; cases hs
  | some x =>
    obtain ⟨b, r⟩ := x
    rw [e] at hs
    simp only at hs
    cases e2 : r[s]? with
    | none => rw [e2] at hs; cases hs
    | some o =>
      rw [e2] at hs
      simp only [Option.getD_some] at hs
      subst hs
      have hp := (List.getElem?_eq_some_iff.mp e).1
      obtain ⟨t, ht⟩ := at_ex (l := od) (i := p) (by have := h.glen; omega)
      obtain ⟨_, h2⟩ := h.at' p t b r ht e
      obtain ⟨a, rt, _, _, h5, h6⟩ := h2 s _ e2
      exact numO_lt h6 h5.symm
theorem step_snoc {g : Fm} {b : Bool} {row : List (Option Nat)} {o : Option Nat} {p s : Nat} : step (g ++ [(b, row ++ [o])]) (some p) s = if p = g.length ∧ s = row.length then o else step (g ++ [(b, row)]) (some p) s := by
  unfold step
  simp only
  by_cases hp : p < g.length
  · rw [if_neg (by omega), List.getElem?_append_left hp, List.getElem?_append_left hp]
  · by_cases hp2 : p = g.length
    · subst hp2
      have e1 : ∀ x : Fs, (g ++ [x])[g.length]? = some x := fun x => by simp
      rw [e1, e1]
      simp only
      by_cases hs : s = row.length
      · subst hs
        rw [if_pos (by simp)]
        have : (row ++ [o])[row.length]? = some o := by simp
        rw [this]
        rfl
      · rw [if_neg (fun z => hs z.2)]
        by_cases hs2 : s < row.length
        · rw [List.getElem?_append_left hs2]
        · rw [List.getElem?_eq_none (by rw [List.length_append, List.length_singleton]; omega), List.getElem?_eq_none (by omega)]
    · rw [if_neg (fun z => hp2 z.1), List.getElem?_eq_none (by rw [List.length_append, List.length_singleton]; omega), List.getElem?_eq_none (by rw [List.length_append, List.length_singleton]; omega)]
theorem row_of {g : Fm} {b : Bool} {row : List (Option Nat)} {p s m : Nat} (h : step (g ++ [(b, row)]) (some p) s = some m) : p < g.length ∨ (p = g.length ∧ s < row.length) := by
  unfold step at h
  simp only at h
  by_cases hp : p < g.length
  · exact .inl hp
  · by_cases hp2 : p = g.length
    · subst hp2
      have e1 : (g ++ [(b, row)])[g.length]? = some (b, row) := by simp
      rw [e1] at h
      simp only at h
      refine .inr ⟨rfl, ?_⟩
      apply Classical.byContradiction
      intro hs
      rw [List.getElem?_eq_none (by omega)] at h
      cases h
    · rw [List.getElem?_eq_none (by rw [List.length_append, List.length_singleton]; omega)] at h
      cases h
/-- one symbol more of the last row -/
theorem Bf.turn {w : Nat} {f : Fm} {rows : List (List (Option Nat))} {cl od : List Nat} {g : Fm} {b : Bool} {row : List (Option Nat)} (h : Bf w f rows cl od (g ++ [(b, row)])) {t : Nat} {rt : List (Option Nat)} {a : Option Nat}
    (ht : od[g.length]? = some t) (hr : rows[t]? = some rt) (ha : rt[row.length]? = some a) (hal : ∀ x, a = some x → x < f.length ∧ Live f x) : Bf w f rows cl (addO cl od a) (g ++ [(b, row ++ [numO cl (addO cl od a) a])]) := by
  have same : ∀ od' : List Nat, (∀ x, a = some x → cc cl x ∈ od'.map (cc cl)) → (∀ (p u : Nat), od[p]? = some u → od'[p]? = some u) → (∀ (c : Option Nat), (∀ x, c = some x → cc cl x ∈ od.map (cc cl)) → numO cl od' c = numO cl od c ∧ ∀ x, c = some x → cc cl x ∈ od'.map (cc cl)) → (od'[g.length]? = some t) →
      ∀ (p u : Nat) (b' : Bool) (r : List (Option Nat)), p < od.length → od'[p]? = some u → (g ++ [(b, row ++ [numO cl od' a])])[p]? = some (b', r) → (∃ r', f[u]? = some (b', r')) ∧ ∀ (s : Nat) (o : Option Nat), r[s]? = some o → ∃ a' rt', rows[u]? = some rt' ∧ rt'[s]? = some a' ∧ o = numO cl od' a' ∧ ∀ x, a' = some x → cc cl x ∈ od'.map (cc cl) := by
    intro od' hin hpre hnum htt p u b' r hpl hu hg
    obtain ⟨u', hu'⟩ := at_ex hpl
    have := hpre p u' hu'
    rw [hu] at this
    cases this
    by_cases hp : p < g.length
    · rw [List.getElem?_append_left hp] at hg
      obtain ⟨h1, h2⟩ := h.at' p u b' r hu' (by rw [List.getElem?_append_left hp]; exact hg)
      refine ⟨h1, fun s o ho => ?_⟩
      obtain ⟨a', rt', x1, x2, x3, x4⟩ := h2 s o ho
      obtain ⟨y1, y2⟩ := hnum a' x4
      exact ⟨a', rt', x1, x2, by rw [x3, y1], y2⟩
    · have hp2 : p = g.length := by
        have := (List.getElem?_eq_some_iff.mp hg).1
        rw [List.length_append, List.length_singleton] at this
        omega
      subst hp2
      have e1 : ∀ x : Fs, (g ++ [x])[g.length]? = some x := fun x => by simp
      rw [e1] at hg
      cases hg
      rw [ht] at hu'
      cases hu'
      obtain ⟨h1, h2⟩ := h.at' g.length t b row ht (e1 _)
      refine ⟨h1, fun s o ho => ?_⟩
      by_cases hs : s < row.length
      · rw [List.getElem?_append_left hs] at ho
        obtain ⟨a', rt', x1, x2, x3, x4⟩ := h2 s o ho
        obtain ⟨y1, y2⟩ := hnum a' x4
        exact ⟨a', rt', x1, x2, by rw [x3, y1], y2⟩
      · have hs2 : s = row.length := by
          have := (List.getElem?_eq_some_iff.mp ho).1
          rw [List.length_append, List.length_singleton] at this
          omega
        subst hs2
        have e2 : (row ++ [numO cl od' a])[row.length]? = some (numO cl od' a) := by simp
        rw [e2] at ho
        cases ho
        exact ⟨a, rt, hr, ha, rfl, hin⟩
  have gl : ∀ o, (g ++ [(b, row ++ [o])]).length = (g ++ [(b, row)]).length := fun o => by simp
  have old : (∀ x, a = some x → cc cl x ∈ od.map (cc cl)) → Bf w f rows cl od (g ++ [(b, row ++ [numO cl od a])]) := fun hin => by
    refine ⟨h.nd, h.zero, h.lt, h.live, by rw [gl]; exact h.glen, fun p u b' r hu hg => ?_, fun n h1 h2 => ?_⟩
    · exact same od hin (fun _ _ z => z) (fun c hc => ⟨rfl, hc⟩) ht p u b' r (List.getElem?_eq_some_iff.mp hu).1 hu hg
    · obtain ⟨p, s, x1, x2, x3⟩ := h.bfs n h1 h2
      have hps := row_of x2
      refine ⟨p, s, x1, ?_, fun p' s' m hl hm => ?_⟩
      · rw [step_snoc, if_neg (by omega)]
        exact x2
      · rw [step_snoc] at hm
        by_cases hc : p' = g.length ∧ s' = row.length
        · exfalso
          unfold Lx at hl
          simp only at hl
          omega
        · rw [if_neg hc] at hm
          exact x3 p' s' m hl hm
  cases a with
  | none => exact old (fun x hx => nomatch hx)
  | some x =>
    by_cases hx : cc cl x ∈ od.map (cc cl)
    · have e : addO cl od (some x) = od := if_pos hx
      rw [e]
      exact old (fun y hy => by cases hy; exact hx)
    · have e : addO cl od (some x) = od ++ [x] := if_neg hx
      rw [e]
      obtain ⟨l1, l2⟩ := hal x rfl
      have n1 : numO cl (od ++ [x]) (some x) = some od.length := by
        show some (ps ((od ++ [x]).map (cc cl)) (cc cl x)) = _
        rw [List.map_append, List.map_singleton, ps_new [] hx, List.length_map]
      have pre : ∀ (p u : Nat), od[p]? = some u → (od ++ [x])[p]? = some u := fun p u hu => by rw [List.getElem?_append_left (List.getElem?_eq_some_iff.mp hu).1]; exact hu
      refine ⟨by rw [List.map_append]; exact nodup_snoc h.nd hx, pre 0 0 h.zero, fun y hy => ?_, fun y hy => ?_, by rw [gl]; have := h.glen; simp only [List.length_append, List.length_singleton] at this ⊢; omega, fun p u b' r hu hg => ?_, fun n h1 h2 => ?_⟩
      · rcases List.mem_append.mp hy with hy | hy
        · exact h.lt y hy
        · rw [List.mem_singleton] at hy; rw [hy]; exact l1
      · rcases List.mem_append.mp hy with hy | hy
        · exact h.live y hy
        · rw [List.mem_singleton] at hy; rw [hy]; exact l2
      · refine same (od ++ [x]) (fun y hy => by cases hy; rw [List.map_append]; exact List.mem_append_right _ List.mem_cons_self) pre (fun c hc => ⟨numO_add hc, fun y hy => by rw [List.map_append]; exact List.mem_append_left _ (hc y hy)⟩) (pre _ _ ht) p u b' r ?_ hu hg
        have := (List.getElem?_eq_some_iff.mp hg).1
        have h3 := h.glen
        rw [gl] at this
        omega
      · rw [n1]
        rw [List.length_append, List.length_singleton] at h2
        by_cases hn : n < od.length
        · obtain ⟨p, s, x1, x2, x3⟩ := h.bfs n h1 hn
          have hps := row_of x2
          refine ⟨p, s, x1, ?_, fun p' s' m hl hm => ?_⟩
          · rw [step_snoc, if_neg (by omega)]
            exact x2
          · rw [step_snoc] at hm
            by_cases hc : p' = g.length ∧ s' = row.length
            · exfalso
              unfold Lx at hl
              simp only at hl
              omega
            · rw [if_neg hc] at hm
              exact x3 p' s' m hl hm
        · have hn' : n = od.length := by omega
          subst hn'
          refine ⟨g.length, row.length, ?_, by rw [step_snoc, if_pos ⟨rfl, rfl⟩], fun p' s' m hl hm => ?_⟩
          · exact (List.getElem?_eq_some_iff.mp ht).1
          · rw [step_snoc] at hm
            by_cases hc : p' = g.length ∧ s' = row.length
            · exfalso
              unfold Lx at hl
              simp only at hl
              omega
            · rw [if_neg hc] at hm
              exact h.step_lt hm
/-- a new row begins -/
theorem Bf.row {w : Nat} {f : Fm} {rows : List (List (Option Nat))} {cl od : List Nat} {g : Fm} (h : Bf w f rows cl od g) {t : Nat} {b : Bool} {r : List (Option Nat)} (ht : od[g.length]? = some t) (e : f[t]? = some (b, r)) : Bf w f rows cl od (g ++ [(b, [])]) := by
  have hl := (List.getElem?_eq_some_iff.mp ht).1
  have st : ∀ p s, step (g ++ [(b, [])]) (some p) s = step g (some p) s := fun p s => by
    unfold step
    simp only
    by_cases hp : p < g.length
    · rw [List.getElem?_append_left hp]
    · rw [List.getElem?_eq_none (l := g) (by omega)]
      by_cases hp2 : p = g.length
      · subst hp2
        have : (g ++ [(b, ([] : List (Option Nat)))])[g.length]? = some (b, []) := by simp
        rw [this]
        rfl
      · rw [List.getElem?_eq_none (by rw [List.length_append, List.length_singleton]; omega)]
  refine ⟨h.nd, h.zero, h.lt, h.live, by rw [List.length_append, List.length_singleton]; omega, fun p u b' r' hu hg => ?_, fun n h1 h2 => ?_⟩
  · by_cases hp : p < g.length
    · rw [List.getElem?_append_left hp] at hg
      exact h.at' p u b' r' hu hg
    · have hp2 : p = g.length := by
        have := (List.getElem?_eq_some_iff.mp hg).1
        rw [List.length_append, List.length_singleton] at this
        omega
      subst hp2
      have : (g ++ [(b, ([] : List (Option Nat)))])[g.length]? = some (b, []) := by simp
      rw [this] at hg
      cases hg
      rw [ht] at hu
      cases hu
      exact ⟨⟨r, e⟩, fun s o ho => by simp at ho⟩
  · obtain ⟨p, s, x1, x2, x3⟩ := h.bfs n h1 h2
    exact ⟨p, s, x1, by rw [st]; exact x2, fun p' s' m hl hm => x3 p' s' m hl (by rw [← st]; exact hm)⟩
/-- at the end: a least form of the same texts -/
theorem Bf.fin {w : Nat} {f : Fm} {fl : List Bool} {cl od : List Nat} {g : Fm} (ok : Ok w f) (hfl : fl.length = f.length) (hlv : ∀ i : Nat, fl[i]? = some true ↔ Live f i) (hc : Cl f (rowsOf f fl) cl) (h : Bf w f (rowsOf f fl) cl od g) (hl : g.length = od.length) (hrow : ∀ (i : Nat) (b : Bool) (r : List (Option Nat)), g[i]? = some (b, r) → r.length = w) :
    Lst w g ∧ g.length ≤ f.length ∧ ∀ u, Wd w u → acc g (some 0) u = acc f (some 0) u := by
  have clat : ∀ t : Nat, t < f.length → cl[t]? = some (cc cl t) := fun t ht => by
    obtain ⟨c, hc'⟩ := at_ex (l := cl) (i := t) (by rw [hc.nu.len]; exact ht)
    show cl[t]? = some (cl.getD t 0)
    rw [List.getD_eq_getElem?_getD, hc']
    rfl
  have rwat : ∀ (t : Nat) (b : Bool) (r : List (Option Nat)), f[t]? = some (b, r) → (rowsOf f fl)[t]? = some (r.map (keep fl)) := fun t b r e => by unfold rowsOf; rw [List.getElem?_map, e]; rfl
  have kp : ∀ x : Nat, x < f.length → keep fl (some x) = some x ∧ Live f x ∨ keep fl (some x) = none ∧ ¬ Live f x := fun x hx => by
    obtain ⟨v, hv⟩ := at_ex (l := fl) (i := x) (by rw [hfl]; exact hx)
    have : keep fl (some x) = if fl.getD x false = true then some x else none := rfl
    rw [this, List.getD_eq_getElem?_getD, hv]
    cases v with
    | true => exact .inl ⟨rfl, (hlv x).mp hv⟩
    | false => exact .inr ⟨rfl, fun z => by rw [(hlv x).mpr z] at hv; cases hv⟩
  have main : ∀ (u : List Nat) (n t t' : Nat), Wd w u → od[n]? = some t → t' < f.length → cc cl t' = cc cl t → acc g (some n) u = acc f (some t') u := by
    intro u
    induction u with
    | nil =>
      intro n t t' _ hn ht' hcc
      obtain ⟨⟨b, r⟩, e⟩ := at_ex (l := g) (i := n) (by rw [hl]; exact (List.getElem?_eq_some_iff.mp hn).1)
      obtain ⟨⟨r1, e1⟩, _⟩ := h.at' n t b r hn e
      obtain ⟨⟨b2, r2⟩, e2⟩ := at_ex ht'
      show stops g (some n) = stops f (some t')
      rw [stops_at e, stops_at e2]
      have ht := h.lt t (List.mem_of_getElem? hn)
      exact hc.nu.ends t t' (cc cl t) b b2 r1 r2 (clat t ht) (by rw [clat t' ht', hcc]) e1 e2
    | cons k u ih =>
      intro n t t' hw hn ht' hcc
      have hk := hw.head
      obtain ⟨⟨b, r⟩, e⟩ := at_ex (l := g) (i := n) (by rw [hl]; exact (List.getElem?_eq_some_iff.mp hn).1)
      obtain ⟨⟨r1, e1⟩, h2⟩ := h.at' n t b r hn e
      obtain ⟨⟨b2, r2⟩, e2⟩ := at_ex ht'
      have ht := h.lt t (List.mem_of_getElem? hn)
      obtain ⟨o, ho⟩ := at_ex (l := r) (i := k) (by rw [hrow n b r e]; exact hk)
      obtain ⟨o2, ho2⟩ := at_ex (l := r2) (i := k) (by rw [ok.row t' b2 r2 e2]; exact hk)
      show acc g (step g (some n) k) u = acc f (step f (some t') k) u
      rw [step_at e ho, step_at e2 ho2]
      obtain ⟨a, rt, x1, x2, x3, x4⟩ := h2 k o ho
      have mv := hc.move t t' (cc cl t) rt (r2.map (keep fl)) (clat t ht) (by rw [clat t' ht', hcc]) x1 (rwat t' b2 r2 e2)
      have mk : cO cl a = cO cl (keep fl o2) := by
        have := congrArg (fun l => l[k]?) mv
        simp only [List.getElem?_map, x2, ho2, Option.map_some, Option.some.injEq] at this
        exact this
      cases o2 with
      | none =>
        have : a = none := by
          cases a with
          | none => rfl
          | some y => cases mk
        subst this
        subst x3
        show acc g none u = acc f none u
        rw [acc_none, acc_none]
      | some y =>
        have hy := ok.tgt t' b2 r2 y e2 (List.mem_of_getElem? ho2)
        rcases kp y hy with ⟨k1, k2⟩ | ⟨k1, k2⟩
        · rw [k1] at mk
          cases a with
          | none => cases mk
          | some z =>
            have mk : cc cl z = cc cl y := Option.some.inj mk
            have hz := x4 z rfl
            have hp := ps_at hz
            rw [List.getElem?_map] at hp
            cases ez : od[ps (od.map (cc cl)) (cc cl z)]? with
            | none => rw [ez] at hp; cases hp
            | some q =>
              rw [ez] at hp
              have hp : cc cl q = cc cl z := Option.some.inj hp
              subst x3
              exact ih (ps (od.map (cc cl)) (cc cl z)) q y hw.tail ez hy (by rw [hp, mk])
        · rw [k1] at mk
          have : a = none := by
            cases a with
            | none => rfl
            | some y => cases mk
          subst this
          subst x3
          show acc g none u = acc f (some y) u
          rw [acc_none]
          cases hf : acc f (some y) u with
          | false => rfl
          | true => exact absurd (acc_live ok u y hf) k2
  have bis : Bis f (rowsOf f fl) (fun i j => i < f.length ∧ j < f.length ∧ ∀ u, Wd w u → acc f (some i) u = acc f (some j) u) := by
    refine ⟨fun i j b b' r r' hE e1 e2 => ?_, fun i j r r' hE e1 e2 k a b ha hb => ?_⟩
    · have := hE.2.2 [] Wd.nil
      have this : stops f (some i) = stops f (some j) := this
      rwa [stops_at e1, stops_at e2] at this
    · obtain ⟨⟨b1, r1⟩, f1⟩ := at_ex hE.1
      obtain ⟨⟨b2, r2⟩, f2⟩ := at_ex hE.2.1
      rw [rwat i b1 r1 f1] at e1
      rw [rwat j b2 r2 f2] at e2
      cases e1
      cases e2
      rw [List.getElem?_map] at ha hb
      have hk : k < w := by
        rw [← ok.row i b1 r1 f1]
        apply Classical.byContradiction
        intro z
        rw [List.getElem?_eq_none (by omega)] at ha
        cases ha
      obtain ⟨o1, ho1⟩ := at_ex (l := r1) (i := k) (by rw [ok.row i b1 r1 f1]; exact hk)
      obtain ⟨o2, ho2⟩ := at_ex (l := r2) (i := k) (by rw [ok.row j b2 r2 f2]; exact hk)
      rw [ho1] at ha
      rw [ho2] at hb
      have ha : keep fl o1 = a := Option.some.inj ha
      have hb : keep fl o2 = b := Option.some.inj hb
      have hk2 : ∀ u, Wd w u → acc f o1 u = acc f o2 u := fun u hu => by
        have := hE.2.2 (k :: u) (hu.cons hk)
        have this : acc f (step f (some i) k) u = acc f (step f (some j) k) u := this
        rwa [step_at f1 ho1, step_at f2 ho2] at this
      have dead : ∀ o : Option Nat, (∀ x, o = some x → x < f.length) → (keep fl o = none ∧ ∀ u, acc f o u = false) ∨ ∃ x, o = some x ∧ keep fl o = some x ∧ Live f x ∧ x < f.length := fun o hx => by
        cases o with
        | none => exact .inl ⟨rfl, acc_none f⟩
        | some x =>
          rcases kp x (hx x rfl) with ⟨k1, k2⟩ | ⟨k1, k2⟩
          · exact .inr ⟨x, rfl, k1, k2, hx x rfl⟩
          · refine .inl ⟨k1, fun u => ?_⟩
            cases hf : acc f (some x) u with
            | false => rfl
            | true => exact absurd (acc_live ok u x hf) k2
      rcases dead o1 (fun x hx => ok.tgt i b1 r1 x f1 (by rw [← hx]; exact List.mem_of_getElem? ho1)) with ⟨d1, d2⟩ | ⟨x, d1, d2, d3, d4⟩
      · rcases dead o2 (fun x hx => ok.tgt j b2 r2 x f2 (by rw [← hx]; exact List.mem_of_getElem? ho2)) with ⟨c1, c2⟩ | ⟨y, c1, c2, c3, c4⟩
        · exact .inl ⟨by rw [← ha, d1], by rw [← hb, c1]⟩
        · exfalso
          obtain ⟨u, hu, hy⟩ := live_acc ok c3
          have := hk2 u hu
          rw [d2, c1, hy] at this
          cases this
      · rcases dead o2 (fun x hx => ok.tgt j b2 r2 x f2 (by rw [← hx]; exact List.mem_of_getElem? ho2)) with ⟨c1, c2⟩ | ⟨y, c1, c2, c3, c4⟩
        · exfalso
          obtain ⟨u, hu, hy⟩ := live_acc ok d3
          have := hk2 u hu
          rw [c2, d1, hy] at this
          cases this
        · refine .inr ⟨x, y, by rw [← ha, d2], by rw [← hb, c2], d4, c4, fun u hu => ?_⟩
          have := hk2 u hu
          rwa [d1, c1] at this
  have self : ∀ (u : List Nat) (n t : Nat), Wd w u → od[n]? = some t → acc g (some n) u = acc f (some t) u := fun u n t hu hn => main u n t t hu hn (h.lt t (List.mem_of_getElem? hn)) rfl
  have odl : od.length ≤ f.length := by
    have nd : od.Nodup := nodup_map h.nd
    have := nodup_le nd (m := List.range f.length) (fun x hx => List.mem_range.mpr (h.lt x hx))
    rwa [List.length_range] at this
  have okg : Ok w g := by
    refine ⟨hrow, fun i b r j e hj => ?_, by have := ok.bnd; omega, ok.wid⟩
    obtain ⟨s, hs⟩ := List.mem_iff_getElem?.mp hj
    rw [hl]
    exact h.step_lt (step_at e hs)
  refine ⟨⟨okg, fun n hn => ?_, fun n m hn hm hu => ?_, fun n h1 h2 => h.bfs n h1 (by omega)⟩, by omega, fun u hu => self u 0 0 hu h.zero⟩
  · obtain ⟨t, ht⟩ := at_ex (l := od) (i := n) (by omega)
    obtain ⟨u, hu, ha⟩ := live_acc ok (h.live t (List.mem_of_getElem? ht))
    exact ⟨u, hu, by rw [self u n t hu ht]; exact ha⟩
  · obtain ⟨t, ht⟩ := at_ex (l := od) (i := n) (by omega)
    obtain ⟨t', ht'⟩ := at_ex (l := od) (i := m) (by omega)
    have l1 := h.lt t (List.mem_of_getElem? ht)
    have l2 := h.lt t' (List.mem_of_getElem? ht')
    have := hc.nu.bis _ bis t t' l1 l2 ⟨l1, l2, fun u hu' => by rw [← self u n t hu' ht, ← self u m t' hu' ht', hu u hu']⟩
    rw [clat t l1, clat t' l2] at this
    have this := Option.some.inj this
    have a1 := ps_of h.nd (i := n) (k := cc cl t) (by rw [List.getElem?_map, ht]; rfl)
    have a2 := ps_of h.nd (i := m) (k := cc cl t') (by rw [List.getElem?_map, ht']; rfl)
    rw [this] at a1
    omega
end F
namespace F
open PySem L2 R
/-! least_form -/
def ck (cl od : List Nat) : List NestedKey := od.map fun t => .num (cc cl t : Int)
theorem ck_eq (cl od : List Nat) : ck cl od = (od.map (cc cl)).map fun (n : Nat) => NestedKey.num (n : Int) := by unfold ck; rw [List.map_map]; rfl
theorem nnum_inj {a b : Nat} (h : NestedKey.num (a : Int) = .num (b : Int)) : a = b := by injection h with h; exact Int.ofNat_inj.mp h
theorem nodup_mapI {α β : Type} {g : α → β} (hg : ∀ a b, g a = g b → a = b) : ∀ {l : List α}, l.Nodup → (l.map g).Nodup
  | [], _ => List.nodup_nil
  | a :: l, h => by
    rw [List.nodup_cons] at h
    rw [List.map_cons, List.nodup_cons]
    refine ⟨fun z => ?_, nodup_mapI hg h.2⟩
    obtain ⟨b, hb, e⟩ := List.mem_map.mp z
    rw [hg b a e] at hb
    exact h.1 hb
theorem ck_nd {cl od : List Nat} (h : (od.map (cc cl)).Nodup) : (ck cl od).Nodup := by rw [ck_eq]; exact nodup_mapI (fun a b => nnum_inj) h
theorem ck_mem {cl od : List Nat} {t : Nat} : NestedKey.num (cc cl t : Int) ∈ ck cl od ↔ cc cl t ∈ od.map (cc cl) := by
  rw [ck_eq]
  constructor
  · intro h
    obtain ⟨n, hn, e⟩ := List.mem_map.mp h
    rw [← nnum_inj e]
    exact hn
  · exact fun h => List.mem_map.mpr ⟨_, h, rfl⟩
theorem ck_kind (cl od : List Nat) (n : Nat) : kindOk (ixd (ck cl od)) (.num (n : Int)) = true := ixd_kind (fun x hx => by
  unfold ck at hx
  obtain ⟨t, _, rfl⟩ := List.mem_map.mp hx
  rfl) (by simp [NestedKey.depth])
theorem ck_ask (cl od : List Nat) (t : Nat) : kAt (some (.int (cc cl t : Int))) (some (ixd (ck cl od))) = some (lk (ixd (ck cl od)) (.num (cc cl t : Int))) := kAt_eq rfl (ck_kind cl od _)
theorem ck_in {cl od : List Nat} {t : Nat} (hd : (od.map (cc cl)).Nodup) (h : cc cl t ∈ od.map (cc cl)) : lk (ixd (ck cl od)) (.num (cc cl t : Int)) = some (.int (ps (od.map (cc cl)) (cc cl t) : Int)) := by
  refine ixd_at (ck_nd hd) ?_
  rw [ck_eq, List.getElem?_map, ps_at h]
  rfl
theorem ck_out {cl od : List Nat} {t : Nat} (h : cc cl t ∉ od.map (cc cl)) : lk (ixd (ck cl od)) (.num (cc cl t : Int)) = none := ixd_out (fun z => h (ck_mem.mp z))
theorem ck_put {cl od : List Nat} {t : Nat} (hl : od.length < 16777216) (h : cc cl t ∉ od.map (cc cl)) : dput (ixd (ck cl od)) (.int (cc cl t : Int)) (.int (od.length : Int)) = some (ixd (ck cl (od ++ [t]))) := by
  rw [dput_eq (k := .num (cc cl t : Int)) rfl (ck_kind cl od _) (by rw [ixd_len]; unfold ck; rw [List.length_map]; exact hl)]
  have e : (ck cl od).length = od.length := by unfold ck; rw [List.length_map]
  rw [← e, ixd_put (fun z => h (ck_mem.mp z))]
  unfold ck
  rw [List.map_append]
  rfl
section
variable (w : Nat) (d0 : D) (f : Fm) (rows : List (List (Option Nat))) (cl : List Nat)
abbrev LOs := List Nat × Fm × Option Sl × Option Sl × Option Sl × Option Sl
def loE (s : LOs) : Slots := [some (.d d0), some (.d (.int (w : Int))), some (.d (fD f)), some (.d (.lst (rows.map lD))), some (.d (.lst (nD cl))), some (.own (.lst (nD s.1))), some (.own (.dct (ixd (ck cl s.1)))), some (.own (.lst (s.2.1.map sD))), s.2.2.1, s.2.2.2.1, s.2.2.2.2.1, s.2.2.2.2.2]
abbrev LIs := List Nat × List (Option Nat) × Option Sl × Option Sl
def liE (g : Fm) (t : Nat) (s : LIs) : Slots := [some (.d d0), some (.d (.int (w : Int))), some (.d (fD f)), some (.d (.lst (rows.map lD))), some (.d (.lst (nD cl))), some (.own (.lst (nD s.1))), some (.own (.dct (ixd (ck cl s.1)))), some (.own (.lst (g.map sD))), some (.d (.int (t : Int))), some (.own (.lst (s.2.1.map oD))), s.2.2.1, s.2.2.2]
end
abbrev LIbody : MS := (mSeq (mSet 11 (m2 fIx (m2 fIx (mBor 3) (mBor 8)) (mBor 10)))
      (mSeq (mIf (mAnd (mT (m2 fIsNot (mBor 11) (mC .non))) (mT (mDIn true (m2 fIx (mBor 4) (mBor 11)) 6)))
        (mSeq (mDPut 6 (m2 fIx (mBor 4) (mBor 11)) (mCB fLen (mCons (mBor 5) mNil)))
        (mApp 5 (mVar 11)))
        mNext)
      (mApp 9 (mIfE (mT (m2 fIs (mBor 11) (mC .non))) (mC .non) (mDIx 6 (m2 fIx (mBor 4) (mBor 11)))))))
theorem lD_at {rows : List (List (Option Nat))} {i : Nat} {r : List (Option Nat)} (h : rows[i]? = some r) : atI (rows.map lD) (i : Int) = some (lD r) := atI_nat (by rw [List.getElem?_map, h]; rfl)
theorem lDo_at {r : List (Option Nat)} {k : Nat} {o : Option Nat} (h : r[k]? = some o) : fIx (lD r) (.int (k : Int)) = some (oD o) := atI_nat (by rw [List.getElem?_map, h]; rfl)
theorem oD_snoc (row : List (Option Nat)) (o : Option Nat) : row.map oD ++ [oD o] = (row ++ [o]).map oD := by rw [List.map_append]; rfl
theorem li_turn {w : Nat} {d0 : D} {f : Fm} {rows : List (List (Option Nat))} {cl : List Nat} {g : Fm} {t : Nat} {rt : List (Option Nat)} {od : List Nat} {row : List (Option Nat)} {a : Option Nat} {k : Nat} {x11 : Option Sl}
    (hr : rows[t]? = some rt) (ha : rt[k]? = some a) (hc : ∀ x, a = some x → cl[x]? = some (cc cl x)) (nd : (od.map (cc cl)).Nodup) (ho : od.length < 16777216) (hw : row.length < 16777216) :
    LIbody (liE w d0 f rows cl g t (od, row, some (.d (.int (k : Int))), x11)) = .nx (liE w d0 f rows cl g t (addO cl od a, row ++ [numO cl (addO cl od a) a], some (.d (.int (k : Int))), some (.d (oD a)))) := by
  have q1 := lD_at hr
  have q2 := lDo_at ha
  have q3 : (row.map oD).length < sizeLine := by rw [List.length_map, sizeLine_eq]; exact hw
  cases a with
  | none =>
    have e1 := isn_n
    have e2 := is_n
    have e3 : row.map oD ++ [D.non] = (row ++ [none]).map oD := oD_snoc row none
    have e4 : addO cl od none = od := rfl
    have e5 : numO cl od none = none := rfl
    have e6 := oD_n
    rw [e4, e5]
    unfold liE
    simp only
    clear hc nd ho hw e4 e5 hr ha
    walk_at "evh"
  | some x =>
    have q4 := nD_at (hc x rfl)
    have q5 := ck_ask cl od x
    have e1 := isn_i (n := (x : Int))
    have e2 := is_i (n := (x : Int))
    have e6 := oD_s x
    by_cases hx : cc cl x ∈ od.map (cc cl)
    · have e4 : addO cl od (some x) = od := if_pos hx
      have e5 : numO cl od (some x) = some (ps (od.map (cc cl)) (cc cl x)) := rfl
      have e3 : row.map oD ++ [D.int (ps (od.map (cc cl)) (cc cl x) : Int)] = (row ++ [some (ps (od.map (cc cl)) (cc cl x))]).map oD := oD_snoc row (some _)
      rw [ck_in nd hx] at q5
      rw [e4, e5]
      unfold liE
      simp only
      clear hc nd ho hw e4 e5 hr ha hx
      walk_at "evh"
    · have e4 : addO cl od (some x) = od ++ [x] := if_neg hx
      have hx2 : cc cl x ∈ (od ++ [x]).map (cc cl) := by rw [List.map_append]; exact List.mem_append_right _ List.mem_cons_self
      have nd2 : ((od ++ [x]).map (cc cl)).Nodup := by rw [List.map_append]; exact nodup_snoc nd hx
      have e5 : numO cl (od ++ [x]) (some x) = some (ps ((od ++ [x]).map (cc cl)) (cc cl x)) := rfl
      have e3 : row.map oD ++ [D.int (ps ((od ++ [x]).map (cc cl)) (cc cl x) : Int)] = (row ++ [some (ps ((od ++ [x]).map (cc cl)) (cc cl x))]).map oD := oD_snoc row (some _)
      rw [ck_out hx] at q5
      have q6 := ck_put ho hx
      have q7 := ck_ask cl (od ++ [x]) x
      rw [ck_in nd2 hx2] at q7
      have q8 := nD_snoc od x
      have q9 := nD_len od
      have q10 : od.length < sizeLine := by rw [sizeLine_eq]; exact ho
      rw [e4, e5]
      unfold liE
      simp only
      clear hc nd ho hw e4 e5 hr ha hx hx2 nd2
      walk_at "evh"
theorem lo_body {w : Nat} {f : Fm} {fl : List Bool} {cl od : List Nat} {g : Fm} (d0 : D) (ok : Ok w f) (hfl : fl.length = f.length) (hlv : ∀ i : Nat, fl[i]? = some true ↔ Live f i) (hc : Cl f (rowsOf f fl) cl) (h : Bf w f (rowsOf f fl) cl od g) (hl : g.length < od.length) (x8 x9 x10 x11 : Option Sl) :
    ∃ s : LOs, (mSeq (mSet 8 (m2 fIx (mBor 5) (mCB fLen (mCons (mBor 7) mNil))))
    (mSeq (mSetF 9 (mLst mNil))
    (mSeq (mFor (mRng1 (mCons (mVar 1) mNil)) (gN 10) LIbody)
    (mApp 7 (mTup (mCons (m2 fIx (m2 fIx (mBor 2) (mBor 8)) (mC (.int 0))) (mCons (mCB fTuple (mCons (mBor 9) mNil)) mNil))))))) (loE w d0 f (rowsOf f fl) cl (od, g, x8, x9, x10, x11)) = .nx (loE w d0 f (rowsOf f fl) cl s) ∧ ∃ b row, s.2.1 = g ++ [(b, row)] ∧ row.length = w ∧ Bf w f (rowsOf f fl) cl s.1 (g ++ [(b, row)]) := by
  obtain ⟨t, ht⟩ := at_ex hl
  have htl := h.lt t (List.mem_of_getElem? ht)
  obtain ⟨⟨b, r⟩, e⟩ := at_ex htl
  have hr : (rowsOf f fl)[t]? = some (r.map (keep fl)) := by unfold rowsOf; rw [List.getElem?_map, e]; rfl
  have hrl := ok.row t b r e
  have odl : ∀ od' : List Nat, ∀ g' : Fm, Bf w f (rowsOf f fl) cl od' g' → od'.length ≤ f.length := fun od' g' h' => by
    have := nodup_le (nodup_map h'.nd) (m := List.range f.length) (fun x hx => List.mem_range.mpr (h'.lt x hx))
    rwa [List.length_range] at this
  have hw : ∃ s : LIs, forGo (gN 10) LIbody (rngD 0 w) (liE w d0 f (rowsOf f fl) cl g t (od, [], x10, x11)) = .nx (liE w d0 f (rowsOf f fl) cl g t s) ∧ s.2.1.length = w ∧ Bf w f (rowsOf f fl) cl s.1 (g ++ [(b, s.2.1)]) := by
    refine for_st (liE w d0 f (rowsOf f fl) cl g t) (fun i s => s.2.1.length = i ∧ Bf w f (rowsOf f fl) cl s.1 (g ++ [(b, s.2.1)]) ∧ s.1[g.length]? = some t) (fun o => ∃ s : LIs, o = .nx (liE w d0 f (rowsOf f fl) cl g t s) ∧ s.2.1.length = w ∧ Bf w f (rowsOf f fl) cl s.1 (g ++ [(b, s.2.1)])) ⟨rfl, h.row ht e, ht⟩ ?_ ?_
    · intro i x s hx hp
      obtain ⟨od', row, y10, y11⟩ := s
      obtain ⟨p1, p2, p3⟩ := hp
      simp only at p1 p2 p3
      subst p1
      unfold rngD at hx
      rw [List.getElem?_map] at hx
      cases hq : (List.range w)[row.length]? with
      | none => rw [hq] at hx; cases hx
      | some i' =>
        rw [hq] at hx
        have hi : row.length < w := by have := (List.getElem?_eq_some_iff.mp hq).1; rwa [List.length_range] at this
        have hi' : i' = row.length := by rw [List.getElem?_range hi] at hq; cases hq; rfl
        subst hi'
        have hx : D.int (0 + (row.length : Int)) = x := Option.some.inj hx
        rw [Int.zero_add] at hx
        subst hx
        obtain ⟨a0, ha0⟩ := at_ex (l := r) (i := row.length) (by omega)
        have ha : (r.map (keep fl))[row.length]? = some (keep fl a0) := by rw [List.getElem?_map, ha0]; rfl
        have hlv2 : ∀ x, keep fl a0 = some x → x < f.length ∧ Live f x := fun x hx => by
          cases a0 with
          | none => cases hx
          | some y =>
            have hy := ok.tgt t b r y e (List.mem_of_getElem? ha0)
            have hx : (if fl.getD y false = true then some y else none) = some x := hx
            by_cases hv : fl.getD y false = true
            · rw [if_pos hv] at hx
              have hx := Option.some.inj hx
              subst hx
              refine ⟨hy, (hlv y).mp ?_⟩
              rw [List.getD_eq_getElem?_getD] at hv
              cases hq2 : fl[y]? with
              | none => rw [hq2] at hv; cases hv
              | some v => rw [hq2] at hv; simp only [Option.getD_some] at hv; rw [hv]
            · rw [if_neg hv] at hx; cases hx
        have tn := p2.turn p3 hr ha hlv2
        have bl := odl od' _ p2
        have fl' := ok.len
        have hwid := ok.wid
        have hbig : od'.length < 16777216 := by have := ok.bnd; omega
        refine ⟨liE w d0 f (rowsOf f fl) cl g t (od', row, some (.d (.int (row.length : Int))), y11), rfl, .inl ⟨_, .inl (li_turn hr ha (fun x hx => ?_) p2.nd hbig (by omega)), ?_, tn, ?_⟩⟩
        · obtain ⟨c, hc'⟩ := at_ex (l := cl) (i := x) (by rw [hc.nu.len]; exact (hlv2 x hx).1)
          rw [hc']
          show some c = some (cl.getD x 0)
          rw [List.getD_eq_getElem?_getD, hc']
          rfl
        · simp
        · show (addO cl od' (keep fl a0))[g.length]? = some t
          generalize keep fl a0 = z
          cases z with
          | none => exact p3
          | some y =>
            show (if cc cl y ∈ od'.map (cc cl) then od' else od' ++ [y])[g.length]? = some t
            split
            · exact p3
            · rw [List.getElem?_append_left (List.getElem?_eq_some_iff.mp p3).1]; exact p3
    · intro s hp
      refine ⟨s, rfl, ?_, hp.2.1⟩
      have := hp.1
      unfold rngD at this
      rwa [List.length_map, List.length_range] at this
  obtain ⟨⟨od', row, y10, y11⟩, w1, w2, w3⟩ := hw
  simp only at w2 w3
  refine ⟨(od', g ++ [(b, row)], some (.d (.int (t : Int))), some (.own (.lst (row.map oD))), y10, y11), ?_, b, row, rfl, w2, w3⟩
  have q1 := nD_at ht
  have q2 := v_rngN (n := w) (by have := ok.wid; omega)
  have q3 := sD_at e
  have q4 := sD_0 (b, r)
  have q5 : fTuple [.lst (row.map oD)] = some (.tup (row.map oD)) := rfl
  have q6 : (g.map sD).length < sizeLine := by rw [List.length_map, sizeLine_eq]; have := odl od g h; have := ok.bnd; omega
  have q7 : g.map sD ++ [D.tup [.bl b, .tup (row.map oD)]] = (g ++ [(b, row)]).map sD := by rw [List.map_append]; rfl
  have q8 : ((g.map sD).length : Int) = (g.length : Int) := by rw [List.length_map]
  have q9 : (0 : Nat) ≤ sizeLine := Nat.zero_le _
  have q10 : (0 + 1 + 1 : Nat) ≤ sizeLine := by decide
  simp only at q4
  unfold loE
  unfold liE at w1
  simp only [List.map_nil] at w1 ⊢
  clear odl hr hrl w2 w3 hl ok hfl hlv hc h e ht
  walk_at "evh"
theorem least_form_eq {w : Nat} {f : Fm} (ok : Ok w f) (d : D) (hd : d = .lst (f.map sD) ∨ d = fD f) : ∃ g, g_least_form [d, .int (w : Int)] = some (.d (fD g)) ∧ Lst w g ∧ g.length ≤ f.length ∧ ∀ u, Wd w u → acc g (start g) u = acc f (start f) u := by
  have z0 := v_call (fz_f ok d hd)
  rw [sd_d] at z0
  obtain ⟨fl, l1, l2, l3⟩ := live_flags_eq ok
  have z1 := v_call l1
  rw [sd_o] at z1
  have z2 : fLen [fD f] = some (.int (f.length : Int)) := by show some (D.int ((f.map sD).length : Int)) = _; rw [List.length_map]
  have e0 : Lst w ([] : Fm) := ⟨⟨fun i b r h => by simp at h, fun i b r j h => by simp at h, Nat.zero_le _, ok.wid⟩, fun n h => absurd h (Nat.not_lt_zero _), fun n m h => absurd h (Nat.not_lt_zero _), fun n _ h => absurd h (Nat.not_lt_zero _)⟩
  have q0 : (0 : Nat) ≤ sizeLine := Nat.zero_le _
  have q11 : fD [] = .tup [] := rfl
  by_cases hf : f.length = 0
  · refine ⟨[], ?_, e0, Nat.zero_le _, fun u hu => ?_⟩
    · have z3 : decide ((f.length : Int) = 0) = true := decide_eq_true (by omega)
      unfold g_least_form m_least_form
      clear hf l1 l2 l3 e0 hd ok
      walk_at "evh"
    · rw [show start ([] : Fm) = none from rfl, show start f = none from if_pos hf, acc_none, acc_none]
  · have z3 : decide ((f.length : Int) = 0) = false := decide_eq_false (by omega)
    obtain ⟨v, hv⟩ := at_ex (l := fl) (i := 0) (by omega)
    have z4 : atI (bD fl) (0 : Int) = some (.bl v) := bD_at hv
    cases v with
    | false =>
      refine ⟨[], ?_, e0, Nat.zero_le _, fun u hu => ?_⟩
      · unfold g_least_form m_least_form
        clear hf l1 l2 l3 e0 hd ok
        walk_at "evh"
      · rw [show start ([] : Fm) = none from rfl, show start f = some 0 from if_neg hf, acc_none]
        cases ha : acc f (some 0) u with
        | false => rfl
        | true =>
          have := (l3 0).mpr (acc_live ok u 0 ha)
          rw [hv] at this
          cases this
    | true =>
      obtain ⟨fl2, n1, n2, n3⟩ := live_moves_eq ok
      have : fl2 = fl := by
        apply List.ext_getElem?
        intro i
        by_cases hi : i < f.length
        · obtain ⟨a, ha⟩ := at_ex (l := fl) (i := i) (by omega)
          obtain ⟨b, hb⟩ := at_ex (l := fl2) (i := i) (by omega)
          rw [ha, hb]
          have i1 := l3 i
          have i2 := n3 i
          rw [ha] at i1
          rw [hb] at i2
          cases a with
          | true => rw [i2.mpr (i1.mp rfl)]
          | false =>
            cases b with
            | false => rfl
            | true => rw [i1.mpr (i2.mp rfl)]
        · rw [List.getElem?_eq_none (by omega), List.getElem?_eq_none (by omega)]
      subst this
      have z5 := v_call n1
      rw [sd_o] at z5
      have hr : Rw w f (rowsOf f fl2) := by
        refine ⟨by unfold rowsOf; rw [List.length_map], fun i r h => ?_, fun i r j h hj => ?_⟩
        · unfold rowsOf at h
          rw [List.getElem?_map] at h
          cases e : f[i]? with
          | none => rw [e] at h; cases h
          | some p =>
            rw [e] at h
            cases h
            show (p.2.map (keep fl2)).length = w
            rw [List.length_map]
            exact ok.row i p.1 p.2 e
        · unfold rowsOf at h
          rw [List.getElem?_map] at h
          cases e : f[i]? with
          | none => rw [e] at h; cases h
          | some p =>
            rw [e] at h
            cases h
            have hj : some j ∈ p.2.map (keep fl2) := hj
            obtain ⟨o, ho, ej⟩ := List.mem_map.mp hj
            cases o with
            | none => cases ej
            | some y =>
              have ej : (if fl2.getD y false = true then some y else none) = some j := ej
              split at ej
              · cases ej; exact ok.tgt i p.1 p.2 j e ho
              · cases ej
      obtain ⟨cl, c1, c2⟩ := state_classes_eq ok hr
      have z6 := v_call c1
      rw [sd_d] at z6
      obtain ⟨c, hc⟩ := at_ex (l := cl) (i := 0) (by rw [c2.nu.len]; omega)
      have hcc : c = cc cl 0 := by show c = cl.getD 0 0; rw [List.getD_eq_getElem?_getD, hc]; rfl
      subst hcc
      have z7 : atI (nD cl) (0 : Int) = some (.int (cc cl 0 : Int)) := nD_at hc
      have b0 : Bf w f (rowsOf f fl2) cl [0] [] := by
        refine ⟨by simp, rfl, fun t ht => ?_, fun t ht => ?_, Nat.zero_le _, fun p t b r _ hg => by simp at hg, fun n h1 h2 => ?_⟩
        · rw [List.mem_singleton] at ht; omega
        · rw [List.mem_singleton] at ht; rw [ht]; exact (l3 0).mp hv
        · rw [List.length_singleton] at h2; omega
      have hw : ∃ s : LOs, mWhile (mT (m2 fLt (mCB fLen (mCons (mBor 7) mNil)) (mCB fLen (mCons (mBor 5) mNil))))
          (mSeq (mSet 8 (m2 fIx (mBor 5) (mCB fLen (mCons (mBor 7) mNil))))
          (mSeq (mSetF 9 (mLst mNil))
          (mSeq (mFor (mRng1 (mCons (mVar 1) mNil)) (gN 10) LIbody)
          (mApp 7 (mTup (mCons (m2 fIx (m2 fIx (mBor 2) (mBor 8)) (mC (.int 0))) (mCons (mCB fTuple (mCons (mBor 9) mNil)) mNil))))))) (loE w d f (rowsOf f fl2) cl ([0], [], none, none, none, none)) = .nx (loE w d f (rowsOf f fl2) cl s) ∧ s.2.1.length = s.1.length ∧ (∀ (i : Nat) (b : Bool) (r : List (Option Nat)), s.2.1[i]? = some (b, r) → r.length = w) ∧ Bf w f (rowsOf f fl2) cl s.1 s.2.1 := by
        refine while_st (loE w d f (rowsOf f fl2) cl) (fun s => (∀ (i : Nat) (b : Bool) (r : List (Option Nat)), s.2.1[i]? = some (b, r) → r.length = w) ∧ Bf w f (rowsOf f fl2) cl s.1 s.2.1) (fun s => f.length + 1 - s.2.1.length) (fun o => ∃ s : LOs, o = .nx (loE w d f (rowsOf f fl2) cl s) ∧ s.2.1.length = s.1.length ∧ (∀ (i : Nat) (b : Bool) (r : List (Option Nat)), s.2.1[i]? = some (b, r) → r.length = w) ∧ Bf w f (rowsOf f fl2) cl s.1 s.2.1) ?_ _ ⟨fun i b r h => by simp at h, b0⟩
        intro s hs
        obtain ⟨od, g, x8, x9, x10, x11⟩ := s
        obtain ⟨p1, p2⟩ := hs
        simp only at p1 p2
        have tst : (mT (m2 fLt (mCB fLen (mCons (mBor 7) mNil)) (mCB fLen (mCons (mBor 5) mNil)))) (loE w d f (rowsOf f fl2) cl (od, g, x8, x9, x10, x11)) = some (decide (g.length < od.length)) := by
          have a1 : ((g.map sD).length : Int) = (g.length : Int) := by rw [List.length_map]
          have a2 : ((nD od).length : Int) = (od.length : Int) := by rw [nD_len]
          have a3 : decide ((g.length : Int) < (od.length : Int)) = decide (g.length < od.length) := decide_eq_decide.mpr (by omega)
          unfold loE
          simp only
          clear p1 p2 b0 z0 z1 z2 z3 z4 z5 z6 z7 hc hv l1 l2 l3 n1 n2 n3 c1 c2 hr e0 hd ok
          walk_at "evh"
        by_cases hl : g.length < od.length
        · rw [decide_eq_true hl] at tst
          refine .inr ⟨tst, .inl ?_⟩
          obtain ⟨s', t1, b, row, t2, t3, t4⟩ := lo_body d ok n2 n3 c2 p2 hl x8 x9 x10 x11
          refine ⟨s', t1, ⟨fun i b' r' hi => ?_, by rw [t2]; exact t4⟩, ?_⟩
          · rw [t2] at hi
            by_cases h' : i < g.length
            · rw [List.getElem?_append_left h'] at hi
              exact p1 i b' r' hi
            · have : i = g.length := by
                have := (List.getElem?_eq_some_iff.mp hi).1
                rw [List.length_append, List.length_singleton] at this
                omega
              subst this
              have e1 : (g ++ [(b, row)])[g.length]? = some (b, row) := by simp
              rw [e1] at hi
              cases hi
              exact t3
          · show f.length + 1 - s'.2.1.length < f.length + 1 - g.length
            rw [t2, List.length_append, List.length_singleton]
            have := nodup_le (nodup_map p2.nd) (m := List.range f.length) (fun x hx => List.mem_range.mpr (p2.lt x hx))
            rw [List.length_range] at this
            omega
        · rw [decide_eq_false hl] at tst
          exact .inl ⟨tst, _, rfl, by have := p2.glen; show g.length = od.length; omega, p1, p2⟩
      obtain ⟨⟨od, g, x8, x9, x10, x11⟩, w1, w2, w3, w4⟩ := hw
      simp only at w2 w3 w4
      obtain ⟨r1, r2, r3⟩ := w4.fin ok n2 n3 c2 w2 w3
      refine ⟨g, ?_, r1, r2, fun u hu => ?_⟩
      · have q1 : dnew1 (.int (cc cl 0 : Int)) (.int 0) = some [(.num (cc cl 0 : Int), .int 0)] := dnew1_eq rfl (by simp [NestedKey.depth])
        have q2 : ixd (ck cl [0]) = [(.num (cc cl 0 : Int), .int 0)] := rfl
        have q3 : nD [0] = [.int 0] := rfl
        have q5 : fTuple [.lst (g.map sD)] = some (fD g) := rfl
        have q6 : (0 + 1 : Nat) ≤ sizeLine := by decide
        unfold g_least_form m_least_form
        unfold loE at w1
        simp only [q2, q3, List.map_nil] at w1
        clear b0 hc hv l1 l2 l3 n1 n2 n3 c1 c2 hr e0 hd ok w2 w3 w4 r1 r2 r3 q2 q3
        walk_at "evh"
      · unfold start
        have : 0 < od.length := (List.getElem?_eq_some_iff.mp w4.zero).1
        rw [if_neg (by omega), if_neg hf]
        exact r3 u hu
end F
namespace F
open PySem L2 R
/-! paired_form -/
inductive Kp where
  | either | both | first
def kw : Kp → String
  | .either => "either"
  | .both => "both"
  | .first => "first"
def kb : Kp → Bool → Bool → Bool
  | .either, a, b => a || b
  | .both, a, b => a && b
  | .first, a, b => a && !b
abbrev Pr := Option Nat × Option Nat
def opn : Kp → Pr → Bool
  | .either, a => a.1.isSome || a.2.isSome
  | .both, a => a.1.isSome && a.2.isSome
  | .first, a => a.1.isSome
def pD (a : Pr) : D := .tup [oD a.1, oD a.2]
def pN (a : Pr) : NestedKey := .tup [oN a.1, oN a.2]
theorem nk_p (a : Pr) : nk (pD a) = some (pN a) := by
  unfold pD pN
  simp only [nk, nks, nk_o]
theorem pN_inj {a b : Pr} (h : pN a = pN b) : a = b := by
  obtain ⟨a1, a2⟩ := a
  obtain ⟨b1, b2⟩ := b
  unfold pN at h
  injection h with h
  injection h with h1 h2
  injection h2 with h2 _
  have h1 : a1 = b1 := oN_inj h1
  have h2 : a2 = b2 := oN_inj h2
  rw [h1, h2]
theorem dep_oN (o : Option Nat) : (oN o).depth = 0 := by cases o <;> simp [oN, NestedKey.depth]
theorem dep_p (a : Pr) : (pN a).depth ≤ 8 := by
  unfold pN
  simp [NestedKey.depth, NestedKey.depthAll, dep_oN]
theorem pD_0 (a : Pr) : fIx (pD a) (.int 0) = some (oD a.1) := atI_nat (j := 0) rfl
theorem pD_1 (a : Pr) : fIx (pD a) (.int 1) = some (oD a.2) := atI_nat (j := 1) rfl
theorem pair_is_open_eq (k : Kp) (a : Pr) : g_pair_is_open [pD a, .str (S (kw k))] = some (.d (.bl (opn k a))) := by
  have h1 := pD_0 a
  have h2 := pD_1 a
  have h3 := isn_non a.1
  have h4 := isn_non a.2
  unfold g_pair_is_open m_pair_is_open
  cases k <;> simp only [kw, opn]
  all_goals
    cases e1 : a.1.isSome <;> cases e2 : a.2.isSome <;> rw [e1] at h3 <;> rw [e2] at h4 <;> clear e1 e2 <;> (walk_at "evh"; try rfl)
def inR (f : Fm) (o : Option Nat) : Prop := ∀ i, o = some i → i < f.length
theorem pair_ends_eq (k : Kp) {f g : Fm} {a : Pr} (h1 : inR f a.1) (h2 : inR g a.2) : g_pair_ends [fD f, fD g, pD a, .str (S (kw k))] = some (.d (.bl (kb k (stops f a.1) (stops g a.2)))) := by
  have q1 := pD_0 a
  have q2 := pD_1 a
  have q3 := v_call (form_stops_eq (f := f) a.1 h1)
  have q4 := v_call (form_stops_eq (f := g) a.2 h2)
  rw [sd_d] at q3 q4
  unfold g_pair_ends m_pair_ends
  clear h1 h2
  cases k <;> simp only [kw, kb]
  all_goals
    cases e1 : stops f a.1 <;> cases e2 : stops g a.2 <;> rw [e1] at q3 <;> rw [e2] at q4 <;> clear e1 e2 <;> (walk_at "evh"; try rfl)
def stp (f g : Fm) (a : Pr) (k : Nat) : Pr := (step f a.1 k, step g a.2 k)
def addP (k : Kp) (ps : List Pr) (a : Pr) : List Pr := if opn k a = true ∧ a ∉ ps then ps ++ [a] else ps
def numP (l : List Pr) (a : Pr) : Option Nat := if a ∈ l then some (ps l a) else none
structure Pf (k : Kp) (f g : Fm) (l : List Pr) (F : Fm) : Prop where
  nd : l.Nodup
  op : ∀ a ∈ l, opn k a = true
  rng : ∀ a ∈ l, inR f a.1 ∧ inR g a.2
  glen : F.length ≤ l.length
  at' : ∀ (p : Nat) (a : Pr) (b : Bool) (r : List (Option Nat)), l[p]? = some a → F[p]? = some (b, r) → b = kb k (stops f a.1) (stops g a.2) ∧ ∀ (s : Nat) (o : Option Nat), r[s]? = some o → o = numP l (stp f g a s) ∧ (opn k (stp f g a s) = true → stp f g a s ∈ l)
theorem numP_add {k : Kp} {l : List Pr} {a c : Pr} (ha : a ∉ l) (hop : opn k a = true) (hc : opn k c = true → c ∈ l) : numP (l ++ [a]) c = numP l c := by
  unfold numP
  by_cases h : c ∈ l
  · rw [if_pos h, if_pos (List.mem_append_left _ h), ps_app _ h]
  · rw [if_neg h, if_neg (fun z => ?_)]
    rcases List.mem_append.mp z with z | z
    · exact h z
    · rw [List.mem_singleton] at z
      subst z
      exact h (hc hop)
theorem Pf.row {k : Kp} {f g : Fm} {l : List Pr} {F : Fm} (h : Pf k f g l F) {a : Pr} (ha : l[F.length]? = some a) : Pf k f g l (F ++ [(kb k (stops f a.1) (stops g a.2), [])]) := by
  refine ⟨h.nd, h.op, h.rng, by rw [List.length_append, List.length_singleton]; have := (List.getElem?_eq_some_iff.mp ha).1; omega, fun p c b r hc hg => ?_⟩
  by_cases hp : p < F.length
  · rw [List.getElem?_append_left hp] at hg
    exact h.at' p c b r hc hg
  · have hp2 : p = F.length := by
      have := (List.getElem?_eq_some_iff.mp hg).1
      rw [List.length_append, List.length_singleton] at this
      omega
    subst hp2
    have e1 : ∀ x : Fs, (F ++ [x])[F.length]? = some x := fun x => by simp
    rw [e1] at hg
    cases hg
    rw [ha] at hc
    cases hc
    exact ⟨rfl, fun s o ho => by simp at ho⟩
theorem Pf.turn {k : Kp} {f g : Fm} {l : List Pr} {F : Fm} {b : Bool} {row : List (Option Nat)} (h : Pf k f g l (F ++ [(b, row)])) {a : Pr} (ha : l[F.length]? = some a) (hr : inR f (step f a.1 row.length) ∧ inR g (step g a.2 row.length)) :
    Pf k f g (addP k l (stp f g a row.length)) (F ++ [(b, row ++ [numP (addP k l (stp f g a row.length)) (stp f g a row.length)])]) := by
  have e1 : ∀ x : Fs, (F ++ [x])[F.length]? = some x := fun x => by simp
  have gl : ∀ o, (F ++ [(b, row ++ [o])]).length = (F ++ [(b, row)]).length := fun o => by simp
  have gen : ∀ l' : List Pr, (∀ (p : Nat) (c : Pr), l[p]? = some c → l'[p]? = some c) → (∀ c : Pr, (opn k c = true → c ∈ l) → numP l' c = numP l c ∧ (opn k c = true → c ∈ l')) → (opn k (stp f g a row.length) = true → stp f g a row.length ∈ l') →
      ∀ (p : Nat) (c : Pr) (b' : Bool) (r : List (Option Nat)), p < l.length → l'[p]? = some c → (F ++ [(b, row ++ [numP l' (stp f g a row.length)])])[p]? = some (b', r) → b' = kb k (stops f c.1) (stops g c.2) ∧ ∀ (s : Nat) (o : Option Nat), r[s]? = some o → o = numP l' (stp f g c s) ∧ (opn k (stp f g c s) = true → stp f g c s ∈ l') := by
    intro l' pre hnum hin p c b' r hpl hc hg
    obtain ⟨c', hc'⟩ := at_ex hpl
    have := pre p c' hc'
    rw [hc] at this
    cases this
    by_cases hp : p < F.length
    · rw [List.getElem?_append_left hp] at hg
      obtain ⟨h1, h2⟩ := h.at' p c b' r hc' (by rw [List.getElem?_append_left hp]; exact hg)
      refine ⟨h1, fun s o ho => ?_⟩
      obtain ⟨x1, x2⟩ := h2 s o ho
      obtain ⟨y1, y2⟩ := hnum _ x2
      exact ⟨by rw [x1, y1], y2⟩
    · have hp2 : p = F.length := by
        have := (List.getElem?_eq_some_iff.mp hg).1
        rw [List.length_append, List.length_singleton] at this
        omega
      subst hp2
      rw [e1] at hg
      cases hg
      rw [ha] at hc'
      cases hc'
      obtain ⟨h1, h2⟩ := h.at' F.length a b row ha (e1 _)
      refine ⟨h1, fun s o ho => ?_⟩
      by_cases hs : s < row.length
      · rw [List.getElem?_append_left hs] at ho
        obtain ⟨x1, x2⟩ := h2 s o ho
        obtain ⟨y1, y2⟩ := hnum _ x2
        exact ⟨by rw [x1, y1], y2⟩
      · have hs2 : s = row.length := by
          have := (List.getElem?_eq_some_iff.mp ho).1
          rw [List.length_append, List.length_singleton] at this
          omega
        subst hs2
        have e2 : ∀ o : Option Nat, (row ++ [o])[row.length]? = some o := fun o => by simp
        rw [e2] at ho
        cases ho
        exact ⟨rfl, hin⟩
  unfold addP
  by_cases hc : opn k (stp f g a row.length) = true ∧ stp f g a row.length ∉ l
  · rw [if_pos hc]
    have pre : ∀ (p : Nat) (c : Pr), l[p]? = some c → (l ++ [stp f g a row.length])[p]? = some c := fun p c hc => by rw [List.getElem?_append_left (List.getElem?_eq_some_iff.mp hc).1]; exact hc
    refine ⟨nodup_snoc h.nd hc.2, fun c hc' => ?_, fun c hc' => ?_, by rw [gl]; have := h.glen; simp only [List.length_append, List.length_singleton] at this ⊢; omega, fun p c b' r hc' hg => ?_⟩
    · rcases List.mem_append.mp hc' with z | z
      · exact h.op c z
      · rw [List.mem_singleton] at z; rw [z]; exact hc.1
    · rcases List.mem_append.mp hc' with z | z
      · exact h.rng c z
      · rw [List.mem_singleton] at z; rw [z]; exact hr
    · refine gen _ pre (fun c hcc => ⟨numP_add hc.2 hc.1 hcc, fun z => List.mem_append_left _ (hcc z)⟩) (fun _ => List.mem_append_right _ List.mem_cons_self) p c b' r ?_ hc' hg
      have := (List.getElem?_eq_some_iff.mp hg).1
      have h3 := h.glen
      rw [gl] at this
      omega
  · rw [if_neg hc]
    refine ⟨h.nd, h.op, h.rng, by rw [gl]; exact h.glen, fun p c b' r hc' hg => ?_⟩
    refine gen l (fun _ _ z => z) (fun c hcc => ⟨rfl, hcc⟩) (fun z => ?_) p c b' r (List.getElem?_eq_some_iff.mp hc').1 hc' hg
    apply Classical.byContradiction
    intro y
    exact hc ⟨z, y⟩
theorem inR_step {w : Nat} {f : Fm} (ok : Ok w f) (o : Option Nat) (k : Nat) : inR f (step f o k) := fun _ h => step_lt ok h
theorem kb_closed {k : Kp} {f g : Fm} {a : Pr} (h : opn k a = false) (u : List Nat) : kb k (acc f a.1 u) (acc g a.2 u) = false := by
  obtain ⟨a1, a2⟩ := a
  cases k with
  | either =>
    cases a1 <;> cases a2 <;> first | (cases h; done) | skip
    simp only [acc_none]
    rfl
  | both =>
    cases a1 with
    | none => simp only [acc_none]; rfl
    | some _ =>
      cases a2 with
      | none => simp only [acc_none]; simp [kb]
      | some _ => cases h
  | first =>
    cases a1 with
    | none => simp only [acc_none]; rfl
    | some _ => cases h
theorem Pf.lang {k : Kp} {w : Nat} {f g : Fm} {l : List Pr} {G : Fm} (h : Pf k f g l G) (hl : G.length = l.length) (hrow : ∀ (i : Nat) (b : Bool) (r : List (Option Nat)), G[i]? = some (b, r) → r.length = w) : ∀ (u : List Nat) (n : Nat) (a : Pr), Wd w u → l[n]? = some a → acc G (some n) u = kb k (acc f a.1 u) (acc g a.2 u)
  | [], n, a, _, hn => by
    obtain ⟨⟨b, r⟩, e⟩ := at_ex (l := G) (i := n) (by rw [hl]; exact (List.getElem?_eq_some_iff.mp hn).1)
    show stops G (some n) = kb k (stops f a.1) (stops g a.2)
    rw [stops_at e]
    exact (h.at' n a b r hn e).1
  | c :: u, n, a, hw, hn => by
    obtain ⟨⟨b, r⟩, e⟩ := at_ex (l := G) (i := n) (by rw [hl]; exact (List.getElem?_eq_some_iff.mp hn).1)
    obtain ⟨o, ho⟩ := at_ex (l := r) (i := c) (by rw [hrow n b r e]; exact hw.head)
    obtain ⟨x1, x2⟩ := (h.at' n a b r hn e).2 c o ho
    show acc G (step G (some n) c) u = kb k (acc f (step f a.1 c) u) (acc g (step g a.2 c) u)
    rw [step_at e ho, x1]
    by_cases hm : stp f g a c ∈ l
    · rw [show numP l (stp f g a c) = some (ps l (stp f g a c)) from if_pos hm]
      exact h.lang hl hrow u _ (stp f g a c) hw.tail (ps_at hm)
    · rw [show numP l (stp f g a c) = none from if_neg hm, acc_none]
      cases ho2 : opn k (stp f g a c) with
      | true => exact absurd (x2 ho2) hm
      | false => exact (kb_closed ho2 u).symm
def allO (n : Nat) : List (Option Nat) := none :: (List.range n).map some
theorem allO_mem {f : Fm} {o : Option Nat} (h : inR f o) : o ∈ allO f.length := by
  unfold allO
  cases o with
  | none => exact List.mem_cons_self
  | some i => exact List.mem_cons_of_mem _ (List.mem_map.mpr ⟨i, List.mem_range.mpr (h i rfl), rfl⟩)
theorem len_flat {α β : Type} {g : α → List β} {m : Nat} : ∀ {l : List α}, (∀ a ∈ l, (g a).length = m) → (l.flatMap g).length = l.length * m
  | [], _ => by simp
  | a :: l, h => by
    rw [List.flatMap_cons, List.length_append, h a List.mem_cons_self, len_flat (fun b hb => h b (List.mem_cons_of_mem _ hb)), List.length_cons, Nat.succ_mul]
    omega
theorem Pf.le {k : Kp} {f g : Fm} {l : List Pr} {G : Fm} (h : Pf k f g l G) : l.length ≤ (f.length + 1) * (g.length + 1) := by
  have := nodup_le h.nd (m := (allO f.length).flatMap fun a => (allO g.length).map fun b => (a, b)) (fun a ha => List.mem_flatMap.mpr ⟨a.1, allO_mem (h.rng a ha).1, List.mem_map.mpr ⟨a.2, allO_mem (h.rng a ha).2, rfl⟩⟩)
  rw [len_flat (m := g.length + 1) (fun a _ => by unfold allO; simp)] at this
  have e : (allO f.length).length = f.length + 1 := by unfold allO; simp
  rwa [e] at this
theorem pk_nd {l : List Pr} (h : l.Nodup) : (l.map pN).Nodup := nodup_mapI (fun _ _ => pN_inj) h
theorem pk_mem {l : List Pr} {a : Pr} : pN a ∈ l.map pN ↔ a ∈ l := by
  constructor
  · intro h
    obtain ⟨b, hb, e⟩ := List.mem_map.mp h
    rw [← pN_inj e]
    exact hb
  · exact fun h => List.mem_map.mpr ⟨_, h, rfl⟩
theorem pk_kind (l : List Pr) (a : Pr) : kindOk (ixd (l.map pN)) (pN a) = true := ixd_kind (fun x hx => by
  obtain ⟨t, _, rfl⟩ := List.mem_map.mp hx
  rfl) (dep_p a)
theorem pk_ask (l : List Pr) (a : Pr) : kAt (some (pD a)) (some (ixd (l.map pN))) = some (lk (ixd (l.map pN)) (pN a)) := kAt_eq (nk_p a) (pk_kind l a)
theorem pk_in {l : List Pr} {a : Pr} (hd : l.Nodup) (h : a ∈ l) : lk (ixd (l.map pN)) (pN a) = some (.int (ps l a : Int)) := by
  refine ixd_at (pk_nd hd) ?_
  rw [List.getElem?_map, ps_at h]
  rfl
theorem pk_out {l : List Pr} {a : Pr} (h : a ∉ l) : lk (ixd (l.map pN)) (pN a) = none := ixd_out (fun z => h (pk_mem.mp z))
theorem pk_put {l : List Pr} {a : Pr} (hl : l.length < 16777216) (h : a ∉ l) : dput (ixd (l.map pN)) (pD a) (.int (l.length : Int)) = some (ixd ((l ++ [a]).map pN)) := by
  rw [dput_eq (nk_p a) (pk_kind l a) (by rw [ixd_len, List.length_map]; exact hl)]
  have e : (l.map pN).length = l.length := List.length_map ..
  rw [← e, ixd_put (fun z => h (pk_mem.mp z)), List.map_append]
  rfl
section
variable (w : Nat) (k : Kp) (f g : Fm)
abbrev PIs := List Pr × List (Option Nat) × Option Sl × Option Sl
def piE (a0 : Pr) (G : Fm) (a : Pr) (s : PIs) : Slots := [some (.d (fD f)), some (.d (fD g)), some (.d (.int (w : Int))), some (.d (.str (S (kw k)))), some (.d (pD a0)), some (.own (.lst (s.1.map pD))), some (.own (.dct (ixd (s.1.map pN)))), some (.own (.lst (G.map sD))), some (.d (pD a)), some (.own (.lst (s.2.1.map oD))), s.2.2.1, s.2.2.2]
abbrev POs := List Pr × Fm × Option Sl × Option Sl × Option Sl × Option Sl
def poE (a0 : Pr) (s : POs) : Slots := [some (.d (fD f)), some (.d (fD g)), some (.d (.int (w : Int))), some (.d (.str (S (kw k)))), some (.d (pD a0)), some (.own (.lst (s.1.map pD))), some (.own (.dct (ixd (s.1.map pN)))), some (.own (.lst (s.2.1.map sD))), s.2.2.1, s.2.2.2.1, s.2.2.2.2.1, s.2.2.2.2.2]
end
abbrev PIbody : MS := (mSeq (mSet 11 (mTup (mCons (mCall g_form_step (mCons (mVar 0) (mCons (m2 fIx (mBor 8) (mC (.int 0))) (mCons (mVar 10) mNil)))) (mCons (mCall g_form_step (mCons (mVar 1) (mCons (m2 fIx (mBor 8) (mC (.int 1))) (mCons (mVar 10) mNil)))) mNil))))
      (mSeq (mIf (mAnd (mT (mCall g_pair_is_open (mCons (mVar 11) (mCons (mVar 3) mNil)))) (mT (mDIn true (mVar 11) 6)))
        (mSeq (mDPut 6 (mVar 11) (mCB fLen (mCons (mBor 5) mNil)))
        (mApp 5 (mVar 11)))
        mNext)
      (mApp 9 (mDGet 6 (mVar 11)))))
theorem pD_snoc (l : List Pr) (a : Pr) : l.map pD ++ [pD a] = (l ++ [a]).map pD := by rw [List.map_append]; rfl
theorem pi_turn {w : Nat} {k : Kp} {f g : Fm} (okf : Ok w f) (okg : Ok w g) {a0 a : Pr} {G : Fm} {l : List Pr} {row : List (Option Nat)} {c : Nat} {x11 : Option Sl} (hc : c < w) (ha : inR f a.1 ∧ inR g a.2) (nd : l.Nodup) (ho : l.length < 16777216) (hw : row.length < 16777216) :
    PIbody (piE w k f g a0 G a (l, row, some (.d (.int (c : Int))), x11)) = .nx (piE w k f g a0 G a (addP k l (stp f g a c), row ++ [numP (addP k l (stp f g a c)) (stp f g a c)], some (.d (.int (c : Int))), some (.d (pD (stp f g a c))))) := by
  have q1 := pD_0 a
  have q2 := pD_1 a
  have q3 := v_call (form_step_eq okf a.1 ha.1 c hc)
  have q4 := v_call (form_step_eq okg a.2 ha.2 c hc)
  rw [sd_d] at q3 q4
  have q5 : D.tup [oD (step f a.1 c), oD (step g a.2 c)] = pD (stp f g a c) := rfl
  have q6 := v_call (pair_is_open_eq k (stp f g a c))
  rw [sd_d] at q6
  have q7 := pk_ask l (stp f g a c)
  have q8 : (row.map oD).length < sizeLine := by rw [List.length_map, sizeLine_eq]; exact hw
  have q9 : (0 + 1 + 1 : Nat) ≤ sizeLine := by decide
  generalize stp f g a c = x at *
  unfold addP
  by_cases hm : x ∈ l
  · rw [if_neg (fun z => z.2 hm), show numP l x = some (ps l x) from if_pos hm]
    rw [pk_in nd hm] at q7
    have e3 : row.map oD ++ [D.int (ps l x : Int)] = (row ++ [some (ps l x)]).map oD := oD_snoc row (some _)
    unfold piE
    simp only
    clear nd ho hw hm hc ha okf okg
    cases e : opn k x <;> rw [e] at q6 <;> clear e <;> walk_at "evh"
  · rw [pk_out hm] at q7
    cases e : opn k x with
    | false =>
      rw [if_neg (fun z => nomatch z.1), show numP l x = none from if_neg hm]
      rw [e] at q6
      have e3 : row.map oD ++ [D.non] = (row ++ [none]).map oD := oD_snoc row none
      unfold piE
      simp only
      clear nd ho hw hm hc ha okf okg e
      walk_at "evh"
    | true =>
      rw [if_pos ⟨rfl, hm⟩]
      rw [e] at q6
      have hm2 : x ∈ l ++ [x] := List.mem_append_right _ List.mem_cons_self
      rw [show numP (l ++ [x]) x = some (ps (l ++ [x]) x) from if_pos hm2]
      have q10 := pk_put ho hm
      have q11 := pk_ask (l ++ [x]) x
      rw [pk_in (nodup_snoc nd hm) hm2] at q11
      have q12 := pD_snoc l x
      have e3 : row.map oD ++ [D.int (ps (l ++ [x]) x : Int)] = (row ++ [some (ps (l ++ [x]) x)]).map oD := oD_snoc row (some _)
      have q13 : (l.map pD).length < sizeLine := by rw [List.length_map, sizeLine_eq]; exact ho
      have q14 : ((l.map pD).length : Int) = (l.length : Int) := by rw [List.length_map]
      unfold piE
      simp only
      clear nd ho hw hm hc ha okf okg e hm2
      walk_at "evh"
theorem po_body {w : Nat} {k : Kp} {f g : Fm} (okf : Ok w f) (okg : Ok w g) (hb : (f.length + 1) * (g.length + 1) ≤ 16000000) {a0 : Pr} {l : List Pr} {G : Fm} (h : Pf k f g l G) (hl : G.length < l.length) (x8 x9 x10 x11 : Option Sl) :
    ∃ s : POs, (mSeq (mSet 8 (m2 fIx (mBor 5) (mCB fLen (mCons (mBor 7) mNil))))
    (mSeq (mSetF 9 (mLst mNil))
    (mSeq (mFor (mRng1 (mCons (mVar 2) mNil)) (gN 10) PIbody)
    (mApp 7 (mTup (mCons (mCall g_pair_ends (mCons (mVar 0) (mCons (mVar 1) (mCons (mVar 8) (mCons (mVar 3) mNil))))) (mCons (mCB fTuple (mCons (mBor 9) mNil)) mNil))))))) (poE w k f g a0 (l, G, x8, x9, x10, x11)) = .nx (poE w k f g a0 s) ∧ ∃ b row, s.2.1 = G ++ [(b, row)] ∧ row.length = w ∧ (∃ m, s.1 = l ++ m) ∧ Pf k f g s.1 (G ++ [(b, row)]) := by
  obtain ⟨a, ha⟩ := at_ex hl
  have hin := h.rng a (List.mem_of_getElem? ha)
  have hw : ∃ s : PIs, forGo (gN 10) PIbody (rngD 0 w) (piE w k f g a0 G a (l, [], x10, x11)) = .nx (piE w k f g a0 G a s) ∧ s.2.1.length = w ∧ (∃ m, s.1 = l ++ m) ∧ Pf k f g s.1 (G ++ [(kb k (stops f a.1) (stops g a.2), s.2.1)]) := by
    refine for_st (piE w k f g a0 G a) (fun i s => s.2.1.length = i ∧ Pf k f g s.1 (G ++ [(kb k (stops f a.1) (stops g a.2), s.2.1)]) ∧ (∃ m, s.1 = l ++ m) ∧ s.1[G.length]? = some a) (fun o => ∃ s : PIs, o = .nx (piE w k f g a0 G a s) ∧ s.2.1.length = w ∧ (∃ m, s.1 = l ++ m) ∧ Pf k f g s.1 (G ++ [(kb k (stops f a.1) (stops g a.2), s.2.1)])) ⟨rfl, h.row ha, ⟨[], by simp⟩, ha⟩ ?_ ?_
    · intro i x s hx hp
      obtain ⟨l', row, y10, y11⟩ := s
      obtain ⟨p1, p2, ⟨m, p4⟩, p3⟩ := hp
      simp only at p1 p2 p3 p4
      subst p1
      unfold rngD at hx
      rw [List.getElem?_map] at hx
      cases hq : (List.range w)[row.length]? with
      | none => rw [hq] at hx; cases hx
      | some i' =>
        rw [hq] at hx
        have hi : row.length < w := by have := (List.getElem?_eq_some_iff.mp hq).1; rwa [List.length_range] at this
        have hi' : i' = row.length := by rw [List.getElem?_range hi] at hq; cases hq; rfl
        subst hi'
        have hx : D.int (0 + (row.length : Int)) = x := Option.some.inj hx
        rw [Int.zero_add] at hx
        subst hx
        have tn := p2.turn p3 ⟨inR_step okf _ _, inR_step okg _ _⟩
        have bl := p2.le
        have hwid := okf.wid
        refine ⟨piE w k f g a0 G a (l', row, some (.d (.int (row.length : Int))), y11), rfl, .inl ⟨_, .inl (pi_turn okf okg hi hin p2.nd (by omega) (by omega)), ?_, tn, ?_, ?_⟩⟩
        · simp
        · show ∃ m, addP k l' (stp f g a row.length) = l ++ m
          unfold addP
          split
          · exact ⟨m ++ [stp f g a row.length], by rw [p4, List.append_assoc]⟩
          · exact ⟨m, p4⟩
        · show (addP k l' (stp f g a row.length))[G.length]? = some a
          unfold addP
          split
          · rw [List.getElem?_append_left (List.getElem?_eq_some_iff.mp p3).1]; exact p3
          · exact p3
    · intro s hp
      refine ⟨s, rfl, ?_, hp.2.2.1, hp.2.1⟩
      have := hp.1
      unfold rngD at this
      rwa [List.length_map, List.length_range] at this
  obtain ⟨⟨l', row, y10, y11⟩, w1, w2, w4, w3⟩ := hw
  simp only at w2 w3 w4
  refine ⟨(l', G ++ [(kb k (stops f a.1) (stops g a.2), row)], some (.d (pD a)), some (.own (.lst (row.map oD))), y10, y11), ?_, _, row, rfl, w2, w4, w3⟩
  have q1 : atI (l.map pD) (G.length : Int) = some (pD a) := atI_nat (by rw [List.getElem?_map, ha]; rfl)
  have q2 := v_rngN (n := w) (by have := okf.wid; omega)
  have q3 := v_call (pair_ends_eq k hin.1 hin.2)
  rw [sd_d] at q3
  have q5 : fTuple [.lst (row.map oD)] = some (.tup (row.map oD)) := rfl
  have q6 : (G.map sD).length < sizeLine := by rw [List.length_map, sizeLine_eq]; have := h.le; omega
  have q7 : G.map sD ++ [D.tup [.bl (kb k (stops f a.1) (stops g a.2)), .tup (row.map oD)]] = (G ++ [(kb k (stops f a.1) (stops g a.2), row)]).map sD := by rw [List.map_append]; rfl
  have q8 : ((G.map sD).length : Int) = (G.length : Int) := by rw [List.length_map]
  have q9 : (0 : Nat) ≤ sizeLine := Nat.zero_le _
  have q10 : (0 + 1 + 1 : Nat) ≤ sizeLine := by decide
  unfold poE
  unfold piE at w1
  simp only [List.map_nil] at w1 ⊢
  clear w2 w3 w4 hl okf okg h hin hb ha
  walk_at "evh"
theorem start_in (f : Fm) : inR f (start f) := fun i h => by
  unfold start at h
  split at h
  · cases h
  · cases h; omega
theorem paired_form_eq {w : Nat} (k : Kp) {f g : Fm} (okf : Ok w f) (okg : Ok w g) (hb : (f.length + 1) * (g.length + 1) ≤ 16000000) : ∃ h, g_paired_form [fD f, fD g, .int (w : Int), .str (S (kw k))] = some (.d (fD h)) ∧ Lst w h ∧ h.length ≤ (f.length + 1) * (g.length + 1) ∧ ∀ u, Wd w u → acc h (start h) u = kb k (acc f (start f) u) (acc g (start g) u) := by
  have z1 := v_call (form_start_eq f)
  have z2 := v_call (form_start_eq g)
  rw [sd_d] at z1 z2
  have z3 := v_call (pair_is_open_eq k (start f, start g))
  rw [sd_d] at z3
  have z4 : pD (start f, start g) = D.tup [oD (start f), oD (start g)] := rfl
  have q0 : (0 : Nat) ≤ sizeLine := Nat.zero_le _
  have q10 : (0 + 1 + 1 : Nat) ≤ sizeLine := by decide
  have q12 : (0 + 1 : Nat) ≤ sizeLine := by decide
  cases ho : opn k (start f, start g) with
  | false =>
    refine ⟨[], ?_, ⟨⟨fun i b r h => by simp at h, fun i b r j h => by simp at h, Nat.zero_le _, okf.wid⟩, fun n h => absurd h (Nat.not_lt_zero _), fun n m h => absurd h (Nat.not_lt_zero _), fun n _ h => absurd h (Nat.not_lt_zero _)⟩, Nat.zero_le _, fun u hu => ?_⟩
    · rw [ho, z4] at z3
      have q11 : fD [] = .tup [] := rfl
      unfold g_paired_form m_paired_form
      clear okf okg hb ho
      walk_at "evh"
    · rw [show start ([] : Fm) = none from rfl, acc_none]
      exact (kb_closed ho u).symm
  | true =>
    have b0 : Pf k f g [(start f, start g)] [] := by
      refine ⟨by simp, fun a ha => ?_, fun a ha => ?_, Nat.zero_le _, fun p a b r _ hg => by simp at hg⟩
      · rw [List.mem_singleton] at ha; rw [ha]; exact ho
      · rw [List.mem_singleton] at ha; rw [ha]; exact ⟨start_in f, start_in g⟩
    have hw : ∃ s : POs, mWhile (mT (m2 fLt (mCB fLen (mCons (mBor 7) mNil)) (mCB fLen (mCons (mBor 5) mNil))))
        (mSeq (mSet 8 (m2 fIx (mBor 5) (mCB fLen (mCons (mBor 7) mNil))))
        (mSeq (mSetF 9 (mLst mNil))
        (mSeq (mFor (mRng1 (mCons (mVar 2) mNil)) (gN 10) PIbody)
        (mApp 7 (mTup (mCons (mCall g_pair_ends (mCons (mVar 0) (mCons (mVar 1) (mCons (mVar 8) (mCons (mVar 3) mNil))))) (mCons (mCB fTuple (mCons (mBor 9) mNil)) mNil))))))) (poE w k f g (start f, start g) ([(start f, start g)], [], none, none, none, none)) = .nx (poE w k f g (start f, start g) s) ∧ s.2.1.length = s.1.length ∧ (∀ (i : Nat) (b : Bool) (r : List (Option Nat)), s.2.1[i]? = some (b, r) → r.length = w) ∧ (∃ m, s.1 = (start f, start g) :: m) ∧ Pf k f g s.1 s.2.1 := by
      refine while_st (poE w k f g (start f, start g)) (fun s => (∀ (i : Nat) (b : Bool) (r : List (Option Nat)), s.2.1[i]? = some (b, r) → r.length = w) ∧ (∃ m, s.1 = (start f, start g) :: m) ∧ Pf k f g s.1 s.2.1) (fun s => (f.length + 1) * (g.length + 1) + 1 - s.2.1.length) (fun o => ∃ s : POs, o = .nx (poE w k f g (start f, start g) s) ∧ s.2.1.length = s.1.length ∧ (∀ (i : Nat) (b : Bool) (r : List (Option Nat)), s.2.1[i]? = some (b, r) → r.length = w) ∧ (∃ m, s.1 = (start f, start g) :: m) ∧ Pf k f g s.1 s.2.1) ?_ _ ⟨fun i b r h => by simp at h, ⟨[], rfl⟩, b0⟩
      intro s hs
      obtain ⟨l, G, x8, x9, x10, x11⟩ := s
      obtain ⟨p1, ⟨m, p3⟩, p2⟩ := hs
      simp only at p1 p2 p3
      have tst : (mT (m2 fLt (mCB fLen (mCons (mBor 7) mNil)) (mCB fLen (mCons (mBor 5) mNil)))) (poE w k f g (start f, start g) (l, G, x8, x9, x10, x11)) = some (decide (G.length < l.length)) := by
        have a1 : ((G.map sD).length : Int) = (G.length : Int) := by rw [List.length_map]
        have a2 : ((l.map pD).length : Int) = (l.length : Int) := by rw [List.length_map]
        have a3 : decide ((G.length : Int) < (l.length : Int)) = decide (G.length < l.length) := decide_eq_decide.mpr (by omega)
        unfold poE
        simp only
        clear p1 p2 p3 b0 z1 z2 z3 z4 ho okf okg hb
        walk_at "evh"
      by_cases hl : G.length < l.length
      · rw [decide_eq_true hl] at tst
        refine .inr ⟨tst, .inl ?_⟩
        obtain ⟨s', t1, b, row, t2, t3, ⟨m', t5⟩, t4⟩ := po_body okf okg hb (a0 := (start f, start g)) p2 hl x8 x9 x10 x11
        refine ⟨s', t1, ⟨fun i b' r' hi => ?_, ⟨m ++ m', by rw [t5, p3]; rfl⟩, by rw [t2]; exact t4⟩, ?_⟩
        · rw [t2] at hi
          by_cases h' : i < G.length
          · rw [List.getElem?_append_left h'] at hi
            exact p1 i b' r' hi
          · have : i = G.length := by
              have := (List.getElem?_eq_some_iff.mp hi).1
              rw [List.length_append, List.length_singleton] at this
              omega
            subst this
            have e1 : (G ++ [(b, row)])[G.length]? = some (b, row) := by simp
            rw [e1] at hi
            cases hi
            exact t3
        · show (f.length + 1) * (g.length + 1) + 1 - s'.2.1.length < (f.length + 1) * (g.length + 1) + 1 - G.length
          rw [t2, List.length_append, List.length_singleton]
          have := p2.le
          omega
      · rw [decide_eq_false hl] at tst
        exact .inl ⟨tst, _, rfl, by have := p2.glen; show G.length = l.length; omega, p1, ⟨m, p3⟩, p2⟩
    obtain ⟨⟨l, G, x8, x9, x10, x11⟩, w1, w2, w3, ⟨m, w5⟩, w4⟩ := hw
    simp only at w2 w3 w4 w5
    have okG : Ok w G := by
      refine ⟨w3, fun i b r j e hj => ?_, by have := w4.le; omega, okf.wid⟩
      obtain ⟨s, hs⟩ := List.mem_iff_getElem?.mp hj
      obtain ⟨a, ha⟩ := at_ex (l := l) (i := i) (by rw [← w2]; exact (List.getElem?_eq_some_iff.mp e).1)
      obtain ⟨x1, _⟩ := (w4.at' i a b r ha e).2 s _ hs
      unfold numP at x1
      split at x1
      · rename_i hm
        have := ps_lt hm
        have x1 := Option.some.inj x1
        omega
      · cases x1
    obtain ⟨h, r1, r2, r3, r4⟩ := least_form_eq okG (.lst (G.map sD)) (.inl rfl)
    refine ⟨h, ?_, r2, by have := w4.le; omega, fun u hu => ?_⟩
    · have q1 : dnew1 (D.tup [oD (start f), oD (start g)]) (.int 0) = some [(pN (start f, start g), .int 0)] := dnew1_eq (nk_p (start f, start g)) (dep_p _)
      have q2 : ixd ([(start f, start g)].map pN) = [(pN (start f, start g), .int 0)] := rfl
      have q3 : [(start f, start g)].map pD = [D.tup [oD (start f), oD (start g)]] := rfl
      have q5 := v_call r1
      rw [sd_d] at q5
      rw [ho, z4] at z3
      unfold g_paired_form m_paired_form
      unfold poE at w1
      simp only [q2, q3, z4, List.map_nil] at w1
      clear b0 okf okg hb ho w2 w3 w4 w5 r1 r2 r3 r4 q2 q3 okG z4
      walk_at "evh"
    · rw [r4 u hu]
      have hl0 : l[0]? = some (start f, start g) := by rw [w5]; rfl
      have : start G = some 0 := if_neg (by have := (List.getElem?_eq_some_iff.mp hl0).1; omega)
      rw [this]
      exact w4.lang w2 w3 u 0 _ hu hl0
end F
namespace F
open PySem L2 R
/-! flipped_form -/
def snk (n : Nat) (o : Option Nat) : Option Nat := match o with
  | none => some n
  | some j => some j
def flipped (w : Nat) (f : Fm) : Fm := (f.map fun s => (!s.1, s.2.map (snk f.length))) ++ [(true, List.replicate w (some f.length))]
theorem flipped_at {w : Nat} {f : Fm} {i : Nat} {b : Bool} {r : List (Option Nat)} (h : f[i]? = some (b, r)) : (flipped w f)[i]? = some (!b, r.map (snk f.length)) := by
  unfold flipped
  rw [List.getElem?_append_left (by rw [List.length_map]; exact (List.getElem?_eq_some_iff.mp h).1), List.getElem?_map, h]
  rfl
theorem flipped_end {w : Nat} {f : Fm} : (flipped w f)[f.length]? = some (true, List.replicate w (some f.length)) := by
  unfold flipped
  rw [List.getElem?_append_right (by rw [List.length_map]; exact Nat.le_refl _), List.length_map, Nat.sub_self]
  rfl
theorem flipped_len (w : Nat) (f : Fm) : (flipped w f).length = f.length + 1 := by unfold flipped; simp
theorem flipped_ok {w : Nat} {f : Fm} (ok : Ok w f) (hb : f.length + 1 ≤ 16000000) : Ok w (flipped w f) := by
  refine ⟨fun i b r e => ?_, fun i b r j e hj => ?_, by rw [flipped_len]; exact hb, ok.wid⟩
  · have hi := (List.getElem?_eq_some_iff.mp e).1
    rw [flipped_len] at hi
    by_cases h : i < f.length
    · obtain ⟨⟨b', r'⟩, e'⟩ := at_ex h
      rw [flipped_at e'] at e
      cases e
      rw [List.length_map]
      exact ok.row i b' r' e'
    · have : i = f.length := by omega
      subst this
      rw [flipped_end] at e
      cases e
      rw [List.length_replicate]
  · have hi := (List.getElem?_eq_some_iff.mp e).1
    rw [flipped_len] at hi ⊢
    by_cases h : i < f.length
    · obtain ⟨⟨b', r'⟩, e'⟩ := at_ex h
      rw [flipped_at e'] at e
      cases e
      obtain ⟨o, ho, ej⟩ := List.mem_map.mp hj
      cases o with
      | none => have ej : f.length = j := Option.some.inj ej; omega
      | some y =>
        have ej : y = j := Option.some.inj ej
        have := ok.tgt i b' r' y e' ho
        omega
    · have : i = f.length := by omega
      subst this
      rw [flipped_end] at e
      cases e
      have := List.eq_of_mem_replicate hj
      have := Option.some.inj this
      omega
theorem flipped_sink {w : Nat} {f : Fm} : ∀ u, Wd w u → acc (flipped w f) (some f.length) u = true
  | [], _ => stops_at flipped_end
  | k :: u, hu => by
    show acc (flipped w f) (step (flipped w f) (some f.length) k) u = true
    rw [step_at flipped_end (o := some f.length) (by rw [List.getElem?_replicate, if_pos hu.head])]
    exact flipped_sink u hu.tail
theorem flipped_acc {w : Nat} {f : Fm} (ok : Ok w f) : ∀ (u : List Nat) (i : Nat), Wd w u → i < f.length → acc (flipped w f) (some i) u = !acc f (some i) u
  | [], i, _, hi => by
    obtain ⟨⟨b, r⟩, e⟩ := at_ex hi
    show stops (flipped w f) (some i) = !stops f (some i)
    rw [stops_at (flipped_at e), stops_at e]
  | k :: u, i, hu, hi => by
    obtain ⟨⟨b, r⟩, e⟩ := at_ex hi
    obtain ⟨o, ho⟩ := at_ex (l := r) (i := k) (by rw [ok.row i b r e]; exact hu.head)
    show acc (flipped w f) (step (flipped w f) (some i) k) u = !acc f (step f (some i) k) u
    rw [step_at (flipped_at e) (o := snk f.length o) (by rw [List.getElem?_map, ho]; rfl), step_at e ho]
    cases o with
    | none =>
      rw [acc_none]
      exact flipped_sink u hu.tail
    | some j => exact flipped_acc ok u j hu.tail (ok.tgt i b r j e (List.mem_of_getElem? ho))
theorem flipped_start {w : Nat} {f : Fm} (ok : Ok w f) (u : List Nat) (hu : Wd w u) : acc (flipped w f) (start (flipped w f)) u = !acc f (start f) u := by
  rw [show start (flipped w f) = some 0 from if_neg (by rw [flipped_len]; omega)]
  by_cases h : f.length = 0
  · rw [show start f = none from if_pos h, acc_none]
    have := flipped_sink (w := w) (f := f) u hu
    rw [h] at this
    exact this
  · rw [show start f = some 0 from if_neg h]
    exact flipped_acc ok u 0 hu (by omega)
abbrev FLs := Fm × Option Sl × Option Sl
def flE (w : Nat) (f : Fm) (s : FLs) : Slots := [some (.d (fD f)), some (.d (.int (w : Int))), some (.d (.int (f.length : Int))), some (.own (.lst (s.1.map sD))), s.2.1, s.2.2, none, none]
theorem lc_snk {n : Nat} {a0 a1 a3 a4 a5 a7 : Option Sl} : ∀ (r : List (Option Nat)),
    lcGo 7 mYes (mIfE (mT (m2 fIs (mBor 7) (mC .non))) (mVar 2) (mVar 7)) [a0, a1, some (.d (.int (n : Int))), a3, a4, a5, a7, none] (r.map oD) = some ((r.map (snk n)).map oD)
  | [] => rfl
  | o :: r => by
    have ih := lc_snk (n := n) (a0 := a0) (a1 := a1) (a3 := a3) (a4 := a4) (a5 := a5) (a7 := a7) r
    rw [List.map_cons]
    unfold lcGo
    cases o with
    | none =>
      have h1 := is_n
      have h2 := oD_n
      walk_at "evh"
      rfl
    | some j =>
      have h1 := is_i (n := (j : Int))
      have h2 := oD_s j
      walk_at "evh"
      rfl
theorem lc_const {j : Nat} {me : ME} {ρ : Slots} {d : D} : ∀ (xs : List D), (∀ x ∈ xs, me (ρ.set j (some (.d x))) = some d) → lcGo j mYes me ρ xs = some (List.replicate xs.length d)
  | [], _ => rfl
  | x :: xs, h => by
    have ih := lc_const (me := me) (ρ := ρ) (j := j) (d := d) xs (fun y hy => h y (List.mem_cons_of_mem _ hy))
    have h0 := h x List.mem_cons_self
    unfold lcGo
    simp only [mYes, h0, ih]
    rfl
theorem flipped_form_eq {w : Nat} {f : Fm} (ok : Ok w f) (hb : f.length + 1 ≤ 16000000) : ∃ g, g_flipped_form [fD f, .int (w : Int)] = some (.d (fD g)) ∧ Lst w g ∧ g.length ≤ f.length + 1 ∧ ∀ u, Wd w u → acc g (start g) u = !acc f (start f) u := by
  obtain ⟨g, r1, r2, r3, r4⟩ := least_form_eq (flipped_ok ok hb) (.lst ((flipped w f).map sD)) (.inl rfl)
  refine ⟨g, ?_, r2, by rw [flipped_len] at r3; exact r3, fun u hu => by rw [r4 u hu, flipped_start ok u hu]⟩
  have hw : ∃ s : FLs, forGo (gTup [(gN 4), (gN 5)]) (mApp 3 (mTup (mCons (mNotV (mVar 4)) (mCons (mCB fTuple (mCons (mF (mLc (mItems (mVar 5)) 7 mYes (mIfE (mT (m2 fIs (mBor 7) (mC .non))) (mVar 2) (mVar 7)))) mNil)) mNil)))) (f.map sD) (flE w f ([], none, none)) = .nx (flE w f s) ∧ s.1 = f.map fun s => (!s.1, s.2.map (snk f.length)) := by
    refine for_st (flE w f) (fun i s => s.1 = (f.map fun s => (!s.1, s.2.map (snk f.length))).take i) (fun o => ∃ s : FLs, o = .nx (flE w f s) ∧ s.1 = f.map fun s => (!s.1, s.2.map (snk f.length))) (by rfl) ?_ ?_
    · intro i x s hx hp
      obtain ⟨out, a4, a5⟩ := s
      simp only at hp
      rw [List.getElem?_map] at hx
      cases e : f[i]? with
      | none => rw [e] at hx; cases hx
      | some p =>
        rw [e] at hx
        cases hx
        obtain ⟨b, r⟩ := p
        have hi : i < f.length := (List.getElem?_eq_some_iff.mp e).1
        refine ⟨flE w f (out, some (.d (.bl b)), some (.d (.tup (r.map oD)))), rfl, .inl ⟨(out ++ [(!b, r.map (snk f.length))], some (.d (.bl b)), some (.d (.tup (r.map oD)))), .inl ?_, ?_⟩⟩
        · have q1 := lc_snk (n := f.length) (a0 := some (.d (fD f))) (a1 := some (.d (.int (w : Int)))) (a3 := some (.own (.lst (out.map sD)))) (a4 := some (.d (.bl b))) (a5 := some (.d (.tup (r.map oD)))) (a7 := none) r
          have q2 : (r.map oD).length ≤ sizeLine := by rw [List.length_map]; have := ok.row i b r e; have := ok.wid; exact sl_ok _ (by omega)
          have q3 : fTuple [.lst ((r.map (snk f.length)).map oD)] = some (.tup ((r.map (snk f.length)).map oD)) := rfl
          have q4 : (out.map sD).length < sizeLine := by
            rw [List.length_map, hp, List.length_take, List.length_map, sizeLine_eq]
            omega
          have q5 : out.map sD ++ [D.tup [.bl (!b), .tup ((r.map (snk f.length)).map oD)]] = (out ++ [(!b, r.map (snk f.length))]).map sD := by rw [List.map_append]; rfl
          have q6 : (0 + 1 + 1 : Nat) ≤ sizeLine := by decide
          unfold flE
          simp only
          clear hp hi ok hb r1 r2 r3 r4 e
          walk_at "evh"
        · show out ++ [(!b, r.map (snk f.length))] = (f.map fun s => (!s.1, s.2.map (snk f.length))).take (i + 1)
          rw [List.take_add_one, ← hp, List.getElem?_map, e]
          rfl
    · intro s hp
      refine ⟨s, rfl, ?_⟩
      rw [hp]
      apply List.take_of_length_le
      rw [List.length_map, List.length_map]
      exact Nat.le_refl _
  obtain ⟨⟨out, a4, a5⟩, w1, w2⟩ := hw
  simp only at w2
  have q1 : fLen [fD f] = some (.int (f.length : Int)) := by show some (D.int ((f.map sD).length : Int)) = _; rw [List.length_map]
  have q2 := v_rngN (n := w) (by have := ok.wid; omega)
  have q3 : lcGo 6 mYes (mVar 2) [some (.d (fD f)), some (.d (.int (w : Int))), some (.d (.int (f.length : Int))), some (.own (.lst (out.map sD))), a4, a5, none, none] (rngD 0 w) = some ((List.replicate w (some f.length)).map oD) := by
    rw [lc_const (d := .int (f.length : Int)) (rngD 0 w) (fun x _ => rfl)]
    have : (rngD 0 w).length = w := by unfold rngD; rw [List.length_map, List.length_range]
    rw [this, List.map_replicate]
    rfl
  have q4 : (rngD 0 w).length ≤ sizeLine := by
    have : (rngD 0 w).length = w := by unfold rngD; rw [List.length_map, List.length_range]
    rw [this]
    have := ok.wid
    exact sl_ok _ (by omega)
  have q5 : fTuple [.lst ((List.replicate w (some f.length)).map oD)] = some (.tup ((List.replicate w (some f.length)).map oD)) := rfl
  have q6 : out.map sD ++ [D.tup [.bl true, .tup ((List.replicate w (some f.length)).map oD)]] = (flipped w f).map sD := by
    unfold flipped
    rw [List.map_append, w2]
    rfl
  have q7 : (out.map sD).length < sizeLine := by rw [List.length_map, w2, List.length_map, sizeLine_eq]; omega
  have q8 : (0 + 1 + 1 : Nat) ≤ sizeLine := by decide
  have q9 := v_call r1
  rw [sd_d] at q9
  have q10 : itemsOf (fD f) = some (f.map sD) := rfl
  have q11 : (0 : Nat) ≤ sizeLine := Nat.zero_le _
  unfold g_flipped_form m_flipped_form
  unfold flE at w1
  simp only [List.map_nil] at w1
  clear w2 r1 r2 r3 r4 ok hb
  walk_at "evh"
end F
namespace F
open PySem L2 R
/-! alphabets -/
def abc : List Nat := S "abcdefghijklmnopqrstuvwxyz"
theorem abc_len : abc.length = 26 := by decide +kernel
theorem abc_at : ∀ p, p < 26 → abc[p]? = some (97 + p) := by decide +kernel
theorem abc_mem {c : Nat} (h1 : 97 ≤ c) (h2 : c ≤ 122) : c ∈ abc := by
  have := abc_at (c - 97) (by omega)
  rw [show 97 + (c - 97) = c by omega] at this
  exact List.mem_of_getElem? this
structure Alp (al : List Nat) : Prop where
  one : 1 ≤ al.length
  six : al.length ≤ 6
  ltr : ∀ c ∈ al, 97 ≤ c ∧ c ≤ 122
  asc : al.Pairwise (· < ·)
theorem Alp.nd {al : List Nat} (h : Alp al) : al.Nodup := List.Pairwise.imp (fun h => Nat.ne_of_lt h) h.asc
abbrev IAs := Option Sl × Option Sl
def iaE (al : List Nat) (s : IAs) : Slots := [some (.d (.str al)), s.1, s.2]
abbrev IAbody : MS := (mSeq (mIf (mT (m2 fNotIn (mBor 2) (mC (.str (S "abcdefghijklmnopqrstuvwxyz")))))
      (mRet (mC (.bl false)))
      mNext)
    (mIf (mAnd (mT (m2 fGt (mBor 1) (mC (.int 0)))) (mT (m2 fGeS (m2 fIx (mBor 0) (m2 fSub (mBor 1) (mC (.int 1)))) (mBor 2))))
      (mRet (mC (.bl false)))
      mNext))
theorem enum_str_at {al : List Nat} {i : Nat} {x : D} (h : ((al.map fun c => D.str [c]).zipIdx.map fun p => D.tup [.int (p.2 : Int), p.1])[i]? = some x) : ∃ c, al[i]? = some c ∧ x = .tup [.int (i : Int), .str [c]] := by
  rw [enum_ix, List.getElem?_map] at h
  cases e : al[i]? with
  | none => rw [e] at h; cases h
  | some c => rw [e] at h; cases h; exact ⟨c, rfl, rfl⟩
theorem is_alphabet_eq {al : List Nat} (h : Alp al) : g_is_alphabet [.str al] = some (.d (.bl true)) := by
  have hw : ∃ s : IAs, forGo (gTup [(gN 1), (gN 2)]) IAbody ((al.map fun c => D.str [c]).zipIdx.map fun p => D.tup [.int (p.2 : Int), p.1]) (iaE al (none, none)) = .nx (iaE al s) := by
    refine for_st (iaE al) (fun _ _ => True) (fun o => ∃ s : IAs, o = .nx (iaE al s)) trivial ?_ (fun s _ => ⟨s, rfl⟩)
    intro i x s hx _
    obtain ⟨c, hc, rfl⟩ := enum_str_at hx
    refine ⟨iaE al (some (.d (.int (i : Int))), some (.d (.str [c]))), rfl, .inl ⟨(some (.d (.int (i : Int))), some (.d (.str [c]))), .inl ?_, trivial⟩⟩
    have hm := h.ltr c (List.mem_of_getElem? hc)
    have q1 : fNotIn (.str [c]) (.str (S "abcdefghijklmnopqrstuvwxyz")) = some (.bl false) := by
      have := abc_mem hm.1 hm.2
      unfold abc at this
      simp [fNotIn, inB, this]
    unfold iaE
    simp only
    by_cases h0 : i = 0
    · subst h0
      have q2 : decide ((0 : Int) < ((0 : Nat) : Int)) = false := by decide
      clear h hx hc hm
      walk_at "evh"
    · have q2 : decide ((0 : Int) < (i : Int)) = true := decide_eq_true (by omega)
      have hi := (List.getElem?_eq_some_iff.mp hc).1
      obtain ⟨b, hb⟩ := at_ex (l := al) (i := i - 1) (by omega)
      have q3 : fIx (.str al) (.int ((i : Int) - 1)) = some (.str [b]) := by
        rw [show (i : Int) - 1 = ((i - 1 : Nat) : Int) by omega]
        exact fIx_str (by have := h.six; omega) (atI_nat hb)
      have hlt : b < c := by
        obtain ⟨l1, e1⟩ := List.getElem?_eq_some_iff.mp hb
        obtain ⟨l2, e2⟩ := List.getElem?_eq_some_iff.mp hc
        have := List.pairwise_iff_getElem.mp h.asc (i - 1) i l1 l2 (by omega)
        rwa [e1, e2] at this
      have q4 : fGeS (.str [b]) (.str [c]) = some (.bl false) := by
        show some (D.bl (!decide ([b] < [c]))) = _
        rw [decide_eq_true (show [b] < [c] from List.Lex.rel hlt)]
        rfl
      clear h hx hc hm h0 hb hlt hi
      walk_at "evh"
  obtain ⟨s, w1⟩ := hw
  have q1 := fLen_str (a := al) (by have := h.six; omega)
  have q2 : decide ((1 : Int) ≤ (al.length : Int)) = true := decide_eq_true (by have := h.one; omega)
  have q3 : decide ((al.length : Int) ≤ 6) = true := decide_eq_true (by have := h.six; omega)
  unfold g_is_alphabet m_is_alphabet
  unfold iaE at w1
  simp only at w1
  clear h
  walk_at "evh"
theorem check_alphabet_eq {al : List Nat} (h : Alp al) : g_check_alphabet [.str al] = some (.d .non) := by
  have q := v_call (is_alphabet_eq h)
  rw [sd_d] at q
  unfold g_check_alphabet m_check_alphabet
  clear h
  walk_at "evh"
/-! forms that are let -/
theorem isi_o_int (n : Int) : fIsi [.int n, .ty "int"] = some (.bl true) := by
  show (match kitB "int" "int" with | some b => some (D.bl b) | none => none) = _
  have : kitB "int" "int" = some true := by decide +kernel
  rw [this]
theorem isi_o_bool (n : Int) : fIsi [.int n, .ty "bool"] = some (.bl false) := by
  show (match kitB "int" "bool" with | some b => some (D.bl b) | none => none) = _
  have : kitB "int" "bool" = some false := by decide +kernel
  rw [this]
theorem is_move_eq {f : Fm} {o : Option Nat} (h : inR f o) : g_is_move [fD f, oD o] = some (.d (.bl true)) := by
  unfold g_is_move m_is_move
  cases o with
  | none =>
    have h1 := is_n
    have h2 := oD_n
    clear h
    walk_at "evh"
  | some j =>
    have hj := h j rfl
    have h1 := is_i (n := (j : Int))
    have h2 := oD_s j
    have h3 := isi_o_int (j : Int)
    have h4 := isi_o_bool (j : Int)
    have h5 : decide ((0 : Int) ≤ (j : Int)) = true := decide_eq_true (by omega)
    have h6 : decide ((j : Int) < (f.length : Int)) = true := decide_eq_true (by omega)
    have h7 : fLen [fD f] = some (.int (f.length : Int)) := by show some (D.int ((f.map sD).length : Int)) = _; rw [List.length_map]
    clear h hj
    walk_at "evh"
theorem all_true (n : Nat) : fAll [.lst (List.replicate n (D.bl true))] = some (.bl true) := by
  have : bools (List.replicate n (D.bl true)) = some (List.replicate n true) := by
    induction n with
    | zero => rfl
    | succ n ih =>
      rw [List.replicate_succ, List.replicate_succ]
      show (match bools (List.replicate n (D.bl true)) with | some bs => some (true :: bs) | none => none) = _
      rw [ih]
  show (match bools (List.replicate n (D.bl true)) with | some bs => some (D.bl (bs.all id)) | none => none) = _
  rw [this]
  simp
abbrev CFs := Option Sl × Option Sl × Option Sl
def cfE (w : Nat) (f : Fm) (s : CFs) : Slots := [some (.d (fD f)), some (.d (.int (w : Int))), s.1, s.2.1, s.2.2, none]
theorem check_form_eq {w : Nat} {f : Fm} (ok : Ok w f) : g_check_form [fD f, .int (w : Int)] = some (.d .non) := by
  have hw : ∃ s : CFs, forGo (gTup [(gN 2), (gTup [(gN 3), (gN 4)])]) (mIf (mOr (mT (m2 fNe (mCB fLen (mCons (mBor 4) mNil)) (mBor 1))) (mNot (mT (mCB fAll (mCons (mF (mLc (mItems (mVar 4)) 5 mYes (mCall g_is_move (mCons (mVar 0) (mCons (mVar 5) mNil))))) mNil))))) mStuck mNext)
      ((f.map sD).zipIdx.map fun p => D.tup [.int (p.2 : Int), p.1]) (cfE w f (none, none, none)) = .nx (cfE w f s) := by
    refine for_st (cfE w f) (fun _ _ => True) (fun o => ∃ s : CFs, o = .nx (cfE w f s)) trivial ?_ (fun s _ => ⟨s, rfl⟩)
    intro i x s hx _
    rw [enum_ix, List.getElem?_map] at hx
    cases e : f[i]? with
    | none => rw [e] at hx; cases hx
    | some p =>
      rw [e] at hx
      cases hx
      obtain ⟨b, r⟩ := p
      refine ⟨cfE w f (some (.d (.int (i : Int))), some (.d (.bl b)), some (.d (.tup (r.map oD)))), rfl, .inl ⟨(some (.d (.int (i : Int))), some (.d (.bl b)), some (.d (.tup (r.map oD)))), .inl ?_, trivial⟩⟩
      have q1 : lcGo 5 mYes (mCall g_is_move (mCons (mVar 0) (mCons (mVar 5) mNil))) (cfE w f (some (.d (.int (i : Int))), some (.d (.bl b)), some (.d (.tup (r.map oD))))) (r.map oD) = some (List.replicate (r.map oD).length (.bl true)) := by
        refine lc_const _ fun x hx => ?_
        obtain ⟨o, ho, rfl⟩ := List.mem_map.mp hx
        have h1 := v_call (is_move_eq (f := f) (o := o) (fun j hj => ok.tgt i b r j e (by rw [← hj]; exact ho)))
        rw [sd_d] at h1
        unfold cfE
        simp only
        clear ok hx e ho
        walk_at "evh"
      have q2 := all_true (r.map oD).length
      have hrl := ok.row i b r e
      have q3 : (r.map oD).length ≤ sizeLine := by rw [List.length_map]; have := ok.wid; exact sl_ok _ (by omega)
      have q4 : fNe (.int ((r.map oD).length : Int)) (.int (w : Int)) = some (.bl false) := by
        rw [fNe_int, decide_eq_true (by rw [List.length_map]; omega)]
        rfl
      unfold cfE at q1 ⊢
      simp only at q1 ⊢
      clear ok e hrl
      walk_at "evh"
  obtain ⟨s, w1⟩ := hw
  unfold g_check_form m_check_form
  unfold cfE at w1
  simp only at w1
  clear ok
  have q : oEnum (some (fD f)) = some ((f.map sD).zipIdx.map fun p => D.tup [.int (p.2 : Int), p.1]) := rfl
  walk_at "evh"
/-! sets -/
def tsD (al : List Nat) (f : Fm) : D := .ins "TextSet" ["alphabet", "form"] [.str al, fD f]
theorem ts_al (al : List Nat) (f : Fm) : fldD "TextSet" "alphabet" (tsD al f) = some (.str al) := by
  show (if "TextSet" = "TextSet" then List.lookup ("alphabet" : Str) (([("alphabet" : Str), "form"] : List Str).zip [D.str al, fD f]) else none) = _
  rw [if_pos rfl]
  rfl
theorem ts_form (al : List Nat) (f : Fm) : fldD "TextSet" "form" (tsD al f) = some (fD f) := by
  show (if "TextSet" = "TextSet" then List.lookup ("form" : Str) (([("alphabet" : Str), "form"] : List Str).zip [D.str al, fD f]) else none) = _
  rw [if_pos rfl]
  rfl
theorem ts_init {al : List Nat} {f : Fm} (ha : Alp al) (ok : Ok al.length f) (d : D) (hd : d = .lst (f.map sD) ∨ d = fD f) : ∃ g, (∀ x, g_TextSet___init__ x [.str al, d] = some ((["alphabet", "form"] : List Str), [.str al, fD g])) ∧ Lst al.length g ∧ g.length ≤ f.length ∧ ∀ u, Wd al.length u → acc g (start g) u = acc f (start f) u := by
  obtain ⟨g, r1, r2, r3, r4⟩ := least_form_eq ok (fD f) (.inr rfl)
  refine ⟨g, fun x => ?_, r2, r3, r4⟩
  have q1 := v_call (check_alphabet_eq ha)
  have q2 := v_call (fz_f ok d hd)
  have q3 := v_call (check_form_eq ok)
  have q4 := v_call r1
  rw [sd_d] at q1 q2 q3 q4
  have q5 := fLen_str (a := al) (by have := ha.six; omega)
  have n1 : ("alphabet" : Str) ∉ ([] : List Str) := by simp
  have n2 : ("form" : Str) ∉ ([("alphabet" : Str)] : List Str) := by decide
  unfold g_TextSet___init__ gI
  rw [if_pos (by rfl)]
  unfold m_TextSet___init__ envI
  clear ha ok hd r1 r2 r3 r4
  have s1 : ∀ ρ : Slots, ∀ c ns ds d, ρ[(0 : Nat)]? = some (some (.own (.ins x c ns ds))) → mVar 1 ρ = some d → ("alphabet" : Str) ∉ ns → ns.length < 900 → mSetFld 0 "alphabet" (mVar 1) ρ = .nx (ρ.set 0 (some (.own (.ins x c (ns ++ [("alphabet" : Str)]) (ds ++ [d]))))) := fun ρ c ns ds d h1 h2 h3 h4 => by
    unfold mSetFld
    rw [h1, h2]
    simp only
    rw [if_pos ⟨h3, h4⟩]
  have s2 : ∀ ρ : Slots, ∀ c ns ds d me, ρ[(0 : Nat)]? = some (some (.own (.ins x c ns ds))) → me ρ = some d → ("form" : Str) ∉ ns → ns.length < 900 → mSetFld 0 "form" me ρ = .nx (ρ.set 0 (some (.own (.ins x c (ns ++ [("form" : Str)]) (ds ++ [d]))))) := fun ρ c ns ds d me h1 h2 h3 h4 => by
    unfold mSetFld
    rw [h1, h2]
    simp only
    rw [if_pos ⟨h3, h4⟩]
  walk_at "evh"
  rw [s1 _ "TextSet" [] [] (.str al) rfl rfl n1 (by decide)]
  walk_at "evh"
  rw [s2 _ "TextSet" ["alphabet"] [.str al] (fD g) _ rfl (by walk_at "evh") n2 (by decide)]
  show (if x = x ∧ "TextSet" = "TextSet" then some (([("alphabet" : Str), "form"] : List Str), [D.str al, fD g]) else none) = _
  rw [if_pos ⟨rfl, rfl⟩]
theorem ts_make {al : List Nat} {f : Fm} (ha : Alp al) (ok : Ok al.length f) (d : D) (hd : d = .lst (f.map sD) ∨ d = fD f) : ∃ g, giD "TextSet" g_TextSet___init__ [.str al, d] = some (tsD al g) ∧ Lst al.length g ∧ g.length ≤ f.length ∧ ∀ u, Wd al.length u → acc g (start g) u = acc f (start f) u := by
  obtain ⟨g, r1, r2⟩ := ts_init ha ok d hd
  exact ⟨g, giD_eq r1, r2⟩
end F
namespace F
open PySem L2 R
theorem ts_len {al : List Nat} (ha : Alp al) : fLen [.str al] = some (.int (al.length : Int)) := fLen_str (by have := ha.six; omega)
theorem v_callR {gg : List D → Option Sl} {ds : List D} {d : D} (h : gg ds = some (.d d)) : oCall gg (some ds) = some d := by rw [v_call h]; rfl
theorem same_ok (al : List Nat) (f g : Fm) : gx_check_same_alphabet [tsD al f, tsD al g] = some (.val (.d .non)) := by
  have q1 := ts_al al f
  have q2 := ts_al al g
  have q3 : fNe (.str al) (.str al) = some (.bl false) := by rw [fNe_str, decide_eq_true rfl]; rfl
  unfold gx_check_same_alphabet gX
  rw [if_pos (by rfl)]
  unfold m_check_same_alphabet
  walk_at "evh"
  rfl
theorem same_not {al al2 : List Nat} (hne : al ≠ al2) (f g : Fm) : gx_check_same_alphabet [tsD al f, tsD al2 g] = some (.exc ⟨"AlphabetsDiffer", ["one", "two"], [.str al, .str al2]⟩) := by
  have q1 := ts_al al f
  have q2 := ts_al al2 g
  have q3 : fNe (.str al) (.str al2) = some (.bl true) := by rw [fNe_str, decide_eq_false hne]; rfl
  unfold gx_check_same_alphabet gX
  rw [if_pos (by rfl)]
  unfold m_check_same_alphabet
  clear hne
  walk_at "evh"
  rfl
noncomputable def opX : Kp → List D → Option RO
  | .either => gx_TextSet___or__
  | .both => gx_TextSet___and__
  | .first => gx_TextSet___sub__
theorem ts_op (k : Kp) {al : List Nat} {f g : Fm} (ha : Alp al) (lf : Lst al.length f) (lg : Lst al.length g) (hb : (f.length + 1) * (g.length + 1) ≤ 16000000) :
    ∃ h, opX k [tsD al f, tsD al g] = some (.val (.d (tsD al h))) ∧ Lst al.length h ∧ h.length ≤ (f.length + 1) * (g.length + 1) ∧ ∀ u, Wd al.length u → acc h (start h) u = kb k (acc f (start f) u) (acc g (start g) u) := by
  obtain ⟨p, p1, p2, p3, p4⟩ := paired_form_eq k lf.ok lg.ok hb
  obtain ⟨h, h1, h2, h3, h4⟩ := ts_make ha p2.ok (fD p) (.inr rfl)
  refine ⟨h, ?_, h2, by omega, fun u hu => by rw [h4 u hu, p4 u hu]⟩
  have q0 := same_ok al f g
  have q1 := ts_al al f
  have q2 := ts_form al f
  have q3 := ts_form al g
  have q4 := ts_len ha
  have q5 := v_callR p1
  clear p1 p2 p3 p4 h2 h3 h4 lf lg hb ha
  cases k
  · show gx_TextSet___or__ _ = _
    unfold gx_TextSet___or__ gX
    rw [if_pos (by rfl)]
    unfold m_TextSet___or__
    simp only [kw] at q5
    walk_at "evh"
    rfl
  · show gx_TextSet___and__ _ = _
    unfold gx_TextSet___and__ gX
    rw [if_pos (by rfl)]
    unfold m_TextSet___and__
    simp only [kw] at q5
    walk_at "evh"
    rfl
  · show gx_TextSet___sub__ _ = _
    unfold gx_TextSet___sub__ gX
    rw [if_pos (by rfl)]
    unfold m_TextSet___sub__
    simp only [kw] at q5
    walk_at "evh"
    rfl
theorem ts_differ (k : Kp) {al al2 : List Nat} (hne : al ≠ al2) (f g : Fm) : opX k [tsD al f, tsD al2 g] = some (.exc ⟨"AlphabetsDiffer", ["one", "two"], [.str al, .str al2]⟩) := by
  have q0 := same_not hne f g
  clear hne
  cases k
  · show gx_TextSet___or__ _ = _
    unfold gx_TextSet___or__ gX
    rw [if_pos (by rfl)]
    unfold m_TextSet___or__
    walk_at "evh"
    rfl
  · show gx_TextSet___and__ _ = _
    unfold gx_TextSet___and__ gX
    rw [if_pos (by rfl)]
    unfold m_TextSet___and__
    walk_at "evh"
    rfl
  · show gx_TextSet___sub__ _ = _
    unfold gx_TextSet___sub__ gX
    rw [if_pos (by rfl)]
    unfold m_TextSet___sub__
    walk_at "evh"
    rfl
theorem bin_of {gg : List D → Option RO} {al al2 al3 : List Nat} {f g h : Fm} (e : gg [tsD al f, tsD al2 g] = some (.val (.d (tsD al3 h)))) : fBin "TextSet" (gV gg) (tsD al f) (tsD al2 g) = some (tsD al3 h) := by
  have e2 : gS (gV gg) [tsD al f, tsD al2 g] = some (tsD al3 h) := by
    unfold gS
    rw [gV_eq e]
    rfl
  show (if "TextSet" = "TextSet" ∧ "TextSet" = "TextSet" then (match gS (gV gg) [tsD al f, tsD al2 g] with | some (D.ins c3 n3 d3) => some (D.ins c3 n3 d3) | _ => none) else none) = _
  rw [if_pos ⟨rfl, rfl⟩, e2]
  rfl
theorem binX_of {gg : List D → Option RO} {al al2 : List Nat} {f g : Fm} : binX "TextSet" gg (tsD al f) (tsD al2 g) = insR (gg [tsD al f, tsD al2 g]) := by
  show (if "TextSet" = "TextSet" ∧ "TextSet" = "TextSet" then insR (gg [tsD al f, tsD al2 g]) else none) = _
  rw [if_pos ⟨rfl, rfl⟩]
theorem ts_inv {al : List Nat} {f : Fm} (ha : Alp al) (lf : Lst al.length f) (hb : f.length + 1 ≤ 16000000) :
    ∃ h, fUn "TextSet" g_TextSet___invert__ (tsD al f) = some (tsD al h) ∧ Lst al.length h ∧ h.length ≤ f.length + 1 ∧ ∀ u, Wd al.length u → acc h (start h) u = !acc f (start f) u := by
  obtain ⟨p, p1, p2, p3, p4⟩ := flipped_form_eq lf.ok hb
  obtain ⟨h, h1, h2, h3, h4⟩ := ts_make ha p2.ok (fD p) (.inr rfl)
  refine ⟨h, ?_, h2, by omega, fun u hu => by rw [h4 u hu, p4 u hu]⟩
  have q1 := ts_al al f
  have q2 := ts_form al f
  have q4 := ts_len ha
  have q5 := v_callR p1
  clear p1 p2 p3 p4 h2 h3 h4 lf hb ha
  have q6 : g_TextSet___invert__ [tsD al f] = some (.d (tsD al h)) := by
    unfold g_TextSet___invert__ m_TextSet___invert__
    walk_at "evh"
  show (if "TextSet" = "TextSet" then gS g_TextSet___invert__ [tsD al f] else none) = _
  rw [if_pos rfl]
  unfold gS
  rw [q6]
  rfl
/-! reading -/
theorem meth_of {m : Str} {gg : List D → Option Sl} {al : List Nat} {f : Fm} {as : List D} {d : D} (hm : m ∉ ([("alphabet" : Str), "form"] : List Str)) (e : gg (tsD al f :: as) = some (.d d)) : methD "TextSet" m gg (tsD al f) as = some d := by
  show (if "TextSet" = "TextSet" ∧ m ∉ ([("alphabet" : Str), "form"] : List Str) then gS gg (tsD al f :: as) else none) = _
  rw [if_pos ⟨rfl, hm⟩]
  unfold gS
  rw [e]
  rfl
theorem begin_eq (al : List Nat) (f : Fm) : g_TextSet_begin [tsD al f] = some (.d (oD (start f))) := by
  have q1 := ts_form al f
  have q2 := v_callR (form_start_eq f)
  unfold g_TextSet_begin m_TextSet_begin
  walk_at "evh"
theorem stops_eq (al : List Nat) {f : Fm} {s : Option Nat} (h : inR f s) : g_TextSet_stops [tsD al f, oD s] = some (.d (.bl (stops f s))) := by
  have q1 := ts_form al f
  have q2 := v_callR (form_stops_eq s h)
  unfold g_TextSet_stops m_TextSet_stops
  clear h
  walk_at "evh"
/-- the symbol of a sign -/
def sym (al : List Nat) (c : Nat) : Option Nat := if c ∈ al then some (ps al c) else none
def stepC (al : List Nat) (f : Fm) (s : Option Nat) (c : Nat) : Option Nat := match sym al c with
  | none => none
  | some k => step f s k
theorem at_iff1 (x : List Nat) (c i : Nat) : StrLaws.At ⟨x.toArray⟩ ⟨#[c]⟩ (⟨x.toArray⟩ : Str).length i ↔ x[i]? = some c := by
  have h := StrLaws.subAt_one ⟨x.toArray⟩ c i
  unfold StrLaws.At
  simpa using h
theorem find_eq (x : List Nat) (c : Nat) : fFind1 x [.str [c]] = some (.int (match sym x c with | some k => (k : Int) | none => -1)) := by
  show some (D.int (Txt.find ⟨x.toArray⟩ ⟨[c].toArray⟩)) = _
  have h := StrLaws.find3_spec ⟨x.toArray⟩ c (0 : Int)
  have e : fromIndex (⟨x.toArray⟩ : Str).length (0 : Int) = 0 := by
    unfold fromIndex
    rw [if_neg (by omega)]
    simp
  have e2 : Txt.find ⟨x.toArray⟩ ⟨[c].toArray⟩ = Txt.find3 ⟨x.toArray⟩ ⟨[c].toArray⟩ 0 := by
    unfold Txt.find Txt.find3
    rw [e]
    cases Builtin.Str.occurrences _ _ _ _ _ <;> rfl
  have g : ∀ v, v < x.length → (⟨x.toArray⟩ : Str).cps.getD v 0 = c → x[v]? = some c := fun v hv hc => by
    have := StrLaws.getElem?_of_getD (x := ⟨x.toArray⟩) (by rw [slen]; exact hv) hc
    simpa using this
  have g' : ∀ v, x[v]? = some c → v < x.length ∧ (⟨x.toArray⟩ : Str).cps.getD v 0 = c := fun v hv => by
    have hl := (List.getElem?_eq_some_iff.mp hv).1
    refine ⟨hl, ?_⟩
    have := StrLaws.getD_of_getElem? (x := ⟨x.toArray⟩) (v := v) (c := c) (by simpa using hv)
    exact this
  rw [e, slen] at h
  rw [e2]
  unfold sym
  rcases h with ⟨h1, h2⟩ | ⟨k, h1, h2, h3, h4, h5⟩
  · have hn : c ∉ x := fun hm => by
      obtain ⟨v, hv⟩ := List.mem_iff_getElem?.mp hm
      exact h2 v (Nat.zero_le _) (g' v hv).1 (g' v hv).2
    rw [if_neg hn]
    exact congrArg (fun z => some (D.int z)) h1
  · have hk := g k h3 h4
    have hm := List.mem_of_getElem? hk
    rw [if_pos hm]
    have hps : ps x c = k := by
      have hp := ps_at hm
      have le : ∀ (l : List Nat) (v : Nat), l[v]? = some c → ps l c ≤ v := by
        intro l
        induction l with
        | nil => intro v hv; simp at hv
        | cons a l ih =>
          intro v hv
          unfold ps
          by_cases e : a = c
          · rw [if_pos e]; exact Nat.zero_le _
          · rw [if_neg e]
            cases v with
            | zero => simp at hv; exact absurd hv e
            | succ v => have := ih v (by simpa using hv); omega
      have l1 := le x k hk
      rcases Nat.lt_or_ge (ps x c) k with hlt | hge
      · exact absurd (g' _ hp).2 (h5 _ (Nat.zero_le _) hlt)
      · omega
    rw [hps]
    exact congrArg (fun z => some (D.int z)) h1
theorem sym_lt {al : List Nat} {c k : Nat} (h : sym al c = some k) : k < al.length := by
  unfold sym at h
  split at h
  · rename_i hm
    cases h
    exact ps_lt hm
  · cases h
theorem inR_stepC {w : Nat} {f : Fm} (ok : Ok w f) (al : List Nat) (s : Option Nat) (c : Nat) : inR f (stepC al f s c) := by
  unfold stepC
  split
  · exact fun _ h => nomatch h
  · exact inR_step ok _ _
theorem step_eq {al : List Nat} {f : Fm} (ok : Ok al.length f) {s : Option Nat} (h : inR f s) (c : Nat) : g_TextSet_step [tsD al f, oD s, .str [c]] = some (.d (oD (stepC al f s c))) := by
  have q1 := ts_al al f
  have q2 := ts_form al f
  have q3 := find_eq al c
  unfold g_TextSet_step m_TextSet_step stepC
  cases e : sym al c with
  | none =>
    rw [e] at q3
    have q4 := oD_n
    have q5 : decide ((-1 : Int) < 0) = true := by decide
    simp only at q3
    clear ok h e
    walk_at "evh"
  | some k =>
    rw [e] at q3
    have q4 := v_callR (form_step_eq ok s h k (sym_lt e))
    have q5 : decide ((k : Int) < 0) = false := decide_eq_false (by omega)
    simp only at q3
    clear ok h e
    walk_at "evh"
def stepsC (al : List Nat) (f : Fm) (s : Option Nat) (v : List Nat) : Option Nat := v.foldl (stepC al f) s
theorem inR_stepsC {w : Nat} {f : Fm} (ok : Ok w f) (al : List Nat) : ∀ (v : List Nat) (s : Option Nat), inR f s → inR f (stepsC al f s v)
  | [], _, h => h
  | c :: v, s, _ => inR_stepsC ok al v (stepC al f s c) (inR_stepC ok al s c)
abbrev SSs := Option Nat × Option Sl
def ssE (al : List Nat) (f : Fm) (s0 : Option Nat) (v : List Nat) (s : SSs) : Slots := [some (.d (tsD al f)), some (.d (oD s0)), some (.d (.str v)), some (.d (oD s.1)), s.2]
theorem steps_eq {al : List Nat} {f : Fm} (ok : Ok al.length f) {s : Option Nat} (h : inR f s) (v : List Nat) : g_TextSet_steps [tsD al f, oD s, .str v] = some (.d (oD (stepsC al f s v))) := by
  have hw : ∃ t : SSs, forGo (gN 4) (mSet 3 (mMeth "TextSet" "step" g_TextSet_step (mVar 0) (mCons (mVar 3) (mCons (mVar 4) mNil)))) (v.map fun c => D.str [c]) (ssE al f s v (s, none)) = .nx (ssE al f s v t) ∧ t.1 = stepsC al f s v := by
    refine for_st (ssE al f s v) (fun i t => t.1 = stepsC al f s (v.take i) ∧ inR f t.1) (fun o => ∃ t : SSs, o = .nx (ssE al f s v t) ∧ t.1 = stepsC al f s v) ⟨rfl, h⟩ ?_ ?_
    · intro i x t hx hp
      obtain ⟨t1, t2⟩ := t
      simp only at hp
      rw [List.getElem?_map] at hx
      cases e : v[i]? with
      | none => rw [e] at hx; cases hx
      | some c =>
        rw [e] at hx
        cases hx
        refine ⟨ssE al f s v (t1, some (.d (.str [c]))), rfl, .inl ⟨(stepC al f t1 c, some (.d (.str [c]))), .inl ?_, ?_, inR_stepC ok al t1 c⟩⟩
        · have q1 := meth_of (m := "step") (by decide) (step_eq ok hp.2 c)
          unfold ssE
          simp only
          clear hp e ok h
          walk_at "evh"
        · show stepC al f t1 c = stepsC al f s (v.take (i + 1))
          rw [List.take_add_one, e, hp.1]
          unfold stepsC
          rw [List.foldl_append]
          rfl
    · intro t hp
      refine ⟨t, rfl, ?_⟩
      rw [hp.1, List.length_map, List.take_length]
  obtain ⟨⟨t1, t2⟩, w1, w2⟩ := hw
  simp only at w2
  subst w2
  unfold g_TextSet_steps m_TextSet_steps
  unfold ssE at w1
  simp only at w1
  clear ok h
  walk_at "evh"
theorem state_after_eq {al : List Nat} {f : Fm} (ok : Ok al.length f) (v : List Nat) : g_TextSet_state_after [tsD al f, .str v] = some (.d (oD (stepsC al f (start f) v))) := by
  have q1 := meth_of (m := "begin") (by decide) (begin_eq al f)
  have q2 := meth_of (m := "steps") (by decide) (steps_eq ok (start_in f) v)
  unfold g_TextSet_state_after m_TextSet_state_after
  clear ok
  walk_at "evh"
theorem contains_eq {al : List Nat} {f : Fm} (ok : Ok al.length f) (v : List Nat) : g_TextSet___contains__ [tsD al f, .str v] = some (.d (.bl (stops f (stepsC al f (start f) v)))) := by
  have q1 := meth_of (m := "begin") (by decide) (begin_eq al f)
  have q2 := meth_of (m := "steps") (by decide) (steps_eq ok (start_in f) v)
  have q3 := meth_of (m := "stops") (by decide) (stops_eq al (inR_stepsC ok al v _ (start_in f)))
  unfold g_TextSet___contains__ m_TextSet___contains__
  clear ok
  walk_at "evh"
theorem is_empty_eq (al : List Nat) (f : Fm) : g_TextSet_is_empty [tsD al f] = some (.d (.bl (decide (f.length = 0)))) := by
  have q1 := ts_form al f
  have q2 : fLen [fD f] = some (.int (f.length : Int)) := by show some (D.int ((f.map sD).length : Int)) = _; rw [List.length_map]
  have q3 : decide ((f.length : Int) = 0) = decide (f.length = 0) := decide_eq_decide.mpr (by omega)
  unfold g_TextSet_is_empty m_TextSet_is_empty
  walk_at "evh"
end F
namespace F
open PySem L2 R
theorem fMul_r {i j : Int} (h1 : -18446744073709551616 < j) (h2 : j < 18446744073709551616) : fMul (.int i) (.int j) = some (.int (i * j)) := by
  show (if cmulB i j = true then _ else _) = _
  have hc : cmulB i j = true := decide_eq_true (.inr ⟨by omega, by omega⟩)
  rw [if_pos hc]
theorem fMul_l {i j : Int} (h1 : -18446744073709551616 < i) (h2 : i < 18446744073709551616) : fMul (.int i) (.int j) = some (.int (i * j)) := by
  show (if cmulB i j = true then _ else _) = _
  have hc : cmulB i j = true := decide_eq_true (.inl ⟨by omega, by omega⟩)
  rw [if_pos hc]
theorem fMod_int {i j : Int} (h : 0 < j) : fMod (.int i) (.int j) = some (.int (i % j)) := if_pos h
theorem fDiv_int {i j : Int} (h : 0 < j) (h2 : j < 1073741824) : fDiv (.int i) (.int j) = some (.int (i / j)) := if_pos ⟨h, h2⟩
theorem ix_map {ns : List Int} {k : Nat} {z : Int} (h : ns[k]? = some z) : atI (ns.map D.int) (k : Int) = some (.int z) := atI_nat (by rw [List.getElem?_map, h]; rfl)
theorem cell_ok (ns : List Int) (k : Nat) (hk : k < 1000) : ∃ c, g__law_cell [.lsk (ns.map .int), .int (k : Int)] = some (.d (.int c)) := by
  unfold g__law_cell m__law_cell
  by_cases h : k < ns.length
  · obtain ⟨z, hz⟩ : ∃ z, ns[k]? = some z := ⟨_, List.getElem?_eq_getElem h⟩
    have e1 : decide ((k : Int) < ((ns.map D.int).length : Int)) = true := decide_eq_true (by rw [List.length_map]; omega)
    have e2 := ix_map hz
    refine ⟨z, ?_⟩
    clear hk h hz
    walk_at "evh"
  · have e1 : decide ((k : Int) < ((ns.map D.int).length : Int)) = false := decide_eq_false (by rw [List.length_map]; omega)
    let P : Slots → Prop := fun ρ => ∃ (sd : Int) (x : Option Sl), 0 ≤ sd ∧ sd < 1000003 ∧ ρ = [some (.d (.lsk (ns.map .int))), some (.d (.int (k : Int))), some (.d (.int sd)), x]
    obtain ⟨ρ', h1, sd, x, q1, q2, q3⟩ := for_thru (mg := gN 3) (b := (mSet 2 (m2 fMod (mCB fInt (mCons (m2 fAdd (m2 fMul (mBor 2) (mC (.int 31))) (m2 fMod (mCB fInt (mCons (mBor 3) mNil)) (mC (.int 1000003)))) mNil)) (mC (.int 1000003))))) (xs := ns.map D.int)
      (ρ := [some (.d (.lsk (ns.map .int))), some (.d (.int (k : Int))), some (.d (.int 17)), none]) P ⟨17, none, by decide, by decide, rfl⟩ (fun y ρ hy hp => by
        obtain ⟨n, _, rfl⟩ := List.mem_map.mp hy
        obtain ⟨sd, x, q1, q2, rfl⟩ := hp
        have f1 : fMul (.int sd) (.int 31) = some (.int (sd * 31)) := fMul_r (by omega) (by omega)
        have f2 : fMod (.int n) (.int 1000003) = some (.int (n % 1000003)) := fMod_int (by omega)
        have f3 : fMod (.int (sd * 31 + n % 1000003)) (.int 1000003) = some (.int ((sd * 31 + n % 1000003) % 1000003)) := fMod_int (by omega)
        refine ⟨_, [some (.d (.lsk (ns.map .int))), some (.d (.int (k : Int))), some (.d (.int ((sd * 31 + n % 1000003) % 1000003))), some (.d (.int n))], rfl, ?_, ⟨_, _, by omega, by omega, rfl⟩⟩
        clear q1 q2 hy e1 h hk
        walk_at "evh")
    have f1 : fMul (.int (sd + 7)) (.int ((k : Int) + 3)) = some (.int ((sd + 7) * ((k : Int) + 3))) := fMul_r (by omega) (by omega)
    have f2 : fMul (.int ((sd + 7) * ((k : Int) + 3))) (.int 69621) = some (.int ((sd + 7) * ((k : Int) + 3) * 69621)) := fMul_r (by omega) (by omega)
    have f3 : fMod (.int ((sd + 7) * ((k : Int) + 3) * 69621)) (.int 2147483647) = some (.int ((sd + 7) * ((k : Int) + 3) * 69621 % 2147483647)) := fMod_int (by omega)
    refine ⟨(sd + 7) * ((k : Int) + 3) * 69621 % 2147483647, ?_⟩
    clear q1 q2 h hk
    subst q3
    walk_at "evh"
/-! digits -/
def Dg (row sizes : List Int) : Prop := ∀ (j : Nat) (d z : Int), row[j]? = some d → sizes[j]? = some z → 0 ≤ d ∧ d < z
theorem Dg.snoc {row sizes : List Int} {d z : Int} (h : Dg row sizes) (hz : sizes[row.length]? = some z) (h0 : 0 ≤ d) (h1 : d < z) : Dg (row ++ [d]) sizes := by
  intro j d' z' hj hs
  rw [List.getElem?_append] at hj
  split at hj
  · exact h j d' z' hj hs
  · rename_i hl
    have : j = row.length := by
      have := (List.getElem?_eq_some_iff.mp hj).1
      simp at this
      omega
    subst this
    simp at hj
    subst hj
    rw [hz] at hs
    cases hs
    exact ⟨h0, h1⟩
theorem pow18 : fPow (.int 10) (.int 18) = some (.int 1000000000000000000) := by
  have hc : (0 : Int) ≤ 18 ∧ (18 : Int) ≤ 1000000 ∧ (10 : Int).natAbs < 2 ^ 64 := ⟨by decide, by decide, by decide⟩
  show (if (0 : Int) ≤ 18 ∧ (18 : Int) ≤ 1000000 ∧ (10 : Int).natAbs < 2 ^ 64 then some (D.int ((10 : Int) ^ (18 : Int).toNat)) else none) = _
  rw [if_pos hc]
  rfl
theorem digits_hi (c : Int) (h : (1000000000000000000 : Int) ≤ c) (sizes : List Int) (hs : ∀ z ∈ sizes, 0 < z ∧ z < 1073741824) (hl : sizes.length ≤ 1000) : ∃ row : List Int, g__law_digits [.int c, .lst (sizes.map .int)] = some (.own (.lst (row.map .int))) ∧ row.length = sizes.length ∧ Dg row sizes := by
  have hp := pow18
  unfold g__law_digits m__law_digits
  have e1 : decide ((1000000000000000000 : Int) ≤ c) = true := decide_eq_true h
  let P : Nat → Slots → Prop := fun i ρ => ∃ (row : List Int) (r : Int) (x : Option Sl), row.length = i ∧ Dg row sizes ∧ ρ = [some (.d (.int c)), some (.d (.lst (sizes.map .int))), some (.own (.lst (row.map .int))), some (.d (.int r)), none, none, x, none]
  obtain ⟨ρ', h1, row, r, x, q1, q2, q3⟩ := for_ix (mg := gN 6) (b := (mSeq (mApp 2 (m2 fMod (mCB fInt (mCons (mBor 3) mNil)) (mBor 6)))
    (mSet 3 (m2 fDiv (mCB fInt (mCons (mBor 3) mNil)) (mBor 6))))) (ρ := []) P (sizes.map D.int) 0
    [some (.d (.int c)), some (.d (.lst (sizes.map .int))), some (.own (.lst [])), some (.d (.int (c - 1000000000000000000))), none, none, none, none] ⟨[], c - 1000000000000000000, none, rfl, fun j d z hj => by simp at hj, rfl⟩ (fun i y ρ hy hp => by
      rw [Nat.zero_add] at hp ⊢
      obtain ⟨row, r, x, q1, q2, rfl⟩ := hp
      rw [List.getElem?_map] at hy
      cases hz : sizes[i]? with
      | none => rw [hz] at hy; cases hy
      | some z =>
        rw [hz] at hy
        cases hy
        obtain ⟨z1, z2⟩ := hs z (List.mem_of_getElem? hz)
        have hi : i < sizes.length := (List.getElem?_eq_some_iff.mp hz).1
        have f1 : fMod (.int r) (.int z) = some (.int (r % z)) := fMod_int z1
        have f2 : fDiv (.int r) (.int z) = some (.int (r / z)) := fDiv_int z1 z2
        have f3 : (row.map D.int).length < sizeLine := Nat.lt_of_lt_of_le (show (row.map D.int).length < 100000 by rw [List.length_map]; omega) (by decide)
        have m1 := Int.emod_nonneg r (show z ≠ 0 by omega)
        have m2 := Int.emod_lt_of_pos r z1
        refine ⟨_, [some (.d (.int c)), some (.d (.lst (sizes.map .int))), some (.own (.lst ((row ++ [r % z]).map .int))), some (.d (.int (r / z))), none, none, some (.d (.int z)), none], rfl, ?_, ⟨_, _, _, by rw [List.length_append, q1]; rfl, q2.snoc (by rw [q1]; exact hz) m1 m2, rfl⟩⟩
        rw [List.map_append]
        clear m1 m2 q1 q2 hz hi z1 z2 hs hl e1 h
        walk_at "evh")
  rw [Nat.zero_add, List.length_map] at q1
  refine ⟨row, ?_, q1, q2⟩
  clear q1 q2 hs hl h
  subst q3
  walk_at "evh"
abbrev mLo : MS := (mSeq (mSet 4 (m2 fMod (mCB fInt (mCons (m2 fAdd (m2 fAdd (m2 fMul (mBor 4) (mC (.int 48271))) (m2 fMul (mC (.int 974711)) (mBor 5))) (mC (.int 12345))) mNil)) (mC (.int 2147483647))))
    (mSeq (mSet 7 (m2 fMod (mCB fInt (mCons (m2 fMul (mBor 4) (m2 fAdd (m2 fDiv (mBor 4) (mC (.int 65537))) (mC (.int 3)))) mNil)) (mC (.int 2147483629))))
    (mApp 2 (m2 fMod (m2 fDiv (mBor 7) (mC (.int 19))) (m2 fIx (mBor 1) (mBor 5))))))
theorem lo_turn {c sd z A B i : Int} {sizes : List Int} {row : List D} {x y : Option Sl} (f1 : fMul (.int sd) (.int 48271) = some (.int (sd * 48271))) (f2 : fMul (.int 974711) (.int i) = some (.int (974711 * i)))
    (f3 : fMod (.int (sd * 48271 + 974711 * i + 12345)) (.int 2147483647) = some (.int A)) (f4 : fDiv (.int A) (.int 65537) = some (.int (A / 65537))) (f5 : fMul (.int A) (.int (A / 65537 + 3)) = some (.int (A * (A / 65537 + 3))))
    (f6 : fMod (.int (A * (A / 65537 + 3))) (.int 2147483629) = some (.int B)) (f7 : fDiv (.int B) (.int 19) = some (.int (B / 19))) (f8 : fMod (.int (B / 19)) (.int z) = some (.int (B / 19 % z))) (f9 : row.length < sizeLine) (g1 : atI (sizes.map D.int) i = some (.int z)) :
    mLo [some (.d (.int c)), some (.d (.lst (sizes.map .int))), some (.own (.lst row)), some (.d (.int c)), some (.d (.int sd)), some (.d (.int i)), none, y] =
      .nx [some (.d (.int c)), some (.d (.lst (sizes.map .int))), some (.own (.lst (row ++ [.int (B / 19 % z)]))), some (.d (.int c)), some (.d (.int A)), some (.d (.int i)), none, some (.d (.int B))] := by
  walk_at "evh"
theorem lo_step {c sd z : Int} {i : Nat} {sizes : List Int} {row : List D} {x y : Option Sl} (q3 : 0 ≤ sd) (q4 : sd < 2147483647) (z1 : 0 < z) (f9 : row.length < sizeLine) (g1 : atI (sizes.map D.int) (i : Int) = some (.int z)) :
    ∃ A B : Int, 0 ≤ A ∧ A < 2147483647 ∧ mLo [some (.d (.int c)), some (.d (.lst (sizes.map .int))), some (.own (.lst row)), some (.d (.int c)), some (.d (.int sd)), some (.d (.int (i : Int))), none, y] =
      .nx [some (.d (.int c)), some (.d (.lst (sizes.map .int))), some (.own (.lst (row ++ [.int (B / 19 % z)]))), some (.d (.int c)), some (.d (.int A)), some (.d (.int (i : Int))), none, some (.d (.int B))] := by
  have A1 : 0 ≤ (sd * 48271 + 974711 * (i : Int) + 12345) % 2147483647 := Int.emod_nonneg _ (by decide)
  have A2 : (sd * 48271 + 974711 * (i : Int) + 12345) % 2147483647 < 2147483647 := Int.emod_lt_of_pos _ (by decide)
  refine ⟨_, _, A1, A2, lo_turn (x := x) (fMul_r (by decide) (by decide)) (fMul_l (by decide) (by decide)) (fMod_int (by decide)) (fDiv_int (by decide) (by decide)) (fMul_l (by omega) (by omega)) (fMod_int (by decide)) (fDiv_int (by decide) (by decide)) (fMod_int z1) f9 g1⟩
theorem lo_loop {c : Int} {sizes : List Int} (hs : ∀ z ∈ sizes, 0 < z ∧ z < 1073741824) (hl : sizes.length ≤ 1000) (sd0 : Int) (s1 : 0 ≤ sd0) (s2 : sd0 < 2147483647) : ∃ ρ', forGo (gN 5) mLo (rngD 0 sizes.length) [some (.d (.int c)), some (.d (.lst (sizes.map .int))), some (.own (.lst [])), some (.d (.int c)), some (.d (.int sd0)), none, none, none] = .nx ρ' ∧
    ∃ (row : List Int) (sd : Int) (x y : Option Sl), row.length = sizes.length ∧ Dg row sizes ∧ ρ' = [some (.d (.int c)), some (.d (.lst (sizes.map .int))), some (.own (.lst (row.map .int))), some (.d (.int c)), some (.d (.int sd)), x, none, y] := by
  let P : Nat → Slots → Prop := fun i ρ => ∃ (row : List Int) (sd : Int) (x y : Option Sl), row.length = i ∧ Dg row sizes ∧ 0 ≤ sd ∧ sd < 2147483647 ∧ ρ = [some (.d (.int c)), some (.d (.lst (sizes.map .int))), some (.own (.lst (row.map .int))), some (.d (.int c)), some (.d (.int sd)), x, none, y]
  have hrl : (rngD 0 sizes.length).length = sizes.length := by unfold rngD; rw [List.length_map, List.length_range]
  obtain ⟨ρ', h1, row, sd, x, y, q1, q2, q3, q4, q5⟩ := for_ix (mg := gN 5) (b := mLo) (ρ := []) P (rngD 0 sizes.length) 0
      [some (.d (.int c)), some (.d (.lst (sizes.map .int))), some (.own (.lst [])), some (.d (.int c)), some (.d (.int sd0)), none, none, none] ⟨[], sd0, none, none, rfl, fun j d z hj => by simp at hj, s1, s2, rfl⟩ (fun i y ρ hy hp => by
    rw [Nat.zero_add] at hp ⊢
    obtain ⟨row, sd, x, y2, q1, q2, q3, q4, rfl⟩ := hp
    unfold rngD at hy
    rw [List.getElem?_map] at hy
    by_cases hi : i < sizes.length
    · rw [List.getElem?_range hi] at hy
      have hy : some (D.int (0 + (i : Int))) = some y := hy
      rw [Int.zero_add] at hy
      cases hy
      obtain ⟨z, hz⟩ : ∃ z, sizes[i]? = some z := ⟨_, List.getElem?_eq_getElem hi⟩
      obtain ⟨z1, z2⟩ := hs z (List.mem_of_getElem? hz)
      have f9 : (row.map D.int).length < sizeLine := Nat.lt_of_lt_of_le (show (row.map D.int).length < 100000 by rw [List.length_map]; omega) (by decide)
      obtain ⟨A, B, A1, A2, e⟩ := lo_step (c := c) (x := x) (y := y2) (i := i) (sizes := sizes) q3 q4 z1 f9 (ix_map hz)
      refine ⟨_, _, rfl, e, row ++ [B / 19 % z], A, some (.d (.int (i : Int))), some (.d (.int B)), by rw [List.length_append, q1]; rfl, q2.snoc (by rw [q1]; exact hz) (Int.emod_nonneg _ (by omega)) (Int.emod_lt_of_pos _ z1), A1, A2, ?_⟩
      rw [List.map_append]
      rfl
    · rw [List.getElem?_eq_none (by rw [List.length_range]; omega)] at hy
      cases hy)
  rw [Nat.zero_add, hrl] at q1
  exact ⟨ρ', h1, row, sd, x, y, q1, q2, q5⟩
theorem rng_if (n : Nat) (h : n ≤ 1000) : (if -4000000000000000000 ≤ (n : Int) ∧ (n : Int) < 4000000000000000000 then some (rngD 0 (n : Int).toNat) else none) = some (rngD 0 n) := by
  rw [if_pos ⟨by omega, by omega⟩, Int.toNat_natCast]
theorem digits_lo (c : Int) (h : ¬ (1000000000000000000 : Int) ≤ c) (sizes : List Int) (hs : ∀ z ∈ sizes, 0 < z ∧ z < 1073741824) (hl : sizes.length ≤ 1000) : ∃ row : List Int, g__law_digits [.int c, .lst (sizes.map .int)] = some (.own (.lst (row.map .int))) ∧ row.length = sizes.length ∧ Dg row sizes := by
  have hp := pow18
  unfold g__law_digits m__law_digits
  have e1 : decide ((1000000000000000000 : Int) ≤ c) = false := decide_eq_false h
  have f0 : fMod (.int c) (.int 2147483629) = some (.int (c % 2147483629)) := fMod_int (by decide)
  have er := rng_if (sizes.map D.int).length (by rw [List.length_map]; exact hl)
  obtain ⟨ρ', h1, row, sd, x, y, q1, q2, q3⟩ := lo_loop (c := c) hs hl (c % 2147483629) (Int.emod_nonneg _ (by decide)) (Int.lt_trans (Int.emod_lt_of_pos _ (by decide)) (by decide))
  refine ⟨row, ?_, q1, q2⟩
  rw [← List.length_map (as := sizes) D.int] at h1
  clear q1 q2 hs hl h
  subst q3
  walk_at "evh"
theorem digits_ok (c : Int) (sizes : List Int) (hs : ∀ z ∈ sizes, 0 < z ∧ z < 1073741824) (hl : sizes.length ≤ 1000) : ∃ row : List Int, g__law_digits [.int c, .lst (sizes.map .int)] = some (.own (.lst (row.map .int))) ∧ row.length = sizes.length ∧ Dg row sizes := by
  by_cases h : (1000000000000000000 : Int) ≤ c
  · exact digits_hi c h sizes hs hl
  · exact digits_lo c h sizes hs hl
end F
namespace F
open PySem L2 R
theorem dig {row sizes : List Int} (h : Dg row sizes) (hl : row.length = sizes.length) {j : Nat} {z : Int} (hz : sizes[j]? = some z) : ∃ d, row[j]? = some d ∧ 0 ≤ d ∧ d < z := by
  have hj := (List.getElem?_eq_some_iff.mp hz).1
  obtain ⟨d, hd⟩ := at_ex (l := row) (i := j) (by omega)
  exact ⟨d, hd, h j d z hd hz⟩
theorem cut_take {α : Type} (xs : List α) (k : Nat) (h : k ≤ xs.length) : cutL xs none (some (k : Int)) = xs.take k := by
  unfold cutL
  rw [HT.sIx_nat, HT.sIx_none]
  rw [List.drop_zero, Nat.min_eq_left h, Nat.sub_zero]
theorem cut_drop {α : Type} (xs : List α) (k : Nat) (h : k ≤ xs.length) : cutL xs (some (k : Int)) none = xs.drop k := by
  unfold cutL
  rw [HT.sIx_nat, HT.sIx_none, Nat.min_eq_left h]
  apply List.take_of_length_le
  rw [List.length_drop]
  exact Nat.le_refl _
theorem fSl_str {z : List Nat} (h : z.length ≤ 100000) (lo hi : Option Int) : fSl (.str z) lo hi = some (.str (cutL z lo hi)) := if_pos (sl_ok _ h)
theorem fSl_tup {xs : List D} {lo hi : Option Int} : fSl (.tup xs) lo hi = some (.tup (cutL xs lo hi)) := id rfl
/-! small questions of the laws -/
theorem whole_eq (n : Int) : g__law_whole [.int n] = some (.d (.bl true)) := by
  have h1 := isi_o_int n
  have h2 := isi_o_bool n
  unfold g__law_whole m__law_whole
  walk_at "evh"
theorem fInt_bl (b : Bool) : fInt [.bl b] = some (.int (if b = true then 1 else 0)) := rfl
theorem first_eq (f : Fm) : g__law_first [fD f] = some (.d (oD (start f))) := by
  have q1 : fLen [fD f] = some (.int (f.length : Int)) := by show some (D.int ((f.map sD).length : Int)) = _; rw [List.length_map]
  have q2 : (0 + 1 + 1 : Nat) ≤ sizeLine := by decide
  have q3 := fInt_bl
  unfold g__law_first m__law_first start
  by_cases h : f.length = 0
  · have e : decide ((0 : Int) < (f.length : Int)) = false := decide_eq_false (by omega)
    rw [if_pos h]
    clear h
    walk_at "evh"
    rfl
  · have e : decide ((0 : Int) < (f.length : Int)) = true := decide_eq_true (by omega)
    rw [if_neg h]
    clear h
    walk_at "evh"
    rfl
theorem ends_eq {f : Fm} {s : Option Nat} (hs : inR f s) : g__law_ends [fD f, oD s] = some (.d (.bl (stops f s))) := by
  unfold g__law_ends m__law_ends
  cases s with
  | none =>
    have h := isn_n
    unfold oD stops
    walk_at "evh"
  | some i =>
    have h := isn_i (n := (i : Int))
    obtain ⟨⟨b, r⟩, e⟩ := at_ex (hs i rfl)
    have h1 := sD_at e
    have h2 := sD_0 (b, r)
    have h4 : stops f (some i) = b := stops_at e
    rw [h4]
    clear h4 hs
    unfold oD
    simp only at h2
    walk_at "evh"
theorem next_eq {w : Nat} {f : Fm} (ok : Ok w f) {s : Option Nat} (hs : inR f s) {k : Nat} (hk : k < w) : g__law_next [fD f, oD s, .int (k : Int)] = some (.d (oD (step f s k))) := by
  unfold g__law_next m__law_next
  cases s with
  | none =>
    have h := is_n
    unfold oD step
    walk_at "evh"
  | some i =>
    have h := is_i (n := (i : Int))
    obtain ⟨⟨b, r⟩, e⟩ := at_ex (hs i rfl)
    have hr := ok.row i b r e
    obtain ⟨y, e2⟩ := at_ex (l := r) (i := k) (by omega)
    have h1 := sD_at e
    have h2 := sD_1 (b, r)
    have h3 := oD_at e2
    rw [step_at e e2]
    have h5 := oD_s i
    simp only at h2
    clear hr hs hk ok
    walk_at "evh"
/-! _law_is_form -/
theorem isi_tup1 (i : List D) : fIsi [.tup i, .ty "tuple"] = some (.bl true) := by
  show (match kitB "tuple" "tuple" with | some b => some (D.bl b) | none => none) = _
  have : kitB "tuple" "tuple" = some true := by decide +kernel
  rw [this]
theorem isi_bool1 (i : Bool) : fIsi [.bl i, .ty "bool"] = some (.bl true) := by
  show (match kitB "bool" "bool" with | some b => some (D.bl b) | none => none) = _
  have : kitB "bool" "bool" = some true := by decide +kernel
  rw [this]
abbrev IFs := Option Sl × Option Sl
def ifE (w : Nat) (f : Fm) (s : IFs) : Slots := [some (.d (fD f)), some (.d (.int (w : Int))), s.1, s.2]
abbrev IFin : MS := (mIf (mAnd (mT (m2 fIsNot (mBor 3) (mC .non))) (mOr (mNot (mT (mCall g__law_whole (mCons (mVar 3) mNil)))) (mOr (mT (m2 fLt (mBor 3) (mC (.int 0)))) (mT (m2 fGe (mBor 3) (mCB fLen (mCons (mBor 0) mNil)))))))
        (mRet (mC (.bl false)))
        mNext)
theorem if_in {w : Nat} {f : Fm} (a2 : Option Sl) (r : List (Option Nat)) (hr : ∀ j, some j ∈ r → j < f.length) (a3 : Option Sl) : ∃ b3, forGo (gN 3) IFin (r.map oD) (ifE w f (a2, a3)) = .nx (ifE w f (a2, b3)) := by
  have hw : ∃ s : IFs, forGo (gN 3) IFin (r.map oD) (ifE w f (a2, a3)) = .nx (ifE w f s) ∧ s.1 = a2 := by
    refine for_st (ifE w f) (fun _ s => s.1 = a2) (fun o => ∃ s : IFs, o = .nx (ifE w f s) ∧ s.1 = a2) rfl ?_ (fun s h => ⟨s, rfl, h⟩)
    intro i x s hx hp
    obtain ⟨s1, s2⟩ := s
    simp only at hp
    subst hp
    rw [List.getElem?_map] at hx
    cases e : r[i]? with
    | none => rw [e] at hx; cases hx
    | some o =>
      rw [e] at hx
      cases hx
      refine ⟨ifE w f (s1, some (.d (oD o))), rfl, .inl ⟨(s1, some (.d (oD o))), .inl ?_, rfl⟩⟩
      unfold ifE
      simp only
      cases o with
      | none =>
        have h1 := isn_n
        have h2 := oD_n
        clear hr e
        walk_at "evh"
      | some j =>
        have hj := hr j (List.mem_of_getElem? e)
        have h1 := isn_i (n := (j : Int))
        have h2 := oD_s j
        have h3 := v_callR (whole_eq (j : Int))
        have h4 : decide ((j : Int) < 0) = false := decide_eq_false (by omega)
        have h5 : decide ((f.length : Int) ≤ (j : Int)) = false := decide_eq_false (by omega)
        have h7 : fLen [fD f] = some (.int (f.length : Int)) := by show some (D.int ((f.map sD).length : Int)) = _; rw [List.length_map]
        clear hr e hj
        walk_at "evh"
  obtain ⟨⟨s1, s2⟩, h1, h2⟩ := hw
  simp only at h2
  subst h2
  exact ⟨s2, h1⟩
theorem is_form_eq {w : Nat} {f : Fm} (ok : Ok w f) : g__law_is_form [fD f, .int (w : Int)] = some (.d (.bl true)) := by
  have hw : ∃ s : IFs, forGo (gN 2) (mSeq (mIf (mOr (mNot (mT (mCB fIsi (mCons (mBor 2) (mCons (mC (.ty "tuple")) mNil))))) (mOr (mT (m2 fNe (mCB fLen (mCons (mBor 2) mNil)) (mC (.int 2)))) (mNot (mT (mCB fIsi (mCons (m2 fIx (mBor 2) (mC (.int 0))) (mCons (mC (.ty "bool")) mNil)))))))
      (mRet (mC (.bl false)))
      mNext)
    (mSeq (mIf (mOr (mNot (mT (mCB fIsi (mCons (m2 fIx (mBor 2) (mC (.int 1))) (mCons (mC (.ty "tuple")) mNil))))) (mT (m2 fNe (mCB fLen (mCons (m2 fIx (mBor 2) (mC (.int 1))) mNil)) (mBor 1))))
      (mRet (mC (.bl false)))
      mNext)
    (mFor (mItems (m2 fIx (mBor 2) (mC (.int 1)))) (gN 3) IFin))) (f.map sD) (ifE w f (none, none)) = .nx (ifE w f s) := by
    refine for_st (ifE w f) (fun _ s => True) (fun o => ∃ s : IFs, o = .nx (ifE w f s)) trivial ?_ (fun s h => ⟨s, rfl⟩)
    intro i x s hx _
    obtain ⟨s1, s2⟩ := s
    rw [List.getElem?_map] at hx
    cases e : f[i]? with
    | none => rw [e] at hx; cases hx
    | some o =>
      rw [e] at hx
      cases hx
      obtain ⟨b, r⟩ := o
      obtain ⟨b3, hb⟩ := if_in (w := w) (f := f) (some (.d (sD (b, r)))) r (fun j hj => ok.tgt i b r j e hj) s2
      refine ⟨ifE w f (some (.d (sD (b, r))), s2), rfl, .inl ⟨(some (.d (sD (b, r))), b3), .inl ?_, trivial⟩⟩
      have h1 := sD_0 (b, r)
      have h2 := sD_1 (b, r)
      have h3 : fIsi [sD (b, r), .ty "tuple"] = some (.bl true) := isi_tup1 _
      have h4 := isi_bool1 b
      have h5 := isi_tup1 (r.map oD)
      have h6 : fLen [sD (b, r)] = some (.int 2) := rfl
      have h7 : fNe (.int ((r.map oD).length : Int)) (.int (w : Int)) = some (.bl false) := by
        rw [fNe_int, decide_eq_true (by rw [List.length_map, ok.row i b r e])]
        rfl
      have h8 : fNe (.int 2) (.int 2) = some (.bl false) := rfl
      unfold ifE at hb ⊢
      simp only at hb h1 h2 ⊢
      clear ok e
      walk_at "evh"
  obtain ⟨s, w1⟩ := hw
  have q1 : fIsi [fD f, .ty "tuple"] = some (.bl true) := isi_tup1 _
  have q2 : itemsOf (fD f) = some (f.map sD) := rfl
  unfold g__law_is_form m__law_is_form
  unfold ifE at w1
  simp only at w1
  clear ok
  walk_at "evh"
/-! _law_letters -/
theorem lk_none' : True := trivial
def cD (l : List Nat) : List D := l.map fun c => .str [c]
theorem chars_cD : ∀ l : List Nat, chars (cD l) = some l
  | [] => rfl
  | c :: l => by show (match chars (cD l) with | some cs => some (c :: cs) | none => none) = _; rw [chars_cD l]
theorem strs_cD : ∀ l : List Nat, strsOf (cD l) = some (l.map fun c => [c])
  | [] => rfl
  | c :: l => by show (match strsOf (cD l) with | some xs => some ([c] :: xs) | none => none) = _; rw [strs_cD l]; rfl
theorem flat_s : ∀ l : List Nat, (l.map fun c => [c]).flatten = l
  | [] => rfl
  | c :: l => by rw [List.map_cons, List.flatten_cons, flat_s l]; rfl
theorem sum_s : ∀ l : List Nat, ((l.map fun c => [c]).map List.length).sum = l.length
  | [] => rfl
  | c :: l => by rw [List.map_cons, List.map_cons, List.sum_cons, sum_s l, List.length_cons]; simp; omega
theorem join_cD (l : List Nat) (h : l.length ≤ 100000) : fJoin (S "") [.lst (cD l)] = some (.str l) := by
  have : joinE (cD l) = some (.str l) := by
    unfold joinE
    rw [strs_cD]
    simp only
    rw [flat_s, if_pos (by rw [sum_s]; omega)]
  exact this
end F
namespace F
open PySem L2 R
theorem insN_mem (c : Nat) : ∀ (l : List Nat) (x : Nat), x ∈ insN c l ↔ x = c ∨ x ∈ l := fun l x => by
  rw [(insN_perm c l).mem_iff, List.mem_cons]
theorem insN_asc (c : Nat) : ∀ l : List Nat, l.Pairwise (· < ·) → c ∉ l → (insN c l).Pairwise (· < ·)
  | [], _, _ => by simp [insN]
  | d :: r, h, hc => by
    unfold insN
    rw [List.pairwise_cons] at h
    have hcd : c ≠ d := fun z => hc (by rw [z]; exact List.mem_cons_self)
    split
    · rename_i hle
      rw [List.pairwise_cons, List.pairwise_cons]
      refine ⟨fun x hx => ?_, h⟩
      rcases List.mem_cons.mp hx with rfl | hx
      · omega
      · have := h.1 x hx; omega
    · rename_i hle
      rw [List.pairwise_cons]
      refine ⟨fun x hx => ?_, insN_asc c r h.2 (fun z => hc (List.mem_cons_of_mem _ z))⟩
      rcases (insN_mem c r x).mp hx with rfl | hx
      · omega
      · exact h.1 x hx
theorem sortN_mem : ∀ (l : List Nat) (x : Nat), x ∈ sortN l ↔ x ∈ l
  | [], x => Iff.rfl
  | c :: l, x => by
    unfold sortN
    rw [insN_mem, sortN_mem l x, List.mem_cons]
theorem sortN_asc : ∀ l : List Nat, l.Nodup → (sortN l).Pairwise (· < ·)
  | [], _ => List.Pairwise.nil
  | c :: l, h => by
    rw [List.nodup_cons] at h
    unfold sortN
    exact insN_asc c _ (sortN_asc l h.2) (fun z => h.1 ((sortN_mem l c).mp z))
theorem sortN_len : ∀ l : List Nat, (sortN l).length = l.length
  | [] => rfl
  | c :: l => by
    unfold sortN
    rw [(insN_perm c _).length_eq, List.length_cons, List.length_cons, sortN_len l]
abbrev LEs := List Nat × List Nat × Option Sl × Option Sl
def leE (row : List Int) (a n : Nat) (s : LEs) : Slots := [some (.d (.lst (row.map .int))), some (.d (.int (a : Int))), some (.d (.int (n : Int))), some (.d (.str s.1)), some (.own (.lst (cD s.2.1))), s.2.2.1, s.2.2.2]
theorem letters_ok (row : List Int) (a n : Nat) (hl : a + n ≤ row.length) (hn : 1 ≤ n) (h6 : n ≤ 6) : ∃ al, g__law_letters [.lst (row.map .int), .int (a : Int), .int (n : Int)] = some (.d (.str al)) ∧ Alp al ∧ al.length = n := by
  have hw : ∃ s : LEs, forGo (gN 5) (mSeq (mSet 6 (m2 fMod (mCB fInt (mCons (m2 fIx (mBor 0) (m2 fAdd (mBor 1) (mBor 5))) mNil)) (mCB fLen (mCons (mBor 3) mNil))))
    (mSeq (mApp 4 (m2 fIx (mBor 3) (mBor 6)))
    (mSet 3 (m2 fAdd (mSl (mBor 3) mNo (mPart (mVar 6))) (mSl (mBor 3) (mPart (m2 fAdd (mBor 6) (mC (.int 1)))) mNo))))) (rngD 0 n) (leE row a n (abc, [], none, none)) = .nx (leE row a n s) ∧ s.2.1.length = n ∧ s.2.1.Nodup ∧ ∀ c ∈ s.2.1, 97 ≤ c ∧ c ≤ 122 := by
    refine for_st (leE row a n) (fun i s => s.2.1.length = i ∧ s.1.length + i = 26 ∧ s.2.1.Nodup ∧ s.1.Nodup ∧ (∀ c ∈ s.1, c ∉ s.2.1) ∧ (∀ c ∈ s.1, 97 ≤ c ∧ c ≤ 122) ∧ ∀ c ∈ s.2.1, 97 ≤ c ∧ c ≤ 122) (fun o => ∃ s : LEs, o = .nx (leE row a n s) ∧ s.2.1.length = n ∧ s.2.1.Nodup ∧ ∀ c ∈ s.2.1, 97 ≤ c ∧ c ≤ 122) ?_ ?_ ?_
    · refine ⟨rfl, by rw [abc_len], List.nodup_nil, by decide +kernel, (fun _ _ z => nomatch z), ?_, (fun _ z => nomatch z)⟩
      decide +kernel
    · intro i x s hx hp
      obtain ⟨le, tk, x5, x6⟩ := s
      obtain ⟨p1, p2, p3, p4, p5, p6, p7⟩ := hp
      simp only at p1 p2 p3 p4 p5 p6 p7
      unfold rngD at hx
      rw [List.getElem?_map] at hx
      cases hq : (List.range n)[i]? with
      | none => rw [hq] at hx; cases hx
      | some i' =>
        rw [hq] at hx
        have hi : i < n := by have := (List.getElem?_eq_some_iff.mp hq).1; rwa [List.length_range] at this
        have hi' : i' = i := by rw [List.getElem?_range hi] at hq; cases hq; rfl
        subst hi'
        have hx : D.int (0 + (i' : Int)) = x := Option.some.inj hx
        rw [Int.zero_add] at hx
        subst hx
        obtain ⟨d, hd⟩ := at_ex (l := row) (i := a + i') (by omega)
        have q1 : atI (row.map D.int) ((a : Int) + (i' : Int)) = some (.int d) := by
          rw [show (a : Int) + (i' : Int) = ((a + i' : Nat) : Int) by omega]
          exact ix_map hd
        have hpos : (0 : Int) < (le.length : Int) := by omega
        have m1 := Int.emod_nonneg d (show (le.length : Int) ≠ 0 by omega)
        have m2' := Int.emod_lt_of_pos d hpos
        obtain ⟨k, hk⟩ : ∃ k : Nat, d % (le.length : Int) = (k : Int) := ⟨(d % (le.length : Int)).toNat, by omega⟩
        have hkl : k < le.length := by omega
        have q2 : fMod (.int d) (.int (le.length : Int)) = some (.int (k : Int)) := by rw [fMod_int hpos, hk]
        obtain ⟨c, hc⟩ := at_ex hkl
        have q3 : fIx (.str le) (.int (k : Int)) = some (.str [c]) := fIx_str (by omega) (atI_nat hc)
        have q4 : fSl (.str le) none (some (k : Int)) = some (.str (le.take k)) := by rw [fSl_str (by omega), cut_take le k (by omega)]
        have q5 : fSl (.str le) (some ((k : Int) + 1)) none = some (.str (le.drop (k + 1))) := by
          rw [show (k : Int) + 1 = ((k + 1 : Nat) : Int) by omega, fSl_str (by omega), cut_drop le (k + 1) (by omega)]
        have ltk : (le.take k).length = k := by rw [List.length_take]; omega
        have ldr : (le.drop (k + 1)).length = le.length - (k + 1) := List.length_drop ..
        have q6 : fAdd (.str (le.take k)) (.str (le.drop (k + 1))) = some (.str (le.take k ++ le.drop (k + 1))) := fAdd_str (by omega)
        have q7 := fLen_str (a := le) (by omega)
        have q8 : (cD tk).length < sizeLine := by unfold cD; rw [List.length_map, sizeLine_eq]; omega
        have q9 : cD tk ++ [D.str [c]] = cD (tk ++ [c]) := by unfold cD; rw [List.map_append]; rfl
        have hsp : le = le.take k ++ c :: le.drop (k + 1) := by
          have e := List.getElem?_eq_some_iff.mp hc
          rw [← e.2, List.getElem_cons_drop, List.take_append_drop]
        have hnd := p4
        rw [hsp, List.nodup_append, List.nodup_cons] at hnd
        obtain ⟨n1, ⟨n2, n3⟩, n4⟩ := hnd
        refine ⟨leE row a n (le, tk, some (.d (.int (i' : Int))), x6), rfl, .inl ⟨(le.take k ++ le.drop (k + 1), tk ++ [c], some (.d (.int (i' : Int))), some (.d (.int (k : Int)))), .inl ?_, ?_⟩⟩
        · unfold leE
          simp only
          clear p1 p2 p3 p4 p5 p6 p7 n1 n2 n3 n4 hsp hc hkl hk m1 m2' hd hq hi hpos ltk ldr
          walk_at "evh"
        · have hcm : c ∈ le := List.mem_of_getElem? hc
          refine ⟨by simp [p1], by simp only [List.length_append, ltk, ldr]; omega, nodup_snoc p3 (p5 c hcm), ?_, fun y hy => ?_, fun y hy => ?_, fun y hy => ?_⟩
          · rw [List.nodup_append]
            exact ⟨n1, n3, fun x hx y hy => n4 x hx y (List.mem_cons_of_mem _ hy)⟩
          · have hyl : y ∈ le := by
              rcases List.mem_append.mp hy with hy | hy
              · exact List.mem_of_mem_take hy
              · exact List.mem_of_mem_drop hy
            intro z
            rcases List.mem_append.mp z with z | z
            · exact p5 y hyl z
            · rw [List.mem_singleton] at z
              subst z
              rcases List.mem_append.mp hy with hy | hy
              · exact n4 y hy y List.mem_cons_self rfl
              · exact n2 hy
          · refine p6 y ?_
            rcases List.mem_append.mp hy with hy | hy
            · exact List.mem_of_mem_take hy
            · exact List.mem_of_mem_drop hy
          · rcases List.mem_append.mp hy with hy | hy
            · exact p7 y hy
            · rw [List.mem_singleton] at hy
              subst hy
              exact p6 y hcm
    · intro s hp
      have e : (rngD 0 n).length = n := by unfold rngD; rw [List.length_map, List.length_range]
      rw [e] at hp
      exact ⟨s, rfl, hp.1, hp.2.2.1, hp.2.2.2.2.2.2⟩
  obtain ⟨⟨le, tk, x5, x6⟩, w1, w2, w3, w4⟩ := hw
  simp only at w2 w3 w4
  refine ⟨sortN tk, ?_, ⟨by rw [sortN_len]; omega, by rw [sortN_len]; omega, fun c hc => w4 c ((sortN_mem tk c).mp hc), sortN_asc tk w3⟩, by rw [sortN_len]; exact w2⟩
  have q1 : fSortC [.lst (cD tk)] = some (cD (sortN tk)) := by
    show (match chars (cD tk) with | some cs => if cs.length < 64 then some ((sortN cs).map fun c => D.str [c]) else none | none => none) = _
    rw [chars_cD]
    simp only
    rw [if_pos (by omega)]
    rfl
  have q2 := join_cD (sortN tk) (by rw [sortN_len]; omega)
  have q3 := v_rngN (n := n) (by omega)
  have q4 : (0 : Nat) ≤ sizeLine := Nat.zero_le _
  unfold g__law_letters m__law_letters
  unfold leE at w1
  have e1 : cD [] = [] := rfl
  have e2 : abc = S "abcdefghijklmnopqrstuvwxyz" := rfl
  simp only [e1, e2] at w1
  clear w2 w3 w4 hl hn h6 e2
  walk_at "evh"
end F
namespace F
open PySem L2 R
theorem lc_ex {j : Nat} {me : ME} {ρ : Slots} {m : Nat} : ∀ (n : Nat) (lo : Nat), (∀ k : Nat, lo ≤ k → k < lo + n → ∃ o, me (ρ.set j (some (.d (.int (k : Int))))) = some (oD o) ∧ ∀ t, o = some t → t < m) →
    ∃ r : List (Option Nat), lcGo j mYes me ρ ((List.range' lo n).map fun (k : Nat) => D.int (k : Int)) = some (r.map oD) ∧ r.length = n ∧ ∀ t, some t ∈ r → t < m
  | 0, _, _ => ⟨[], rfl, rfl, fun _ h => nomatch h⟩
  | n + 1, lo, h => by
    obtain ⟨o, h1, h2⟩ := h lo (Nat.le_refl _) (by omega)
    obtain ⟨r, r1, r2, r3⟩ := lc_ex n (lo + 1) (fun k h1 h2 => h k (by omega) (by omega))
    refine ⟨o :: r, ?_, by rw [List.length_cons, r2], fun t ht => ?_⟩
    · rw [List.range'_succ, List.map_cons]
      unfold lcGo
      simp only [mYes, h1, r1]
      rfl
    · rcases List.mem_cons.mp ht with e | ht
      · exact h2 t e.symm
      · exact r3 t ht
theorem rngD_range (n : Nat) : rngD 0 n = (List.range' 0 n).map fun (k : Nat) => D.int (k : Int) := by
  unfold rngD
  rw [List.range_eq_range']
  apply List.map_congr_left
  intro k _
  rw [Int.zero_add]
theorem lc_ex0 {j : Nat} {me : ME} {ρ : Slots} {m n : Nat} (h : ∀ k : Nat, k < n → ∃ o, me (ρ.set j (some (.d (.int (k : Int))))) = some (oD o) ∧ ∀ t, o = some t → t < m) :
    ∃ r : List (Option Nat), lcGo j mYes me ρ (rngD 0 n) = some (r.map oD) ∧ r.length = n ∧ ∀ t, some t ∈ r → t < m := by
  rw [rngD_range]
  exact lc_ex n 0 (fun k _ h2 => h k (by omega))
/-- [None, t][int(t < m)] -/
theorem pick_o (t : Int) (m : Nat) (h0 : 0 ≤ t) : ∃ o, atI [D.non, .int t] (if decide (t < (m : Int)) = true then 1 else 0) = some (oD o) ∧ ∀ x, o = some x → x < m := by
  by_cases h : t < (m : Int)
  · refine ⟨some t.toNat, ?_, fun x hx => by cases hx; omega⟩
    rw [decide_eq_true h, if_pos rfl]
    rw [oD_s, show ((t.toNat : Nat) : Int) = t by omega]
    exact at1 _ _ _
  · refine ⟨none, ?_, fun x hx => nomatch hx⟩
    rw [decide_eq_false h, if_neg (by decide)]
    exact at0 _ _
theorem dig2 {row : List Int} {many : Nat} (hl : row.length = 9) (h : Dg row [8, 5, (many : Int) + 1, (many : Int) + 1, (many : Int) + 1, (many : Int) + 1, (many : Int) + 1, (many : Int) + 1, 60]) {k : Nat} (hk : k < 6) : ∃ d, row[2 + k]? = some d ∧ 0 ≤ d ∧ d < (many : Int) + 1 := by
  refine dig h hl ?_
  match k, hk with
  | 0, _ => rfl
  | 1, _ => rfl
  | 2, _ => rfl
  | 3, _ => rfl
  | 4, _ => rfl
  | 5, _ => rfl
theorem ix2 {row : List Int} {k : Nat} {d : Int} (h : row[2 + k]? = some d) : atI (row.map D.int) (2 + (k : Int)) = some (.int d) := by
  rw [show (2 : Int) + (k : Int) = ((2 + k : Nat) : Int) by omega]
  exact ix_map h
theorem other_eq (o : Option Nat) (half m : Nat) (d : Int) (hh : 1 ≤ half) (hm : 2 * half ≤ m) (ho : ∀ t, o = some t → t < m) (hm2 : m ≤ 1000) : ∃ o', g__law_other [oD o, .int (half : Int), .int d] = some (.d (oD o')) ∧ ∀ t, o' = some t → t < m := by
  unfold g__law_other m__law_other
  cases o with
  | none =>
    refine ⟨none, ?_, fun t h => nomatch h⟩
    have h1 := is_n
    have h2 := oD_n
    clear ho
    walk_at "evh"
  | some t =>
    have ht := ho t rfl
    have h1 := is_i (n := (t : Int))
    have h2 := oD_s t
    have h3 : fMul (.int 2) (.int (half : Int)) = some (.int (2 * (half : Int))) := fMul_l (by omega) (by omega)
    by_cases hge : 2 * half ≤ t
    · refine ⟨some t, ?_, ho⟩
      have h4 : decide (2 * (half : Int) ≤ (t : Int)) = true := decide_eq_true (by omega)
      clear ho hge ht hh hm hm2
      walk_at "evh"
    · have h4 : decide (2 * (half : Int) ≤ (t : Int)) = false := decide_eq_false (by omega)
      have e1 : fMod (.int (t : Int)) (.int (half : Int)) = some (.int ((t : Int) % (half : Int))) := fMod_int (by omega)
      have e2 : fMod (.int d) (.int 2) = some (.int (d % 2)) := fMod_int (by decide)
      have e3 : fMul (.int (half : Int)) (.int (d % 2)) = some (.int ((half : Int) * (d % 2))) := fMul_l (by omega) (by omega)
      have b1 := Int.emod_nonneg (t : Int) (show (half : Int) ≠ 0 by omega)
      have b2 := Int.emod_lt_of_pos (t : Int) (show (0 : Int) < (half : Int) by omega)
      have hd : d % 2 = 0 ∨ d % 2 = 1 := by omega
      have hv : ∃ v : Nat, (t : Int) % (half : Int) + (half : Int) * (d % 2) = (v : Int) ∧ v < m := by
        rcases hd with hd | hd <;> rw [hd]
        · exact ⟨((t : Int) % (half : Int)).toNat, by omega, by omega⟩
        · exact ⟨((t : Int) % (half : Int) + (half : Int)).toNat, by omega, by omega⟩
      obtain ⟨v, hv1, hv2⟩ := hv
      refine ⟨some v, ?_, fun x hx => by cases hx; exact hv2⟩
      have h5 := oD_s v
      clear ho hge ht hh hm hm2 b1 b2 hd hv2
      walk_at "evh"
abbrev FOs := Fm × Option Sl × Option Sl × Option Sl × Option Sl
def foE (sc : List D) (a many size half : Nat) (dbl : Bool) (s : FOs) : Slots := [some (.d (.lsk sc)), some (.d (.int (a : Int))), some (.d (.int (many : Int))), some (.d (.int (size : Int))), some (.d (.bl dbl)), some (.d (.int (half : Int))), some (.own (.lst (s.1.map sD))), s.2.1, s.2.2.1, s.2.2.2.1, s.2.2.2.2, none]
abbrev FObr : MS := (mIf (mAnd (mT (mVar 4)) (mAnd (mT (m2 fLe (mBor 5) (mBor 7))) (mT (m2 fLt (mBor 7) (m2 fMul (mC (.int 2)) (mBor 5))))))
      (mSeq (mSet 9 (m2 fIx (m2 fIx (mBor 6) (m2 fSub (mBor 7) (mBor 5))) (mC (.int 0))))
      (mSetF 10 (mLc (mRng1 (mCons (mVar 3) mNil)) 11 mYes (mCall g__law_other (mCons (m2 fIx (m2 fIx (m2 fIx (mBor 6) (m2 fSub (mBor 7) (mBor 5))) (mC (.int 1))) (mBor 11)) (mCons (mVar 5) (mCons (m2 fIx (mBor 8) (m2 fAdd (mC (.int 2)) (mBor 11))) mNil)))))))
      (mIf (mAnd (mT (m2 fEq (m2 fIx (mBor 8) (mC (.int 0))) (mC (.int 6)))) (mT (m2 fGt (mBor 7) (mC (.int 0)))))
        (mSeq (mSet 9 (m2 fIx (m2 fIx (mBor 6) (m2 fMod (mCB fInt (mCons (m2 fIx (mBor 8) (mC (.int 8))) mNil)) (mBor 7))) (mC (.int 0))))
        (mSet 10 (m2 fIx (m2 fIx (mBor 6) (m2 fMod (mCB fInt (mCons (m2 fIx (mBor 8) (mC (.int 8))) mNil)) (mBor 7))) (mC (.int 1)))))
        (mIf (mAnd (mT (m2 fEq (m2 fIx (mBor 8) (mC (.int 0))) (mC (.int 7)))) (mT (m2 fGt (mBor 7) (mC (.int 0)))))
          (mSeq (mSet 9 (mC (.bl false)))
          (mSetF 10 (mLc (mRng1 (mCons (mVar 3) mNil)) 11 mYes (m2 fIx (mF (mLst (mCons (mC .non) (mCons (mVar 7) mNil)))) (m2 fMod (mCB fInt (mCons (m2 fIx (mBor 8) (m2 fAdd (mC (.int 2)) (mBor 11))) mNil)) (mC (.int 2)))))))
          mNext)))
/-- what the branches leave -/
def FOout (sc : List D) (a many size half : Nat) (dbl : Bool) (f : Fm) (x7 x8 : Option Sl) (o : Out) : Prop := ∃ (b : Bool) (r : List (Option Nat)) (x10 : Option Sl), o = .nx (foE sc a many size half dbl (f, x7, x8, some (.d (.bl b)), x10)) ∧ (x10 = some (.own (.lst (r.map oD))) ∨ x10 = some (.d (.tup (r.map oD)))) ∧ r.length = size ∧ ∀ t, some t ∈ r → t < many
theorem fo_br {sc : List D} {a many size half k : Nat} {dbl : Bool} {f : Fm} {row : List Int} (hmany : many ≤ 1000) (hsize : size ≤ 6) (hhalf : half = many / 2) (hk : f.length = k) (hkm : k < many) (hf1 : ∀ (i : Nat) (b : Bool) (r : List (Option Nat)), f[i]? = some (b, r) → r.length = size ∧ ∀ t, some t ∈ r → t < many)
    (hl : row.length = 9) (h : Dg row [8, 5, (many : Int) + 1, (many : Int) + 1, (many : Int) + 1, (many : Int) + 1, (many : Int) + 1, (many : Int) + 1, 60]) (b0 : Bool) (r0 : List (Option Nat)) (hr0 : r0.length = size) (hr1 : ∀ t, some t ∈ r0 → t < many) :
    FOout sc a many size half dbl f (some (.d (.int (k : Int)))) (some (.d (.lst (row.map .int)))) (FObr (foE sc a many size half dbl (f, some (.d (.int (k : Int))), some (.d (.lst (row.map .int))), some (.d (.bl b0)), some (.own (.lst (r0.map oD)))))) := by
  obtain ⟨d0, hd0, d0a, d0b⟩ := dig h hl (j := 0) (z := 8) rfl
  obtain ⟨d8, hd8, d8a, d8b⟩ := dig h hl (j := 8) (z := 60) rfl
  have i0 : atI (row.map D.int) 0 = some (.int d0) := ix_map (k := 0) hd0
  have i8 : atI (row.map D.int) 8 = some (.int d8) := ix_map (k := 8) hd8
  have q2 := v_rngN (n := size) (by omega)
  have q3 : (rngD 0 size).length ≤ sizeLine := by
    have : (rngD 0 size).length = size := by unfold rngD; rw [List.length_map, List.length_range]
    rw [this]
    exact sl_ok _ (by omega)
  have m2h : fMul (.int 2) (.int (half : Int)) = some (.int (2 * (half : Int))) := fMul_l (by omega) (by omega)
  have inner : ∀ c1 : Bool, (c1 = true → half ≤ k ∧ k < 2 * half) → ∀ (i : Nat), True := fun _ _ _ => trivial
  -- the copy of the first half
  have br1 : half ≤ k → k < 2 * half → ∃ (b : Bool) (r : List (Option Nat)), f[k - half]? = some (b, r) ∧ ∃ r' : List (Option Nat), lcGo 11 mYes (mCall g__law_other (mCons (m2 fIx (m2 fIx (m2 fIx (mBor 6) (m2 fSub (mBor 7) (mBor 5))) (mC (.int 1))) (mBor 11)) (mCons (mVar 5) (mCons (m2 fIx (mBor 8) (m2 fAdd (mC (.int 2)) (mBor 11))) mNil))))
      [some (.d (.lsk sc)), some (.d (.int (a : Int))), some (.d (.int (many : Int))), some (.d (.int (size : Int))), some (.d (.bl dbl)), some (.d (.int (half : Int))), some (.own (.lst (f.map sD))), some (.d (.int (k : Int))), some (.d (.lst (row.map .int))), some (.d (.bl b)), some (.own (.lst (r0.map oD))), none] (rngD 0 size) = some (r'.map oD) ∧ r'.length = size ∧ ∀ t, some t ∈ r' → t < many := by
    intro h1 h2
    obtain ⟨⟨b, r⟩, e⟩ := at_ex (l := f) (i := k - half) (by omega)
    refine ⟨b, r, e, lc_ex0 fun j hj => ?_⟩
    obtain ⟨hrl, hrt⟩ := hf1 _ b r e
    obtain ⟨o, ho⟩ := at_ex (l := r) (i := j) (by omega)
    obtain ⟨dd, hdd, da, db⟩ := dig2 hl h (k := j) (by omega)
    obtain ⟨o', g1, g2⟩ := other_eq o half many dd (by omega) (by omega) (fun t ht => hrt t (by rw [← ht]; exact List.mem_of_getElem? ho)) hmany
    refine ⟨o', ?_, g2⟩
    have e1 : (k : Int) - (half : Int) = ((k - half : Nat) : Int) := by omega
    have e2 : atI (f.map sD) ((k - half : Nat) : Int) = some (sD (b, r)) := atI_nat (by rw [List.getElem?_map, e]; rfl)
    have e3 := sD_1 (b, r)
    have e4 := oD_at ho
    have e5 := ix2 hdd
    have e6 := v_callR g1
    simp only at e3
    clear hf1 h hl hd0 hd8 hmany hsize hhalf hk hkm h1 h2 hrl hrt g1 g2 e hdd ho inner hr0 hr1 i0 i8
    walk_at "evh"
  have br3 : ∃ r' : List (Option Nat), lcGo 11 mYes (m2 fIx (mF (mLst (mCons (mC .non) (mCons (mVar 7) mNil)))) (m2 fMod (mCB fInt (mCons (m2 fIx (mBor 8) (m2 fAdd (mC (.int 2)) (mBor 11))) mNil)) (mC (.int 2))))
      [some (.d (.lsk sc)), some (.d (.int (a : Int))), some (.d (.int (many : Int))), some (.d (.int (size : Int))), some (.d (.bl dbl)), some (.d (.int (half : Int))), some (.own (.lst (f.map sD))), some (.d (.int (k : Int))), some (.d (.lst (row.map .int))), some (.d (.bl false)), some (.own (.lst (r0.map oD))), none] (rngD 0 size) = some (r'.map oD) ∧ r'.length = size ∧ ∀ t, some t ∈ r' → t < many := by
    refine lc_ex0 fun j hj => ?_
    obtain ⟨dd, hdd, da, db⟩ := dig2 hl h (k := j) (by omega)
    have e2 : fMod (.int dd) (.int 2) = some (.int (dd % 2)) := fMod_int (by decide)
    have e5 := ix2 hdd
    have e6 : (0 + 1 + 1 : Nat) ≤ sizeLine := by decide
    have hd : dd % 2 = 0 ∨ dd % 2 = 1 := by omega
    rcases hd with hd | hd <;> rw [hd] at e2
    · refine ⟨none, ?_, fun t ht => nomatch ht⟩
      have e7 := oD_n
      clear hf1 h hl hd0 hd8 hmany hsize hhalf hk hkm hdd inner hr0 hr1 i0 i8 br1 hd
      walk_at "evh"
    · refine ⟨some k, ?_, fun t ht => by cases ht; exact hkm⟩
      have e7 := oD_s k
      clear hf1 h hl hd0 hd8 hmany hsize hhalf hk hkm hdd inner hr0 hr1 i0 i8 br1 hd
      walk_at "evh"
  have tst1 : (mAnd (mT (mVar 4)) (mAnd (mT (m2 fLe (mBor 5) (mBor 7))) (mT (m2 fLt (mBor 7) (m2 fMul (mC (.int 2)) (mBor 5)))))) (foE sc a many size half dbl (f, some (.d (.int (k : Int))), some (.d (.lst (row.map .int))), some (.d (.bl b0)), some (.own (.lst (r0.map oD))))) = some (dbl && (decide (half ≤ k) && decide (k < 2 * half))) := by
    have c1 : decide ((half : Int) ≤ (k : Int)) = decide (half ≤ k) := decide_eq_decide.mpr (by omega)
    have c2 : decide ((k : Int) < 2 * (half : Int)) = decide (k < 2 * half) := decide_eq_decide.mpr (by omega)
    unfold foE
    simp only
    clear hf1 h hl hd0 hd8 hmany hsize hhalf hk hkm inner hr0 hr1 i0 i8 br1 br3
    cases dbl
    · walk_at "evh"
      rfl
    · cases e1 : decide (half ≤ k) <;> rw [e1] at c1 <;> clear e1
      · walk_at "evh"
        rfl
      · walk_at "evh"
        rfl
  cases ht1 : (dbl && (decide (half ≤ k) && decide (k < 2 * half))) with
  | true =>
    rw [ht1] at tst1
    rw [Bool.and_eq_true, Bool.and_eq_true] at ht1
    obtain ⟨b, r, e, r', g1, g2, g3⟩ := br1 (of_decide_eq_true ht1.2.1) (of_decide_eq_true ht1.2.2)
    refine ⟨b, r', some (.own (.lst (r'.map oD))), ?_, .inl rfl, g2, g3⟩
    rw [show FObr _ = _ from if_tt tst1]
    have e1 : (k : Int) - (half : Int) = ((k - half : Nat) : Int) := by have := of_decide_eq_true ht1.2.1; omega
    have e2 : atI (f.map sD) ((k - half : Nat) : Int) = some (sD (b, r)) := atI_nat (by rw [List.getElem?_map, e]; rfl)
    have e3 := sD_0 (b, r)
    simp only at e3
    unfold foE
    simp only
    clear hf1 h hl hd0 hd8 hmany hsize hhalf hk hkm inner hr0 hr1 i0 i8 br1 br3 tst1 ht1 g2 g3 e
    walk_at "evh"
  | false =>
    rw [ht1] at tst1
    rw [show FObr _ = _ from if_ff tst1]
    clear tst1 ht1 br1
    by_cases c6 : d0 = 6 ∧ 0 < k
    · obtain ⟨c6, kp⟩ := c6
      subst c6
      have m1 := Int.emod_nonneg d8 (show (k : Int) ≠ 0 by omega)
      have m2' := Int.emod_lt_of_pos d8 (show (0 : Int) < (k : Int) by omega)
      obtain ⟨j, hj⟩ : ∃ j : Nat, d8 % (k : Int) = (j : Int) := ⟨(d8 % (k : Int)).toNat, by omega⟩
      obtain ⟨⟨b, r⟩, e⟩ := at_ex (l := f) (i := j) (by omega)
      obtain ⟨g2, g3⟩ := hf1 j b r e
      refine ⟨b, r, some (.d (.tup (r.map oD))), ?_, .inr rfl, g2, g3⟩
      have e1 : fMod (.int d8) (.int (k : Int)) = some (.int (j : Int)) := by rw [fMod_int (by omega), hj]
      have e2 : atI (f.map sD) (j : Int) = some (sD (b, r)) := atI_nat (by rw [List.getElem?_map, e]; rfl)
      have e3 := sD_0 (b, r)
      have e4 := sD_1 (b, r)
      have e5 : decide ((0 : Int) < (k : Int)) = true := decide_eq_true (by omega)
      have e6 : decide ((6 : Int) = 6) = true := rfl
      simp only at e3 e4
      unfold foE
      simp only
      clear hf1 h hl hd0 hd8 hmany hsize hhalf hk hkm inner hr0 hr1 br3 g2 g3 e m1 m2' hj kp
      walk_at "evh"
    · have t2 : (mAnd (mT (m2 fEq (m2 fIx (mBor 8) (mC (.int 0))) (mC (.int 6)))) (mT (m2 fGt (mBor 7) (mC (.int 0))))) (foE sc a many size half dbl (f, some (.d (.int (k : Int))), some (.d (.lst (row.map .int))), some (.d (.bl b0)), some (.own (.lst (r0.map oD))))) = some false := by
        unfold foE
        simp only
        by_cases c : d0 = 6
        · have e5 : decide ((0 : Int) < (k : Int)) = false := decide_eq_false (fun z => c6 ⟨c, by omega⟩)
          have e6 : decide (d0 = 6) = true := decide_eq_true c
          clear hf1 h hl hd0 hd8 hmany hsize hhalf hk hkm inner hr0 hr1 br3 c6 c
          walk_at "evh"
        · have e6 : decide (d0 = 6) = false := decide_eq_false c
          clear hf1 h hl hd0 hd8 hmany hsize hhalf hk hkm inner hr0 hr1 br3 c6 c
          walk_at "evh"
      rw [if_ff t2]
      clear t2
      by_cases c7 : d0 = 7 ∧ 0 < k
      · obtain ⟨c7, kp⟩ := c7
        subst c7
        obtain ⟨r', g1, g2, g3⟩ := br3
        refine ⟨false, r', some (.own (.lst (r'.map oD))), ?_, .inl rfl, g2, g3⟩
        have e5 : decide ((0 : Int) < (k : Int)) = true := decide_eq_true (by omega)
        have e6 : decide ((7 : Int) = 7) = true := rfl
        unfold foE
        simp only
        clear hf1 h hl hd0 hd8 hmany hsize hhalf hk hkm inner hr0 hr1 g2 g3 kp c6
        walk_at "evh"
      · have t3 : (mAnd (mT (m2 fEq (m2 fIx (mBor 8) (mC (.int 0))) (mC (.int 7)))) (mT (m2 fGt (mBor 7) (mC (.int 0))))) (foE sc a many size half dbl (f, some (.d (.int (k : Int))), some (.d (.lst (row.map .int))), some (.d (.bl b0)), some (.own (.lst (r0.map oD))))) = some false := by
          unfold foE
          simp only
          by_cases c : d0 = 7
          · have e5 : decide ((0 : Int) < (k : Int)) = false := decide_eq_false (fun z => c7 ⟨c, by omega⟩)
            have e6 : decide (d0 = 7) = true := decide_eq_true c
            clear hf1 h hl hd0 hd8 hmany hsize hhalf hk hkm inner hr0 hr1 br3 c6 c c7
            walk_at "evh"
          · have e6 : decide (d0 = 7) = false := decide_eq_false c
            clear hf1 h hl hd0 hd8 hmany hsize hhalf hk hkm inner hr0 hr1 br3 c6 c c7
            walk_at "evh"
        rw [if_ff t3]
        exact ⟨b0, r0, _, rfl, .inl rfl, hr0, hr1⟩
theorem fMul_6 (x : D) : fMul (.lst [x]) (.int 6) = some (.lst [x, x, x, x, x, x]) := by
  have h : -(2 ^ 63) ≤ (6 : Int) ∧ (6 : Int) < 2 ^ 63 ∧ [x].length * (6 : Int).toNat ≤ sizeLine := ⟨by decide, by decide, by show 1 * 6 ≤ sizeLine; decide⟩
  unfold fMul
  simp only
  rw [if_pos h]
  rfl
theorem form_ok (ns : List Int) (a many size : Nat) (dbl : Bool) (ha : a + many ≤ 900) (hsize : size ≤ 6) : ∃ f, g__law_form [.lsk (ns.map .int), .int (a : Int), .int (many : Int), .int (size : Int), .bl dbl] = some (.d (fD f)) ∧ Ok size f ∧ f.length = many := by
  have hw : ∃ s : FOs, forGo (gN 7) (mSeq (mSet 8 (mCall g__law_digits (mCons (m2 fAdd (mCall g__law_cell (mCons (mVar 0) (mCons (m2 fAdd (mBor 1) (mBor 7)) mNil))) (m2 fMul (mC (.int 977)) (mBor 7))) (mCons (m2 fAdd (m2 fAdd (mF (mLst (mCons (mC (.int 8)) (mCons (mC (.int 5)) mNil)))) (m2 fMul (mF (mLst (mCons (m2 fAdd (mBor 2) (mC (.int 1))) mNil))) (mC (.int 6)))) (mF (mLst (mCons (mC (.int 60)) mNil)))) mNil))))
    (mSeq (mSet 9 (m2 fLt (m2 fIx (mBor 8) (mC (.int 1))) (mC (.int 3))))
    (mSeq (mSetF 10 (mLc (mRng1 (mCons (mVar 3) mNil)) 11 mYes (m2 fIx (mF (mLst (mCons (mC .non) (mCons (m2 fIx (mBor 8) (m2 fAdd (mC (.int 2)) (mBor 11))) mNil)))) (mCB fInt (mCons (m2 fLt (m2 fIx (mBor 8) (m2 fAdd (mC (.int 2)) (mBor 11))) (mBor 2)) mNil)))))
    (mSeq FObr
    (mApp 6 (mTup (mCons (mVar 9) (mCons (mCB fTuple (mCons (mBor 10) mNil)) mNil)))))))) (rngD 0 many) (foE (ns.map .int) a many size (many / 2) dbl ([], none, none, none, none)) = .nx (foE (ns.map .int) a many size (many / 2) dbl s) ∧ s.1.length = many ∧ ∀ (i : Nat) (b : Bool) (r : List (Option Nat)), s.1[i]? = some (b, r) → r.length = size ∧ ∀ t, some t ∈ r → t < many := by
    refine for_st (foE (ns.map .int) a many size (many / 2) dbl) (fun i s => s.1.length = i ∧ ∀ (i : Nat) (b : Bool) (r : List (Option Nat)), s.1[i]? = some (b, r) → r.length = size ∧ ∀ t, some t ∈ r → t < many) (fun o => ∃ s : FOs, o = .nx (foE (ns.map .int) a many size (many / 2) dbl s) ∧ s.1.length = many ∧ ∀ (i : Nat) (b : Bool) (r : List (Option Nat)), s.1[i]? = some (b, r) → r.length = size ∧ ∀ t, some t ∈ r → t < many) ⟨rfl, fun i b r h => by simp at h⟩ ?_ ?_
    · intro i x s hx hp
      obtain ⟨f, x7, x8, x9, x10⟩ := s
      obtain ⟨p1, p2⟩ := hp
      simp only at p1 p2
      unfold rngD at hx
      rw [List.getElem?_map] at hx
      cases hq : (List.range many)[i]? with
      | none => rw [hq] at hx; cases hx
      | some i' =>
        rw [hq] at hx
        have hi : i < many := by have := (List.getElem?_eq_some_iff.mp hq).1; rwa [List.length_range] at this
        have hi' : i' = i := by rw [List.getElem?_range hi] at hq; cases hq; rfl
        subst hi'
        have hx : D.int (0 + (i' : Int)) = x := Option.some.inj hx
        rw [Int.zero_add] at hx
        subst hx
        obtain ⟨c, hc⟩ := cell_ok ns (a + i') (by omega)
        obtain ⟨row, hr1, hr2, hr3⟩ := digits_ok (c + 977 * (i' : Int)) [8, 5, (many : Int) + 1, (many : Int) + 1, (many : Int) + 1, (many : Int) + 1, (many : Int) + 1, (many : Int) + 1, 60] (by
          intro z hz
          simp only [List.mem_cons, List.not_mem_nil, or_false] at hz
          omega) (by simp)
        have hl9 : row.length = 9 := hr2
        obtain ⟨d1, hd1, d1a, d1b⟩ := dig hr3 hr2 (j := 1) (z := 5) rfl
        have q2 := v_callR hc
        rw [show ((a + i' : Nat) : Int) = (a : Int) + (i' : Int) by omega] at q2
        have q3 : fMul (.int 977) (.int (i' : Int)) = some (.int (977 * (i' : Int))) := fMul_l (by decide) (by decide)
        have q4 : fMul (.lst [.int ((many : Int) + 1)]) (.int 6) = some (.lst [.int ((many : Int) + 1), .int ((many : Int) + 1), .int ((many : Int) + 1), .int ((many : Int) + 1), .int ((many : Int) + 1), .int ((many : Int) + 1)]) := by
          exact fMul_6 _
        have q5 : fAdd (.lst [.int 8, .int 5]) (.lst [.int ((many : Int) + 1), .int ((many : Int) + 1), .int ((many : Int) + 1), .int ((many : Int) + 1), .int ((many : Int) + 1), .int ((many : Int) + 1)]) = some (.lst [.int 8, .int 5, .int ((many : Int) + 1), .int ((many : Int) + 1), .int ((many : Int) + 1), .int ((many : Int) + 1), .int ((many : Int) + 1), .int ((many : Int) + 1)]) := fAdd_lst (by simp)
        have q6 : fAdd (.lst [.int 8, .int 5, .int ((many : Int) + 1), .int ((many : Int) + 1), .int ((many : Int) + 1), .int ((many : Int) + 1), .int ((many : Int) + 1), .int ((many : Int) + 1)]) (.lst [.int 60]) = some (.lst [.int 8, .int 5, .int ((many : Int) + 1), .int ((many : Int) + 1), .int ((many : Int) + 1), .int ((many : Int) + 1), .int ((many : Int) + 1), .int ((many : Int) + 1), .int 60]) := fAdd_lst (by simp)
        have q7 : oCall g__law_digits (some [.int (c + 977 * (i' : Int)), .lst [.int 8, .int 5, .int ((many : Int) + 1), .int ((many : Int) + 1), .int ((many : Int) + 1), .int ((many : Int) + 1), .int ((many : Int) + 1), .int ((many : Int) + 1), .int 60]]) = some (.lst (row.map .int)) := by exact (v_call hr1).trans rfl
        have q8 : atI (row.map D.int) 1 = some (.int d1) := ix_map (k := 1) hd1
        have q9 := v_rngN (n := size) (by omega)
        have q10 : (rngD 0 size).length ≤ sizeLine := by
          have : (rngD 0 size).length = size := by unfold rngD; rw [List.length_map, List.length_range]
          rw [this]
          exact sl_ok _ (by omega)
        have q11 : (0 + 1 + 1 : Nat) ≤ sizeLine := by decide
        have q12 : (0 + 1 : Nat) ≤ sizeLine := by decide
        obtain ⟨r0, g1, g2, g3⟩ : ∃ r0 : List (Option Nat), lcGo 11 mYes (m2 fIx (mF (mLst (mCons (mC .non) (mCons (m2 fIx (mBor 8) (m2 fAdd (mC (.int 2)) (mBor 11))) mNil)))) (mCB fInt (mCons (m2 fLt (m2 fIx (mBor 8) (m2 fAdd (mC (.int 2)) (mBor 11))) (mBor 2)) mNil)))
            [some (.d (.lsk (ns.map .int))), some (.d (.int (a : Int))), some (.d (.int (many : Int))), some (.d (.int (size : Int))), some (.d (.bl dbl)), some (.d (.int ((many / 2 : Nat) : Int))), some (.own (.lst (f.map sD))), some (.d (.int (i' : Int))), some (.d (.lst (row.map .int))), some (.d (.bl (decide (d1 < 3)))), x10, none] (rngD 0 size) = some (r0.map oD) ∧ r0.length = size ∧ ∀ t, some t ∈ r0 → t < many := by
          refine lc_ex0 fun j hj => ?_
          obtain ⟨dd, hdd, da, db⟩ := dig2 hl9 hr3 (k := j) (by omega)
          obtain ⟨o, ho1, ho2⟩ := pick_o dd many da
          refine ⟨o, ?_, ho2⟩
          have e5 := ix2 hdd
          have e6 := fInt_bl (decide (dd < (many : Int)))
          clear hq hi hc hr1 hr2 hr3 hl9 hd1 q2 q3 q4 q5 q6 q7 q8 q9 q10 p1 p2 hdd ho2 ha hsize
          walk_at "evh"
        obtain ⟨b, r, y10, t1, t2, t3, t4⟩ := fo_br (sc := ns.map .int) (a := a) (dbl := dbl) (half := many / 2) (by omega) hsize rfl p1 hi p2 hl9 hr3 (decide (d1 < 3)) r0 g2 g3
        refine ⟨foE (ns.map .int) a many size (many / 2) dbl (f, some (.d (.int (i' : Int))), x8, x9, x10), rfl, .inl ⟨(f ++ [(b, r)], some (.d (.int (i' : Int))), some (.d (.lst (row.map .int))), some (.d (.bl b)), y10), .inl ?_, by simp [p1], ?_⟩⟩
        · have q13 : (f.map sD).length < sizeLine := by rw [List.length_map, sizeLine_eq]; omega
          have q14 : f.map sD ++ [D.tup [.bl b, .tup (r.map oD)]] = (f ++ [(b, r)]).map sD := by rw [List.map_append]; rfl
          have q15 : fTuple [.lst (r.map oD)] = some (.tup (r.map oD)) := rfl
          have q16 : fTuple [.tup (r.map oD)] = some (.tup (r.map oD)) := rfl
          generalize FObr = Fb at t1 ⊢
          unfold foE at t1 ⊢
          simp only at t1 ⊢
          clear hq hi hc hr1 hr2 hr3 hl9 hd1 p1 p2 ha hsize g2 g3 t3 t4 d1a d1b
          rcases t2 with rfl | rfl
          · walk_at "evh"
          · walk_at "evh"
        · intro j b' r' hj
          simp only at hj
          by_cases h' : j < f.length
          · rw [List.getElem?_append_left h'] at hj
            exact p2 j b' r' hj
          · have : j = f.length := by
              have := (List.getElem?_eq_some_iff.mp hj).1
              rw [List.length_append, List.length_singleton] at this
              omega
            subst this
            have e1 : (f ++ [(b, r)])[f.length]? = some (b, r) := by simp
            rw [e1] at hj
            cases hj
            exact ⟨t3, t4⟩
    · intro s hp
      have e : (rngD 0 many).length = many := by unfold rngD; rw [List.length_map, List.length_range]
      rw [e] at hp
      exact ⟨s, rfl, hp.1, hp.2⟩
  obtain ⟨⟨f, x7, x8, x9, x10⟩, w1, w2, w3⟩ := hw
  simp only at w2 w3
  refine ⟨f, ?_, ⟨fun i b r e => (w3 i b r e).1, fun i b r j e hj => by rw [w2]; exact (w3 i b r e).2 j hj, by omega, by omega⟩, w2⟩
  have q1 : fDiv (.int (many : Int)) (.int 2) = some (.int ((many / 2 : Nat) : Int)) := by
    rw [fDiv_int (by decide) (by decide)]
    congr 2
  have q2 := v_rngN (n := many) (by omega)
  have q3 : (0 : Nat) ≤ sizeLine := Nat.zero_le _
  have q4 : fTuple [.lst (f.map sD)] = some (fD f) := rfl
  unfold g__law_form m__law_form
  unfold foE at w1
  simp only [List.map_nil] at w1
  clear w2 w3 ha hsize
  rw [r_g (by rfl)]
  walk_at "evh"
end F
namespace F
open PySem L2 R
theorem in_nD (j : Nat) (l : List Nat) : fNotIn (.int (j : Int)) (.lst (nD l)) = some (.bl (!decide (j ∈ l))) := by
  have h1 : (nD l).all flatD = true := by unfold nD; rw [List.all_map]; simp [flatD]
  have h2 : inD (.int (j : Int)) (nD l) = decide (j ∈ l) := by
    unfold inD nD
    rw [List.any_map, Bool.eq_iff_iff]
    simp only [List.any_eq_true, decide_eq_true_eq, Function.comp]
    constructor
    · rintro ⟨x, hx, e⟩
      have : (x : Int) = (j : Int) := by simpa [eqF] using e
      have : x = j := by omega
      subst this
      exact hx
    · exact fun hx => ⟨j, hx, by simp [eqF]⟩
  have h3 : inB (.int (j : Int)) (.lst (nD l)) = some (decide (j ∈ l)) := by
    unfold inB
    simp [h1, h2, flatD]
  unfold fNotIn
  rw [h3]
theorem at_last {α : Type} {xs : List α} {x : α} (h : xs[xs.length - 1]? = some x) : atI xs (-1) = some x := by
  have hl : 0 < xs.length := by have := (List.getElem?_eq_some_iff.mp h).1; omega
  unfold atI ixN
  rw [if_neg (by decide), if_pos (by omega)]
  have : ((-1 : Int) + (xs.length : Int)).toNat = xs.length - 1 := by omega
  simp only [this]
  exact h
abbrev FIs := List Nat × Option Sl × Option Sl
def fiE (f : Fm) (d : Int) (s : FIs) : Slots := [some (.d (fD f)), some (.d (.int d)), some (.own (.lst (nD s.1))), s.2.1, none, s.2.2]
theorem fi_in {w : Nat} {f : Fm} {d : Int} (ok : Ok w f) (r : List (Option Nat)) (hr : ∀ t, some t ∈ r → t < f.length) (l0 : List Nat) (h0 : ∀ t ∈ l0, t < f.length) (hl0 : l0.length ≤ f.length ∧ l0.Nodup) (x3 x5 : Option Sl) :
    ∃ l y5, forGo (gN 5) (mIf (mAnd (mT (m2 fIsNot (mBor 5) (mC .non))) (mT (m2 fNotIn (mBor 5) (mBor 2)))) (mApp 2 (mVar 5)) mNext) (r.map oD) (fiE f d (l0, x3, x5)) = .nx (fiE f d (l, x3, y5)) ∧ (∀ t ∈ l, t < f.length) ∧ l.Nodup ∧ l0.length ≤ l.length := by
  have hw : ∃ s : FIs, forGo (gN 5) (mIf (mAnd (mT (m2 fIsNot (mBor 5) (mC .non))) (mT (m2 fNotIn (mBor 5) (mBor 2)))) (mApp 2 (mVar 5)) mNext) (r.map oD) (fiE f d (l0, x3, x5)) = .nx (fiE f d s) ∧ s.2.1 = x3 ∧ (∀ t ∈ s.1, t < f.length) ∧ s.1.Nodup ∧ l0.length ≤ s.1.length := by
    refine for_st (fiE f d) (fun _ s => s.2.1 = x3 ∧ (∀ t ∈ s.1, t < f.length) ∧ s.1.Nodup ∧ l0.length ≤ s.1.length) (fun o => ∃ s : FIs, o = .nx (fiE f d s) ∧ s.2.1 = x3 ∧ (∀ t ∈ s.1, t < f.length) ∧ s.1.Nodup ∧ l0.length ≤ s.1.length) ⟨rfl, h0, hl0.2, Nat.le_refl _⟩ ?_ (fun s h => ⟨s, rfl, h⟩)
    intro i x s hx hp
    obtain ⟨l, y3, y5⟩ := s
    obtain ⟨p1, p2, p3, p4⟩ := hp
    simp only at p1 p2 p3 p4
    subst p1
    rw [List.getElem?_map] at hx
    cases e : r[i]? with
    | none => rw [e] at hx; cases hx
    | some o =>
      rw [e] at hx
      cases hx
      refine ⟨fiE f d (l, y3, some (.d (oD o))), rfl, .inl ?_⟩
      cases o with
      | none =>
        refine ⟨(l, y3, some (.d (oD none))), .inl ?_, rfl, p2, p3, p4⟩
        have h1 := isn_n
        have h2 := oD_n
        unfold fiE
        simp only
        clear ok hr h0 hl0 p2 p3 p4 e
        walk_at "evh"
      | some j =>
        have hj := hr j (List.mem_of_getElem? e)
        have h1 := isn_i (n := (j : Int))
        have h2 := oD_s j
        have h3 := in_nD j l
        by_cases hm : j ∈ l
        · refine ⟨(l, y3, some (.d (oD (some j)))), .inl ?_, rfl, p2, p3, p4⟩
          rw [decide_eq_true hm] at h3
          unfold fiE
          simp only
          clear ok hr h0 hl0 p2 p3 p4 e hm hj
          walk_at "evh"
        · refine ⟨(l ++ [j], y3, some (.d (oD (some j)))), .inl ?_, rfl, fun t ht => ?_, nodup_snoc p3 hm, by simp; omega⟩
          · rw [decide_eq_false hm] at h3
            have h4 := nD_snoc l j
            have h5 : (nD l).length < sizeLine := by
              have := nodup_le p3 (m := List.range f.length) (fun t ht => List.mem_range.mpr (p2 t ht))
              rw [List.length_range] at this
              rw [nD_len, sizeLine_eq]
              have := ok.bnd
              omega
            unfold fiE
            simp only
            clear ok hr h0 hl0 p2 p3 p4 e hm hj
            walk_at "evh"
          · rcases List.mem_append.mp ht with ht | ht
            · exact p2 t ht
            · rw [List.mem_singleton] at ht; rw [ht]; exact hj
  obtain ⟨⟨l, y3, y5⟩, w1, w2, w3, w4, w5⟩ := hw
  simp only at w2 w3 w4 w5
  subst w2
  exact ⟨l, y5, w1, w3, w4, w5⟩
def setEnd (f : Fm) (j : Nat) (r : List (Option Nat)) : Fm := f.take j ++ [(true, r)] ++ f.drop (j + 1)
theorem take_drop_at {α : Type} {l : List α} {j : Nat} {x : α} (h : l[j]? = some x) : l = l.take j ++ x :: l.drop (j + 1) := by
  have e := List.getElem?_eq_some_iff.mp h
  rw [← e.2, List.getElem_cons_drop, List.take_append_drop]
/-- one state in place of another -/
theorem ok_put {w : Nat} {f : Fm} (ok : Ok w f) {j : Nat} {b0 b : Bool} {r0 r : List (Option Nat)} (h : f[j]? = some (b0, r0)) (hl : r.length = w) (ht : ∀ t, some t ∈ r → t < f.length) : Ok w (f.take j ++ [(b, r)] ++ f.drop (j + 1)) ∧ (f.take j ++ [(b, r)] ++ f.drop (j + 1)).length = f.length := by
  have hj := (List.getElem?_eq_some_iff.mp h).1
  have l1 : (f.take j).length = j := by rw [List.length_take]; omega
  have len : (f.take j ++ [(b, r)] ++ f.drop (j + 1)).length = f.length := by
    rw [List.length_append, List.length_append, l1, List.length_singleton, List.length_drop]
    omega
  have at' : ∀ (i : Nat) (c : Bool) (q : List (Option Nat)), (f.take j ++ [(b, r)] ++ f.drop (j + 1))[i]? = some (c, q) → (q = r ∨ ∃ i' : Nat, f[i']? = some (c, q)) := by
    intro i c q hi
    have hm := List.mem_of_getElem? hi
    rcases List.mem_append.mp hm with hm | hm
    · rcases List.mem_append.mp hm with hm | hm
      · obtain ⟨i', hi'⟩ := List.mem_iff_getElem?.mp (List.mem_of_mem_take hm)
        exact .inr ⟨i', hi'⟩
      · rw [List.mem_singleton] at hm
        cases hm
        exact .inl rfl
    · obtain ⟨i', hi'⟩ := List.mem_iff_getElem?.mp (List.mem_of_mem_drop hm)
      exact .inr ⟨i', hi'⟩
  refine ⟨⟨fun i c q hi => ?_, fun i c q t hi hq => ?_, by rw [len]; exact ok.bnd, ok.wid⟩, len⟩
  · rcases at' i c q hi with rfl | ⟨i', hi'⟩
    · exact hl
    · exact ok.row i' c q hi'
  · rw [len]
    rcases at' i c q hi with rfl | ⟨i', hi'⟩
    · exact ht t hq
    · exact ok.tgt i' c q t hi' hq
def FIend : MS := (mSeq (mIf (mOr (mT (m2 fEq (mCB fLen (mCons (mBor 2) mNil)) (mC (.int 0)))) (mT (m2 fEq (mBor 1) (mC (.int 0)))))
    (mRet (mVar 0))
    mNext)
  (mSeq (mSet 4 (m2 fIx (mBor 2) (mNeg (mC (.int 1)))))
  (mRet (m2 fAdd (m2 fAdd (mSl (mBor 0) mNo (mPart (mVar 4))) (mTup (mCons (mTup (mCons (mC (.bl true)) (mCons (m2 fIx (m2 fIx (mBor 0) (mBor 4)) (mC (.int 1))) mNil))) mNil))) (mSl (mBor 0) (mPart (m2 fAdd (mBor 4) (mC (.int 1)))) mNo)))))
theorem filled_split : m__law_filled = (mSeq (mSetF 2 (mLst mNil))
  (mSeq (mIf (mT (m2 fGt (mCB fLen (mCons (mBor 0) mNil)) (mC (.int 0))))
    (mSetF 2 (mLst (mCons (mC (.int 0)) mNil)))
    mNext)
  (mSeq (mFor (mRng1 (mCons (mCB fLen (mCons (mBor 0) mNil)) mNil)) (gN 3) (mSeq (mIf (mT (m2 fGe (mBor 3) (mCB fLen (mCons (mBor 2) mNil)))) (fun ρ => .brk ρ) mNext)
    (mSeq (mIf (mT (m2 fIx (m2 fIx (mBor 0) (m2 fIx (mBor 2) (mBor 3))) (mC (.int 0))))
      (mRet (mVar 0))
      mNext)
    (mFor (mItems (m2 fIx (m2 fIx (mBor 0) (m2 fIx (mBor 2) (mBor 3))) (mC (.int 1)))) (gN 5)
      (mIf (mAnd (mT (m2 fIsNot (mBor 5) (mC .non))) (mT (m2 fNotIn (mBor 5) (mBor 2))))
        (mApp 2 (mVar 5))
        mNext))))) FIend))) := rfl
theorem filled_ok {w : Nat} {f : Fm} (ok : Ok w f) (hs : f.length ≤ 1000) (d : Int) : ∃ f', g__law_filled [fD f, .int d] = some (.d (fD f')) ∧ Ok w f' ∧ f'.length = f.length := by
  have l0 : fLen [fD f] = some (.int (f.length : Int)) := by show some (D.int ((f.map sD).length : Int)) = _; rw [List.length_map]
  have r0 := v_rngN (n := f.length) (by omega)
  have z0 : (0 : Nat) ≤ sizeLine := Nat.zero_le _
  have z1 : (0 + 1 : Nat) ≤ sizeLine := by decide
  have z2 : (0 + 1 + 1 : Nat) ≤ sizeLine := by decide
  have hw : ∀ l0 : List Nat, (∀ t ∈ l0, t < f.length) → l0.Nodup → (0 < f.length → 0 < l0.length) → (∃ s : FIs, forGo (gN 3) (mSeq (mIf (mT (m2 fGe (mBor 3) (mCB fLen (mCons (mBor 2) mNil)))) (fun ρ => .brk ρ) mNext)
    (mSeq (mIf (mT (m2 fIx (m2 fIx (mBor 0) (m2 fIx (mBor 2) (mBor 3))) (mC (.int 0))))
      (mRet (mVar 0))
      mNext)
    (mFor (mItems (m2 fIx (m2 fIx (mBor 0) (m2 fIx (mBor 2) (mBor 3))) (mC (.int 1)))) (gN 5)
      (mIf (mAnd (mT (m2 fIsNot (mBor 5) (mC .non))) (mT (m2 fNotIn (mBor 5) (mBor 2))))
        (mApp 2 (mVar 5))
        mNext)))) (rngD 0 f.length) (fiE f d (l0, none, none)) = .nx (fiE f d s) ∧ (∀ t ∈ s.1, t < f.length) ∧ (0 < f.length → 0 < s.1.length)) ∨ forGo (gN 3) (mSeq (mIf (mT (m2 fGe (mBor 3) (mCB fLen (mCons (mBor 2) mNil)))) (fun ρ => .brk ρ) mNext)
    (mSeq (mIf (mT (m2 fIx (m2 fIx (mBor 0) (m2 fIx (mBor 2) (mBor 3))) (mC (.int 0))))
      (mRet (mVar 0))
      mNext)
    (mFor (mItems (m2 fIx (m2 fIx (mBor 0) (m2 fIx (mBor 2) (mBor 3))) (mC (.int 1)))) (gN 5)
      (mIf (mAnd (mT (m2 fIsNot (mBor 5) (mC .non))) (mT (m2 fNotIn (mBor 5) (mBor 2))))
        (mApp 2 (mVar 5))
        mNext)))) (rngD 0 f.length) (fiE f d (l0, none, none)) = .ret (.d (fD f)) := by
    intro l0 h1 h2 h3
    refine for_st (fiE f d) (fun _ s => (∀ t ∈ s.1, t < f.length) ∧ s.1.Nodup ∧ (0 < f.length → 0 < s.1.length)) (fun o => (∃ s : FIs, o = .nx (fiE f d s) ∧ (∀ t ∈ s.1, t < f.length) ∧ (0 < f.length → 0 < s.1.length)) ∨ o = .ret (.d (fD f))) ⟨h1, h2, h3⟩ ?_ (fun s h => .inl ⟨s, rfl, h.1, h.2.2⟩)
    intro i x s hx hp
    obtain ⟨l, y3, y5⟩ := s
    obtain ⟨p1, p2, p3⟩ := hp
    simp only at p1 p2 p3
    unfold rngD at hx
    rw [List.getElem?_map] at hx
    cases hq : (List.range f.length)[i]? with
    | none => rw [hq] at hx; cases hx
    | some i' =>
      rw [hq] at hx
      have hi : i < f.length := by have := (List.getElem?_eq_some_iff.mp hq).1; rwa [List.length_range] at this
      have hi' : i' = i := by rw [List.getElem?_range hi] at hq; cases hq; rfl
      subst hi'
      have hx : D.int (0 + (i' : Int)) = x := Option.some.inj hx
      rw [Int.zero_add] at hx
      subst hx
      refine ⟨fiE f d (l, some (.d (.int (i' : Int))), y5), rfl, ?_⟩
      have ll := nD_len l
      by_cases hge : l.length ≤ i'
      · refine .inr (.inl ⟨fiE f d (l, some (.d (.int (i' : Int))), y5), ?_, .inl ⟨_, rfl, p1, p3⟩⟩)
        have e1 : decide ((l.length : Int) ≤ (i' : Int)) = true := decide_eq_true (by omega)
        unfold fiE
        simp only
        clear ok hs p1 p2 p3 hge hi hq h1 h2 h3
        walk_at "evh"
      · have e1 : decide ((l.length : Int) ≤ (i' : Int)) = false := decide_eq_false (by omega)
        obtain ⟨t, ht⟩ := at_ex (l := l) (i := i') (by omega)
        obtain ⟨⟨b, r⟩, e⟩ := at_ex (p1 t (List.mem_of_getElem? ht))
        have e2 := nD_at ht
        have e3 := sD_at e
        have e4 := sD_0 (b, r)
        have e5 := sD_1 (b, r)
        simp only at e4 e5
        cases b with
        | true =>
          refine .inr (.inr ⟨.d (fD f), ?_, .inr rfl⟩)
          unfold fiE
          simp only
          clear ok hs p1 p2 p3 hge hi hq h1 h2 h3 e ht
          walk_at "evh"
        | false =>
          obtain ⟨l2, z5, g1, g2, g3, g4⟩ := fi_in (d := d) ok r (fun t' ht' => ok.tgt t false r t' e ht') l p1 ⟨by
            have := nodup_le p2 (m := List.range f.length) (fun t ht => List.mem_range.mpr (p1 t ht))
            rwa [List.length_range] at this, p2⟩ (some (.d (.int (i' : Int)))) y5
          refine .inl ⟨(l2, some (.d (.int (i' : Int))), z5), .inl ?_, g2, g3, fun z => by have := p3 z; show 0 < l2.length; omega⟩
          unfold fiE at g1 ⊢
          simp only at g1 ⊢
          clear ok hs p1 p2 p3 hge hi hq h1 h2 h3 e ht g2 g3 g4
          walk_at "evh"
  have fin : ∀ s : FIs, (∀ t ∈ s.1, t < f.length) → (0 < f.length → 0 < s.1.length) → ∃ f', FIend (fiE f d s) = .ret (.d (fD f')) ∧ Ok w f' ∧ f'.length = f.length := by
    intro s h1 h2
    obtain ⟨l, y3, y5⟩ := s
    simp only at h1 h2
    have ll := nD_len l
    by_cases c1 : l.length = 0
    · refine ⟨f, ?_, ok, rfl⟩
      have e1 : decide ((l.length : Int) = 0) = true := decide_eq_true (by omega)
      unfold fiE FIend
      simp only
      clear ok hs h1 h2 hw c1
      walk_at "evh"
    · have e1 : decide ((l.length : Int) = 0) = false := decide_eq_false (by omega)
      by_cases c2 : d = 0
      · refine ⟨f, ?_, ok, rfl⟩
        have e2 : decide (d = 0) = true := decide_eq_true c2
        unfold fiE FIend
        simp only
        clear ok hs h1 h2 hw c1 c2
        walk_at "evh"
      · have e2 : decide (d = 0) = false := decide_eq_false c2
        obtain ⟨j, hj⟩ := at_ex (l := l) (i := l.length - 1) (by omega)
        have hjf := h1 j (List.mem_of_getElem? hj)
        obtain ⟨⟨b, r⟩, e⟩ := at_ex hjf
        have e3 : atI (nD l) (-1) = some (.int (j : Int)) := at_last (by rw [nD_len]; unfold nD; rw [List.getElem?_map, hj]; rfl)
        have e4 := sD_at e
        have e5 := sD_1 (b, r)
        simp only at e5
        have e6 : fSl (fD f) none (some (j : Int)) = some (.tup ((f.take j).map sD)) := by
          show some (D.tup (cutL (f.map sD) none (some (j : Int)))) = _
          rw [cut_take _ _ (by rw [List.length_map]; omega), List.map_take]
        have e7 : fSl (fD f) (some ((j : Int) + 1)) none = some (.tup ((f.drop (j + 1)).map sD)) := by
          show some (D.tup (cutL (f.map sD) (some ((j : Int) + 1)) none)) = _
          rw [show (j : Int) + 1 = ((j + 1 : Nat) : Int) by omega, cut_drop _ _ (by rw [List.length_map]; omega), List.map_drop]
        have lt : (f.take j).length = j := by rw [List.length_take]; omega
        have ld : (f.drop (j + 1)).length = f.length - (j + 1) := List.length_drop ..
        have e8 : fAdd (.tup ((f.take j).map sD)) (.tup [sD (true, r)]) = some (.tup ((f.take j).map sD ++ [sD (true, r)])) := fAdd_tup (by rw [List.length_map, lt]; simp; omega)
        have e9 : fAdd (.tup ((f.take j).map sD ++ [sD (true, r)])) (.tup ((f.drop (j + 1)).map sD)) = some (.tup ((f.take j).map sD ++ [sD (true, r)] ++ (f.drop (j + 1)).map sD)) := fAdd_tup (by rw [List.length_append, List.length_map, List.length_map, lt, ld]; simp; omega)
        have e10 : (f.take j).map sD ++ [sD (true, r)] ++ (f.drop (j + 1)).map sD = (f.take j ++ [(true, r)] ++ f.drop (j + 1)).map sD := by rw [List.map_append, List.map_append]; rfl
        obtain ⟨g1, g2⟩ := ok_put ok (b := true) e (ok.row j b r e) (fun t ht => ok.tgt j b r t e ht)
        refine ⟨f.take j ++ [(true, r)] ++ f.drop (j + 1), ?_, g1, g2⟩
        rw [e10] at e9
        have e11 : D.tup [.bl true, .tup (r.map oD)] = sD (true, r) := rfl
        have e12 : fD (f.take j ++ [(true, r)] ++ f.drop (j + 1)) = D.tup ((f.take j ++ [(true, r)] ++ f.drop (j + 1)).map sD) := rfl
        rw [e12]
        unfold fiE FIend
        simp only
        clear ok hs h1 h2 hw c1 c2 g1 g2 e hj hjf lt ld e10 e12
        walk_at "evh"
  unfold g__law_filled
  rw [filled_split, r_g2]
  by_cases hf : f.length = 0
  · have e1 : decide ((0 : Int) < (f.length : Int)) = false := decide_eq_false (by omega)
    rcases hw [] (fun _ h => nomatch h) List.nodup_nil (fun z => by omega) with ⟨s, g1, g2, g3⟩ | g1
    · obtain ⟨f', k1, k2, k3⟩ := fin s g2 g3
      refine ⟨f', ?_, k2, k3⟩
      unfold fiE at g1 k1
      have en : nD [] = [] := rfl
      simp only [en] at g1 k1
      clear hw fin g2 g3 k2 k3 hf ok hs
      walk_at "evh"
    · refine ⟨f, ?_, ok, rfl⟩
      unfold fiE at g1
      have en : nD [] = [] := rfl
      simp only [en] at g1
      clear hw fin hf ok hs
      walk_at "evh"
  · have e1 : decide ((0 : Int) < (f.length : Int)) = true := decide_eq_true (by omega)
    rcases hw [0] (fun t ht => by rw [List.mem_singleton] at ht; omega) (by simp) (fun z => by simp) with ⟨s, g1, g2, g3⟩ | g1
    · obtain ⟨f', k1, k2, k3⟩ := fin s g2 g3
      refine ⟨f', ?_, k2, k3⟩
      unfold fiE at g1 k1
      have en : nD [0] = [.int 0] := rfl
      simp only [en] at g1 k1
      clear hw fin g2 g3 k2 k3 hf ok hs
      walk_at "evh"
    · refine ⟨f, ?_, ok, rfl⟩
      unfold fiE at g1
      have en : nD [0] = [.int 0] := rfl
      simp only [en] at g1
      clear hw fin hf ok hs
      walk_at "evh"
end F
namespace K01
open PySem L2 R F
/-! ### _law_due -/
def m__law_due : MS :=
  (mRet (m2 fIx (mF (mLst (mCons (mOrV (mVar 1) (mVar 2)) (mCons (mAndV (mVar 1) (mVar 2)) (mCons (mAndV (mVar 1) (mNotV (mVar 2))) (mCons (mNotV (mVar 1)) (mCons (mAndV (mVar 2) (mNotV (mVar 1))) (mCons (mNotV (mVar 2)) (mCons (mVar 1) (mCons (mVar 2) (mCons (mC (.bl false)) mNil))))))))))) (mBor 0)))
def g__law_due : List D → Option Sl := gOf 3 3 m__law_due
/-! ### _law_kept -/
def m__law_kept : MS :=
  (mSeq (mSet 5 (mTup (mCons (mCall g__law_first (mCons (mVar 1) mNil)) (mCons (mCall g__law_first (mCons (mVar 2) mNil)) (mCons (mCall g__law_first (mCons (mVar 3) mNil)) mNil)))))
  (mSeq (mDNew1 6 (mVar 5) (mC (.bl true)))
  (mSeq (mSetF 7 (mLst (mCons (mVar 5) mNil)))
  (mSeq (mFor (mRng1 (mCons (m2 fMul (m2 fMul (m2 fAdd (mCB fLen (mCons (mBor 1) mNil)) (mC (.int 1))) (m2 fAdd (mCB fLen (mCons (mBor 2) mNil)) (mC (.int 1)))) (m2 fAdd (mCB fLen (mCons (mBor 3) mNil)) (mC (.int 1)))) mNil)) (gN 8)
    (mSeq (mIf (mT (m2 fGe (mBor 8) (mCB fLen (mCons (mBor 7) mNil))))
      (fun ρ => .brk ρ)
      mNext)
    (mSeq (mSet 9 (m2 fIx (mBor 7) (mBor 8)))
    (mSeq (mIf (mT (m2 fNe (mCall g__law_ends (mCons (mVar 1) (mCons (m2 fIx (mBor 9) (mC (.int 0))) mNil))) (mCall g__law_due (mCons (mVar 4) (mCons (mCall g__law_ends (mCons (mVar 2) (mCons (m2 fIx (mBor 9) (mC (.int 1))) mNil))) (mCons (mCall g__law_ends (mCons (mVar 3) (mCons (m2 fIx (mBor 9) (mC (.int 2))) mNil))) mNil))))))
      (mRet (mC (.bl false)))
      mNext)
    (mFor (mRng1 (mCons (mVar 0) mNil)) (gN 10)
      (mSeq (mSet 11 (mTup (mCons (mCall g__law_next (mCons (mVar 1) (mCons (m2 fIx (mBor 9) (mC (.int 0))) (mCons (mVar 10) mNil)))) (mCons (mCall g__law_next (mCons (mVar 2) (mCons (m2 fIx (mBor 9) (mC (.int 1))) (mCons (mVar 10) mNil)))) (mCons (mCall g__law_next (mCons (mVar 3) (mCons (m2 fIx (mBor 9) (mC (.int 2))) (mCons (mVar 10) mNil)))) mNil)))))
      (mIf (mT (mDIn true (mVar 11) 6))
        (mSeq (mDPut 6 (mVar 11) (mC (.bl true)))
        (mApp 7 (mVar 11)))
        mNext)))))))
  (mRet (mC (.bl true)))))))
def g__law_kept : List D → Option Sl := gOf 12 5 m__law_kept
/-! ### _law_has_text -/
def m__law_has_text : MS :=
  (mSeq (mSetF 2 (mLst mNil))
  (mSeq (mIf (mT (m2 fGt (mCB fLen (mCons (mBor 1) mNil)) (mC (.int 0))))
    (mSetF 2 (mLst (mCons (mC (.int 0)) mNil)))
    mNext)
  (mSeq (mFor (mRng1 (mCons (mCB fLen (mCons (mBor 1) mNil)) mNil)) (gN 3)
    (mSeq (mIf (mT (m2 fGe (mBor 3) (mCB fLen (mCons (mBor 2) mNil))))
      (fun ρ => .brk ρ)
      mNext)
    (mSeq (mIf (mT (m2 fIx (m2 fIx (mBor 1) (m2 fIx (mBor 2) (mBor 3))) (mC (.int 0))))
      (mRet (mC (.bl true)))
      mNext)
    (mFor (mRng1 (mCons (mVar 0) mNil)) (gN 4)
      (mSeq (mSet 5 (m2 fIx (m2 fIx (m2 fIx (mBor 1) (m2 fIx (mBor 2) (mBor 3))) (mC (.int 1))) (mBor 4)))
      (mIf (mAnd (mT (m2 fIsNot (mBor 5) (mC .non))) (mT (m2 fNotIn (mBor 5) (mBor 2))))
        (mApp 2 (mVar 5))
        mNext))))))
  (mRet (mC (.bl false))))))
def g__law_has_text : List D → Option Sl := gOf 6 2 m__law_has_text
/-! ### _law_state -/
def m__law_state : MS :=
  (mSeq (mSet 3 (mCall g__law_first (mCons (mVar 1) mNil)))
  (mSeq (mFor (mItems (mVar 2)) (gN 4)
    (mSeq (mIf (mOr (mT (m2 fIs (mBor 3) (mC .non))) (mT (m2 fNotIn (mBor 4) (mBor 0))))
      (mRet (mC .non))
      mNext)
    (mSet 3 (m2 fIx (m2 fIx (m2 fIx (mBor 1) (mBor 3)) (mC (.int 1))) (mMt fFind1 (mBor 0) (mCons (mBor 4) mNil))))))
  (mRet (mVar 3))))
def g__law_state : List D → Option Sl := gOf 5 3 m__law_state
/-! ### _law_char -/
def m__law_char : MS :=
  (mSeq (mSet 2 (mC (.str (S " !\"#$&'()*+,-./0123456789:;<=>?@ABCDEFGHIJKLMNOPQRSTUVWXYZ[\\]^_`"))))
  (mSeq (mSet 2 (m2 fAdd (mBor 2) (mC (.str (S "abcdefghijklmnopqrstuvwxyz{|}~\n")))))
  (mSeq (mIf (mT (m2 fLt (mBor 1) (mCB fLen (mCons (mBor 2) mNil))))
    (mRet (m2 fIx (mBor 2) (mBor 1)))
    mNext)
  (mRet (m2 fIx (mBor 0) (m2 fMod (mCB fInt (mCons (mBor 1) mNil)) (mCB fLen (mCons (mBor 0) mNil))))))))
def g__law_char : List D → Option Sl := gOf 3 2 m__law_char
/-! ### _law_path -/
def m__law_path : MS :=
  (mSeq (mSet 5 (mCall g__law_first (mCons (mVar 1) mNil)))
  (mSeq (mSet 6 (mC (.str (S ""))))
  (mSeq (mSet 7 (mC (.str (S ""))))
  (mSeq (mFor (mRng1 (mCons (mVar 3) mNil)) (gN 8)
    (mSeq (mSet 9 (mC .non))
    (mSeq (mFor (mRng1 (mCons (mCB fLen (mCons (mBor 0) mNil)) mNil)) (gN 10)
      (mSeq (mSet 11 (m2 fMod (mCB fInt (mCons (m2 fAdd (m2 fIx (mBor 2) (mBor 8)) (mBor 10)) mNil)) (mCB fLen (mCons (mBor 0) mNil))))
      (mIf (mAnd (mT (m2 fIs (mBor 9) (mC .non))) (mAnd (mT (m2 fIsNot (mBor 5) (mC .non))) (mT (m2 fIsNot (m2 fIx (m2 fIx (m2 fIx (mBor 1) (mBor 5)) (mC (.int 1))) (mBor 11)) (mC .non)))))
        (mSeq (mSet 9 (m2 fIx (m2 fIx (m2 fIx (mBor 1) (mBor 5)) (mC (.int 1))) (mBor 11)))
        (mSet 6 (m2 fAdd (mBor 6) (m2 fIx (mBor 0) (mBor 11)))))
        mNext)))
    (mSeq (mIf (mT (m2 fIs (mBor 9) (mC .non)))
      (fun ρ => .brk ρ)
      mNext)
    (mSeq (mSet 5 (mVar 9))
    (mIf (mT (m2 fIx (m2 fIx (mBor 1) (mBor 5)) (mC (.int 0))))
      (mSet 7 (mVar 6))
      mNext))))))
  (mRet (m2 fIx (mF (mLst (mCons (mVar 6) (mCons (mVar 7) mNil)))) (mBor 4)))))))
def g__law_path : List D → Option Sl := gOf 12 5 m__law_path
/-! ### _law_string -/
def m__law_string : MS :=
  (mSeq (mSet 3 (mCall g__law_digits (mCons (mVar 2) (mCons (m2 fAdd (m2 fAdd (mF (mLst (mCons (mC (.int 8)) (mCons (mC (.int 61)) (mCons (mC (.int 9)) (mCons (mC (.int 2)) mNil)))))) (m2 fMul (mF (mLst (mCons (mC (.int 200)) mNil))) (mC (.int 59)))) (mF (mLst (mCons (mC (.int 6)) mNil)))) mNil))))
  (mSeq (mSet 4 (m2 fIx (mF (mLst (mCons (m2 fIx (mBor 3) (mC (.int 2))) (mCons (m2 fIx (mBor 3) (mC (.int 1))) mNil)))) (mCB fInt (mCons (mOrV (m2 fEq (m2 fIx (mBor 3) (mC (.int 0))) (mC (.int 3))) (m2 fEq (m2 fIx (mBor 3) (mC (.int 0))) (mC (.int 7)))) mNil))))
  (mSeq (mSet 5 (m2 fMul (mSl (mBor 3) (mPart (mC (.int 4))) (mPart (mC (.int 63)))) (mC (.int 7))))
  (mSeq (mIf (mT (m2 fEq (m2 fIx (mBor 3) (mC (.int 63))) (mC (.int 5))))
    (mSet 4 (m2 fMul (mC (.int 6)) (mBor 4)))
    mNext)
  (mSeq (mIf (mT (m2 fLt (m2 fIx (mBor 3) (mC (.int 0))) (mC (.int 4))))
    (mRet (mCall g__law_path (mCons (mVar 0) (mCons (mVar 1) (mCons (mVar 5) (mCons (mVar 4) (mCons (m2 fIx (mBor 3) (mC (.int 3))) mNil)))))))
    mNext)
  (mSeq (mIf (mT (m2 fLt (m2 fIx (mBor 3) (mC (.int 0))) (mC (.int 6))))
    (mRet (mMt fJoin (mC (.str (S ""))) (mCons (mF (mLc (mRng1 (mCons (mVar 4) mNil)) 6 mYes (m2 fIx (mBor 0) (m2 fMod (mCB fInt (mCons (m2 fIx (mBor 5) (mBor 6)) mNil)) (mCB fLen (mCons (mBor 0) mNil)))))) mNil)))
    mNext)
  (mRet (mMt fJoin (mC (.str (S ""))) (mCons (mF (mLc (mRng1 (mCons (mVar 4) mNil)) 6 mYes (mCall g__law_char (mCons (mVar 0) (mCons (m2 fIx (mBor 5) (mBor 6)) mNil))))) mNil)))))))))
def g__law_string : List D → Option Sl := gOf 7 3 m__law_string
/-! ### _law_changed -/
def m__law_changed : MS :=
  (mSeq (mSet 3 (mCall g__law_digits (mCons (mVar 2) (mCons (mF (mLst (mCons (mC (.int 60)) (mCons (mC (.int 2)) (mCons (mC (.int 6)) (mCons (mC (.int 60)) mNil)))))) mNil))))
  (mSeq (mIf (mT (m2 fEq (mCB fLen (mCons (mBor 0) mNil)) (mC (.int 0))))
    (mRet (mVar 0))
    mNext)
  (mSeq (mSet 4 (m2 fMod (mCB fInt (mCons (m2 fIx (mBor 3) (mC (.int 0))) mNil)) (mCB fLen (mCons (mBor 0) mNil))))
  (mSeq (mSetF 5 (mCF fList (mCons (m2 fIx (m2 fIx (mBor 0) (mBor 4)) (mC (.int 1))) mNil)))
  (mSeq (mSet 6 (m2 fMod (mCB fInt (mCons (m2 fIx (mBor 3) (mC (.int 3))) mNil)) (m2 fAdd (mCB fLen (mCons (mBor 0) mNil)) (mC (.int 1)))))
  (mSeq (mPutL 5 (m2 fMod (mCB fInt (mCons (m2 fIx (mBor 3) (mC (.int 2))) mNil)) (mBor 1)) (m2 fIx (mF (mLst (mCons (mC .non) (mCons (mVar 6) mNil)))) (mCB fInt (mCons (m2 fLt (mBor 6) (mCB fLen (mCons (mBor 0) mNil))) mNil))))
  (mRet (m2 fAdd (m2 fAdd (mSl (mBor 0) mNo (mPart (mVar 4))) (mTup (mCons (mTup (mCons (m2 fNe (m2 fIx (m2 fIx (mBor 0) (mBor 4)) (mC (.int 0))) (m2 fEq (m2 fIx (mBor 3) (mC (.int 1))) (mC (.int 1)))) (mCons (mCB fTuple (mCons (mBor 5) mNil)) mNil))) mNil))) (mSl (mBor 0) (mPart (m2 fAdd (mBor 4) (mC (.int 1)))) mNo)))))))))
def g__law_changed : List D → Option Sl := gOf 7 3 m__law_changed
/-! ### _law_fits -/
def m__law_fits : MS :=
  (mSeq (mIf (mOr (mNot (mT (mIsC "TextSet" (mVar 1)))) (mOr (mT (m2 fNe (mFld "TextSet" "alphabet" (mVar 1)) (mBor 0))) (mNot (mT (mCall g__law_is_form (mCons (mFld "TextSet" "form" (mVar 1)) (mCons (mCB fLen (mCons (mBor 0) mNil)) mNil)))))))
    (mRet (mC (.bl false)))
    mNext)
  (mSeq (mIf (mOr (mNot (mT (mCB fIsi (mCons (mProp "TextSet" g_TextSet_is_empty (mVar 1)) (mCons (mC (.ty "bool")) mNil))))) (mT (m2 fEq (mProp "TextSet" g_TextSet_is_empty (mVar 1)) (mCall g__law_has_text (mCons (mCB fLen (mCons (mBor 0) mNil)) (mCons (mFld "TextSet" "form" (mVar 1)) mNil))))))
    (mRet (mC (.bl false)))
    mNext)
  (mRet (mCall g__law_kept (mCons (mCB fLen (mCons (mBor 0) mNil)) (mCons (mFld "TextSet" "form" (mVar 1)) (mCons (mVar 2) (mCons (mVar 3) (mCons (mVar 4) mNil)))))))))
def g__law_fits : List D → Option Sl := gOf 5 5 m__law_fits
/-! ### _law_differ -/
noncomputable def m__law_differ : MS :=
  (mSeq (mSet 4 (mC .non))
  (mSeq (mTry (tb [("AlphabetsDiffer", true)]) 5
    (mIf (mT (m2 fEq (mBor 2) (mC (.int 0))))
      (mSetX 4 (mBinX "TextSet" gx_TextSet___or__ (mVar 0) (mVar 1)))
      (mIf (mT (m2 fEq (mBor 2) (mC (.int 1))))
        (mSetX 4 (mBinX "TextSet" gx_TextSet___and__ (mVar 0) (mVar 1)))
        (mSetX 4 (mBinX "TextSet" gx_TextSet___sub__ (mVar 0) (mVar 1)))))
    (mSeq (mIf (mOr (mNot (mT (mCB fIsi (mCons (mXF "AlphabetsDiffer" "one" 5) (mCons (mC (.ty "str")) mNil))))) (mOr (mNot (mT (mCB fIsi (mCons (mXF "AlphabetsDiffer" "two" 5) (mCons (mC (.ty "str")) mNil))))) (mT (mXIs (tb [("AlphabetsDiffer", false)]) 5))))
      (mRet (mC (.bl false)))
      mNext)
    (mSeq (mIf (mOr (mT (m2 fNe (mXF "AlphabetsDiffer" "one" 5) (m2 fIx (mBor 3) (mC (.int 0))))) (mOr (mT (m2 fNe (mXF "AlphabetsDiffer" "two" 5) (m2 fIx (mBor 3) (mC (.int 1))))) (mT (mXIs (tb [("AlphabetsDiffer", false)]) 5))))
      (mRet (mC (.bl false)))
      mNext)
    (mRet (mAndV (mXIs (tb [("AlphabetsDiffer", true)]) 5) (mXIs (tb [("AlphabetsDiffer", true)]) 5))))))
  (mRet (mAndV (m2 fIsNot (mBor 4) (mC .non)) (m2 fEq (m2 fIx (mBor 3) (mC (.int 0))) (m2 fIx (mBor 3) (mC (.int 1))))))))
noncomputable def g__law_differ : List D → Option Sl := gOf 6 4 m__law_differ
/-! ### _law_same_state -/
def m__law_same_state : MS :=
  (mSeq (mIf (mT (m2 fIs (mBor 1) (mC .non)))
    (mRet (m2 fIs (mBor 0) (mC .non)))
    mNext)
  (mRet (mAndV (mCall g__law_whole (mCons (mVar 0) mNil)) (m2 fEq (mBor 0) (mBor 1)))))
def g__law_same_state : List D → Option Sl := gOf 2 2 m__law_same_state
/-! ### _law_is_text -/
def m__law_is_text : MS :=
  (mSeq (mFor (mItems (mVar 1)) (gN 2)
    (mIf (mT (m2 fNotIn (mBor 2) (mBor 0)))
      (mRet (mC (.bl false)))
      mNext))
  (mRet (mC (.bl true))))
def g__law_is_text : List D → Option Sl := gOf 3 2 m__law_is_text
/-! ### _law_reads -/
def m__law_reads : MS :=
  (mSeq (mSet 5 (mCall g__law_ends (mCons (mVar 3) (mCons (mCall g__law_state (mCons (mVar 0) (mCons (mVar 3) (mCons (mVar 1) mNil)))) mNil))))
  (mSeq (mSet 6 (mCall g__law_ends (mCons (mVar 4) (mCons (mCall g__law_state (mCons (mVar 0) (mCons (mVar 4) (mCons (mVar 1) mNil)))) mNil))))
  (mSeq (mFor (mItems (mVar 2)) (gN 7)
    (mSeq (mSet 8 (mAndV (mCall g__law_is_text (mCons (mVar 0) (mCons (mVar 1) mNil))) (mCall g__law_due (mCons (m2 fIx (mBor 7) (mC (.int 1))) (mCons (mVar 5) (mCons (mVar 6) mNil))))))
    (mSeq (mIf (mT (m2 fNe (m2 (fInO "TextSet" g_TextSet___contains__) (mVar 1) (m2 fIx (mBor 7) (mC (.int 0)))) (mBor 8)))
      (mRet (mC (.bl false)))
      mNext)
    (mIf (mNot (mT (mCall g__law_same_state (mCons (mMeth "TextSet" "state_after" g_TextSet_state_after (m2 fIx (mBor 7) (mC (.int 0))) (mCons (mVar 1) mNil)) (mCons (mCall g__law_state (mCons (mVar 0) (mCons (mFld "TextSet" "form" (m2 fIx (mBor 7) (mC (.int 0)))) (mCons (mVar 1) mNil)))) mNil)))))
      (mRet (mC (.bl false)))
      mNext))))
  (mRet (mC (.bl true))))))
def g__law_reads : List D → Option Sl := gOf 9 5 m__law_reads
/-! ### _law_other_alphabet -/
noncomputable def m__law_other_alphabet : MS :=
  (mSeq (mSet 3 (mCall g__law_digits (mCons (mCall g__law_cell (mCons (mVar 0) (mCons (mC (.int 25)) mNil))) (mCons (m2 fAdd (mF (mLst (mCons (mC (.int 6)) (mCons (mC (.int 3)) mNil)))) (mF (mLst (mCons (mC (.int 26)) (mCons (mC (.int 25)) (mCons (mC (.int 24)) (mCons (mC (.int 23)) (mCons (mC (.int 22)) (mCons (mC (.int 21)) mNil))))))))) mNil))))
  (mSeq (mSet 4 (mCall g__law_letters (mCons (mVar 3) (mCons (mC (.int 2)) (mCons (m2 fAdd (mC (.int 1)) (m2 fIx (mBor 3) (mC (.int 0)))) mNil)))))
  (mSeq (mSet 5 (mTup mNil))
  (mSeq (mIf (mT (m2 fLt (m2 fIx (mBor 3) (mC (.int 1))) (mC (.int 2))))
    (mSet 5 (mTup (mCons (mTup (mCons (mC (.bl true)) (mCons (mCB fTuple (mCons (mF (mLc (mItems (mVar 4)) 8 mYes (mC (.int 0)))) mNil)) mNil))) mNil)))
    mNext)
  (mSeq (mSet 6 (mMake "TextSet" g_TextSet___init__ (mCons (mVar 4) (mCons (mVar 5) mNil))))
  (mSeq (mFor (mRng1 (mCons (mC (.int 3)) mNil)) (gN 7)
    (mSeq (mIf (mNot (mT (mCall g__law_differ (mCons (mVar 2) (mCons (mVar 6) (mCons (mVar 7) (mCons (mF (mLst (mCons (mVar 1) (mCons (mVar 4) mNil)))) mNil)))))))
      (mRet (mC (.bl false)))
      mNext)
    (mIf (mNot (mT (mCall g__law_differ (mCons (mVar 6) (mCons (mVar 2) (mCons (mVar 7) (mCons (mF (mLst (mCons (mVar 4) (mCons (mVar 1) mNil)))) mNil)))))))
      (mRet (mC (.bl false)))
      mNext)))
  (mRet (mC (.bl true)))))))))
noncomputable def g__law_other_alphabet : List D → Option Sl := gOf 9 3 m__law_other_alphabet
/-! ### law -/
noncomputable def m_law : MS :=
  (mSeq (mSet 1 (mCall g__law_digits (mCons (mCall g__law_cell (mCons (mVar 0) (mCons (mC (.int 0)) mNil))) (mCons (m2 fAdd (mF (mLst (mCons (mC (.int 16)) (mCons (mC (.int 10)) (mCons (mC (.int 16)) (mCons (mC (.int 10)) (mCons (mC (.int 8)) (mCons (mC (.int 6)) (mCons (mC (.int 4)) (mCons (mC (.int 2)) (mCons (mC (.int 5)) (mCons (mC (.int 5)) mNil)))))))))))) (mF (mLst (mCons (mC (.int 26)) (mCons (mC (.int 25)) (mCons (mC (.int 24)) (mCons (mC (.int 23)) (mCons (mC (.int 22)) (mCons (mC (.int 21)) mNil))))))))) mNil))))
  (mSeq (mSet 2 (m2 fIx (mF (mLst (mCons (mC (.int 2)) (mCons (mC (.int 2)) (mCons (mC (.int 3)) (mCons (mC (.int 1)) (mCons (mC (.int 2)) (mCons (mC (.int 3)) (mCons (mC (.int 2)) (mCons (m2 fAdd (mC (.int 1)) (m2 fIx (mBor 1) (mC (.int 5)))) mNil)))))))))) (m2 fIx (mBor 1) (mC (.int 4)))))
  (mSeq (mSet 3 (mCall g__law_letters (mCons (mVar 1) (mCons (mC (.int 10)) (mCons (mVar 2) mNil)))))
  (mSeq (mSet 4 (mF (mLst (mCons (mC (.int 3)) (mCons (mC (.int 4)) (mCons (mC (.int 2)) (mCons (mC (.int 5)) (mCons (mC (.int 3)) (mCons (mC (.int 4)) (mCons (mC (.int 6)) (mCons (mC (.int 3)) (mCons (mC (.int 5)) (mCons (mC (.int 2)) (mCons (mC (.int 4)) (mCons (mC (.int 7)) (mCons (mC (.int 5)) (mCons (mC (.int 1)) (mCons (mC (.int 0)) mNil))))))))))))))))))
  (mSeq (mSet 5 (mCall g__law_filled (mCons (mCall g__law_form (mCons (mVar 0) (mCons (mC (.int 2)) (mCons (m2 fIx (m2 fAdd (mBor 4) (mF (mLst (mCons (m2 fIx (mBor 1) (mC (.int 1))) mNil)))) (m2 fIx (mBor 1) (mC (.int 0)))) (mCons (mVar 2) (mCons (mC (.bl false)) mNil)))))) (mCons (m2 fIx (mBor 1) (mC (.int 8))) mNil))))
  (mSeq (mSet 6 (mCall g__law_filled (mCons (mCall g__law_form (mCons (mVar 0) (mCons (mC (.int 11)) (mCons (m2 fIx (m2 fAdd (mBor 4) (mF (mLst (mCons (m2 fIx (mBor 1) (mC (.int 3))) mNil)))) (m2 fIx (mBor 1) (mC (.int 2)))) (mCons (mVar 2) (mCons (m2 fEq (m2 fIx (mBor 1) (mC (.int 7))) (mC (.int 1))) mNil)))))) (mCons (m2 fIx (mBor 1) (mC (.int 9))) mNil))))
  (mSeq (mIf (mT (m2 fEq (m2 fIx (mBor 1) (mC (.int 6))) (mC (.int 3))))
    (mSet 6 (mCall g__law_changed (mCons (mVar 5) (mCons (mVar 2) (mCons (mCall g__law_cell (mCons (mVar 0) (mCons (mC (.int 20)) mNil))) mNil)))))
    mNext)
  (mSeq (mSet 7 (mMake "TextSet" g_TextSet___init__ (mCons (mVar 3) (mCons (mVar 5) mNil))))
  (mSeq (mSet 8 (mMake "TextSet" g_TextSet___init__ (mCons (mVar 3) (mCons (mVar 6) mNil))))
  (mSeq (mSet 9 (mF (mLst (mCons (mF (mLst (mCons (m2 (fBin "TextSet" g_TextSet___or__) (mVar 7) (mVar 8)) (mCons (mC (.int 0)) mNil)))) (mCons (mF (mLst (mCons (m2 (fBin "TextSet" g_TextSet___and__) (mVar 7) (mVar 8)) (mCons (mC (.int 1)) mNil)))) (mCons (mF (mLst (mCons (m2 (fBin "TextSet" g_TextSet___sub__) (mVar 7) (mVar 8)) (mCons (mC (.int 2)) mNil)))) (mCons (mF (mLst (mCons (m1 (fUn "TextSet" g_TextSet___invert__) (mVar 7)) (mCons (mC (.int 3)) mNil)))) (mCons (mF (mLst (mCons (m2 (fBin "TextSet" g_TextSet___or__) (mVar 8) (mVar 7)) (mCons (mC (.int 0)) mNil)))) (mCons (mF (mLst (mCons (m2 (fBin "TextSet" g_TextSet___and__) (mVar 8) (mVar 7)) (mCons (mC (.int 1)) mNil)))) mNil)))))))))
  (mSeq (mSet 9 (m2 fAdd (mBor 9) (mF (mLst (mCons (mF (mLst (mCons (m2 (fBin "TextSet" g_TextSet___sub__) (mVar 8) (mVar 7)) (mCons (mC (.int 4)) mNil)))) (mCons (mF (mLst (mCons (m1 (fUn "TextSet" g_TextSet___invert__) (mVar 8)) (mCons (mC (.int 5)) mNil)))) (mCons (mF (mLst (mCons (mVar 7) (mCons (mC (.int 6)) mNil)))) (mCons (mF (mLst (mCons (mVar 8) (mCons (mC (.int 7)) mNil)))) (mCons (mF (mLst (mCons (m2 (fBin "TextSet" g_TextSet___or__) (mVar 7) (mVar 7)) (mCons (mC (.int 6)) mNil)))) (mCons (mF (mLst (mCons (m2 (fBin "TextSet" g_TextSet___and__) (mVar 8) (mVar 8)) (mCons (mC (.int 7)) mNil)))) (mCons (mF (mLst (mCons (m2 (fBin "TextSet" g_TextSet___sub__) (mVar 7) (mVar 7)) (mCons (mC (.int 8)) mNil)))) mNil)))))))))))
  (mSeq (mFor (mItems (mVar 9)) (gN 10)
    (mIf (mNot (mT (mCall g__law_fits (mCons (mVar 3) (mCons (m2 fIx (mBor 10) (mC (.int 0))) (mCons (mVar 5) (mCons (mVar 6) (mCons (m2 fIx (mBor 10) (mC (.int 1))) mNil))))))))
      (mRet (mC (.bl false)))
      mNext))
  (mSeq (mSetF 11 (mLc (mItems (mVar 9)) 10 mYes (mFld "TextSet" "form" (m2 fIx (mBor 10) (mC (.int 0))))))
  (mSeq (mIf (mNot (mT (mCall g__law_other_alphabet (mCons (mVar 0) (mCons (mVar 3) (mCons (mVar 7) mNil))))))
    (mRet (mC (.bl false)))
    mNext)
  (mSeq (mFor (mRng1 (mCons (mC (.int 4)) mNil)) (gN 12)
    (mSeq (mSet 14 (mCall g__law_string (mCons (mVar 3) (mCons (m2 fIx (mF (mLst (mCons (mVar 5) (mCons (mVar 6) mNil)))) (m2 fDiv (mBor 12) (mC (.int 2)))) (mCons (mCall g__law_cell (mCons (mVar 0) (mCons (m2 fAdd (mC (.int 21)) (mBor 12)) mNil))) mNil)))))
    (mIf (mNot (mT (mCall g__law_reads (mCons (mVar 3) (mCons (mVar 14) (mCons (mVar 9) (mCons (mVar 5) (mCons (mVar 6) mNil))))))))
      (mRet (mC (.bl false)))
      mNext)))
  (mSeq (mSet 13 (mF (mLst (mCons (m2 (fBin "TextSet" g_TextSet___or__) (mVar 7) (mVar 8)) (mCons (m2 (fBin "TextSet" g_TextSet___and__) (mVar 7) (mVar 8)) (mCons (m2 (fBin "TextSet" g_TextSet___sub__) (mVar 7) (mVar 8)) (mCons (m1 (fUn "TextSet" g_TextSet___invert__) (mVar 7)) mNil)))))))
  (mSeq (mIf (mOr (mT (m2 fNe (mF (mLc (mItems (mVar 13)) 15 mYes (mFld "TextSet" "form" (mVar 15)))) (mSl (mBor 11) mNo (mPart (mC (.int 4)))))) (mT (m2 fNe (mF (mLc (mItems (mVar 9)) 10 mYes (mFld "TextSet" "form" (m2 fIx (mBor 10) (mC (.int 0)))))) (mBor 11))))
    (mRet (mC (.bl false)))
    mNext)
  (mRet (mAndV (m2 fEq (mFld "TextSet" "alphabet" (mVar 7)) (mBor 3)) (m2 fEq (mFld "TextSet" "alphabet" (mVar 8)) (mBor 3)))))))))))))))))))))
noncomputable def g_law : List D → Option Sl := gOf 16 1 m_law
end K01
namespace F
open PySem L2 R
/-! reading a whole text -/
def runs (f : Fm) (s : Option Nat) (u : List Nat) : Option Nat := u.foldl (step f) s
theorem acc_runs (f : Fm) : ∀ (u : List Nat) (s : Option Nat), acc f s u = stops f (runs f s u)
  | [], _ => rfl
  | k :: u, s => acc_runs f u (step f s k)
theorem runs_snoc (f : Fm) (s : Option Nat) (u : List Nat) (k : Nat) : runs f s (u ++ [k]) = step f (runs f s u) k := by
  unfold runs
  rw [List.foldl_append]
  rfl
theorem inR_runs {w : Nat} {f : Fm} (ok : Ok w f) : ∀ (u : List Nat) (s : Option Nat), inR f s → inR f (runs f s u)
  | [], _, h => h
  | k :: u, s, _ => inR_runs ok u (step f s k) (inR_step ok s k)
theorem Wd.snoc {w k : Nat} {u : List Nat} (h : Wd w u) (hk : k < w) : Wd w (u ++ [k]) := fun x hx => by
  rcases List.mem_append.mp hx with hx | hx
  · exact h x hx
  · rw [List.mem_singleton] at hx; rw [hx]; exact hk
/-! dicts of keys that are there -/
def trd {α : Type} (e : α → NestedKey) (l : List α) : List (NestedKey × D) := l.map fun t => (e t, .bl true)
theorem trd_keys {α : Type} (e : α → NestedKey) (l : List α) : (trd e l).map (·.1) = l.map e := by unfold trd; rw [List.map_map]; rfl
theorem trd_out {α : Type} {e : α → NestedKey} (hi : ∀ a b, e a = e b → a = b) {l : List α} {t : α} (h : t ∉ l) : lk (trd e l) (e t) = none := lk_none (by
  rw [trd_keys]
  intro z
  obtain ⟨b, hb, eb⟩ := List.mem_map.mp z
  rw [hi b t eb] at hb
  exact h hb)
theorem trd_in {α : Type} {e : α → NestedKey} {t : α} : ∀ {l : List α}, t ∈ l → lk (trd e l) (e t) = some (.bl true)
  | [], h => by cases h
  | a :: l, h => by
    unfold trd
    rw [List.map_cons, lk_cons]
    by_cases ea : e a = e t
    · rw [if_pos ea]
    · rw [if_neg ea]
      rcases List.mem_cons.mp h with rfl | h
      · exact absurd rfl ea
      · exact trd_in h
theorem trd_put {α : Type} {e : α → NestedKey} (hi : ∀ a b, e a = e b → a = b) {l : List α} {t : α} (h : t ∉ l) : putN (trd e l) (e t) (.bl true) = trd e (l ++ [t]) := by
  unfold putN
  rw [trd_out hi h]
  simp only [Option.isSome_none, Bool.false_eq_true, if_false]
  unfold trd
  rw [List.map_append]
  rfl
theorem trd_kind {α : Type} {e : α → NestedKey} {l : List α} {t : α} (h : ∀ a b : α, isT (e a) = isT (e b)) (hd : (e t).depth ≤ 8) : kindOk (trd e l) (e t) = true := by
  unfold kindOk
  rw [Bool.and_eq_true, List.all_eq_true]
  refine ⟨fun p hp => ?_, decide_eq_true hd⟩
  unfold trd at hp
  obtain ⟨a, _, rfl⟩ := List.mem_map.mp hp
  exact beq_iff_eq.mpr (h a t)
abbrev Tr := Option Nat × Option Nat × Option Nat
def tD (t : Tr) : D := .tup [oD t.1, oD t.2.1, oD t.2.2]
def tN (t : Tr) : NestedKey := .tup [oN t.1, oN t.2.1, oN t.2.2]
theorem nk_t (t : Tr) : nk (tD t) = some (tN t) := by
  unfold tD tN
  simp only [nk, nks, nk_o]
theorem tN_inj (a b : Tr) (h : tN a = tN b) : a = b := by
  obtain ⟨a1, a2, a3⟩ := a
  obtain ⟨b1, b2, b3⟩ := b
  unfold tN at h
  injection h with h
  injection h with h1 h2
  injection h2 with h2 h3
  injection h3 with h3 _
  have h1 : a1 = b1 := oN_inj h1
  have h2 : a2 = b2 := oN_inj h2
  have h3 : a3 = b3 := oN_inj h3
  rw [h1, h2, h3]
theorem dep_t (t : Tr) : (tN t).depth ≤ 8 := by
  unfold tN
  simp [NestedKey.depth, NestedKey.depthAll, dep_oN]
theorem tk_ask (l : List Tr) (t : Tr) : kAt (some (tD t)) (some (trd tN l)) = some (lk (trd tN l) (tN t)) := kAt_eq (nk_t t) (trd_kind (fun _ _ => rfl) (dep_t t))
theorem tk_put {l : List Tr} {t : Tr} (hl : l.length < 16777216) (h : t ∉ l) : dput (trd tN l) (tD t) (.bl true) = some (trd tN (l ++ [t])) := by
  rw [dput_eq (nk_t t) (trd_kind (fun _ _ => rfl) (dep_t t)) (by unfold trd; rw [List.length_map]; exact hl), trd_put tN_inj h]
theorem tD_0 (t : Tr) : fIx (tD t) (.int 0) = some (oD t.1) := atI_nat (j := 0) rfl
theorem tD_1 (t : Tr) : fIx (tD t) (.int 1) = some (oD t.2.1) := atI_nat (j := 1) rfl
theorem tD_2 (t : Tr) : fIx (tD t) (.int 2) = some (oD t.2.2) := atI_nat (j := 2) rfl
end F
namespace K01
open PySem L2 R F
def dueB (k : Nat) (a b : Bool) : Bool := match k with
  | 0 => a || b
  | 1 => a && b
  | 2 => a && !b
  | 3 => !a
  | 4 => b && !a
  | 5 => !b
  | 6 => a
  | 7 => b
  | _ => false
theorem due_eq (k : Nat) (hk : k < 9) (a b : Bool) : g__law_due [.int (k : Int), .bl a, .bl b] = some (.d (.bl (dueB k a b))) := by
  have q : (0 + 1 + 1 + 1 + 1 + 1 + 1 + 1 + 1 + 1 : Nat) ≤ sizeLine := by decide
  unfold g__law_due m__law_due
  match k, hk with
  | 0, _ => cases a <;> cases b <;> (walk_at "evh"; rfl)
  | 1, _ => cases a <;> cases b <;> (walk_at "evh"; rfl)
  | 2, _ => cases a <;> cases b <;> (walk_at "evh"; rfl)
  | 3, _ => cases a <;> cases b <;> (walk_at "evh"; rfl)
  | 4, _ => cases a <;> cases b <;> (walk_at "evh"; rfl)
  | 5, _ => cases a <;> cases b <;> (walk_at "evh"; rfl)
  | 6, _ => cases a <;> cases b <;> (walk_at "evh"; rfl)
  | 7, _ => cases a <;> cases b <;> (walk_at "evh"; rfl)
  | 8, _ => cases a <;> cases b <;> (walk_at "evh"; rfl)
section
variable (w k : Nat) (A f g : Fm)
def Rch (t : Tr) : Prop := ∃ u, Wd w u ∧ t = (runs A (start A) u, runs f (start f) u, runs g (start g) u)
abbrev KEs := List Tr × Option Sl × Option Sl × Option Sl × Option Sl
def keE (s : KEs) : Slots := [some (.d (.int (w : Int))), some (.d (fD A)), some (.d (fD f)), some (.d (fD g)), some (.d (.int (k : Int))), some (.d (tD (start A, start f, start g))), some (.own (.dct (trd tN s.1))), some (.own (.lst (s.1.map tD))), s.2.1, s.2.2.1, s.2.2.2.1, s.2.2.2.2]
end
abbrev KEin : MS := (mSeq (mSet 11 (mTup (mCons (mCall g__law_next (mCons (mVar 1) (mCons (m2 fIx (mBor 9) (mC (.int 0))) (mCons (mVar 10) mNil)))) (mCons (mCall g__law_next (mCons (mVar 2) (mCons (m2 fIx (mBor 9) (mC (.int 1))) (mCons (mVar 10) mNil)))) (mCons (mCall g__law_next (mCons (mVar 3) (mCons (m2 fIx (mBor 9) (mC (.int 2))) (mCons (mVar 10) mNil)))) mNil)))))
      (mIf (mT (mDIn true (mVar 11) 6))
        (mSeq (mDPut 6 (mVar 11) (mC (.bl true)))
        (mApp 7 (mVar 11)))
        mNext))
theorem ke_in {w k : Nat} {A f g : Fm} (oA : Ok w A) (of : Ok w f) (og : Ok w g) (hb : (A.length + 1) * ((f.length + 1) * (g.length + 1)) ≤ 16000000) {l0 : List Tr} (h0 : ∀ t ∈ l0, Rch w A f g t) (n0 : l0.Nodup) {t : Tr} (ht : Rch w A f g t) (x8 x10 x11 : Option Sl) :
    ∃ l y10 y11, forGo (gN 10) KEin (rngD 0 w) (keE w k A f g (l0, x8, some (.d (tD t)), x10, x11)) = .nx (keE w k A f g (l, x8, some (.d (tD t)), y10, y11)) ∧ (∀ t ∈ l, Rch w A f g t) ∧ l.Nodup ∧ l0.length ≤ l.length := by
  have bound : ∀ l : List Tr, (∀ t ∈ l, Rch w A f g t) → l.Nodup → l.length ≤ 16000000 := fun l h1 h2 => by
    have := nodup_le h2 (m := (allO A.length).flatMap fun a => (allO f.length).flatMap fun b => (allO g.length).map fun c => (a, b, c)) (fun t ht => by
      obtain ⟨u, _, rfl⟩ := h1 t ht
      exact List.mem_flatMap.mpr ⟨_, allO_mem (inR_runs oA u _ (start_in A)), List.mem_flatMap.mpr ⟨_, allO_mem (inR_runs of u _ (start_in f)), List.mem_map.mpr ⟨_, allO_mem (inR_runs og u _ (start_in g)), rfl⟩⟩⟩)
    have e : ∀ n, (allO n).length = n + 1 := fun n => by unfold allO; simp
    rw [len_flat (m := (f.length + 1) * (g.length + 1)) (fun a _ => by rw [len_flat (m := g.length + 1) (fun b _ => by rw [List.length_map, e]), e]), e] at this
    omega
  obtain ⟨u, hu, et⟩ := ht
  have i1 : inR A t.1 := by rw [et]; exact inR_runs oA u _ (start_in A)
  have i2 : inR f t.2.1 := by rw [et]; exact inR_runs of u _ (start_in f)
  have i3 : inR g t.2.2 := by rw [et]; exact inR_runs og u _ (start_in g)
  have hw : ∃ s : KEs, forGo (gN 10) KEin (rngD 0 w) (keE w k A f g (l0, x8, some (.d (tD t)), x10, x11)) = .nx (keE w k A f g s) ∧ s.2.1 = x8 ∧ s.2.2.1 = some (.d (tD t)) ∧ (∀ t ∈ s.1, Rch w A f g t) ∧ s.1.Nodup ∧ l0.length ≤ s.1.length := by
    refine for_st (keE w k A f g) (fun _ s => s.2.1 = x8 ∧ s.2.2.1 = some (.d (tD t)) ∧ (∀ t ∈ s.1, Rch w A f g t) ∧ s.1.Nodup ∧ l0.length ≤ s.1.length) (fun o => ∃ s : KEs, o = .nx (keE w k A f g s) ∧ s.2.1 = x8 ∧ s.2.2.1 = some (.d (tD t)) ∧ (∀ t ∈ s.1, Rch w A f g t) ∧ s.1.Nodup ∧ l0.length ≤ s.1.length) ⟨rfl, rfl, h0, n0, Nat.le_refl _⟩ ?_ (fun s h => ⟨s, rfl, h⟩)
    intro i x s hx hp
    obtain ⟨l, y8, y9, y10, y11⟩ := s
    obtain ⟨p1, p2, p3, p4, p5⟩ := hp
    simp only at p1 p2 p3 p4 p5
    subst p1
    subst p2
    unfold rngD at hx
    rw [List.getElem?_map] at hx
    cases hq : (List.range w)[i]? with
    | none => rw [hq] at hx; cases hx
    | some i' =>
      rw [hq] at hx
      have hi : i < w := by have := (List.getElem?_eq_some_iff.mp hq).1; rwa [List.length_range] at this
      have hi' : i' = i := by rw [List.getElem?_range hi] at hq; cases hq; rfl
      subst hi'
      have hx : D.int (0 + (i' : Int)) = x := Option.some.inj hx
      rw [Int.zero_add] at hx
      subst hx
      refine ⟨keE w k A f g (l, y8, some (.d (tD t)), some (.d (.int (i' : Int))), y11), rfl, .inl ?_⟩
      have q1 := tD_0 t
      have q2 := tD_1 t
      have q3 := tD_2 t
      have q4 := v_callR (next_eq oA i1 hi)
      have q5 := v_callR (next_eq of i2 hi)
      have q6 := v_callR (next_eq og i3 hi)
      have hr2 : Rch w A f g (step A t.1 i', step f t.2.1 i', step g t.2.2 i') := ⟨u ++ [i'], hu.snoc hi, by rw [runs_snoc, runs_snoc, runs_snoc, et]⟩
      have q7 : D.tup [oD (step A t.1 i'), oD (step f t.2.1 i'), oD (step g t.2.2 i')] = tD (step A t.1 i', step f t.2.1 i', step g t.2.2 i') := rfl
      generalize (step A t.1 i', step f t.2.1 i', step g t.2.2 i') = t2 at *
      have q8 := tk_ask l t2
      have q9 : (0 + 1 + 1 + 1 : Nat) ≤ sizeLine := by decide
      have bl := bound l p3 p4
      by_cases hm : t2 ∈ l
      · rw [trd_in hm] at q8
        refine ⟨(l, y8, some (.d (tD t)), some (.d (.int (i' : Int))), some (.d (tD t2))), .inl ?_, rfl, rfl, p3, p4, p5⟩
        unfold keE
        simp only
        clear oA of og hb h0 n0 bound p3 p4 p5 hm hi hq hr2 i1 i2 i3 bl et hu
        walk_at "evh"
      · rw [trd_out tN_inj hm] at q8
        have q10 := tk_put (by omega) hm
        have q11 : (l.map tD).length < sizeLine := by rw [List.length_map, sizeLine_eq]; omega
        have q12 : l.map tD ++ [tD t2] = (l ++ [t2]).map tD := by rw [List.map_append]; rfl
        refine ⟨(l ++ [t2], y8, some (.d (tD t)), some (.d (.int (i' : Int))), some (.d (tD t2))), .inl ?_, rfl, rfl, fun y hy => ?_, nodup_snoc p4 hm, by simp; omega⟩
        · unfold keE
          simp only
          clear oA of og hb h0 n0 bound p3 p4 p5 hm hi hq hr2 i1 i2 i3 bl et hu
          walk_at "evh"
        · rcases List.mem_append.mp hy with hy | hy
          · exact p3 y hy
          · rw [List.mem_singleton] at hy; rw [hy]; exact hr2
  obtain ⟨⟨l, y8, y9, y10, y11⟩, w1, w2, w3, w4, w5, w6⟩ := hw
  simp only at w2 w3 w4 w5 w6
  subst w2
  subst w3
  exact ⟨l, y10, y11, w1, w4, w5, w6⟩
theorem kept_eq {w k : Nat} {A f g : Fm} (hk : k < 9) (oA : Ok w A) (of : Ok w f) (og : Ok w g) (hb : (A.length + 1) * ((f.length + 1) * (g.length + 1)) ≤ 16000000)
    (hl : ∀ u, Wd w u → acc A (start A) u = dueB k (acc f (start f) u) (acc g (start g) u)) : g__law_kept [.int (w : Int), fD A, fD f, fD g, .int (k : Int)] = some (.d (.bl true)) := by
  have lA : ∀ h : Fm, fLen [fD h] = some (.int (h.length : Int)) := fun h => by show some (D.int ((h.map sD).length : Int)) = _; rw [List.length_map]
  have hw : ∃ s : KEs, forGo (gN 8) (mSeq (mIf (mT (m2 fGe (mBor 8) (mCB fLen (mCons (mBor 7) mNil)))) (fun ρ => .brk ρ) mNext)
    (mSeq (mSet 9 (m2 fIx (mBor 7) (mBor 8)))
    (mSeq (mIf (mT (m2 fNe (mCall g__law_ends (mCons (mVar 1) (mCons (m2 fIx (mBor 9) (mC (.int 0))) mNil))) (mCall g__law_due (mCons (mVar 4) (mCons (mCall g__law_ends (mCons (mVar 2) (mCons (m2 fIx (mBor 9) (mC (.int 1))) mNil))) (mCons (mCall g__law_ends (mCons (mVar 3) (mCons (m2 fIx (mBor 9) (mC (.int 2))) mNil))) mNil))))))
      (mRet (mC (.bl false)))
      mNext)
    (mFor (mRng1 (mCons (mVar 0) mNil)) (gN 10) KEin)))) (rngD 0 ((A.length + 1) * (f.length + 1) * (g.length + 1))) (keE w k A f g ([(start A, start f, start g)], none, none, none, none)) = .nx (keE w k A f g s) := by
    refine for_st (keE w k A f g) (fun _ s => (∀ t ∈ s.1, Rch w A f g t) ∧ s.1.Nodup) (fun o => ∃ s : KEs, o = .nx (keE w k A f g s)) ⟨fun t ht => ?_, by simp⟩ ?_ (fun s h => ⟨s, rfl⟩)
    · rw [List.mem_singleton] at ht
      exact ⟨[], Wd.nil, ht⟩
    · intro i x s hx hp
      obtain ⟨l, y8, y9, y10, y11⟩ := s
      obtain ⟨p1, p2⟩ := hp
      simp only at p1 p2
      unfold rngD at hx
      rw [List.getElem?_map] at hx
      cases hq : (List.range ((A.length + 1) * (f.length + 1) * (g.length + 1)))[i]? with
      | none => rw [hq] at hx; cases hx
      | some i' =>
        rw [hq] at hx
        have hi : i < (A.length + 1) * (f.length + 1) * (g.length + 1) := by have := (List.getElem?_eq_some_iff.mp hq).1; rwa [List.length_range] at this
        have hi' : i' = i := by rw [List.getElem?_range hi] at hq; cases hq; rfl
        subst hi'
        have hx : D.int (0 + (i' : Int)) = x := Option.some.inj hx
        rw [Int.zero_add] at hx
        subst hx
        refine ⟨keE w k A f g (l, some (.d (.int (i' : Int))), y9, y10, y11), rfl, ?_⟩
        have ll : ((l.map tD).length : Int) = (l.length : Int) := by rw [List.length_map]
        by_cases hge : l.length ≤ i'
        · refine .inr (.inl ⟨keE w k A f g (l, some (.d (.int (i' : Int))), y9, y10, y11), ?_, _, rfl⟩)
          have e1 : decide ((l.length : Int) ≤ (i' : Int)) = true := decide_eq_true (by omega)
          unfold keE
          simp only
          clear oA of og hb hl p1 p2 hge hi hq lA
          walk_at "evh"
        · have e1 : decide ((l.length : Int) ≤ (i' : Int)) = false := decide_eq_false (by omega)
          obtain ⟨t, ht⟩ := at_ex (l := l) (i := i') (by omega)
          have hr := p1 t (List.mem_of_getElem? ht)
          obtain ⟨u, hu, et⟩ := hr
          have i1 : inR A t.1 := by rw [et]; exact inR_runs oA u _ (start_in A)
          have i2 : inR f t.2.1 := by rw [et]; exact inR_runs of u _ (start_in f)
          have i3 : inR g t.2.2 := by rw [et]; exact inR_runs og u _ (start_in g)
          have e2 : atI (l.map tD) (i' : Int) = some (tD t) := atI_nat (by rw [List.getElem?_map, ht]; rfl)
          have q1 := tD_0 t
          have q2 := tD_1 t
          have q3 := tD_2 t
          have q4 := v_callR (ends_eq i1)
          have q5 := v_callR (ends_eq i2)
          have q6 := v_callR (ends_eq i3)
          have q7 := v_callR (due_eq k hk (stops f t.2.1) (stops g t.2.2))
          have q8 : fNe (.bl (stops A t.1)) (.bl (dueB k (stops f t.2.1) (stops g t.2.2))) = some (.bl false) := by
            have := hl u hu
            rw [acc_runs, acc_runs, acc_runs] at this
            rw [et]
            simp only
            rw [this]
            show some (D.bl (!decide (_ = _))) = _
            rw [decide_eq_true rfl]
            rfl
          have q9 := v_rngN (n := w) (by have := oA.wid; omega)
          obtain ⟨l2, z10, z11, g1, g2, g3, g4⟩ := ke_in (k := k) oA of og hb p1 p2 ⟨u, hu, et⟩ (some (.d (.int (i' : Int)))) y10 y11
          refine .inl ⟨(l2, some (.d (.int (i' : Int))), some (.d (tD t)), z10, z11), .inl ?_, g2, g3⟩
          unfold keE at g1 ⊢
          simp only at g1 ⊢
          clear oA of og hb hl p1 p2 hge hi hq lA g2 g3 g4 i1 i2 i3 et hu ht
          walk_at "evh"
  obtain ⟨s, w1⟩ := hw
  have q1 := v_callR (first_eq A)
  have q2 := v_callR (first_eq f)
  have q3 := v_callR (first_eq g)
  have q4 : D.tup [oD (start A), oD (start f), oD (start g)] = tD (start A, start f, start g) := rfl
  have q5 : dnew1 (tD (start A, start f, start g)) (.bl true) = some [(tN (start A, start f, start g), .bl true)] := dnew1_eq (nk_t _) (dep_t _)
  have q6 : trd tN [(start A, start f, start g)] = [(tN (start A, start f, start g), .bl true)] := rfl
  have q7 : [(start A, start f, start g)].map tD = [tD (start A, start f, start g)] := rfl
  have n1 : (A.length + 1) * (f.length + 1) ≤ (A.length + 1) * ((f.length + 1) * (g.length + 1)) := by rw [← Nat.mul_assoc]; exact Nat.le_mul_of_pos_right _ (by omega)
  have n2 : A.length + 1 ≤ (A.length + 1) * (f.length + 1) := Nat.le_mul_of_pos_right _ (by omega)
  have q8 : fMul (.int ((A.length : Int) + 1)) (.int ((f.length : Int) + 1)) = some (.int (((A.length + 1) * (f.length + 1) : Nat) : Int)) := by
    rw [fMul_l (by omega) (by omega)]
    congr 2
  have q9 : fMul (.int (((A.length + 1) * (f.length + 1) : Nat) : Int)) (.int ((g.length : Int) + 1)) = some (.int (((A.length + 1) * (f.length + 1) * (g.length + 1) : Nat) : Int)) := by
    rw [fMul_l (by omega) (by omega)]
    congr 2
  have q10 := v_rngN (n := (A.length + 1) * (f.length + 1) * (g.length + 1)) (by rw [Nat.mul_assoc]; omega)
  have q11 : (0 + 1 + 1 + 1 : Nat) ≤ sizeLine := by decide
  have q12 : (0 + 1 : Nat) ≤ sizeLine := by decide
  have a1 := lA A
  have a2 := lA f
  have a3 := lA g
  unfold g__law_kept m__law_kept
  rw [r_g (by rfl)]
  unfold keE at w1
  simp only [q6, q7] at w1
  clear oA of og hb hl lA n1 n2 q6 q7
  generalize (A.length + 1) * (f.length + 1) * (g.length + 1) = N at *
  generalize (A.length + 1) * (f.length + 1) = M at *
  walk_at "evh"
end K01
namespace K01
open PySem L2 R F
abbrev HTs := List Nat × Option Sl × Option Sl × Option Sl
def htE (w : Nat) (f : Fm) (s : HTs) : Slots := [some (.d (.int (w : Int))), some (.d (fD f)), some (.own (.lst (nD s.1))), s.2.1, s.2.2.1, s.2.2.2]
theorem ht_in {w : Nat} {f : Fm} (ok : Ok w f) {l0 : List Nat} (h0 : ∀ t ∈ l0, t < f.length) (n0 : l0.Nodup) {i t : Nat} (hi : l0[i]? = some t) {b : Bool} {r : List (Option Nat)} (e : f[t]? = some (b, r)) (x4 x5 : Option Sl) :
    ∃ l y4 y5, forGo (gN 4) (mSeq (mSet 5 (m2 fIx (m2 fIx (m2 fIx (mBor 1) (m2 fIx (mBor 2) (mBor 3))) (mC (.int 1))) (mBor 4)))
      (mIf (mAnd (mT (m2 fIsNot (mBor 5) (mC .non))) (mT (m2 fNotIn (mBor 5) (mBor 2))))
        (mApp 2 (mVar 5))
        mNext)) (rngD 0 w) (htE w f (l0, some (.d (.int (i : Int))), x4, x5)) = .nx (htE w f (l, some (.d (.int (i : Int))), y4, y5)) ∧ (∀ t ∈ l, t < f.length) ∧ l.Nodup ∧ (∃ m, l = l0 ++ m) ∧ ∀ t', some t' ∈ r → t' ∈ l := by
  have hrl := ok.row t b r e
  have hw : ∃ s : HTs, forGo (gN 4) (mSeq (mSet 5 (m2 fIx (m2 fIx (m2 fIx (mBor 1) (m2 fIx (mBor 2) (mBor 3))) (mC (.int 1))) (mBor 4)))
      (mIf (mAnd (mT (m2 fIsNot (mBor 5) (mC .non))) (mT (m2 fNotIn (mBor 5) (mBor 2))))
        (mApp 2 (mVar 5))
        mNext)) (rngD 0 w) (htE w f (l0, some (.d (.int (i : Int))), x4, x5)) = .nx (htE w f s) ∧ s.2.1 = some (.d (.int (i : Int))) ∧ (∀ t ∈ s.1, t < f.length) ∧ s.1.Nodup ∧ (∃ m, s.1 = l0 ++ m) ∧ ∀ j t', j < w → r[j]? = some (some t') → t' ∈ s.1 := by
    refine for_st (htE w f) (fun k s => s.2.1 = some (.d (.int (i : Int))) ∧ (∀ t ∈ s.1, t < f.length) ∧ s.1.Nodup ∧ (∃ m, s.1 = l0 ++ m) ∧ ∀ j t', j < k → r[j]? = some (some t') → t' ∈ s.1) (fun o => ∃ s : HTs, o = .nx (htE w f s) ∧ s.2.1 = some (.d (.int (i : Int))) ∧ (∀ t ∈ s.1, t < f.length) ∧ s.1.Nodup ∧ (∃ m, s.1 = l0 ++ m) ∧ ∀ j t', j < w → r[j]? = some (some t') → t' ∈ s.1) ⟨rfl, h0, n0, ⟨[], by simp⟩, fun j t' hj => absurd hj (Nat.not_lt_zero _)⟩ ?_ ?_
    · intro k x s hx hp
      obtain ⟨l, y3, y4, y5⟩ := s
      obtain ⟨p1, p2, p3, ⟨m, p4⟩, p5⟩ := hp
      simp only at p1 p2 p3 p4 p5
      subst p1
      unfold rngD at hx
      rw [List.getElem?_map] at hx
      cases hq : (List.range w)[k]? with
      | none => rw [hq] at hx; cases hx
      | some k' =>
        rw [hq] at hx
        have hk : k < w := by have := (List.getElem?_eq_some_iff.mp hq).1; rwa [List.length_range] at this
        have hk' : k' = k := by rw [List.getElem?_range hk] at hq; cases hq; rfl
        subst hk'
        have hx : D.int (0 + (k' : Int)) = x := Option.some.inj hx
        rw [Int.zero_add] at hx
        subst hx
        obtain ⟨o, ho⟩ := at_ex (l := r) (i := k') (by omega)
        have hli : l[i]? = some t := by rw [p4, List.getElem?_append_left (List.getElem?_eq_some_iff.mp hi).1]; exact hi
        have q1 := nD_at hli
        have q2 := sD_at e
        have q3 := sD_1 (b, r)
        have q4 := oD_at ho
        simp only at q3
        refine ⟨htE w f (l, some (.d (.int (i : Int))), some (.d (.int (k' : Int))), y5), rfl, .inl ?_⟩
        cases o with
        | none =>
          refine ⟨(l, some (.d (.int (i : Int))), some (.d (.int (k' : Int))), some (.d (oD none))), .inl ?_, rfl, p2, p3, ⟨m, p4⟩, fun j t' hj hr => ?_⟩
          · have h1 := isn_n
            have h2 := oD_n
            unfold htE
            simp only
            clear ok h0 n0 hi e hrl p2 p3 p4 p5 hq hk ho hli
            walk_at "evh"
          · by_cases hjk : j < k'
            · exact p5 j t' hjk hr
            · have : j = k' := by omega
              subst this
              rw [ho] at hr
              cases hr
        | some c =>
          have hc := ok.tgt t b r c e (List.mem_of_getElem? ho)
          have h1 := isn_i (n := (c : Int))
          have h2 := oD_s c
          have h3 := in_nD c l
          by_cases hm : c ∈ l
          · refine ⟨(l, some (.d (.int (i : Int))), some (.d (.int (k' : Int))), some (.d (oD (some c)))), .inl ?_, rfl, p2, p3, ⟨m, p4⟩, fun j t' hj hr => ?_⟩
            · rw [decide_eq_true hm] at h3
              unfold htE
              simp only
              clear ok h0 n0 hi e hrl p2 p3 p4 p5 hq hk ho hli hm hc
              walk_at "evh"
            · by_cases hjk : j < k'
              · exact p5 j t' hjk hr
              · have : j = k' := by omega
                subst this
                rw [ho] at hr
                cases hr
                exact hm
          · have h5 : (nD l).length < sizeLine := by
              have := nodup_le p3 (m := List.range f.length) (fun t ht => List.mem_range.mpr (p2 t ht))
              rw [List.length_range] at this
              rw [nD_len, sizeLine_eq]
              have := ok.bnd
              omega
            have h4 := nD_snoc l c
            refine ⟨(l ++ [c], some (.d (.int (i : Int))), some (.d (.int (k' : Int))), some (.d (oD (some c)))), .inl ?_, rfl, fun t ht => ?_, nodup_snoc p3 hm, ⟨m ++ [c], by rw [p4, List.append_assoc]⟩, fun j t' hj hr => ?_⟩
            · rw [decide_eq_false hm] at h3
              unfold htE
              simp only
              clear ok h0 n0 hi e hrl p2 p3 p4 p5 hq hk ho hli hm hc
              walk_at "evh"
            · rcases List.mem_append.mp ht with ht | ht
              · exact p2 t ht
              · rw [List.mem_singleton] at ht; rw [ht]; exact hc
            · by_cases hjk : j < k'
              · exact List.mem_append_left _ (p5 j t' hjk hr)
              · have : j = k' := by omega
                subst this
                rw [ho] at hr
                cases hr
                exact List.mem_append_right _ List.mem_cons_self
    · intro s hp
      have el : (rngD 0 w).length = w := by unfold rngD; rw [List.length_map, List.length_range]
      rw [el] at hp
      exact ⟨s, rfl, hp⟩
  obtain ⟨⟨l, y3, y4, y5⟩, w1, w2, w3, w4, w5, w6⟩ := hw
  simp only at w2 w3 w4 w5 w6
  subst w2
  refine ⟨l, y4, y5, w1, w3, w4, w5, fun t' ht' => ?_⟩
  obtain ⟨j, hj⟩ := List.mem_iff_getElem?.mp ht'
  exact w6 j t' (by have := (List.getElem?_eq_some_iff.mp hj).1; omega) hj
theorem has_text_eq {w : Nat} {f : Fm} (lf : Lst w f) : g__law_has_text [.int (w : Int), fD f] = some (.d (.bl (!decide (f.length = 0)))) := by
  have ok := lf.ok
  have l0 : fLen [fD f] = some (.int (f.length : Int)) := by show some (D.int ((f.map sD).length : Int)) = _; rw [List.length_map]
  have r0 := v_rngN (n := f.length) (by have := ok.bnd; omega)
  have z0 : (0 : Nat) ≤ sizeLine := Nat.zero_le _
  have z1 : (0 + 1 : Nat) ≤ sizeLine := by decide
  by_cases hf : f.length = 0
  · have e1 : decide ((0 : Int) < (f.length : Int)) = false := decide_eq_false (by omega)
    have e2 : rngD 0 f.length = [] := by rw [hf]; rfl
    have e3 : ∀ (mg : D → Slots → Option Slots) (b : MS) (ρ : Slots), forGo mg b [] ρ = .nx ρ := fun _ _ _ => rfl
    rw [decide_eq_true hf]
    rw [e2] at r0
    unfold g__law_has_text m__law_has_text
    clear lf ok hf e2
    walk_at "evh"
  · have e1 : decide ((0 : Int) < (f.length : Int)) = true := decide_eq_true (by omega)
    rw [decide_eq_false hf]
    have dead : ∀ l : List Nat, 0 ∈ l → (∀ t ∈ l, t < f.length) → (∀ t ∈ l, ∀ b r, f[t]? = some (b, r) → b = false ∧ ∀ t', some t' ∈ r → t' ∈ l) → False := fun l h0 hlt hc => by
      obtain ⟨u, hu, ha⟩ := lf.live 0 (by omega)
      have hlive := acc_live ok u 0 ha
      have : ∀ t, Live f t → t ∈ l → False := by
        intro t ht
        induction ht with
        | ends e => intro hm; have := (hc _ hm _ _ e).1; cases this
        | step e hm _ ih => intro hl; exact ih ((hc _ hl _ _ e).2 _ hm)
      exact this 0 hlive h0
    have hw : forGo (gN 3) (mSeq (mIf (mT (m2 fGe (mBor 3) (mCB fLen (mCons (mBor 2) mNil)))) (fun ρ => .brk ρ) mNext)
    (mSeq (mIf (mT (m2 fIx (m2 fIx (mBor 1) (m2 fIx (mBor 2) (mBor 3))) (mC (.int 0))))
      (mRet (mC (.bl true)))
      mNext)
    (mFor (mRng1 (mCons (mVar 0) mNil)) (gN 4)
      (mSeq (mSet 5 (m2 fIx (m2 fIx (m2 fIx (mBor 1) (m2 fIx (mBor 2) (mBor 3))) (mC (.int 1))) (mBor 4)))
      (mIf (mAnd (mT (m2 fIsNot (mBor 5) (mC .non))) (mT (m2 fNotIn (mBor 5) (mBor 2))))
        (mApp 2 (mVar 5))
        mNext))))) (rngD 0 f.length) (htE w f ([0], none, none, none)) = .ret (.d (.bl true)) := by
      refine for_st (htE w f) (fun i s => (∀ t ∈ s.1, t < f.length) ∧ s.1.Nodup ∧ 0 ∈ s.1 ∧ ∀ j t, j < i → s.1[j]? = some t → ∀ b r, f[t]? = some (b, r) → b = false ∧ ∀ t', some t' ∈ r → t' ∈ s.1) (fun o => o = .ret (.d (.bl true))) ⟨fun t ht => by rw [List.mem_singleton] at ht; omega, by simp, by simp, fun j t hj => absurd hj (Nat.not_lt_zero _)⟩ ?_ ?_
      · intro i x s hx hp
        obtain ⟨l, y3, y4, y5⟩ := s
        obtain ⟨p1, p2, p3, p4⟩ := hp
        simp only at p1 p2 p3 p4
        unfold rngD at hx
        rw [List.getElem?_map] at hx
        cases hq : (List.range f.length)[i]? with
        | none => rw [hq] at hx; cases hx
        | some i' =>
          rw [hq] at hx
          have hi : i < f.length := by have := (List.getElem?_eq_some_iff.mp hq).1; rwa [List.length_range] at this
          have hi' : i' = i := by rw [List.getElem?_range hi] at hq; cases hq; rfl
          subst hi'
          have hx : D.int (0 + (i' : Int)) = x := Option.some.inj hx
          rw [Int.zero_add] at hx
          subst hx
          have ll := nD_len l
          by_cases hge : l.length ≤ i'
          · exact (dead l p3 p1 (fun t ht b r e => by
              obtain ⟨j, hj⟩ := List.mem_iff_getElem?.mp ht
              exact p4 j t (by have := (List.getElem?_eq_some_iff.mp hj).1; omega) hj b r e)).elim
          · have c1 : decide ((l.length : Int) ≤ (i' : Int)) = false := decide_eq_false (by omega)
            obtain ⟨t, ht⟩ := at_ex (l := l) (i := i') (by omega)
            obtain ⟨⟨b, r⟩, e⟩ := at_ex (p1 t (List.mem_of_getElem? ht))
            have e2 := nD_at ht
            have e3 := sD_at e
            have e4 := sD_0 (b, r)
            simp only at e4
            refine ⟨htE w f (l, some (.d (.int (i' : Int))), y4, y5), rfl, ?_⟩
            cases b with
            | true =>
              refine .inr (.inr ⟨.d (.bl true), ?_, rfl⟩)
              unfold htE
              simp only
              clear ok lf hf dead p1 p2 p3 p4 hge hi hq e ht
              walk_at "evh"
            | false =>
              obtain ⟨l2, z4, z5, g1, g2, g3, ⟨m, g4⟩, g5⟩ := ht_in ok p1 p2 ht e y4 y5
              have q9 := v_rngN (n := w) (by have := ok.wid; omega)
              refine .inl ⟨(l2, some (.d (.int (i' : Int))), z4, z5), .inl ?_, g2, g3, by show 0 ∈ l2; rw [g4]; exact List.mem_append_left _ p3, fun j t1 hj ht1 b1 r1 e1' => ?_⟩
              · unfold htE at g1 ⊢
                simp only at g1 ⊢
                clear ok lf hf dead p1 p2 p3 p4 hge hi hq e ht g2 g3 g4 g5
                walk_at "evh"
              · simp only at ht1 ⊢
                by_cases hji : j < i'
                · have hlj : l[j]? = some t1 := by
                    rw [g4, List.getElem?_append_left (by omega)] at ht1
                    exact ht1
                  obtain ⟨k1, k2⟩ := p4 j t1 hji hlj b1 r1 e1'
                  exact ⟨k1, fun t' ht' => by rw [g4]; exact List.mem_append_left _ (k2 t' ht')⟩
                · have : j = i' := by omega
                  subst this
                  rw [g4, List.getElem?_append_left (by omega), ht] at ht1
                  cases ht1
                  rw [e] at e1'
                  cases e1'
                  exact ⟨rfl, g5⟩
      · intro s hp
        obtain ⟨p1, p2, p3, p4⟩ := hp
        have el : (rngD 0 f.length).length = f.length := by unfold rngD; rw [List.length_map, List.length_range]
        rw [el] at p4
        have hl := nodup_le p2 (m := List.range f.length) (fun t ht => List.mem_range.mpr (p1 t ht))
        rw [List.length_range] at hl
        exact (dead s.1 p3 p1 (fun t ht b r e => by
          obtain ⟨j, hj⟩ := List.mem_iff_getElem?.mp ht
          exact p4 j t (by have := (List.getElem?_eq_some_iff.mp hj).1; omega) hj b r e)).elim
    unfold g__law_has_text m__law_has_text
    unfold htE at hw
    have en : nD [0] = [.int 0] := rfl
    simp only [en] at hw
    clear lf ok hf dead
    walk_at "evh"
/-! texts -/
def isT (al v : List Nat) : Bool := v.all fun c => decide (c ∈ al)
theorem is_text_eq (al v : List Nat) : g__law_is_text [.str al, .str v] = some (.d (.bl (isT al v))) := by
  let emb : Option Sl → Slots := fun x => [some (.d (.str al)), some (.d (.str v)), x]
  have hw : (∃ x, forGo (gN 2) (mIf (mT (m2 fNotIn (mBor 2) (mBor 0))) (mRet (mC (.bl false))) mNext) (v.map fun c => D.str [c]) (emb none) = .nx (emb x) ∧ isT al v = true) ∨ (forGo (gN 2) (mIf (mT (m2 fNotIn (mBor 2) (mBor 0))) (mRet (mC (.bl false))) mNext) (v.map fun c => D.str [c]) (emb none) = .ret (.d (.bl false)) ∧ isT al v = false) := by
    refine for_st emb (fun i _ => ∀ j c, j < i → v[j]? = some c → c ∈ al) (fun o => (∃ x, o = .nx (emb x) ∧ isT al v = true) ∨ (o = .ret (.d (.bl false)) ∧ isT al v = false)) (fun j c hj => absurd hj (Nat.not_lt_zero _)) ?_ ?_
    · intro i x s hx hp
      rw [List.getElem?_map] at hx
      cases e : v[i]? with
      | none => rw [e] at hx; cases hx
      | some c =>
        rw [e] at hx
        cases hx
        refine ⟨emb (some (.d (.str [c]))), rfl, ?_⟩
        have q : fNotIn (.str [c]) (.str al) = some (.bl (!decide (c ∈ al))) := rfl
        by_cases hc : c ∈ al
        · refine .inl ⟨some (.d (.str [c])), .inl ?_, fun j c' hj hc' => ?_⟩
          · rw [decide_eq_true hc] at q
            show (mIf (mT (m2 fNotIn (mBor 2) (mBor 0))) (mRet (mC (.bl false))) mNext) [some (.d (.str al)), some (.d (.str v)), some (.d (.str [c]))] = .nx [some (.d (.str al)), some (.d (.str v)), some (.d (.str [c]))]
            clear hp e hc
            walk_at "evh"
          · by_cases hji : j < i
            · exact hp j c' hji hc'
            · have : j = i := by omega
              subst this
              rw [e] at hc'
              cases hc'
              exact hc
        · refine .inr (.inr ⟨.d (.bl false), ?_, .inr ⟨rfl, ?_⟩⟩)
          · rw [decide_eq_false hc] at q
            show (mIf (mT (m2 fNotIn (mBor 2) (mBor 0))) (mRet (mC (.bl false))) mNext) [some (.d (.str al)), some (.d (.str v)), some (.d (.str [c]))] = .ret (.d (.bl false))
            clear hp e hc
            walk_at "evh"
          · unfold isT
            rw [← Bool.not_eq_true, List.all_eq_true]
            exact fun z => hc (of_decide_eq_true (z c (List.mem_of_getElem? e)))
    · intro s hp
      refine .inl ⟨s, rfl, ?_⟩
      unfold isT
      rw [List.all_eq_true]
      intro c hc
      obtain ⟨j, hj⟩ := List.mem_iff_getElem?.mp hc
      exact decide_eq_true (hp j c (by rw [List.length_map]; exact (List.getElem?_eq_some_iff.mp hj).1) hj)
  unfold g__law_is_text m__law_is_text
  rcases hw with ⟨x, h1, h2⟩ | ⟨h1, h2⟩
  · rw [h2]
    have h1 : forGo (gN 2) (mIf (mT (m2 fNotIn (mBor 2) (mBor 0))) (mRet (mC (.bl false))) mNext) (v.map fun c => D.str [c]) [some (.d (.str al)), some (.d (.str v)), none] = .nx [some (.d (.str al)), some (.d (.str v)), x] := h1
    walk_at "evh"
  · rw [h2]
    have h1 : forGo (gN 2) (mIf (mT (m2 fNotIn (mBor 2) (mBor 0))) (mRet (mC (.bl false))) mNext) (v.map fun c => D.str [c]) [some (.d (.str al)), some (.d (.str v)), none] = .ret (.d (.bl false)) := h1
    walk_at "evh"
theorem stepC_none (al : List Nat) (f : Fm) (c : Nat) : stepC al f none c = none := by
  unfold stepC
  split <;> rfl
theorem stepsC_none (al : List Nat) (f : Fm) : ∀ v, stepsC al f none v = none
  | [] => rfl
  | c :: v => by
    show stepsC al f (stepC al f none c) v = none
    rw [stepC_none]
    exact stepsC_none al f v
/-- a text: its signs are its symbols -/
theorem stepsC_text {al : List Nat} (f : Fm) : ∀ (v : List Nat) (s : Option Nat), isT al v = true → stepsC al f s v = runs f s (v.map (ps al)) ∧ Wd al.length (v.map (ps al))
  | [], _, _ => ⟨rfl, Wd.nil⟩
  | c :: v, s, h => by
    unfold isT at h
    rw [List.all_cons, Bool.and_eq_true] at h
    have hc := of_decide_eq_true h.1
    have e : stepC al f s c = step f s (ps al c) := by unfold stepC sym; rw [if_pos hc]
    obtain ⟨i1, i2⟩ := stepsC_text f v (stepC al f s c) h.2
    refine ⟨?_, i2.cons (ps_lt hc)⟩
    show stepsC al f (stepC al f s c) v = runs f (step f s (ps al c)) (v.map (ps al))
    rw [i1, e]
theorem stepsC_not {al : List Nat} (f : Fm) : ∀ (v : List Nat) (s : Option Nat), isT al v = false → stepsC al f s v = none
  | [], _, h => by cases h
  | c :: v, s, h => by
    unfold isT at h
    rw [List.all_cons] at h
    by_cases hc : c ∈ al
    · rw [decide_eq_true hc, Bool.true_and] at h
      exact stepsC_not f v (stepC al f s c) h
    · show stepsC al f (stepC al f s c) v = none
      have e : stepC al f s c = none := by unfold stepC sym; rw [if_neg hc]
      rw [e]
      exact stepsC_none al f v
abbrev STs := Option Nat × Option Sl
theorem state_eq {al : List Nat} {f : Fm} (ok : Ok al.length f) (v : List Nat) : g__law_state [.str al, fD f, .str v] = some (.d (oD (stepsC al f (start f) v))) := by
  let emb : STs → Slots := fun s => [some (.d (.str al)), some (.d (fD f)), some (.d (.str v)), some (.d (oD s.1)), s.2]
  let body : MS := (mSeq (mIf (mOr (mT (m2 fIs (mBor 3) (mC .non))) (mT (m2 fNotIn (mBor 4) (mBor 0))))
      (mRet (mC .non))
      mNext)
    (mSet 3 (m2 fIx (m2 fIx (m2 fIx (mBor 1) (mBor 3)) (mC (.int 1))) (mMt fFind1 (mBor 0) (mCons (mBor 4) mNil)))))
  have hw : (∃ s, forGo (gN 4) body (v.map fun c => D.str [c]) (emb (start f, none)) = .nx (emb s) ∧ s.1 = stepsC al f (start f) v) ∨ (forGo (gN 4) body (v.map fun c => D.str [c]) (emb (start f, none)) = .ret (.d .non) ∧ stepsC al f (start f) v = none) := by
    refine for_st emb (fun i s => s.1 = stepsC al f (start f) (v.take i) ∧ inR f s.1) (fun o => (∃ s, o = .nx (emb s) ∧ s.1 = stepsC al f (start f) v) ∨ (o = .ret (.d .non) ∧ stepsC al f (start f) v = none)) ⟨rfl, start_in f⟩ ?_ ?_
    · intro i x s hx hp
      obtain ⟨s1, s2⟩ := s
      obtain ⟨p1, p2⟩ := hp
      simp only at p1 p2
      rw [List.getElem?_map] at hx
      cases e : v[i]? with
      | none => rw [e] at hx; cases hx
      | some c =>
        rw [e] at hx
        cases hx
        refine ⟨emb (s1, some (.d (.str [c]))), rfl, ?_⟩
        have q : fNotIn (.str [c]) (.str al) = some (.bl (!decide (c ∈ al))) := rfl
        have hv : stepsC al f (start f) v = stepsC al f (stepC al f s1 c) (v.drop (i + 1)) := by
          have e1 := List.getElem?_eq_some_iff.mp e
          conv => lhs; rw [← List.take_append_drop i v, List.drop_eq_getElem_cons e1.1, e1.2]
          unfold stepsC at p1 ⊢
          rw [List.foldl_append, ← p1]
          rfl
        have hsn : stepsC al f (start f) (v.take (i + 1)) = stepC al f s1 c := by
          rw [List.take_add_one, e, p1]
          unfold stepsC
          rw [List.foldl_append]
          rfl
        cases s1 with
        | none =>
          refine .inr (.inr ⟨.d .non, ?_, .inr ⟨rfl, ?_⟩⟩)
          · have h1 := is_n
            have h2 := oD_n
            show body [some (.d (.str al)), some (.d (fD f)), some (.d (.str v)), some (.d (oD none)), some (.d (.str [c]))] = _
            clear p1 p2 e hv hsn ok
            show (mSeq (mIf (mOr (mT (m2 fIs (mBor 3) (mC .non))) (mT (m2 fNotIn (mBor 4) (mBor 0)))) (mRet (mC .non)) mNext) _) _ = _
            walk_at "evh"
          · rw [hv, stepC_none, stepsC_none]
        | some t =>
          obtain ⟨⟨b, r⟩, e2⟩ := at_ex (p2 t rfl)
          have h1 := is_i (n := (t : Int))
          have h2 := oD_s t
          by_cases hc : c ∈ al
          · have hk := ps_lt hc
            obtain ⟨o, ho⟩ := at_ex (l := r) (i := ps al c) (by rw [ok.row t b r e2]; exact hk)
            have q1 := sD_at e2
            have q2 := sD_1 (b, r)
            have q3 := oD_at ho
            have q4 := find_eq al c
            have es : stepC al f (some t) c = o := by
              unfold stepC sym
              rw [if_pos hc]
              exact step_at e2 ho
            unfold sym at q4
            rw [if_pos hc] at q4
            rw [decide_eq_true hc] at q
            simp only at q2 q4
            refine .inl ⟨(o, some (.d (.str [c]))), .inl ?_, by rw [hsn, es], by rw [← es]; exact inR_stepC ok al _ c⟩
            show (mSeq (mIf (mOr (mT (m2 fIs (mBor 3) (mC .non))) (mT (m2 fNotIn (mBor 4) (mBor 0)))) (mRet (mC .non)) mNext) (mSet 3 (m2 fIx (m2 fIx (m2 fIx (mBor 1) (mBor 3)) (mC (.int 1))) (mMt fFind1 (mBor 0) (mCons (mBor 4) mNil))))) [some (.d (.str al)), some (.d (fD f)), some (.d (.str v)), some (.d (oD (some t))), some (.d (.str [c]))] = .nx [some (.d (.str al)), some (.d (fD f)), some (.d (.str v)), some (.d (oD o)), some (.d (.str [c]))]
            clear p1 p2 e hv hsn ok es ho e2 hc hk
            walk_at "evh"
          · rw [decide_eq_false hc] at q
            refine .inr (.inr ⟨.d .non, ?_, .inr ⟨rfl, ?_⟩⟩)
            · show (mSeq (mIf (mOr (mT (m2 fIs (mBor 3) (mC .non))) (mT (m2 fNotIn (mBor 4) (mBor 0)))) (mRet (mC .non)) mNext) (mSet 3 (m2 fIx (m2 fIx (m2 fIx (mBor 1) (mBor 3)) (mC (.int 1))) (mMt fFind1 (mBor 0) (mCons (mBor 4) mNil))))) [some (.d (.str al)), some (.d (fD f)), some (.d (.str v)), some (.d (oD (some t))), some (.d (.str [c]))] = .ret (.d .non)
              clear p1 p2 e hv hsn ok e2 hc
              walk_at "evh"
            · have es : stepC al f (some t) c = none := by unfold stepC sym; rw [if_neg hc]
              rw [hv, es, stepsC_none]
    · intro s hp
      refine .inl ⟨s, rfl, ?_⟩
      rw [hp.1, List.length_map, List.take_length]
  have q1 := v_callR (first_eq f)
  unfold g__law_state m__law_state
  rcases hw with ⟨⟨s1, s2⟩, h1, h2⟩ | ⟨h1, h2⟩
  · simp only at h2
    rw [← h2]
    have h1 : forGo (gN 4) (mSeq (mIf (mOr (mT (m2 fIs (mBor 3) (mC .non))) (mT (m2 fNotIn (mBor 4) (mBor 0)))) (mRet (mC .non)) mNext) (mSet 3 (m2 fIx (m2 fIx (m2 fIx (mBor 1) (mBor 3)) (mC (.int 1))) (mMt fFind1 (mBor 0) (mCons (mBor 4) mNil))))) (v.map fun c => D.str [c]) [some (.d (.str al)), some (.d (fD f)), some (.d (.str v)), some (.d (oD (start f))), none] = .nx [some (.d (.str al)), some (.d (fD f)), some (.d (.str v)), some (.d (oD s1)), s2] := h1
    clear h2 ok
    walk_at "evh"
  · rw [h2]
    have h1 : forGo (gN 4) (mSeq (mIf (mOr (mT (m2 fIs (mBor 3) (mC .non))) (mT (m2 fNotIn (mBor 4) (mBor 0)))) (mRet (mC .non)) mNext) (mSet 3 (m2 fIx (m2 fIx (m2 fIx (mBor 1) (mBor 3)) (mC (.int 1))) (mMt fFind1 (mBor 0) (mCons (mBor 4) mNil))))) (v.map fun c => D.str [c]) [some (.d (.str al)), some (.d (fD f)), some (.d (.str v)), some (.d (oD (start f))), none] = .ret (.d .non) := h1
    have h3 := oD_n
    clear h2 ok
    walk_at "evh"
end K01
namespace K01
open PySem L2 R F
theorem same_state_eq (o : Option Nat) : g__law_same_state [oD o, oD o] = some (.d (.bl true)) := by
  unfold g__law_same_state m__law_same_state
  cases o with
  | none =>
    have h1 := is_n
    have h2 := oD_n
    walk_at "evh"
  | some n =>
    have h1 := is_i (n := (n : Int))
    have h2 := oD_s n
    have h3 := v_callR (whole_eq (n : Int))
    have h4 : decide ((n : Int) = (n : Int)) = true := decide_eq_true rfl
    walk_at "evh"
theorem changed_ok {w : Nat} {f : Fm} (ok : Ok w f) (hs : f.length ≤ 1000) (hw : 1 ≤ w) (c : Int) : ∃ f', g__law_changed [fD f, .int (w : Int), .int c] = some (.d (fD f')) ∧ Ok w f' ∧ f'.length = f.length := by
  obtain ⟨row, hr1, hr2, hr3⟩ := digits_ok c [60, 2, 6, 60] (by intro z hz; simp only [List.mem_cons, List.not_mem_nil, or_false] at hz; omega) (by simp)
  obtain ⟨d0, hd0, d0a, d0b⟩ := dig hr3 hr2 (j := 0) (z := 60) rfl
  obtain ⟨d1, hd1, d1a, d1b⟩ := dig hr3 hr2 (j := 1) (z := 2) rfl
  obtain ⟨d2, hd2, d2a, d2b⟩ := dig hr3 hr2 (j := 2) (z := 6) rfl
  obtain ⟨d3, hd3, d3a, d3b⟩ := dig hr3 hr2 (j := 3) (z := 60) rfl
  have i0 : atI (row.map D.int) 0 = some (.int d0) := ix_map (k := 0) hd0
  have i1 : atI (row.map D.int) 1 = some (.int d1) := ix_map (k := 1) hd1
  have i2 : atI (row.map D.int) 2 = some (.int d2) := ix_map (k := 2) hd2
  have i3 : atI (row.map D.int) 3 = some (.int d3) := ix_map (k := 3) hd3
  have q0 : oCall g__law_digits (some [.int c, .lst [.int 60, .int 2, .int 6, .int 60]]) = some (.lst (row.map .int)) := (v_call hr1).trans rfl
  have l0 : fLen [fD f] = some (.int (f.length : Int)) := by show some (D.int ((f.map sD).length : Int)) = _; rw [List.length_map]
  have z4 : (0 + 1 + 1 + 1 + 1 : Nat) ≤ sizeLine := by decide
  have z2 : (0 + 1 + 1 : Nat) ≤ sizeLine := by decide
  have z1 : (0 + 1 : Nat) ≤ sizeLine := by decide
  by_cases hf : f.length = 0
  · refine ⟨f, ?_, ok, rfl⟩
    have e1 : decide ((f.length : Int) = 0) = true := decide_eq_true (by omega)
    unfold g__law_changed m__law_changed
    clear ok hs hw hr1 hr2 hr3 hf
    walk_at "evh"
  · have e1 : decide ((f.length : Int) = 0) = false := decide_eq_false (by omega)
    obtain ⟨j, hj⟩ : ∃ j : Nat, d0 % (f.length : Int) = (j : Int) := ⟨(d0 % (f.length : Int)).toNat, by have := Int.emod_nonneg d0 (show (f.length : Int) ≠ 0 by omega); omega⟩
    have hjl : j < f.length := by have := Int.emod_lt_of_pos d0 (show (0 : Int) < (f.length : Int) by omega); omega
    obtain ⟨⟨b, r⟩, e⟩ := at_ex hjl
    have hrl := ok.row j b r e
    obtain ⟨m, hm⟩ : ∃ m : Nat, d3 % ((f.length : Int) + 1) = (m : Int) := ⟨(d3 % ((f.length : Int) + 1)).toNat, by have := Int.emod_nonneg d3 (show (f.length : Int) + 1 ≠ 0 by omega); omega⟩
    obtain ⟨p, hp⟩ : ∃ p : Nat, d2 % (w : Int) = (p : Int) := ⟨(d2 % (w : Int)).toNat, by have := Int.emod_nonneg d2 (show (w : Int) ≠ 0 by omega); omega⟩
    have hpl : p < w := by have := Int.emod_lt_of_pos d2 (show (0 : Int) < (w : Int) by omega); omega
    have g1 : fMod (.int d0) (.int (f.length : Int)) = some (.int (j : Int)) := by rw [fMod_int (by omega), hj]
    have g2 : fMod (.int d3) (.int ((f.length : Int) + 1)) = some (.int (m : Int)) := by rw [fMod_int (by omega), hm]
    have g3 : fMod (.int d2) (.int (w : Int)) = some (.int (p : Int)) := by rw [fMod_int (by omega), hp]
    obtain ⟨o, ho1, ho2⟩ := pick_o (m : Int) f.length (by omega)
    have g4 := fInt_bl (decide ((m : Int) < (f.length : Int)))
    have g5 := sD_at e
    have g6 := sD_1 (b, r)
    have g7 := sD_0 (b, r)
    simp only at g6 g7
    have g8 : fList [.tup (r.map oD)] = some (r.map oD) := rfl
    have g9 : putL (r.map oD) (.int (p : Int)) (oD o) = some ((r.set p o).map oD) := by
      unfold putL
      simp only
      rw [ixn (by rw [List.length_map]; omega)]
      simp only [List.map_set]
    have g10 : fTuple [.lst ((r.set p o).map oD)] = some (.tup ((r.set p o).map oD)) := rfl
    have g11 : fNe (.bl b) (.bl (decide (d1 = 1))) = some (.bl (!decide (b = decide (d1 = 1)))) := rfl
    have e6 : fSl (fD f) none (some (j : Int)) = some (.tup ((f.take j).map sD)) := by
      show some (D.tup (cutL (f.map sD) none (some (j : Int)))) = _
      rw [cut_take _ _ (by rw [List.length_map]; omega), List.map_take]
    have e7 : fSl (fD f) (some ((j : Int) + 1)) none = some (.tup ((f.drop (j + 1)).map sD)) := by
      show some (D.tup (cutL (f.map sD) (some ((j : Int) + 1)) none)) = _
      rw [show (j : Int) + 1 = ((j + 1 : Nat) : Int) by omega, cut_drop _ _ (by rw [List.length_map]; omega), List.map_drop]
    have lt : (f.take j).length = j := by rw [List.length_take]; omega
    have ld : (f.drop (j + 1)).length = f.length - (j + 1) := List.length_drop ..
    obtain ⟨k1, k2⟩ := ok_put ok (b := !decide (b = decide (d1 = 1))) (r := r.set p o) e (by rw [List.length_set]; exact hrl) (fun t ht => by
      rcases List.mem_or_eq_of_mem_set ht with ht | ht
      · exact ok.tgt j b r t e ht
      · exact ho2 t ht.symm)
    generalize hB : (!decide (b = decide (d1 = 1))) = B at *
    have e8 : fAdd (.tup ((f.take j).map sD)) (.tup [sD (B, r.set p o)]) = some (.tup ((f.take j).map sD ++ [sD (B, r.set p o)])) := fAdd_tup (by rw [List.length_map, lt]; simp; omega)
    have e9 : fAdd (.tup ((f.take j).map sD ++ [sD (B, r.set p o)])) (.tup ((f.drop (j + 1)).map sD)) = some (.tup ((f.take j).map sD ++ [sD (B, r.set p o)] ++ (f.drop (j + 1)).map sD)) := fAdd_tup (by rw [List.length_append, List.length_map, List.length_map, lt, ld]; simp; omega)
    have e10 : (f.take j).map sD ++ [sD (B, r.set p o)] ++ (f.drop (j + 1)).map sD = (f.take j ++ [(B, r.set p o)] ++ f.drop (j + 1)).map sD := by rw [List.map_append, List.map_append]; rfl
    rw [e10] at e9
    have e11 : D.tup [.bl B, .tup ((r.set p o).map oD)] = sD (B, r.set p o) := rfl
    have e12 : fD (f.take j ++ [(B, r.set p o)] ++ f.drop (j + 1)) = D.tup ((f.take j ++ [(B, r.set p o)] ++ f.drop (j + 1)).map sD) := rfl
    refine ⟨f.take j ++ [(B, r.set p o)] ++ f.drop (j + 1), ?_, k1, k2⟩
    rw [e12]
    unfold g__law_changed m__law_changed
    clear ok hs hw hr1 hr2 hr3 hf hj hjl e hrl hm hp hpl ho2 lt ld k1 k2 e10 e12 hd0 hd1 hd2 hd3
    walk_at "evh"
    rw [v_putL (k := .int (p : Int)) (by walk_at "evh")]
    walk_at "evh"
theorem char_ok {al : List Nat} (ha : Alp al) (d : Int) (h0 : 0 ≤ d) : ∃ c, g__law_char [.str al, .int d] = some (.d (.str [c])) := by
  have l1 : (S " !\"#$&'()*+,-./0123456789:;<=>?@ABCDEFGHIJKLMNOPQRSTUVWXYZ[\\]^_`").length = 64 := by decide +kernel
  have l2 : (S "abcdefghijklmnopqrstuvwxyz{|}~\n").length = 31 := by decide +kernel
  unfold g__law_char m__law_char
  generalize S " !\"#$&'()*+,-./0123456789:;<=>?@ABCDEFGHIJKLMNOPQRSTUVWXYZ[\\]^_`" = s1 at l1 ⊢
  generalize S "abcdefghijklmnopqrstuvwxyz{|}~\n" = s2 at l2 ⊢
  have q1 : fAdd (.str s1) (.str s2) = some (.str (s1 ++ s2)) := fAdd_str (by rw [l1, l2]; decide)
  have l3 : (s1 ++ s2).length = 95 := by rw [List.length_append, l1, l2]
  generalize s1 ++ s2 = s3 at q1 l3
  have q2 : fLen [.str s3] = some (.int 95) := by rw [fLen_str (by omega), l3]; rfl
  have q3 := ts_len ha
  by_cases hd : d < 95
  · have e1 : decide (d < 95) = true := decide_eq_true hd
    obtain ⟨c, hc⟩ := at_ex (l := s3) (i := d.toNat) (by omega)
    have q4 : fIx (.str s3) (.int d) = some (.str [c]) := by
      have := fIx_str (xs := s3) (k := (d.toNat : Int)) (by omega) (atI_nat hc)
      rwa [show ((d.toNat : Nat) : Int) = d by omega] at this
    refine ⟨c, ?_⟩
    clear l1 l2 l3 hd hc h0 ha
    walk_at "evh"
  · have e1 : decide (d < 95) = false := decide_eq_false hd
    have hp : (0 : Int) < (al.length : Int) := by have := ha.one; omega
    obtain ⟨j, hj⟩ : ∃ j : Nat, d % (al.length : Int) = (j : Int) := ⟨(d % (al.length : Int)).toNat, by have := Int.emod_nonneg d (show (al.length : Int) ≠ 0 by omega); omega⟩
    obtain ⟨c, hc⟩ := at_ex (l := al) (i := j) (by have := Int.emod_lt_of_pos d hp; omega)
    have q4 : fMod (.int d) (.int (al.length : Int)) = some (.int (j : Int)) := by rw [fMod_int hp, hj]
    have q5 : fIx (.str al) (.int (j : Int)) = some (.str [c]) := fIx_str (by have := ha.six; omega) (atI_nat hc)
    refine ⟨c, ?_⟩
    clear l1 l2 l3 hd hc h0 ha hj hp
    walk_at "evh"
/-! a path through a form -/
theorem ltr_ix {al : List Nat} (ha : Alp al) (d : Int) : ∃ (j c : Nat), fMod (.int d) (.int (al.length : Int)) = some (.int (j : Int)) ∧ j < al.length ∧ fIx (.str al) (.int (j : Int)) = some (.str [c]) := by
  have hp : (0 : Int) < (al.length : Int) := by have := ha.one; omega
  obtain ⟨j, hj⟩ : ∃ j : Nat, d % (al.length : Int) = (j : Int) := ⟨(d % (al.length : Int)).toNat, by have := Int.emod_nonneg d (show (al.length : Int) ≠ 0 by omega); omega⟩
  have hjl : j < al.length := by have := Int.emod_lt_of_pos d hp; omega
  obtain ⟨c, hc⟩ := at_ex (l := al) (i := j) hjl
  exact ⟨j, c, by rw [fMod_int hp, hj], hjl, fIx_str (by have := ha.six; omega) (atI_nat hc)⟩
abbrev PAs := Option Nat × List Nat × List Nat × Option Sl × Option Nat × Option Sl × Option Sl
def paE (al : List Nat) (f : Fm) (row : List Int) (n : Nat) (cut : Int) (s : PAs) : Slots := [some (.d (.str al)), some (.d (fD f)), some (.d (.lst (row.map .int))), some (.d (.int (n : Int))), some (.d (.int cut)), some (.d (oD s.1)), some (.d (.str s.2.1)), some (.d (.str s.2.2.1)), s.2.2.2.1, some (.d (oD s.2.2.2.2.1)), s.2.2.2.2.2.1, s.2.2.2.2.2.2]
abbrev PAin : MS := (mSeq (mSet 11 (m2 fMod (mCB fInt (mCons (m2 fAdd (m2 fIx (mBor 2) (mBor 8)) (mBor 10)) mNil)) (mCB fLen (mCons (mBor 0) mNil))))
      (mIf (mAnd (mT (m2 fIs (mBor 9) (mC .non))) (mAnd (mT (m2 fIsNot (mBor 5) (mC .non))) (mT (m2 fIsNot (m2 fIx (m2 fIx (m2 fIx (mBor 1) (mBor 5)) (mC (.int 1))) (mBor 11)) (mC .non)))))
        (mSeq (mSet 9 (m2 fIx (m2 fIx (m2 fIx (mBor 1) (mBor 5)) (mC (.int 1))) (mBor 11)))
        (mSet 6 (m2 fAdd (mBor 6) (m2 fIx (mBor 0) (mBor 11)))))
        mNext))
theorem pa_in {al : List Nat} {f : Fm} (ha : Alp al) (ok : Ok al.length f) {row : List Int} {n : Nat} {cut : Int} {st : Option Nat} (hst : inR f st) {st0 best : List Nat} (hs0 : st0.length ≤ 1000) {k : Nat} {d : Int} (hd : row[k]? = some d) (x10 x11 : Option Sl) :
    ∃ (a : Option Nat) (st1 : List Nat) (y10 y11 : Option Sl), forGo (gN 10) PAin (rngD 0 al.length) (paE al f row n cut (st, st0, best, some (.d (.int (k : Int))), none, x10, x11)) = .nx (paE al f row n cut (st, st1, best, some (.d (.int (k : Int))), a, y10, y11)) ∧ inR f a ∧ (a = none → st1 = st0) ∧ st1.length ≤ st0.length + 1 := by
  have hw : ∃ s : PAs, forGo (gN 10) PAin (rngD 0 al.length) (paE al f row n cut (st, st0, best, some (.d (.int (k : Int))), none, x10, x11)) = .nx (paE al f row n cut s) ∧ s.1 = st ∧ s.2.2.1 = best ∧ s.2.2.2.1 = some (.d (.int (k : Int))) ∧ inR f s.2.2.2.2.1 ∧ (s.2.2.2.2.1 = none → s.2.1 = st0) ∧ s.2.1.length ≤ st0.length + 1 := by
    refine for_st (paE al f row n cut) (fun _ s => s.1 = st ∧ s.2.2.1 = best ∧ s.2.2.2.1 = some (.d (.int (k : Int))) ∧ inR f s.2.2.2.2.1 ∧ (s.2.2.2.2.1 = none → s.2.1 = st0) ∧ s.2.1.length ≤ st0.length + 1) (fun o => ∃ s : PAs, o = .nx (paE al f row n cut s) ∧ s.1 = st ∧ s.2.2.1 = best ∧ s.2.2.2.1 = some (.d (.int (k : Int))) ∧ inR f s.2.2.2.2.1 ∧ (s.2.2.2.2.1 = none → s.2.1 = st0) ∧ s.2.1.length ≤ st0.length + 1) ⟨rfl, rfl, rfl, (fun _ h => nomatch h), fun _ => rfl, Nat.le_succ _⟩ ?_ (fun s h => ⟨s, rfl, h⟩)
    intro i x s hx hp
    obtain ⟨s1, s2, s3, s4, s5, s6, s7⟩ := s
    obtain ⟨p1, p2, p3, p4, p5, p6⟩ := hp
    simp only at p1 p2 p3 p4 p5 p6
    subst p1
    subst p2
    subst p3
    unfold rngD at hx
    rw [List.getElem?_map] at hx
    cases hq : (List.range al.length)[i]? with
    | none => rw [hq] at hx; cases hx
    | some i' =>
      rw [hq] at hx
      have hi : i < al.length := by have := (List.getElem?_eq_some_iff.mp hq).1; rwa [List.length_range] at this
      have hi' : i' = i := by rw [List.getElem?_range hi] at hq; cases hq; rfl
      subst hi'
      have hx : D.int (0 + (i' : Int)) = x := Option.some.inj hx
      rw [Int.zero_add] at hx
      subst hx
      obtain ⟨j, c, g1, g2, g3⟩ := ltr_ix ha (d + (i' : Int))
      have q1 := ix_map hd
      have q2 := ts_len ha
      refine ⟨paE al f row n cut (s1, s2, s3, some (.d (.int (k : Int))), s5, some (.d (.int (i' : Int))), s7), rfl, .inl ?_⟩
      cases s5 with
      | some t5 =>
        refine ⟨(s1, s2, s3, some (.d (.int (k : Int))), some t5, some (.d (.int (i' : Int))), some (.d (.int (j : Int)))), .inl ?_, rfl, rfl, rfl, p4, p5, p6⟩
        have h1 := is_i (n := (t5 : Int))
        have h2 := oD_s t5
        unfold paE
        simp only
        clear ha ok hst hs0 hd p4 p5 p6 hi hq g2 g3
        walk_at "evh"
      | none =>
        have h1 := is_n
        have h2 := oD_n
        cases s1 with
        | none =>
          refine ⟨(none, s2, s3, some (.d (.int (k : Int))), none, some (.d (.int (i' : Int))), some (.d (.int (j : Int)))), .inl ?_, rfl, rfl, rfl, p4, p5, p6⟩
          have h3 := isn_n
          unfold paE
          simp only
          clear ha ok hst hs0 hd p4 p5 p6 hi hq g2 g3
          walk_at "evh"
        | some t =>
          obtain ⟨⟨b, r⟩, e⟩ := at_ex (hst t rfl)
          obtain ⟨o, ho⟩ := at_ex (l := r) (i := j) (by rw [ok.row t b r e]; exact g2)
          have h3 := isn_i (n := (t : Int))
          have h4 := oD_s t
          have h5 := sD_at e
          have h6 := sD_1 (b, r)
          have h7 := oD_at ho
          simp only at h6
          cases o with
          | none =>
            refine ⟨(some t, s2, s3, some (.d (.int (k : Int))), none, some (.d (.int (i' : Int))), some (.d (.int (j : Int)))), .inl ?_, rfl, rfl, rfl, p4, p5, p6⟩
            have h8 := isn_n
            unfold paE
            simp only
            clear ha ok hst hs0 hd p4 p5 p6 hi hq g2 g3 e ho
            walk_at "evh"
          | some t2 =>
            have hs2 := p5 rfl
            subst hs2
            refine ⟨(some t, s2 ++ [c], s3, some (.d (.int (k : Int))), some t2, some (.d (.int (i' : Int))), some (.d (.int (j : Int)))), .inl ?_, rfl, rfl, rfl, fun z hz => ?_, (fun z => nomatch z), by simp⟩
            · have h8 := isn_i (n := (t2 : Int))
              have h9 := oD_s t2
              have h10 : fAdd (.str s2) (.str [c]) = some (.str (s2 ++ [c])) := fAdd_str (by simp; omega)
              unfold paE
              simp only
              clear ha ok hst hs0 hd p4 p5 p6 hi hq g2 e ho
              walk_at "evh"
            · simp only [Option.some.injEq] at hz
              subst hz
              exact ok.tgt t b r t2 e (List.mem_of_getElem? ho)
  obtain ⟨⟨s1, s2, s3, s4, s5, s6, s7⟩, w1, w2, w3, w4, w5, w6, w7⟩ := hw
  simp only at w2 w3 w4 w5 w6 w7
  subst w2
  subst w3
  subst w4
  exact ⟨s5, s2, s6, s7, w1, w5, w6, w7⟩
end K01
namespace K01
open PySem L2 R F
abbrev PPs := Option Nat × List Nat × List Nat × Option Sl × Option Sl × Option Sl × Option Sl
def ppE (al : List Nat) (f : Fm) (row : List Int) (n : Nat) (cut : Int) (s : PPs) : Slots := [some (.d (.str al)), some (.d (fD f)), some (.d (.lst (row.map .int))), some (.d (.int (n : Int))), some (.d (.int cut)), some (.d (oD s.1)), some (.d (.str s.2.1)), some (.d (.str s.2.2.1)), s.2.2.2.1, s.2.2.2.2.1, s.2.2.2.2.2.1, s.2.2.2.2.2.2]
theorem path_ok {al : List Nat} {f : Fm} (ha : Alp al) (ok : Ok al.length f) (row : List Int) (n : Nat) (hn : n ≤ row.length) (hn2 : n ≤ 900) (cut : Int) (hc : cut = 0 ∨ cut = 1) : ∃ v, g__law_path [.str al, fD f, .lst (row.map .int), .int (n : Int), .int cut] = some (.d (.str v)) := by
  have hw : ∃ s : PPs, forGo (gN 8) (mSeq (mSet 9 (mC .non))
    (mSeq (mFor (mRng1 (mCons (mCB fLen (mCons (mBor 0) mNil)) mNil)) (gN 10) PAin)
    (mSeq (mIf (mT (m2 fIs (mBor 9) (mC .non)))
      (fun ρ => .brk ρ)
      mNext)
    (mSeq (mSet 5 (mVar 9))
    (mIf (mT (m2 fIx (m2 fIx (mBor 1) (mBor 5)) (mC (.int 0))))
      (mSet 7 (mVar 6))
      mNext))))) (rngD 0 n) (ppE al f row n cut (start f, [], [], none, none, none, none)) = .nx (ppE al f row n cut s) := by
    refine for_st (ppE al f row n cut) (fun i s => inR f s.1 ∧ s.2.1.length ≤ i) (fun o => ∃ s : PPs, o = .nx (ppE al f row n cut s)) ⟨start_in f, Nat.le_refl _⟩ ?_ (fun s _ => ⟨s, rfl⟩)
    intro i x s hx hp
    obtain ⟨s1, s2, s3, s4, s5, s6, s7⟩ := s
    obtain ⟨p1, p2⟩ := hp
    simp only at p1 p2
    unfold rngD at hx
    rw [List.getElem?_map] at hx
    cases hq : (List.range n)[i]? with
    | none => rw [hq] at hx; cases hx
    | some i' =>
      rw [hq] at hx
      have hi : i < n := by have := (List.getElem?_eq_some_iff.mp hq).1; rwa [List.length_range] at this
      have hi' : i' = i := by rw [List.getElem?_range hi] at hq; cases hq; rfl
      subst hi'
      have hx : D.int (0 + (i' : Int)) = x := Option.some.inj hx
      rw [Int.zero_add] at hx
      subst hx
      obtain ⟨d, hd⟩ := at_ex (l := row) (i := i') (by omega)
      obtain ⟨a, st1, y10, y11, g1, g2, g3, g4⟩ := pa_in (n := n) (cut := cut) ha ok p1 (st0 := s2) (best := s3) (by omega) hd s6 s7
      have q1 := ts_len ha
      have q2 := v_rngN (n := al.length) (by have := ha.six; omega)
      refine ⟨ppE al f row n cut (s1, s2, s3, some (.d (.int (i' : Int))), s5, s6, s7), rfl, ?_⟩
      have h0 := oD_n
      cases a with
      | none =>
        refine .inr (.inl ⟨ppE al f row n cut (s1, st1, s3, some (.d (.int (i' : Int))), some (.d (oD none)), y10, y11), ?_, _, rfl⟩)
        have h1 := is_n
        unfold ppE
        unfold paE at g1
        simp only at g1 ⊢
        rw [h0] at g1
        clear ha ok hn hn2 hc p1 p2 hi hq hd g2 g3 g4
        walk_at "evh"
      | some t =>
        obtain ⟨⟨b, r⟩, e⟩ := at_ex (g2 t rfl)
        have h1 := is_i (n := (t : Int))
        have h2 := oD_s t
        have h3 := sD_at e
        have h4 := sD_0 (b, r)
        simp only at h4
        cases b with
        | true =>
          refine .inl ⟨(some t, st1, st1, some (.d (.int (i' : Int))), some (.d (oD (some t))), y10, y11), .inl ?_, g2, by show st1.length ≤ i' + 1; omega⟩
          unfold ppE
          unfold paE at g1
          simp only at g1 ⊢
          rw [h0, h2] at g1
          clear ha ok hn hn2 hc p1 p2 hi hq hd g2 g3 g4 e
          walk_at "evh"
        | false =>
          refine .inl ⟨(some t, st1, s3, some (.d (.int (i' : Int))), some (.d (oD (some t))), y10, y11), .inl ?_, g2, by show st1.length ≤ i' + 1; omega⟩
          unfold ppE
          unfold paE at g1
          simp only at g1 ⊢
          rw [h0, h2] at g1
          clear ha ok hn hn2 hc p1 p2 hi hq hd g2 g3 g4 e
          walk_at "evh"
  obtain ⟨⟨s1, s2, s3, s4, s5, s6, s7⟩, w1⟩ := hw
  have q1 := v_callR (first_eq f)
  have q2 := v_rngN (n := n) (by omega)
  have q3 : (0 + 1 + 1 : Nat) ≤ sizeLine := by decide
  have q4 : S "" = [] := rfl
  unfold ppE at w1
  simp only at w1
  unfold g__law_path m__law_path
  rcases hc with rfl | rfl
  · refine ⟨s2, ?_⟩
    rw [r_g (by rfl)]
    clear ha ok hn hn2
    walk_at "evh"
  · refine ⟨s3, ?_⟩
    rw [r_g (by rfl)]
    clear ha ok hn hn2
    walk_at "evh"
/-! strings -/
theorem rep_flat1 {α : Type} (x : α) : ∀ n : Nat, (List.replicate n [x]).flatten = List.replicate n x
  | 0 => rfl
  | n + 1 => by rw [List.replicate_succ, List.flatten_cons, rep_flat1 x n]; rfl
theorem fMul_lst (a : List D) (n : Nat) (h1 : n ≤ 100000) (h2 : a.length * n ≤ 16777216) : fMul (.lst a) (.int (n : Int)) = some (.lst (List.replicate n a).flatten) := by
  have h : -(2 ^ 63) ≤ (n : Int) ∧ (n : Int) < 2 ^ 63 ∧ a.length * (n : Int).toNat ≤ sizeLine := ⟨by omega, by omega, by rw [sizeLine_eq, Int.toNat_natCast]; exact h2⟩
  unfold fMul
  simp only
  rw [if_pos h, Int.toNat_natCast]
theorem chars_lc {j : Nat} {me : ME} {ρ : Slots} : ∀ (n : Nat) (lo : Nat), (∀ k : Nat, lo ≤ k → k < lo + n → ∃ c, me (ρ.set j (some (.d (.int (k : Int))))) = some (.str [c])) →
    ∃ l : List Nat, lcGo j mYes me ρ ((List.range' lo n).map fun (k : Nat) => D.int (k : Int)) = some (cD l) ∧ l.length = n
  | 0, _, _ => ⟨[], rfl, rfl⟩
  | n + 1, lo, h => by
    obtain ⟨c, h1⟩ := h lo (Nat.le_refl _) (by omega)
    obtain ⟨r, r1, r2⟩ := chars_lc n (lo + 1) (fun k h1 h2 => h k (by omega) (by omega))
    refine ⟨c :: r, ?_, by rw [List.length_cons, r2]⟩
    rw [List.range'_succ, List.map_cons]
    unfold lcGo
    simp only [mYes, h1, r1]
    rfl
def STend : MS :=
  (mSeq (mIf (mT (m2 fLt (m2 fIx (mBor 3) (mC (.int 0))) (mC (.int 4))))
    (mRet (mCall g__law_path (mCons (mVar 0) (mCons (mVar 1) (mCons (mVar 5) (mCons (mVar 4) (mCons (m2 fIx (mBor 3) (mC (.int 3))) mNil)))))))
    mNext)
  (mSeq (mIf (mT (m2 fLt (m2 fIx (mBor 3) (mC (.int 0))) (mC (.int 6))))
    (mRet (mMt fJoin (mC (.str (S ""))) (mCons (mF (mLc (mRng1 (mCons (mVar 4) mNil)) 6 mYes (m2 fIx (mBor 0) (m2 fMod (mCB fInt (mCons (m2 fIx (mBor 5) (mBor 6)) mNil)) (mCB fLen (mCons (mBor 0) mNil)))))) mNil)))
    mNext)
  (mRet (mMt fJoin (mC (.str (S ""))) (mCons (mF (mLc (mRng1 (mCons (mVar 4) mNil)) 6 mYes (mCall g__law_char (mCons (mVar 0) (mCons (m2 fIx (mBor 5) (mBor 6)) mNil))))) mNil)))))
theorem string_split : m__law_string =
  (mSeq (mSet 3 (mCall g__law_digits (mCons (mVar 2) (mCons (m2 fAdd (m2 fAdd (mF (mLst (mCons (mC (.int 8)) (mCons (mC (.int 61)) (mCons (mC (.int 9)) (mCons (mC (.int 2)) mNil)))))) (m2 fMul (mF (mLst (mCons (mC (.int 200)) mNil))) (mC (.int 59)))) (mF (mLst (mCons (mC (.int 6)) mNil)))) mNil))))
  (mSeq (mSet 4 (m2 fIx (mF (mLst (mCons (m2 fIx (mBor 3) (mC (.int 2))) (mCons (m2 fIx (mBor 3) (mC (.int 1))) mNil)))) (mCB fInt (mCons (mOrV (m2 fEq (m2 fIx (mBor 3) (mC (.int 0))) (mC (.int 3))) (m2 fEq (m2 fIx (mBor 3) (mC (.int 0))) (mC (.int 7)))) mNil))))
  (mSeq (mSet 5 (m2 fMul (mSl (mBor 3) (mPart (mC (.int 4))) (mPart (mC (.int 63)))) (mC (.int 7))))
  (mSeq (mIf (mT (m2 fEq (m2 fIx (mBor 3) (mC (.int 63))) (mC (.int 5))))
    (mSet 4 (m2 fMul (mC (.int 6)) (mBor 4)))
    mNext)
  STend)))) := rfl
theorem string_ok {al : List Nat} {f : Fm} (ha : Alp al) (ok : Ok al.length f) (c : Int) : ∃ v, g__law_string [.str al, fD f, .int c] = some (.d (.str v)) := by
  let sz : List Int := [8, 61, 9, 2] ++ List.replicate 59 200 ++ [6]
  have hsz : sz.length = 64 := by decide
  obtain ⟨row, hr1, hr2, hr3⟩ := digits_ok c sz (by
    intro z hz
    rcases List.mem_append.mp hz with hz | hz
    · rcases List.mem_append.mp hz with hz | hz
      · simp only [List.mem_cons, List.not_mem_nil, or_false] at hz; omega
      · have := List.eq_of_mem_replicate hz; omega
    · simp only [List.mem_cons, List.not_mem_nil, or_false] at hz; omega) (by decide)
  rw [hsz] at hr2
  have hl : row.length = sz.length := by rw [hr2, hsz]
  obtain ⟨d0, hd0, d0a, d0b⟩ := dig hr3 hl (j := 0) (z := 8) (by decide)
  obtain ⟨d1, hd1, d1a, d1b⟩ := dig hr3 hl (j := 1) (z := 61) (by decide)
  obtain ⟨d2, hd2, d2a, d2b⟩ := dig hr3 hl (j := 2) (z := 9) (by decide)
  obtain ⟨d3, hd3, d3a, d3b⟩ := dig hr3 hl (j := 3) (z := 2) (by decide)
  obtain ⟨d63, hd63, d63a, d63b⟩ := dig hr3 hl (j := 63) (z := 6) (by decide)
  have i0 : atI (row.map D.int) 0 = some (.int d0) := ix_map (k := 0) hd0
  have i1 : atI (row.map D.int) 1 = some (.int d1) := ix_map (k := 1) hd1
  have i2 : atI (row.map D.int) 2 = some (.int d2) := ix_map (k := 2) hd2
  have i3 : atI (row.map D.int) 3 = some (.int d3) := ix_map (k := 3) hd3
  have i63 : atI (row.map D.int) 63 = some (.int d63) := ix_map (k := 63) hd63
  -- the sizes
  have m1 : fMul (.lst [.int 200]) (.int 59) = some (.lst (List.replicate 59 (.int 200))) := by
    have := fMul_lst [.int 200] 59 (by decide) (by decide)
    rw [rep_flat1] at this
    exact this
  have a1 : fAdd (.lst [.int 8, .int 61, .int 9, .int 2]) (.lst (List.replicate 59 (.int 200))) = some (.lst ([D.int 8, .int 61, .int 9, .int 2] ++ List.replicate 59 (.int 200))) := fAdd_lst (by rw [List.length_replicate]; decide)
  have a2 : fAdd (.lst ([D.int 8, .int 61, .int 9, .int 2] ++ List.replicate 59 (.int 200))) (.lst [.int 6]) = some (.lst ([D.int 8, .int 61, .int 9, .int 2] ++ List.replicate 59 (.int 200) ++ [.int 6])) := fAdd_lst (by rw [List.length_append, List.length_replicate]; decide)
  have a3 : [D.int 8, .int 61, .int 9, .int 2] ++ List.replicate 59 (.int 200) ++ [.int 6] = sz.map .int := rfl
  rw [a3] at a2
  clear a3
  have q0 : oCall g__law_digits (some [.int c, .lst (sz.map .int)]) = some (.lst (row.map .int)) := (v_call hr1).trans rfl
  -- the more digits
  obtain ⟨more, hm1, hm2, hm3⟩ : ∃ more : List Int, (∀ d : D, fSl (.lst (row.map .int)) (some 4) (some 63) = some d → fMul d (.int 7) = some (.lst (more.map .int))) ∧ more.length = 413 ∧ ∀ z ∈ more, 0 ≤ z := by
    have e : cutL (row.map D.int) (some 4) (some 63) = ((row.drop 4).take 59).map D.int := by
      have : cutL (row.map D.int) (some ((4 : Nat) : Int)) (some ((63 : Nat) : Int)) = ((row.drop 4).take 59).map D.int := by
        unfold cutL
        rw [HT.sIx_nat, HT.sIx_nat, List.length_map, hr2]
        rw [show min 4 64 = 4 by decide, show min 63 64 = 63 by decide, List.map_take, List.map_drop]
      exact this
    have l59 : ((row.drop 4).take 59).length = 59 := by rw [List.length_take, List.length_drop]; omega
    refine ⟨(List.replicate 7 ((row.drop 4).take 59)).flatten, fun d hd => ?_, ?_, fun z hz => ?_⟩
    · have hd : some (D.lst (cutL (row.map D.int) (some 4) (some 63))) = some d := hd
      cases hd
      rw [e]
      have := fMul_lst (((row.drop 4).take 59).map D.int) 7 (by decide) (by rw [List.length_map, l59]; decide)
      rw [List.map_flatten, List.map_replicate]
      exact this
    · rw [List.length_flatten, List.map_replicate, l59]; rfl
    · obtain ⟨l, hl1, hl2⟩ := List.mem_flatten.mp hz
      have := List.eq_of_mem_replicate hl1
      subst this
      obtain ⟨j, hj⟩ := List.mem_iff_getElem?.mp (List.mem_of_mem_drop (List.mem_of_mem_take hl2))
      obtain ⟨zz, hzz⟩ := at_ex (l := sz) (i := j) (by have := (List.getElem?_eq_some_iff.mp hj).1; omega)
      exact (hr3 j z zz hj hzz).1
  have hm := hm1 _ rfl
  have sl : fSl (.lst (row.map D.int)) (some 4) (some 63) = some (.lst (cutL (row.map D.int) (some 4) (some 63))) := rfl
  generalize cutL (row.map D.int) (some 4) (some 63) = ct at hm sl
  -- the size
  have z2 : (0 + 1 + 1 : Nat) ≤ sizeLine := by decide
  have z1 : (0 + 1 : Nat) ≤ sizeLine := by decide
  have z4 : (0 + 1 + 1 + 1 + 1 : Nat) ≤ sizeLine := by decide
  obtain ⟨n0, hn0, hn0b⟩ : ∃ n0 : Nat, atI [D.int d2, .int d1] (if (decide (d0 = 3) || decide (d0 = 7)) = true then 1 else 0) = some (.int (n0 : Int)) ∧ n0 ≤ 60 := by
    by_cases h : (decide (d0 = 3) || decide (d0 = 7)) = true
    · rw [if_pos h]
      exact ⟨d1.toNat, by rw [show ((d1.toNat : Nat) : Int) = d1 by omega]; exact at1 _ _ _, by omega⟩
    · rw [if_neg h]
      exact ⟨d2.toNat, by rw [show ((d2.toNat : Nat) : Int) = d2 by omega]; exact at0 _ _, by omega⟩
  have b37 : (mOrV (m2 fEq (m2 fIx (mBor 3) (mC (.int 0))) (mC (.int 3))) (m2 fEq (m2 fIx (mBor 3) (mC (.int 0))) (mC (.int 7)))) [some (.d (.str al)), some (.d (fD f)), some (.d (.int c)), some (.d (.lst (row.map .int))), none, none, none] = some (.bl (decide (d0 = 3) || decide (d0 = 7))) := by
    clear hm1 hm2 hm3 ok ha hr1 hr2 hr3 hl
    by_cases h3 : d0 = 3
    · have e := decide_eq_true h3
      clear h3
      rw [e]
      walk_at "evh"
      rfl
    · have e := decide_eq_false h3
      clear h3
      rw [e]
      walk_at "evh"
      rfl
  have q5 := fInt_bl (decide (d0 = 3) || decide (d0 = 7))
  -- whatever the size: the end
  have fin : ∀ n : Nat, n ≤ 360 → ∃ v, STend [some (.d (.str al)), some (.d (fD f)), some (.d (.int c)), some (.d (.lst (row.map .int))), some (.d (.int (n : Int))), some (.d (.lst (more.map .int))), none] = .ret (.d (.str v)) := by
    intro n hn
    unfold STend
    have q9 := v_rngN (n := n) (by omega)
    have q10 : (rngD 0 n).length ≤ sizeLine := by
      have : (rngD 0 n).length = n := by unfold rngD; rw [List.length_map, List.length_range]
      rw [this]
      exact sl_ok _ (by omega)
    have ql := ts_len ha
    by_cases c4 : d0 < 4
    · have e := decide_eq_true c4
      obtain ⟨v, hv⟩ := path_ok ha ok more n (by omega) (by omega) d3 (by omega)
      refine ⟨v, ?_⟩
      have q := v_callR hv
      clear hm1 hm2 hm3 ok ha hr1 hr2 hr3 hl c4
      walk_at "evh"
    · have e := decide_eq_false c4
      by_cases c6 : d0 < 6
      · have e2 := decide_eq_true c6
        obtain ⟨l, g1, g2⟩ := chars_lc (j := 6) (me := (m2 fIx (mBor 0) (m2 fMod (mCB fInt (mCons (m2 fIx (mBor 5) (mBor 6)) mNil)) (mCB fLen (mCons (mBor 0) mNil))))) (ρ := [some (.d (.str al)), some (.d (fD f)), some (.d (.int c)), some (.d (.lst (row.map .int))), some (.d (.int (n : Int))), some (.d (.lst (more.map .int))), none]) n 0 (fun k _ hk => by
          obtain ⟨z, hz⟩ := at_ex (l := more) (i := k) (by omega)
          obtain ⟨j, cc, k1, k2, k3⟩ := ltr_ix ha z
          have q := ix_map hz
          refine ⟨cc, ?_⟩
          clear hm1 hm2 hm3 ok ha hr1 hr2 hr3 hl c4 c6 hz k2
          walk_at "evh")
        rw [← rngD_range] at g1
        have q := join_cD l (by omega)
        refine ⟨l, ?_⟩
        clear hm1 hm2 hm3 ok ha hr1 hr2 hr3 hl c4 c6 g2
        walk_at "evh"
      · have e2 := decide_eq_false c6
        obtain ⟨l, g1, g2⟩ := chars_lc (j := 6) (me := (mCall g__law_char (mCons (mVar 0) (mCons (m2 fIx (mBor 5) (mBor 6)) mNil)))) (ρ := [some (.d (.str al)), some (.d (fD f)), some (.d (.int c)), some (.d (.lst (row.map .int))), some (.d (.int (n : Int))), some (.d (.lst (more.map .int))), none]) n 0 (fun k _ hk => by
          obtain ⟨z, hz⟩ := at_ex (l := more) (i := k) (by omega)
          obtain ⟨cc, k1⟩ := char_ok ha z (hm3 z (List.mem_of_getElem? hz))
          have q := ix_map hz
          have q2 := v_callR k1
          refine ⟨cc, ?_⟩
          clear hm1 hm2 hm3 ok ha hr1 hr2 hr3 hl c4 c6 hz k1
          walk_at "evh")
        rw [← rngD_range] at g1
        have q := join_cD l (by omega)
        refine ⟨l, ?_⟩
        clear hm1 hm2 hm3 ok ha hr1 hr2 hr3 hl c4 c6 g2
        walk_at "evh"
  unfold g__law_string
  rw [string_split, r_g3]
  have i37 : ∃ b : Bool, (decide (d0 = 3) || decide (d0 = 7)) = b := ⟨_, rfl⟩
  have l1 : fIx (.lst [.int d2, .int d1]) (.int 1) = some (.int d1) := at1 _ _ _
  have l2 : fIx (.lst [.int d2, .int d1]) (.int 0) = some (.int d2) := at0 _ _
  have t1 : fInt [.bl true] = some (.int 1) := (fInt_bl true).trans rfl
  have t0 : fInt [.bl false] = some (.int 0) := (fInt_bl false).trans rfl
  obtain ⟨w1, rfl⟩ : ∃ w : Nat, (w : Int) = d1 := ⟨d1.toNat, by omega⟩
  obtain ⟨w2, rfl⟩ : ∃ w : Nat, (w : Int) = d2 := ⟨d2.toNat, by omega⟩
  have e61 : fMul (.int 6) (.int (w1 : Int)) = some (.int ((6 : Int) * (w1 : Int))) := fMul_l (by omega) (by omega)
  have e62 : fMul (.int 6) (.int (w2 : Int)) = some (.int ((6 : Int) * (w2 : Int))) := fMul_l (by omega) (by omega)
  obtain ⟨v1, hv1⟩ := fin (6 * w1) (by omega)
  obtain ⟨v2, hv2⟩ := fin (6 * w2) (by omega)
  obtain ⟨v3, hv3⟩ := fin w1 (by omega)
  obtain ⟨v4, hv4⟩ := fin w2 (by omega)
  rw [show ((6 * w1 : Nat) : Int) = (6 : Int) * (w1 : Int) by omega] at hv1
  rw [show ((6 * w2 : Nat) : Int) = (6 : Int) * (w2 : Int) by omega] at hv2
  clear hm1 hm2 hm3 ok ha hr1 hr2 hr3 hl fin hn0 hn0b n0 b37 q5 i37
  clear hd0 hd1 hd2 hd3 hd63 hsz
  generalize D.lst (List.replicate 59 (.int 200)) = x1 at m1 a1
  generalize D.lst ([D.int 8, .int 61, .int 9, .int 2] ++ List.replicate 59 (.int 200)) = x2 at a1 a2
  generalize sz.map D.int = x3 at a2 q0
  clear sz
  by_cases c5 : d63 = 5
  · have e5 : decide (d63 = 5) = true := decide_eq_true c5
    by_cases c3 : d0 = 3
    · have e3 : decide (d0 = 3) = true := decide_eq_true c3
      refine ⟨v1, ?_⟩
      clear c5 c3
      walk_at "evh"
    · have e3 : decide (d0 = 3) = false := decide_eq_false c3
      by_cases c7 : d0 = 7
      · have e7 : decide (d0 = 7) = true := decide_eq_true c7
        refine ⟨v1, ?_⟩
        clear c5 c3 c7
        walk_at "evh"
      · have e7 : decide (d0 = 7) = false := decide_eq_false c7
        refine ⟨v2, ?_⟩
        clear c5 c3 c7
        walk_at "evh"
  · have e5 : decide (d63 = 5) = false := decide_eq_false c5
    by_cases c3 : d0 = 3
    · have e3 : decide (d0 = 3) = true := decide_eq_true c3
      refine ⟨v3, ?_⟩
      clear c5 c3
      walk_at "evh"
    · have e3 : decide (d0 = 3) = false := decide_eq_false c3
      by_cases c7 : d0 = 7
      · have e7 : decide (d0 = 7) = true := decide_eq_true c7
        refine ⟨v3, ?_⟩
        clear c5 c3 c7
        walk_at "evh"
      · have e7 : decide (d0 = 7) = false := decide_eq_false c7
        refine ⟨v4, ?_⟩
        clear c5 c3 c7
        walk_at "evh"
end K01
namespace K01
open PySem L2 R F
def isCD (c : String) (d : D) : Option D := match d with | .ins c' _ _ => if c' = c then some (.bl true) else none | _ => none
theorem r_isC {c : String} {m : ME} {ρ : Slots} : mIsC c m ρ = o1 (isCD c) (m ρ) := by unfold mIsC o1 isCD; cases m ρ with | none => rfl | some d => cases d <;> rfl
theorem ts_isC (al : List Nat) (f : Fm) : isCD "TextSet" (tsD al f) = some (.bl true) := by
  show (if "TextSet" = "TextSet" then some (D.bl true) else none) = _
  rw [if_pos rfl]
theorem ts_empty (al : List Nat) (f : Fm) : propD "TextSet" g_TextSet_is_empty (tsD al f) = some (.bl (decide (f.length = 0))) := by
  show (if "TextSet" = "TextSet" then gS g_TextSet_is_empty [tsD al f] else none) = _
  rw [if_pos rfl]
  unfold gS
  rw [is_empty_eq]
  rfl
theorem isi_str1 (i : List Nat) : fIsi [.str i, .ty "str"] = some (.bl true) := by
  unfold fIsi
  rfl
theorem fits_eq {al : List Nat} {k : Nat} {A f g : Fm} (ha : Alp al) (hk : k < 9) (lA : Lst al.length A) (of : Ok al.length f) (og : Ok al.length g) (hb : (A.length + 1) * ((f.length + 1) * (g.length + 1)) ≤ 16000000)
    (hl : ∀ u, Wd al.length u → acc A (start A) u = dueB k (acc f (start f) u) (acc g (start g) u)) : g__law_fits [.str al, tsD al A, fD f, fD g, .int (k : Int)] = some (.d (.bl true)) := by
  have q1 := v_callR (kept_eq hk lA.ok of og hb hl)
  have q2 := v_callR (has_text_eq lA)
  have q3 := v_callR (is_form_eq lA.ok)
  have q4 := ts_len ha
  have q5 := ts_isC al A
  have q6 := ts_empty al A
  have q7 := ts_al al A
  have q8 := ts_form al A
  have q9 := isi_bool1
  have q10 := @r_isC
  have q11 : ∀ b : Bool, fEq (.bl b) (.bl (!b)) = some (.bl false) := by intro b; cases b <;> rfl
  have q12 : fNe (.str al) (.str al) = some (.bl false) := by rw [fNe_str]; simp
  generalize decide (A.length = 0) = b at q2 q6
  unfold g__law_fits
  rw [r_g (by rfl)]
  unfold m__law_fits
  clear ha hk lA of og hb hl
  walk_at "evh"
/-! the operators over two alphabets -/
theorem insR_ts {al : List Nat} {f : Fm} : insR (some (.val (.d (tsD al f)))) = some (.val (.d (tsD al f))) := rfl
theorem insR_exc {x : XD} : insR (some (.exc x)) = some (.exc x) := rfl
theorem isn_ts (al : List Nat) (f : Fm) : fIsNot (tsD al f) .non = some (.bl true) := rfl
theorem tb_t : tb [("AlphabetsDiffer", true)] "AlphabetsDiffer" = some true := rfl
theorem tb_f : tb [("AlphabetsDiffer", false)] "AlphabetsDiffer" = some false := rfl
def DFend : MS := (mRet (mAndV (m2 fIsNot (mBor 4) (mC .non)) (m2 fEq (m2 fIx (mBor 3) (mC (.int 0))) (m2 fIx (mBor 3) (mC (.int 1))))))
noncomputable def DFh : MS := (mSeq (mIf (mOr (mNot (mT (mCB fIsi (mCons (mXF "AlphabetsDiffer" "one" 5) (mCons (mC (.ty "str")) mNil))))) (mOr (mNot (mT (mCB fIsi (mCons (mXF "AlphabetsDiffer" "two" 5) (mCons (mC (.ty "str")) mNil))))) (mT (mXIs (tb [("AlphabetsDiffer", false)]) 5))))
      (mRet (mC (.bl false)))
      mNext)
    (mSeq (mIf (mOr (mT (m2 fNe (mXF "AlphabetsDiffer" "one" 5) (m2 fIx (mBor 3) (mC (.int 0))))) (mOr (mT (m2 fNe (mXF "AlphabetsDiffer" "two" 5) (m2 fIx (mBor 3) (mC (.int 1))))) (mT (mXIs (tb [("AlphabetsDiffer", false)]) 5))))
      (mRet (mC (.bl false)))
      mNext)
    (mRet (mAndV (mXIs (tb [("AlphabetsDiffer", true)]) 5) (mXIs (tb [("AlphabetsDiffer", true)]) 5)))))
noncomputable def DFb : MS := (mIf (mT (m2 fEq (mBor 2) (mC (.int 0))))
      (mSetX 4 (mBinX "TextSet" gx_TextSet___or__ (mVar 0) (mVar 1)))
      (mIf (mT (m2 fEq (mBor 2) (mC (.int 1))))
        (mSetX 4 (mBinX "TextSet" gx_TextSet___and__ (mVar 0) (mVar 1)))
        (mSetX 4 (mBinX "TextSet" gx_TextSet___sub__ (mVar 0) (mVar 1)))))
theorem differ_split : m__law_differ = (mSeq (mSet 4 (mC .non)) (mSeq (mTry (tb [("AlphabetsDiffer", true)]) 5 DFb DFh) DFend)) := rfl
def kpOf (k : Nat) : Kp := match k with | 0 => .either | 1 => .both | _ => .first
theorem df_b {k : Nat} (hk : k < 3) {x y : D} {al al2 : List Nat} {f g : Fm} {r : RO} (hr : opX (kpOf k) [tsD al f, tsD al2 g] = some r) (hi : insR (some r) = some r) (z : D) :
    DFb [some (.d (tsD al f)), some (.d (tsD al2 g)), some (.d (.int (k : Int))), some (.d z), some (.d .non), none] = oSetX 4 (some r) [some (.d (tsD al f)), some (.d (tsD al2 g)), some (.d (.int (k : Int))), some (.d z), some (.d .non), none] := by
  unfold DFb
  have k3 : k = 0 ∨ k = 1 ∨ k = 2 := by omega
  rcases k3 with rfl | rfl | rfl
  · have e : binX "TextSet" gx_TextSet___or__ (tsD al f) (tsD al2 g) = some r := by rw [binX_of, show gx_TextSet___or__ [tsD al f, tsD al2 g] = some r from hr, hi]
    clear hi hr
    walk_at "evh"
  · have e : binX "TextSet" gx_TextSet___and__ (tsD al f) (tsD al2 g) = some r := by rw [binX_of, show gx_TextSet___and__ [tsD al f, tsD al2 g] = some r from hr, hi]
    clear hi hr
    walk_at "evh"
  · have e : binX "TextSet" gx_TextSet___sub__ (tsD al f) (tsD al2 g) = some r := by rw [binX_of, show gx_TextSet___sub__ [tsD al f, tsD al2 g] = some r from hr, hi]
    clear hi hr
    walk_at "evh"
theorem differ_eq {al al2 : List Nat} {f g : Fm} (ha : Alp al) (ha2 : Alp al2) (lf : Lst al.length f) (lg : Lst al2.length g) (hb : (f.length + 1) * (g.length + 1) ≤ 16000000) (k : Nat) (hk : k < 3) :
    g__law_differ [tsD al f, tsD al2 g, .int (k : Int), .lst [.str al, .str al2]] = some (.d (.bl true)) := by
  unfold g__law_differ
  rw [differ_split, r_g4]
  by_cases h : al = al2
  · subst h
    obtain ⟨h, h1, _, _, _⟩ := ts_op (kpOf k) ha lf lg hb
    have q1 := df_b (x := .non) (y := .non) hk h1 insR_ts (.lst [.str al, .str al])
    have q2 := isn_ts al h
    have q3 : ∀ ρ, DFend ρ = mRet (mAndV (m2 fIsNot (mBor 4) (mC .non)) (m2 fEq (m2 fIx (mBor 3) (mC (.int 0))) (m2 fIx (mBor 3) (mC (.int 1))))) ρ := fun _ => rfl
    have q4 : fEq (.str al) (.str al) = some (.bl true) := by rw [fEq_str]; simp
    clear h1 hk hb lf lg ha ha2
    walk_at "evh"
  · have h1 := ts_differ (kpOf k) h f g
    have q1 := df_b (x := .non) (y := .non) hk h1 insR_exc (.lst [.str al, .str al2])
    have q2 : tryO (tb [("AlphabetsDiffer", true)]) 5 DFh (oSetX 4 (some (RO.exc ⟨"AlphabetsDiffer", ["one", "two"], [.str al, .str al2]⟩)) [some (.d (tsD al f)), some (.d (tsD al2 g)), some (.d (.int (k : Int))), some (.d (.lst [.str al, .str al2])), some (.d .non), none]) = .ret (.d (.bl true)) := by
      rw [v_setXe, v_tryT tb_t]
      unfold DFh
      have q3 := isi_str1
      have q4 : fNe (.str al) (.str al) = some (.bl false) := by rw [fNe_str]; simp
      have q5 : fNe (.str al2) (.str al2) = some (.bl false) := by rw [fNe_str]; simp
      have q6 := tb_t
      have q7 := tb_f
      have q8 : xfO "AlphabetsDiffer" "one" (some (some (.xc ⟨"AlphabetsDiffer", ["one", "two"], [.str al, .str al2]⟩))) = some (.str al) := rfl
      have q9 : xfO "AlphabetsDiffer" "two" (some (some (.xc ⟨"AlphabetsDiffer", ["one", "two"], [.str al, .str al2]⟩))) = some (.str al2) := rfl
      have q10 : xisO (tb [("AlphabetsDiffer", true)]) (some (some (.xc ⟨"AlphabetsDiffer", ["one", "two"], [.str al, .str al2]⟩))) = some (.bl true) := rfl
      have q11 : xisO (tb [("AlphabetsDiffer", false)]) (some (some (.xc ⟨"AlphabetsDiffer", ["one", "two"], [.str al, .str al2]⟩))) = some (.bl false) := rfl
      generalize (⟨"AlphabetsDiffer", ["one", "two"], [.str al, .str al2]⟩ : XD) = x at *
      clear h1 hk hb lf lg ha ha2 q1 h
      walk_at "evh"
    rw [v_setXe] at q2
    clear h1 hk hb lf lg ha ha2 h
    walk_at "evh"
end K01
namespace K01
open PySem L2 R F
theorem for_all {α : Type} (emb : α → Slots) {mg : D → Slots → Option Slots} {b : MS} (P : α → Prop) : ∀ {xs : List D} {s : α}, P s → (∀ x ∈ xs, ∀ s, P s → ∃ ρ1 s', mg x (emb s) = some ρ1 ∧ b ρ1 = .nx (emb s') ∧ P s') → ∃ s', forGo mg b xs (emb s) = .nx (emb s') ∧ P s'
  | [], s, h, _ => ⟨s, rfl, h⟩
  | x :: xs, s, h, hs => by
    obtain ⟨ρ1, s1, h1, h2, h3⟩ := hs x List.mem_cons_self s h
    obtain ⟨s2, h4, h5⟩ := for_all emb P h3 (fun y hy => hs y (List.mem_cons_of_mem _ hy))
    refine ⟨s2, ?_, h5⟩
    unfold forGo
    simp only [h1, h2]
    exact h4
theorem ts_inO {al : List Nat} {f : Fm} (ok : Ok al.length f) (v : List Nat) : fInO "TextSet" g_TextSet___contains__ (.str v) (tsD al f) = some (.bl (stops f (stepsC al f (start f) v))) := by
  show (if "TextSet" = "TextSet" then (match gS g_TextSet___contains__ [tsD al f, .str v] with | some (.bl t) => some (D.bl t) | _ => none) else none) = _
  rw [if_pos rfl]
  have : gS g_TextSet___contains__ [tsD al f, .str v] = some (.bl (stops f (stepsC al f (start f) v))) := by
    unfold gS
    rw [contains_eq ok]
    rfl
  rw [this]
theorem ts_after {al : List Nat} {f : Fm} (ok : Ok al.length f) (v : List Nat) : methD "TextSet" "state_after" g_TextSet_state_after (tsD al f) [.str v] = some (oD (stepsC al f (start f) v)) := meth_of (by decide) (state_after_eq ok v)
def rwD (al : List Nat) (p : Fm × Nat) : D := .lst [tsD al p.1, .int (p.2 : Int)]
structure Rows (w : Nat) (f g : Fm) (rows : List (Fm × Nat)) : Prop where
  k : ∀ p ∈ rows, p.2 < 9
  l : ∀ p ∈ rows, Lst w p.1
  s : ∀ p ∈ rows, p.1.length ≤ 200
  a : ∀ p ∈ rows, ∀ u, Wd w u → acc p.1 (start p.1) u = dueB p.2 (acc f (start f) u) (acc g (start g) u)
abbrev REs := Option Sl × Option Sl
def reE (al v : List Nat) (rs : List D) (f g : Fm) (a b : Bool) (s : REs) : Slots := [some (.d (.str al)), some (.d (.str v)), some (.d (.lst rs)), some (.d (fD f)), some (.d (fD g)), some (.d (.bl a)), some (.d (.bl b)), s.1, s.2]
def REin : MS := (mSeq (mSet 8 (mAndV (mCall g__law_is_text (mCons (mVar 0) (mCons (mVar 1) mNil))) (mCall g__law_due (mCons (m2 fIx (mBor 7) (mC (.int 1))) (mCons (mVar 5) (mCons (mVar 6) mNil))))))
    (mSeq (mIf (mT (m2 fNe (m2 (fInO "TextSet" g_TextSet___contains__) (mVar 1) (m2 fIx (mBor 7) (mC (.int 0)))) (mBor 8)))
      (mRet (mC (.bl false)))
      mNext)
    (mIf (mNot (mT (mCall g__law_same_state (mCons (mMeth "TextSet" "state_after" g_TextSet_state_after (m2 fIx (mBor 7) (mC (.int 0))) (mCons (mVar 1) mNil)) (mCons (mCall g__law_state (mCons (mVar 0) (mCons (mFld "TextSet" "form" (m2 fIx (mBor 7) (mC (.int 0)))) (mCons (mVar 1) mNil)))) mNil)))))
      (mRet (mC (.bl false)))
      mNext)))
theorem reads_split : m__law_reads = (mSeq (mSet 5 (mCall g__law_ends (mCons (mVar 3) (mCons (mCall g__law_state (mCons (mVar 0) (mCons (mVar 3) (mCons (mVar 1) mNil)))) mNil))))
  (mSeq (mSet 6 (mCall g__law_ends (mCons (mVar 4) (mCons (mCall g__law_state (mCons (mVar 0) (mCons (mVar 4) (mCons (mVar 1) mNil)))) mNil))))
  (mSeq (mFor (mItems (mVar 2)) (gN 7) REin)
  (mRet (mC (.bl true)))))) := rfl
theorem reads_eq {al v : List Nat} {f g : Fm} (of : Ok al.length f) (og : Ok al.length g) {rows : List (Fm × Nat)} (hr : Rows al.length f g rows) :
    g__law_reads [.str al, .str v, .lst (rows.map (rwD al)), fD f, fD g] = some (.d (.bl true)) := by
  have hf := inR_stepsC of al v (start f) (start_in f)
  have hg := inR_stepsC og al v (start g) (start_in g)
  have hw := for_all (reE al v (rows.map (rwD al)) f g (stops f (stepsC al f (start f) v)) (stops g (stepsC al g (start g) v))) (mg := gN 7) (b := REin) (fun _ => True) (xs := rows.map (rwD al)) (s := (none, none)) trivial (by
    intro x hx s _
    obtain ⟨⟨A, k⟩, hp, rfl⟩ := List.mem_map.mp hx
    have lA : Lst al.length A := hr.l _ hp
    have aA := hr.a _ hp
    have hk : k < 9 := hr.k _ hp
    simp only at aA
    have key : stops A (stepsC al A (start A) v) = (isT al v && dueB k (stops f (stepsC al f (start f) v)) (stops g (stepsC al g (start g) v))) := by
      cases ht : isT al v with
      | false => rw [stepsC_not A v _ ht]; rfl
      | true =>
        obtain ⟨e1, e2⟩ := stepsC_text A v (start A) ht
        rw [e1, (stepsC_text f v (start f) ht).1, (stepsC_text g v (start g) ht).1, ← acc_runs, ← acc_runs, ← acc_runs, aA _ e2]
        rfl
    refine ⟨_, (some (.d (rwD al (A, k))), some (.d (.bl (stops A (stepsC al A (start A) v))))), rfl, ?_, trivial⟩
    have q1 := v_callR (is_text_eq al v)
    have q2 := v_callR (due_eq k hk (stops f (stepsC al f (start f) v)) (stops g (stepsC al g (start g) v)))
    have q3 := ts_inO lA.ok v
    have q4 := ts_after lA.ok v
    have q5 := v_callR (same_state_eq (stepsC al A (start A) v))
    have q6 := v_callR (state_eq lA.ok v)
    have q7 := ts_form al A
    have q8 : fIx (rwD al (A, k)) (.int 0) = some (tsD al A) := at0 _ _
    have q9 : fIx (rwD al (A, k)) (.int 1) = some (.int (k : Int)) := at1 _ _ _
    have q10 : ∀ b : Bool, fNe (.bl b) (.bl b) = some (.bl false) := by intro b; cases b <;> rfl
    unfold reE REin
    simp only
    generalize rwD al (A, k) = x at *
    clear hr hp hx lA aA hk hf hg of og
    rw [key]
    rw [key] at q3
    clear key
    generalize isT al v = t at *
    cases t
    · simp only [Bool.false_and] at q3 ⊢
      walk_at "evh"
    · simp only [Bool.true_and] at q3 ⊢
      walk_at "evh")
  obtain ⟨s, h1, _⟩ := hw
  unfold reE at h1
  unfold g__law_reads
  rw [reads_split, r_g (by rfl)]
  have q1 := v_callR (state_eq of v)
  have q2 := v_callR (state_eq og v)
  have q3 := v_callR (ends_eq hf)
  have q4 := v_callR (ends_eq hg)
  clear hf hg of og hr
  walk_at "evh"
/-! the other alphabet -/
theorem lc_zero {j : Nat} {ρ : Slots} : ∀ l : List Nat, lcGo j mYes (mC (.int 0)) ρ (l.map fun c => D.str [c]) = some (List.replicate l.length (D.int 0))
  | [] => rfl
  | c :: l => by
    rw [List.map_cons]
    unfold lcGo
    rw [show mC (D.int 0) (ρ.set j (some (.d (.str [c])))) = some (D.int 0) from rfl]
    simp only [mYes, lc_zero l]
    rfl
noncomputable def OAin : MS := (mSeq (mIf (mNot (mT (mCall g__law_differ (mCons (mVar 2) (mCons (mVar 6) (mCons (mVar 7) (mCons (mF (mLst (mCons (mVar 1) (mCons (mVar 4) mNil)))) mNil)))))))
      (mRet (mC (.bl false)))
      mNext)
    (mIf (mNot (mT (mCall g__law_differ (mCons (mVar 6) (mCons (mVar 2) (mCons (mVar 7) (mCons (mF (mLst (mCons (mVar 4) (mCons (mVar 1) mNil)))) mNil)))))))
      (mRet (mC (.bl false)))
      mNext))
noncomputable def OAend : MS := (mSeq (mSet 6 (mMake "TextSet" g_TextSet___init__ (mCons (mVar 4) (mCons (mVar 5) mNil))))
  (mSeq (mFor (mRng1 (mCons (mC (.int 3)) mNil)) (gN 7) OAin)
  (mRet (mC (.bl true)))))
theorem other_split : m__law_other_alphabet = (mSeq (mSet 3 (mCall g__law_digits (mCons (mCall g__law_cell (mCons (mVar 0) (mCons (mC (.int 25)) mNil))) (mCons (m2 fAdd (mF (mLst (mCons (mC (.int 6)) (mCons (mC (.int 3)) mNil)))) (mF (mLst (mCons (mC (.int 26)) (mCons (mC (.int 25)) (mCons (mC (.int 24)) (mCons (mC (.int 23)) (mCons (mC (.int 22)) (mCons (mC (.int 21)) mNil))))))))) mNil))))
  (mSeq (mSet 4 (mCall g__law_letters (mCons (mVar 3) (mCons (mC (.int 2)) (mCons (m2 fAdd (mC (.int 1)) (m2 fIx (mBor 3) (mC (.int 0)))) mNil)))))
  (mSeq (mSet 5 (mTup mNil))
  (mSeq (mIf (mT (m2 fLt (m2 fIx (mBor 3) (mC (.int 1))) (mC (.int 2))))
    (mSet 5 (mTup (mCons (mTup (mCons (mC (.bl true)) (mCons (mCB fTuple (mCons (mF (mLc (mItems (mVar 4)) 8 mYes (mC (.int 0)))) mNil)) mNil))) mNil)))
    mNext) OAend)))) := rfl
def oaE (x0 x3 x5 : D) (al al2 : List Nat) (f g : Fm) (s : Option Sl) : Slots := [some (.d x0), some (.d (.str al)), some (.d (tsD al f)), some (.d x3), some (.d (.str al2)), some (.d x5), some (.d (tsD al2 g)), s, none]
theorem oa_end {al al2 : List Nat} {f g0 : Fm} (ha : Alp al) (ha2 : Alp al2) (lf : Lst al.length f) (hs : f.length ≤ 1000) (og : Ok al2.length g0) (hg : g0.length ≤ 1000) (x0 x3 : D) :
    OAend [some (.d x0), some (.d (.str al)), some (.d (tsD al f)), some (.d x3), some (.d (.str al2)), some (.d (fD g0)), none, none, none] = .ret (.d (.bl true)) := by
  obtain ⟨g, g1, g2, g3, _⟩ := ts_make ha2 og (fD g0) (.inr rfl)
  have hb1 : (f.length + 1) * (g.length + 1) ≤ 16000000 := Nat.le_trans (Nat.mul_le_mul (Nat.add_le_add_right hs 1) (Nat.add_le_add_right (Nat.le_trans g3 hg) 1)) (by decide)
  have hb2 : (g.length + 1) * (f.length + 1) ≤ 16000000 := by rw [Nat.mul_comm]; exact hb1
  obtain ⟨s, h1, _⟩ := for_all (oaE x0 x3 (fD g0) al al2 f g) (mg := gN 7) (b := OAin) (fun _ => True) (xs := rngD 0 3) (s := none) trivial (by
    intro x hx s _
    unfold rngD at hx
    obtain ⟨k, hk, rfl⟩ := List.mem_map.mp hx
    have hk := List.mem_range.mp hk
    have q1 := v_callR (differ_eq ha ha2 lf g2 hb1 k hk)
    have q2 := v_callR (differ_eq ha2 ha g2 lf hb2 k hk)
    refine ⟨_, some (.d (.int (k : Int))), rfl, ?_, trivial⟩
    have e : (0 + (k : Int)) = (k : Int) := by omega
    rw [e]
    have z2 : (0 + 1 + 1 : Nat) ≤ sizeLine := by decide
    show OAin [some (.d x0), some (.d (.str al)), some (.d (tsD al f)), some (.d x3), some (.d (.str al2)), some (.d (fD g0)), some (.d (tsD al2 g)), some (.d (.int (k : Int))), none] = .nx [some (.d x0), some (.d (.str al)), some (.d (tsD al f)), some (.d x3), some (.d (.str al2)), some (.d (fD g0)), some (.d (tsD al2 g)), some (.d (.int (k : Int))), none]
    unfold OAin
    clear hx hk e hb1 hb2 lf g2 ha ha2
    walk_at "evh")
  unfold oaE at h1
  have q9 := v_rngN (n := 3) (by decide)
  have q9 : oRng1 (some [D.int 3]) = some (rngD 0 3) := q9
  unfold OAend
  generalize rngD 0 3 = r3 at h1 q9
  clear hb1 hb2 lf g2 ha ha2 hs og hg g3
  walk_at "evh"
theorem other_eq (ns : List Int) {al : List Nat} {f : Fm} (ha : Alp al) (lf : Lst al.length f) (hs : f.length ≤ 1000) : g__law_other_alphabet [.lsk (ns.map .int), .str al, tsD al f] = some (.d (.bl true)) := by
  obtain ⟨c, hc⟩ := cell_ok ns 25 (by decide)
  have hc : g__law_cell [.lsk (ns.map .int), .int 25] = some (.d (.int c)) := hc
  obtain ⟨row, hr1, hr2, hr3⟩ := digits_ok c [6, 3, 26, 25, 24, 23, 22, 21] (by
    intro z hz
    simp only [List.mem_cons, List.not_mem_nil, or_false] at hz; omega) (by decide)
  have hr2 : row.length = 8 := hr2
  obtain ⟨d0, hd0, d0a, d0b⟩ := dig hr3 hr2 (j := 0) (z := 6) (by rfl)
  obtain ⟨d1, hd1, d1a, d1b⟩ := dig hr3 hr2 (j := 1) (z := 3) (by rfl)
  have i0 : atI (row.map D.int) 0 = some (.int d0) := ix_map (k := 0) hd0
  have i1 : atI (row.map D.int) 1 = some (.int d1) := ix_map (k := 1) hd1
  obtain ⟨al2, k1, ha2, k3⟩ := letters_ok row 2 (1 + d0.toNat) (by omega) (by omega) (by omega)
  have k1 : g__law_letters [.lst (row.map .int), .int 2, .int (1 + d0)] = some (.d (.str al2)) := by
    have e : ((1 + d0.toNat : Nat) : Int) = 1 + d0 := by omega
    rw [e] at k1
    exact k1
  have hw1 : Ok al2.length ([] : Fm) := ⟨fun i b r h => by simp at h, fun i b r j h => by simp at h, by decide, by have := ha2.six; omega⟩
  have hw2 : Ok al2.length ([(true, List.replicate al2.length (some 0))] : Fm) := ⟨fun i b r h => by
      cases i with
      | zero => cases h; exact List.length_replicate
      | succ i => simp at h, fun i b r j h hj => by
      cases i with
      | zero => cases h; have := List.eq_of_mem_replicate hj; cases this; exact Nat.zero_lt_one
      | succ i => simp at h, by rw [List.length_singleton]; decide, by have := ha2.six; omega⟩
  have f1 := oa_end ha ha2 lf hs hw1 (by decide) (.lsk (ns.map .int)) (.lst (row.map .int))
  have f2 := oa_end ha ha2 lf hs hw2 (by rw [List.length_singleton]; decide) (.lsk (ns.map .int)) (.lst (row.map .int))
  have n1 : fD [] = .tup [] := rfl
  have n2 : fD ([(true, List.replicate al2.length (some 0))] : Fm) = .tup [.tup [.bl true, .tup (List.replicate al2.length (.int 0))]] := by
    show D.tup [D.tup [D.bl true, D.tup ((List.replicate al2.length (some 0)).map oD)]] = _
    rw [List.map_replicate]
    rfl
  rw [n1] at f1
  rw [n2] at f2
  have l0 := fun ρ => lc_zero (j := 8) (ρ := ρ) al2
  have ll : (List.replicate al2.length (D.int 0)).length ≤ sizeLine := by
    rw [List.length_replicate]
    exact sl_ok _ (by have := ha2.six; omega)
  have lm : (al2.map fun c => D.str [c]).length ≤ sizeLine := by
    rw [List.length_map]
    exact sl_ok _ (by have := ha2.six; omega)
  have tt : fTuple [.lst (List.replicate al2.length (D.int 0))] = some (.tup (List.replicate al2.length (D.int 0))) := rfl
  have p1 := v_callR hc
  have p2 : oCall g__law_digits (some [.int c, .lst [.int 6, .int 3, .int 26, .int 25, .int 24, .int 23, .int 22, .int 21]]) = some (.lst (row.map .int)) := (v_call hr1).trans rfl
  have p3 := v_callR k1
  have p4 : fAdd (.lst [.int 6, .int 3]) (.lst [.int 26, .int 25, .int 24, .int 23, .int 22, .int 21]) = some (.lst [.int 6, .int 3, .int 26, .int 25, .int 24, .int 23, .int 22, .int 21]) := fAdd_lst (by decide)
  have z2 : (0 + 1 + 1 : Nat) ≤ sizeLine := by decide
  have z6 : (0 + 1 + 1 + 1 + 1 + 1 + 1 : Nat) ≤ sizeLine := by decide
  unfold g__law_other_alphabet
  rw [other_split, r_g3]
  clear hr1 hr2 hr3 hd0 hd1 k1 k3 ha ha2 lf hs hw1 hw2 n1 n2 hc
  generalize List.replicate al2.length (D.int 0) = rp at *
  by_cases h : d1 < 2
  · have e : decide (d1 < 2) = true := decide_eq_true h
    clear h
    walk_at "evh"
  · have e : decide (d1 < 2) = false := decide_eq_false h
    clear h
    walk_at "evh"
end K01
namespace K01
open PySem L2 R F
def LFin : MS := (mIf (mNot (mT (mCall g__law_fits (mCons (mVar 3) (mCons (m2 fIx (mBor 10) (mC (.int 0))) (mCons (mVar 5) (mCons (mVar 6) (mCons (m2 fIx (mBor 10) (mC (.int 1))) mNil))))))))
      (mRet (mC (.bl false)))
      mNext)
noncomputable def LSin : MS := (mSeq (mSet 14 (mCall g__law_string (mCons (mVar 3) (mCons (m2 fIx (mF (mLst (mCons (mVar 5) (mCons (mVar 6) mNil)))) (m2 fDiv (mBor 12) (mC (.int 2)))) (mCons (mCall g__law_cell (mCons (mVar 0) (mCons (m2 fAdd (mC (.int 21)) (mBor 12)) mNil))) mNil)))))
    (mIf (mNot (mT (mCall g__law_reads (mCons (mVar 3) (mCons (mVar 14) (mCons (mVar 9) (mCons (mVar 5) (mCons (mVar 6) mNil))))))))
      (mRet (mC (.bl false)))
      mNext))
noncomputable def LA4 : MS :=
  (mSeq (mSet 13 (mF (mLst (mCons (m2 (fBin "TextSet" g_TextSet___or__) (mVar 7) (mVar 8)) (mCons (m2 (fBin "TextSet" g_TextSet___and__) (mVar 7) (mVar 8)) (mCons (m2 (fBin "TextSet" g_TextSet___sub__) (mVar 7) (mVar 8)) (mCons (m1 (fUn "TextSet" g_TextSet___invert__) (mVar 7)) mNil)))))))
  (mSeq (mIf (mOr (mT (m2 fNe (mF (mLc (mItems (mVar 13)) 15 mYes (mFld "TextSet" "form" (mVar 15)))) (mSl (mBor 11) mNo (mPart (mC (.int 4)))))) (mT (m2 fNe (mF (mLc (mItems (mVar 9)) 10 mYes (mFld "TextSet" "form" (m2 fIx (mBor 10) (mC (.int 0)))))) (mBor 11))))
    (mRet (mC (.bl false)))
    mNext)
  (mRet (mAndV (m2 fEq (mFld "TextSet" "alphabet" (mVar 7)) (mBor 3)) (m2 fEq (mFld "TextSet" "alphabet" (mVar 8)) (mBor 3))))))
noncomputable def LA3 : MS :=
  (mSeq (mFor (mRng1 (mCons (mC (.int 4)) mNil)) (gN 12) LSin)
  LA4)
noncomputable def LA2 : MS :=
  (mSeq (mFor (mItems (mVar 9)) (gN 10) LFin)
  (mSeq (mSetF 11 (mLc (mItems (mVar 9)) 10 mYes (mFld "TextSet" "form" (m2 fIx (mBor 10) (mC (.int 0))))))
  (mSeq (mIf (mNot (mT (mCall g__law_other_alphabet (mCons (mVar 0) (mCons (mVar 3) (mCons (mVar 7) mNil))))))
    (mRet (mC (.bl false)))
    mNext)
  LA3)))
noncomputable def LA1 : MS :=
  (mSeq (mSet 7 (mMake "TextSet" g_TextSet___init__ (mCons (mVar 3) (mCons (mVar 5) mNil))))
  (mSeq (mSet 8 (mMake "TextSet" g_TextSet___init__ (mCons (mVar 3) (mCons (mVar 6) mNil))))
  (mSeq (mSet 9 (mF (mLst (mCons (mF (mLst (mCons (m2 (fBin "TextSet" g_TextSet___or__) (mVar 7) (mVar 8)) (mCons (mC (.int 0)) mNil)))) (mCons (mF (mLst (mCons (m2 (fBin "TextSet" g_TextSet___and__) (mVar 7) (mVar 8)) (mCons (mC (.int 1)) mNil)))) (mCons (mF (mLst (mCons (m2 (fBin "TextSet" g_TextSet___sub__) (mVar 7) (mVar 8)) (mCons (mC (.int 2)) mNil)))) (mCons (mF (mLst (mCons (m1 (fUn "TextSet" g_TextSet___invert__) (mVar 7)) (mCons (mC (.int 3)) mNil)))) (mCons (mF (mLst (mCons (m2 (fBin "TextSet" g_TextSet___or__) (mVar 8) (mVar 7)) (mCons (mC (.int 0)) mNil)))) (mCons (mF (mLst (mCons (m2 (fBin "TextSet" g_TextSet___and__) (mVar 8) (mVar 7)) (mCons (mC (.int 1)) mNil)))) mNil)))))))))
  (mSeq (mSet 9 (m2 fAdd (mBor 9) (mF (mLst (mCons (mF (mLst (mCons (m2 (fBin "TextSet" g_TextSet___sub__) (mVar 8) (mVar 7)) (mCons (mC (.int 4)) mNil)))) (mCons (mF (mLst (mCons (m1 (fUn "TextSet" g_TextSet___invert__) (mVar 8)) (mCons (mC (.int 5)) mNil)))) (mCons (mF (mLst (mCons (mVar 7) (mCons (mC (.int 6)) mNil)))) (mCons (mF (mLst (mCons (mVar 8) (mCons (mC (.int 7)) mNil)))) (mCons (mF (mLst (mCons (m2 (fBin "TextSet" g_TextSet___or__) (mVar 7) (mVar 7)) (mCons (mC (.int 6)) mNil)))) (mCons (mF (mLst (mCons (m2 (fBin "TextSet" g_TextSet___and__) (mVar 8) (mVar 8)) (mCons (mC (.int 7)) mNil)))) (mCons (mF (mLst (mCons (m2 (fBin "TextSet" g_TextSet___sub__) (mVar 7) (mVar 7)) (mCons (mC (.int 8)) mNil)))) mNil)))))))))))
  LA2))))
theorem law_split : m_law =
  (mSeq (mSet 1 (mCall g__law_digits (mCons (mCall g__law_cell (mCons (mVar 0) (mCons (mC (.int 0)) mNil))) (mCons (m2 fAdd (mF (mLst (mCons (mC (.int 16)) (mCons (mC (.int 10)) (mCons (mC (.int 16)) (mCons (mC (.int 10)) (mCons (mC (.int 8)) (mCons (mC (.int 6)) (mCons (mC (.int 4)) (mCons (mC (.int 2)) (mCons (mC (.int 5)) (mCons (mC (.int 5)) mNil)))))))))))) (mF (mLst (mCons (mC (.int 26)) (mCons (mC (.int 25)) (mCons (mC (.int 24)) (mCons (mC (.int 23)) (mCons (mC (.int 22)) (mCons (mC (.int 21)) mNil))))))))) mNil))))
  (mSeq (mSet 2 (m2 fIx (mF (mLst (mCons (mC (.int 2)) (mCons (mC (.int 2)) (mCons (mC (.int 3)) (mCons (mC (.int 1)) (mCons (mC (.int 2)) (mCons (mC (.int 3)) (mCons (mC (.int 2)) (mCons (m2 fAdd (mC (.int 1)) (m2 fIx (mBor 1) (mC (.int 5)))) mNil)))))))))) (m2 fIx (mBor 1) (mC (.int 4)))))
  (mSeq (mSet 3 (mCall g__law_letters (mCons (mVar 1) (mCons (mC (.int 10)) (mCons (mVar 2) mNil)))))
  (mSeq (mSet 4 (mF (mLst (mCons (mC (.int 3)) (mCons (mC (.int 4)) (mCons (mC (.int 2)) (mCons (mC (.int 5)) (mCons (mC (.int 3)) (mCons (mC (.int 4)) (mCons (mC (.int 6)) (mCons (mC (.int 3)) (mCons (mC (.int 5)) (mCons (mC (.int 2)) (mCons (mC (.int 4)) (mCons (mC (.int 7)) (mCons (mC (.int 5)) (mCons (mC (.int 1)) (mCons (mC (.int 0)) mNil))))))))))))))))))
  (mSeq (mSet 5 (mCall g__law_filled (mCons (mCall g__law_form (mCons (mVar 0) (mCons (mC (.int 2)) (mCons (m2 fIx (m2 fAdd (mBor 4) (mF (mLst (mCons (m2 fIx (mBor 1) (mC (.int 1))) mNil)))) (m2 fIx (mBor 1) (mC (.int 0)))) (mCons (mVar 2) (mCons (mC (.bl false)) mNil)))))) (mCons (m2 fIx (mBor 1) (mC (.int 8))) mNil))))
  (mSeq (mSet 6 (mCall g__law_filled (mCons (mCall g__law_form (mCons (mVar 0) (mCons (mC (.int 11)) (mCons (m2 fIx (m2 fAdd (mBor 4) (mF (mLst (mCons (m2 fIx (mBor 1) (mC (.int 3))) mNil)))) (m2 fIx (mBor 1) (mC (.int 2)))) (mCons (mVar 2) (mCons (m2 fEq (m2 fIx (mBor 1) (mC (.int 7))) (mC (.int 1))) mNil)))))) (mCons (m2 fIx (mBor 1) (mC (.int 9))) mNil))))
  (mSeq (mIf (mT (m2 fEq (m2 fIx (mBor 1) (mC (.int 6))) (mC (.int 3))))
    (mSet 6 (mCall g__law_changed (mCons (mVar 5) (mCons (mVar 2) (mCons (mCall g__law_cell (mCons (mVar 0) (mCons (mC (.int 20)) mNil))) mNil)))))
    mNext)
  LA1))))))) := rfl
theorem lc_enc {α : Type} (enc enc' : α → D) {j : Nat} {me : ME} {ρ : Slots} : ∀ l : List α, (∀ x ∈ l, me (ρ.set j (some (.d (enc x)))) = some (enc' x)) → lcGo j mYes me ρ (l.map enc) = some (l.map enc')
  | [], _ => rfl
  | x :: l, h => by
    rw [List.map_cons]
    unfold lcGo
    simp only [mYes, h x List.mem_cons_self, lc_enc enc enc' l (fun y hy => h y (List.mem_cons_of_mem _ hy))]
    rfl
def fsD (p : Fm × Nat) : D := fD p.1
theorem rw_0 (al : List Nat) (p : Fm × Nat) : fIx (rwD al p) (.int 0) = some (tsD al p.1) := at0 _ _
theorem rw_1 (al : List Nat) (p : Fm × Nat) : fIx (rwD al p) (.int 1) = some (.int (p.2 : Int)) := at1 _ _ _
/-- the end of the law -/
theorem la4 {al : List Nat} {F G A1 A2 A3 A4 : Fm} {rest : List (Fm × Nat)} (x0 x1 x2 x4 x5 x6 : D) (x10 x12 x13 x14 : Option Sl)
    (b1 : fBin "TextSet" g_TextSet___or__ (tsD al F) (tsD al G) = some (tsD al A1)) (b2 : fBin "TextSet" g_TextSet___and__ (tsD al F) (tsD al G) = some (tsD al A2))
    (b3 : fBin "TextSet" g_TextSet___sub__ (tsD al F) (tsD al G) = some (tsD al A3)) (b4 : fUn "TextSet" g_TextSet___invert__ (tsD al F) = some (tsD al A4)) (hl : rest.length ≤ 1000) :
    LA4 [some (.d x0), some (.d x1), some (.d x2), some (.d (.str al)), some (.d x4), some (.d x5), some (.d x6), some (.d (tsD al F)), some (.d (tsD al G)), some (.d (.lst (((A1, 0) :: (A2, 1) :: (A3, 2) :: (A4, 3) :: rest).map (rwD al)))), x10, some (.own (.lst (((A1, 0) :: (A2, 1) :: (A3, 2) :: (A4, 3) :: rest).map fsD))), x12, none, x14, none] = .ret (.d (.bl true)) := by
  have z4 : (0 + 1 + 1 + 1 + 1 : Nat) ≤ sizeLine := by decide
  obtain ⟨rows, hrows⟩ : ∃ r, r = ((A1, 0) :: (A2, 1) :: (A3, 2) :: (A4, 3) :: rest) := ⟨_, rfl⟩
  have hlen : rows.length ≤ 2000 := by rw [hrows]; simp only [List.length_cons]; omega
  have sl : fSl (.lst (rows.map fsD)) none (some 4) = some (.lst ([A1, A2, A3, A4].map fD)) := by
    have e1 : cutL (rows.map fsD) none (some ((4 : Nat) : Int)) = (rows.map fsD).take 4 := cut_take _ 4 (by rw [hrows, List.length_map]; simp only [List.length_cons]; omega)
    have e2 : fSl (.lst (rows.map fsD)) none (some 4) = some (.lst (cutL (rows.map fsD) none (some ((4 : Nat) : Int)))) := rfl
    rw [e2, e1, hrows]
    rfl
  have n1 : fNe (.lst ([A1, A2, A3, A4].map fD)) (.lst ([A1, A2, A3, A4].map fD)) = some (.bl false) := by
    have := eqt_f.lst.ne (by decide) [A1, A2, A3, A4] [A1, A2, A3, A4] rfl
    rw [decide_eq_true rfl] at this
    exact this
  have n2 : fNe (.lst (rows.map fsD)) (.lst (rows.map fsD)) = some (.bl false) := by
    have e : rows.map fsD = (rows.map (·.1)).map fD := by rw [List.map_map]; rfl
    rw [e]
    have := eqt_f.lst.ne (by decide) (rows.map (·.1)) (rows.map (·.1)) rfl
    rw [decide_eq_true rfl] at this
    exact this
  rw [← hrows]
  have l1 := lc_enc (tsD al) fD (j := 15) (me := mFld "TextSet" "form" (mVar 15)) (ρ := [some (.d x0), some (.d x1), some (.d x2), some (.d (.str al)), some (.d x4), some (.d x5), some (.d x6), some (.d (tsD al F)), some (.d (tsD al G)), some (.d (.lst (rows.map (rwD al)))), x10, some (.own (.lst (rows.map fsD))), x12, some (.d (.lst [tsD al A1, tsD al A2, tsD al A3, tsD al A4])), x14, none]) [A1, A2, A3, A4] (by
    intro x _
    have := ts_form al x
    clear n1 n2 sl hrows hlen hl
    walk_at "evh")
  have l1 : lcGo 15 mYes (mFld "TextSet" "form" (mVar 15)) [some (.d x0), some (.d x1), some (.d x2), some (.d (.str al)), some (.d x4), some (.d x5), some (.d x6), some (.d (tsD al F)), some (.d (tsD al G)), some (.d (.lst (rows.map (rwD al)))), x10, some (.own (.lst (rows.map fsD))), x12, some (.d (.lst [tsD al A1, tsD al A2, tsD al A3, tsD al A4])), x14, none] [tsD al A1, tsD al A2, tsD al A3, tsD al A4] = some ([A1, A2, A3, A4].map fD) := l1
  have l2 := lc_enc (rwD al) fsD (j := 10) (me := (mFld "TextSet" "form" (m2 fIx (mBor 10) (mC (.int 0))))) (ρ := [some (.d x0), some (.d x1), some (.d x2), some (.d (.str al)), some (.d x4), some (.d x5), some (.d x6), some (.d (tsD al F)), some (.d (tsD al G)), some (.d (.lst (rows.map (rwD al)))), none, some (.own (.lst (rows.map fsD))), x12, some (.d (.lst [tsD al A1, tsD al A2, tsD al A3, tsD al A4])), x14, none]) rows (by
    intro x _
    have q1 := rw_0 al x
    have q2 : fldD "TextSet" "form" (tsD al x.1) = some (fsD x) := ts_form al x.1
    clear n1 n2 sl hrows hlen hl l1
    walk_at "evh")
  have ll : (rows.map (rwD al)).length ≤ sizeLine := by rw [List.length_map]; exact sl_ok _ (by omega)
  have lf : (rows.map fsD).length ≤ sizeLine := by rw [List.length_map]; exact sl_ok _ (by omega)
  have l4 : ([A1, A2, A3, A4].map fD).length ≤ sizeLine := by show 4 ≤ sizeLine; decide
  have t1 := ts_al al F
  have t2 := ts_al al G
  have t3 : fEq (.str al) (.str al) = some (.bl true) := by rw [fEq_str]; simp
  unfold LA4
  generalize [A1, A2, A3, A4].map fD = q4 at *
  generalize rows.map fsD = qr at *
  generalize rows.map (rwD al) = qw at *
  clear hrows hl hlen
  walk_at "evh"
end K01
namespace K01
open PySem L2 R F
def lsE (ns : List Int) (al : List Nat) (f g F G : Fm) (x1 x2 x4 : D) (rs : List D) (x10 x11 : Option Sl) (s : Option Sl × Option Sl) : Slots := [some (.d (.lsk (ns.map .int))), some (.d x1), some (.d x2), some (.d (.str al)), some (.d x4), some (.d (fD f)), some (.d (fD g)), some (.d (tsD al F)), some (.d (tsD al G)), some (.d (.lst rs)), x10, x11, s.1, none, s.2, none]
theorem ls_in (ns : List Int) {al : List Nat} {f g F G : Fm} (ha : Alp al) (of : Ok al.length f) (og : Ok al.length g) {rows : List (Fm × Nat)} (hr : Rows al.length f g rows) (x1 x2 x4 : D) (x10 x11 x14 : Option Sl) (k : Nat) (hk : k < 4) :
    ∃ s', LSin [some (.d (.lsk (ns.map .int))), some (.d x1), some (.d x2), some (.d (.str al)), some (.d x4), some (.d (fD f)), some (.d (fD g)), some (.d (tsD al F)), some (.d (tsD al G)), some (.d (.lst (rows.map (rwD al)))), x10, x11, some (.d (.int (k : Int))), none, x14, none] = .nx (lsE ns al f g F G x1 x2 x4 (rows.map (rwD al)) x10 x11 s') := by
  obtain ⟨c, hc⟩ := cell_ok ns (21 + k) (by omega)
  have z2 : (0 + 1 + 1 : Nat) ≤ sizeLine := by decide
  have ix : ∃ h, Ok al.length h ∧ (∃ i : Int, fDiv (.int (k : Int)) (.int 2) = some (.int i) ∧ atI [fD f, fD g] i = some (fD h)) := by
    have k4 : k = 0 ∨ k = 1 ∨ k = 2 ∨ k = 3 := by omega
    rcases k4 with rfl | rfl | rfl | rfl
    · exact ⟨f, of, 0, by rfl, rfl⟩
    · exact ⟨f, of, 0, by rfl, rfl⟩
    · exact ⟨g, og, 1, by rfl, rfl⟩
    · exact ⟨g, og, 1, by rfl, rfl⟩
  obtain ⟨h, oh, i, d1, d2⟩ := ix
  obtain ⟨v, hv⟩ := string_ok ha oh c
  have q1 := v_callR hv
  have q2 := v_callR hc
  rw [show ((21 + k : Nat) : Int) = 21 + (k : Int) by omega] at q2
  have q3 := v_callR (reads_eq (v := v) of og hr)
  refine ⟨(some (.d (.int (k : Int))), some (.d (.str v))), ?_⟩
  unfold lsE LSin
  simp only
  generalize rows.map (rwD al) = rs at *
  clear hr hv hc hk of og oh ha
  walk_at "evh"
theorem la3 (ns : List Int) {al : List Nat} {f g F G A1 A2 A3 A4 : Fm} {rest : List (Fm × Nat)} (ha : Alp al) (of : Ok al.length f) (og : Ok al.length g) (hr : Rows al.length f g ((A1, 0) :: (A2, 1) :: (A3, 2) :: (A4, 3) :: rest)) (x1 x2 x4 : D) (x10 : Option Sl)
    (b1 : fBin "TextSet" g_TextSet___or__ (tsD al F) (tsD al G) = some (tsD al A1)) (b2 : fBin "TextSet" g_TextSet___and__ (tsD al F) (tsD al G) = some (tsD al A2))
    (b3 : fBin "TextSet" g_TextSet___sub__ (tsD al F) (tsD al G) = some (tsD al A3)) (b4 : fUn "TextSet" g_TextSet___invert__ (tsD al F) = some (tsD al A4)) (hl : rest.length ≤ 1000) :
    LA3 [some (.d (.lsk (ns.map .int))), some (.d x1), some (.d x2), some (.d (.str al)), some (.d x4), some (.d (fD f)), some (.d (fD g)), some (.d (tsD al F)), some (.d (tsD al G)), some (.d (.lst (((A1, 0) :: (A2, 1) :: (A3, 2) :: (A4, 3) :: rest).map (rwD al)))), x10, some (.own (.lst (((A1, 0) :: (A2, 1) :: (A3, 2) :: (A4, 3) :: rest).map fsD))), none, none, none, none] = .ret (.d (.bl true)) := by
  have h4 := fun x12 x14 => la4 (.lsk (ns.map .int)) x1 x2 x4 (fD f) (fD g) x10 x12 none x14 b1 b2 b3 b4 hl
  clear b1 b2 b3 b4 hl
  generalize ((A1, 0) :: (A2, 1) :: (A3, 2) :: (A4, 3) :: rest) = rows at *
  obtain ⟨⟨s1, s2⟩, h1, _⟩ := for_all (lsE ns al f g F G x1 x2 x4 (rows.map (rwD al)) x10 (some (.own (.lst (rows.map fsD))))) (mg := gN 12) (b := LSin) (fun _ => True) (xs := rngD 0 4) (s := (none, none)) trivial (by
    intro x hx s _
    unfold rngD at hx
    obtain ⟨k, hk, rfl⟩ := List.mem_map.mp hx
    have hk := List.mem_range.mp hk
    have e : (0 + (k : Int)) = (k : Int) := by omega
    rw [e]
    obtain ⟨s', hs'⟩ := ls_in ns (F := F) (G := G) ha of og hr x1 x2 x4 x10 (some (.own (.lst (rows.map fsD)))) s.2 k hk
    exact ⟨_, s', rfl, hs', trivial⟩)
  unfold lsE at h1
  simp only at h1
  have q9 : oRng1 (some [D.int 4]) = some (rngD 0 4) := v_rngN (n := 4) (by decide)
  generalize rngD 0 4 = r4 at h1 q9
  generalize rows.map (rwD al) = rs at *
  generalize rows.map fsD = fs at *
  have h5 := h4 s1 s2
  unfold LA3
  clear ha of og hr h4
  walk_at "evh"
theorem la2 (ns : List Int) {al : List Nat} {f g F G A1 A2 A3 A4 : Fm} {rest : List (Fm × Nat)} (ha : Alp al) (of : Ok al.length f) (og : Ok al.length g) (hf : f.length ≤ 20) (hg : g.length ≤ 20) (lF : Lst al.length F) (hF : F.length ≤ 1000) (hr : Rows al.length f g ((A1, 0) :: (A2, 1) :: (A3, 2) :: (A4, 3) :: rest)) (x1 x2 x4 : D)
    (b1 : fBin "TextSet" g_TextSet___or__ (tsD al F) (tsD al G) = some (tsD al A1)) (b2 : fBin "TextSet" g_TextSet___and__ (tsD al F) (tsD al G) = some (tsD al A2))
    (b3 : fBin "TextSet" g_TextSet___sub__ (tsD al F) (tsD al G) = some (tsD al A3)) (b4 : fUn "TextSet" g_TextSet___invert__ (tsD al F) = some (tsD al A4)) (hl : rest.length ≤ 1000) :
    LA2 [some (.d (.lsk (ns.map .int))), some (.d x1), some (.d x2), some (.d (.str al)), some (.d x4), some (.d (fD f)), some (.d (fD g)), some (.d (tsD al F)), some (.d (tsD al G)), some (.d (.lst (((A1, 0) :: (A2, 1) :: (A3, 2) :: (A4, 3) :: rest).map (rwD al)))), none, none, none, none, none, none] = .ret (.d (.bl true)) := by
  have h3 := fun x10 => la3 ns ha of og hr x1 x2 x4 x10 b1 b2 b3 b4 hl
  have hlen : ((A1, 0) :: (A2, 1) :: (A3, 2) :: (A4, 3) :: rest).length ≤ 2000 := by simp only [List.length_cons]; omega
  clear b1 b2 b3 b4 hl
  generalize ((A1, 0) :: (A2, 1) :: (A3, 2) :: (A4, 3) :: rest) = rows at *
  obtain ⟨s1, h1, _⟩ := for_all (fun s : Option Sl => [some (.d (.lsk (ns.map .int))), some (.d x1), some (.d x2), some (.d (.str al)), some (.d x4), some (.d (fD f)), some (.d (fD g)), some (.d (tsD al F)), some (.d (tsD al G)), some (.d (.lst (rows.map (rwD al)))), s, none, none, none, none, none]) (mg := gN 10) (b := LFin) (fun _ => True) (xs := rows.map (rwD al)) (s := none) trivial (by
    intro x hx s _
    obtain ⟨p, hp, rfl⟩ := List.mem_map.mp hx
    have hb : (p.1.length + 1) * ((f.length + 1) * (g.length + 1)) ≤ 16000000 := Nat.le_trans (Nat.mul_le_mul (Nat.add_le_add_right (hr.s p hp) 1) (Nat.mul_le_mul (Nat.add_le_add_right hf 1) (Nat.add_le_add_right hg 1))) (by decide)
    have q1 := v_callR (fits_eq ha (hr.k p hp) (hr.l p hp) of og hb (hr.a p hp))
    have q2 := rw_0 al p
    have q3 := rw_1 al p
    refine ⟨_, some (.d (rwD al p)), rfl, ?_, trivial⟩
    unfold LFin
    generalize rwD al p = x at *
    generalize rows.map (rwD al) = rs at *
    clear hr hb h3 hlen ha of og hf hg lF hF hx hp
    walk_at "evh")
  have l2 := lc_enc (rwD al) fsD (j := 10) (me := (mFld "TextSet" "form" (m2 fIx (mBor 10) (mC (.int 0))))) (ρ := [some (.d (.lsk (ns.map .int))), some (.d x1), some (.d x2), some (.d (.str al)), some (.d x4), some (.d (fD f)), some (.d (fD g)), some (.d (tsD al F)), some (.d (tsD al G)), some (.d (.lst (rows.map (rwD al)))), none, none, none, none, none, none]) rows (by
    intro x _
    have q1 := rw_0 al x
    have q2 : fldD "TextSet" "form" (tsD al x.1) = some (fsD x) := ts_form al x.1
    clear h3 h1 hr hlen ha of og lF
    walk_at "evh")
  have ll : (rows.map (rwD al)).length ≤ sizeLine := by rw [List.length_map]; exact sl_ok _ (by omega)
  have lf : (rows.map fsD).length ≤ sizeLine := by rw [List.length_map]; exact sl_ok _ (by omega)
  have q5 := v_callR (other_eq ns ha lF hF)
  have h5 := h3 s1
  unfold LA2
  generalize rows.map (rwD al) = rs at *
  generalize rows.map fsD = fs at *
  clear h3 hr hlen ha of og lF hf hg hF
  walk_at "evh"
end K01
namespace K01
open PySem L2 R F
theorem Rows.nil {w : Nat} {f g : Fm} : Rows w f g [] := ⟨fun _ h => absurd h List.not_mem_nil, fun _ h => absurd h List.not_mem_nil, fun _ h => absurd h List.not_mem_nil, fun _ h => absurd h List.not_mem_nil⟩
theorem Rows.cons {w k : Nat} {f g A : Fm} {rows : List (Fm × Nat)} (hk : k < 9) (hl : Lst w A) (hs : A.length ≤ 200) (ha : ∀ u, Wd w u → acc A (start A) u = dueB k (acc f (start f) u) (acc g (start g) u)) (r : Rows w f g rows) : Rows w f g ((A, k) :: rows) := by
  refine ⟨fun p hp => ?_, fun p hp => ?_, fun p hp => ?_, fun p hp => ?_⟩
  · rcases List.mem_cons.mp hp with rfl | hp
    · exact hk
    · exact r.k p hp
  · rcases List.mem_cons.mp hp with rfl | hp
    · exact hl
    · exact r.l p hp
  · rcases List.mem_cons.mp hp with rfl | hp
    · exact hs
    · exact r.s p hp
  · rcases List.mem_cons.mp hp with rfl | hp
    · exact ha
    · exact r.a p hp
theorem la1 (ns : List Int) {al : List Nat} {f g : Fm} (ha : Alp al) (of : Ok al.length f) (og : Ok al.length g) (hf : f.length ≤ 9) (hg : g.length ≤ 9) (x1 x2 x4 : D) :
    LA1 [some (.d (.lsk (ns.map .int))), some (.d x1), some (.d x2), some (.d (.str al)), some (.d x4), some (.d (fD f)), some (.d (fD g)), none, none, none, none, none, none, none, none, none] = .ret (.d (.bl true)) := by
  obtain ⟨F, F1, F2, F3, F4⟩ := ts_make ha of (fD f) (.inr rfl)
  obtain ⟨G, G1, G2, G3, G4⟩ := ts_make ha og (fD g) (.inr rfl)
  have bd : ∀ {a b : Nat}, a ≤ 9 → b ≤ 9 → (a + 1) * (b + 1) ≤ 100 := fun h1 h2 => Nat.mul_le_mul (Nat.add_le_add_right h1 1) (Nat.add_le_add_right h2 1)
  have hF : F.length ≤ 9 := Nat.le_trans F3 hf
  have hG : G.length ≤ 9 := Nat.le_trans G3 hg
  have b9 : ∀ {a b c : Nat}, a ≤ 9 → b ≤ 9 → c ≤ (a + 1) * (b + 1) → c ≤ 200 := fun h1 h2 h3 => by have := bd h1 h2; omega
  have b8 : ∀ {a b : Nat}, a ≤ 9 → b ≤ 9 → (a + 1) * (b + 1) ≤ 16000000 := fun h1 h2 => by have := bd h1 h2; omega
  obtain ⟨A1, a11, a12, a13, a14⟩ := ts_op .either ha F2 G2 (b8 hF hG)
  obtain ⟨A2, a21, a22, a23, a24⟩ := ts_op .both ha F2 G2 (b8 hF hG)
  obtain ⟨A3, a31, a32, a33, a34⟩ := ts_op .first ha F2 G2 (b8 hF hG)
  obtain ⟨A4, a41, a42, a43, a44⟩ := ts_inv ha F2 (by omega)
  obtain ⟨A5, a51, a52, a53, a54⟩ := ts_op .either ha G2 F2 (b8 hG hF)
  obtain ⟨A6, a61, a62, a63, a64⟩ := ts_op .both ha G2 F2 (b8 hG hF)
  obtain ⟨A7, a71, a72, a73, a74⟩ := ts_op .first ha G2 F2 (b8 hG hF)
  obtain ⟨A8, a81, a82, a83, a84⟩ := ts_inv ha G2 (by omega)
  obtain ⟨A9, a91, a92, a93, a94⟩ := ts_op .either ha F2 F2 (b8 hF hF)
  obtain ⟨AA, aA1, aA2, aA3, aA4⟩ := ts_op .both ha G2 G2 (b8 hG hG)
  obtain ⟨AB, aB1, aB2, aB3, aB4⟩ := ts_op .first ha F2 F2 (b8 hF hF)
  have rows : Rows al.length f g [(A1, 0), (A2, 1), (A3, 2), (A4, 3), (A5, 0), (A6, 1), (A7, 4), (A8, 5), (F, 6), (G, 7), (A9, 6), (AA, 7), (AB, 8)] := by
    refine .cons (by decide) a12 (b9 hF hG a13) (fun u hu => ?_) (.cons (by decide) a22 (b9 hF hG a23) (fun u hu => ?_) (.cons (by decide) a32 (b9 hF hG a33) (fun u hu => ?_) (.cons (by decide) a42 (by omega) (fun u hu => ?_)
      (.cons (by decide) a52 (b9 hG hF a53) (fun u hu => ?_) (.cons (by decide) a62 (b9 hG hF a63) (fun u hu => ?_) (.cons (by decide) a72 (b9 hG hF a73) (fun u hu => ?_) (.cons (by decide) a82 (by omega) (fun u hu => ?_)
      (.cons (by decide) F2 (by omega) (fun u hu => ?_) (.cons (by decide) G2 (by omega) (fun u hu => ?_) (.cons (by decide) a92 (b9 hF hF a93) (fun u hu => ?_) (.cons (by decide) aA2 (b9 hG hG aA3) (fun u hu => ?_) (.cons (by decide) aB2 (b9 hF hF aB3) (fun u hu => ?_) .nil))))))))))))
    all_goals first
      | rw [a14 u hu, F4 u hu, G4 u hu]
      | rw [a24 u hu, F4 u hu, G4 u hu]
      | rw [a34 u hu, F4 u hu, G4 u hu]
      | rw [a44 u hu, F4 u hu]
      | rw [a54 u hu, F4 u hu, G4 u hu]
      | rw [a64 u hu, F4 u hu, G4 u hu]
      | rw [a74 u hu, F4 u hu, G4 u hu]
      | rw [a84 u hu, G4 u hu]
      | rw [a94 u hu, F4 u hu]
      | rw [aA4 u hu, G4 u hu]
      | rw [aB4 u hu, F4 u hu]
      | rw [F4 u hu]
      | rw [G4 u hu]
    all_goals
      generalize acc f (start f) u = a
      generalize acc g (start g) u = b
      cases a <;> cases b <;> rfl
  have p1 : fBin "TextSet" g_TextSet___or__ (tsD al F) (tsD al G) = some (tsD al A1) := bin_of (gg := gx_TextSet___or__) a11
  have p2 : fBin "TextSet" g_TextSet___and__ (tsD al F) (tsD al G) = some (tsD al A2) := bin_of (gg := gx_TextSet___and__) a21
  have p3 : fBin "TextSet" g_TextSet___sub__ (tsD al F) (tsD al G) = some (tsD al A3) := bin_of (gg := gx_TextSet___sub__) a31
  have p5 : fBin "TextSet" g_TextSet___or__ (tsD al G) (tsD al F) = some (tsD al A5) := bin_of (gg := gx_TextSet___or__) a51
  have p6 : fBin "TextSet" g_TextSet___and__ (tsD al G) (tsD al F) = some (tsD al A6) := bin_of (gg := gx_TextSet___and__) a61
  have p7 : fBin "TextSet" g_TextSet___sub__ (tsD al G) (tsD al F) = some (tsD al A7) := bin_of (gg := gx_TextSet___sub__) a71
  have p9 : fBin "TextSet" g_TextSet___or__ (tsD al F) (tsD al F) = some (tsD al A9) := bin_of (gg := gx_TextSet___or__) a91
  have pA : fBin "TextSet" g_TextSet___and__ (tsD al G) (tsD al G) = some (tsD al AA) := bin_of (gg := gx_TextSet___and__) aA1
  have pB : fBin "TextSet" g_TextSet___sub__ (tsD al F) (tsD al F) = some (tsD al AB) := bin_of (gg := gx_TextSet___sub__) aB1
  have h2 := la2 ns (G := G) ha of og (by omega) (by omega) F2 (by omega) rows x1 x2 x4 p1 p2 p3 a41 (show 9 ≤ 1000 by decide)
  have h2 : LA2 [some (.d (.lsk (ns.map .int))), some (.d x1), some (.d x2), some (.d (.str al)), some (.d x4), some (.d (fD f)), some (.d (fD g)), some (.d (tsD al F)), some (.d (tsD al G)), some (.d (.lst [.lst [tsD al A1, .int 0], .lst [tsD al A2, .int 1], .lst [tsD al A3, .int 2], .lst [tsD al A4, .int 3], .lst [tsD al A5, .int 0], .lst [tsD al A6, .int 1], .lst [tsD al A7, .int 4], .lst [tsD al A8, .int 5], .lst [tsD al F, .int 6], .lst [tsD al G, .int 7], .lst [tsD al A9, .int 6], .lst [tsD al AA, .int 7], .lst [tsD al AB, .int 8]])), none, none, none, none, none, none] = .ret (.d (.bl true)) := h2
  have z2 : (0 + 1 + 1 : Nat) ≤ sizeLine := by decide
  have z6 : (0 + 1 + 1 + 1 + 1 + 1 + 1 : Nat) ≤ sizeLine := by decide
  have z7 : (0 + 1 + 1 + 1 + 1 + 1 + 1 + 1 : Nat) ≤ sizeLine := by decide
  have ad : ∀ q1 q2 q3 q4 q5 q6 q7 q8 q9 qA qB qC qD : D, fAdd (.lst [q1, q2, q3, q4, q5, q6]) (.lst [q7, q8, q9, qA, qB, qC, qD]) = some (.lst [q1, q2, q3, q4, q5, q6, q7, q8, q9, qA, qB, qC, qD]) := fun _ _ _ _ _ _ _ _ _ _ _ _ _ => fAdd_lst (show 13 ≤ 100000 by decide)
  unfold LA1
  clear rows bd b8 b9 hF hG F2 F3 F4 G2 G3 G4 a11 a12 a13 a14 a21 a22 a23 a24 a31 a32 a33 a34 a42 a43 a44 a51 a52 a53 a54 a61 a62 a63 a64 a71 a72 a73 a74 a82 a83 a84 a91 a92 a93 a94 aA1 aA2 aA3 aA4 aB1 aB2 aB3 aB4 ha of og hf hg
  walk_at "evh"
end K01
namespace K01
open PySem L2 R F
theorem size_ok (d4 d5 : Int) (h4a : 0 ≤ d4) (h4b : d4 < 8) (h5a : 0 ≤ d5) (h5b : d5 < 6) : ∃ n : Nat, atI [D.int 2, .int 2, .int 3, .int 1, .int 2, .int 3, .int 2, .int (1 + d5)] d4 = some (.int (n : Int)) ∧ 1 ≤ n ∧ n ≤ 6 := by
  have c : d4 = 0 ∨ d4 = 1 ∨ d4 = 2 ∨ d4 = 3 ∨ d4 = 4 ∨ d4 = 5 ∨ d4 = 6 ∨ d4 = 7 := by omega
  rcases c with rfl | rfl | rfl | rfl | rfl | rfl | rfl | rfl
  · exact ⟨2, rfl, by decide, by decide⟩
  · exact ⟨2, rfl, by decide, by decide⟩
  · exact ⟨3, rfl, by decide, by decide⟩
  · exact ⟨1, rfl, by decide, by decide⟩
  · exact ⟨2, rfl, by decide, by decide⟩
  · exact ⟨3, rfl, by decide, by decide⟩
  · exact ⟨2, rfl, by decide, by decide⟩
  · refine ⟨1 + d5.toNat, ?_, by omega, by omega⟩
    rw [show ((1 + d5.toNat : Nat) : Int) = 1 + d5 by omega]
    rfl
theorem menu_ok (d0 d1 : Int) (ha : 0 ≤ d0) (hb : d0 < 16) (h5a : 0 ≤ d1) (h5b : d1 < 10) : ∃ n : Nat, atI [D.int 3, .int 4, .int 2, .int 5, .int 3, .int 4, .int 6, .int 3, .int 5, .int 2, .int 4, .int 7, .int 5, .int 1, .int 0, .int d1] d0 = some (.int (n : Int)) ∧ n ≤ 9 := by
  have c : d0 = 0 ∨ d0 = 1 ∨ d0 = 2 ∨ d0 = 3 ∨ d0 = 4 ∨ d0 = 5 ∨ d0 = 6 ∨ d0 = 7 ∨ d0 = 8 ∨ d0 = 9 ∨ d0 = 10 ∨ d0 = 11 ∨ d0 = 12 ∨ d0 = 13 ∨ d0 = 14 ∨ d0 = 15 := by omega
  rcases c with rfl | rfl | rfl | rfl | rfl | rfl | rfl | rfl | rfl | rfl | rfl | rfl | rfl | rfl | rfl | rfl
  · exact ⟨3, rfl, by decide⟩
  · exact ⟨4, rfl, by decide⟩
  · exact ⟨2, rfl, by decide⟩
  · exact ⟨5, rfl, by decide⟩
  · exact ⟨3, rfl, by decide⟩
  · exact ⟨4, rfl, by decide⟩
  · exact ⟨6, rfl, by decide⟩
  · exact ⟨3, rfl, by decide⟩
  · exact ⟨5, rfl, by decide⟩
  · exact ⟨2, rfl, by decide⟩
  · exact ⟨4, rfl, by decide⟩
  · exact ⟨7, rfl, by decide⟩
  · exact ⟨5, rfl, by decide⟩
  · exact ⟨1, rfl, by decide⟩
  · exact ⟨0, rfl, by decide⟩
  · refine ⟨d1.toNat, ?_, by omega⟩
    rw [show ((d1.toNat : Nat) : Int) = d1 by omega]
    rfl
theorem law_true (ns : List Int) (_ : ns.length ≤ 63) : g_law [.lsk (ns.map R.D.int)] = some (.d (.bl true)) := by
  obtain ⟨c, hc⟩ := cell_ok ns 0 (by decide)
  have hc : g__law_cell [.lsk (ns.map .int), .int 0] = some (.d (.int c)) := hc
  obtain ⟨c2, hc2⟩ := cell_ok ns 20 (by decide)
  have hc2 : g__law_cell [.lsk (ns.map .int), .int 20] = some (.d (.int c2)) := hc2
  obtain ⟨row, hr1, hr2, hr3⟩ := digits_ok c [16, 10, 16, 10, 8, 6, 4, 2, 5, 5, 26, 25, 24, 23, 22, 21] (by
    intro z hz
    simp only [List.mem_cons, List.not_mem_nil, or_false] at hz; omega) (by decide)
  have hl : row.length = 16 := hr2
  obtain ⟨d0, hd0, d0a, d0b⟩ := dig hr3 hr2 (j := 0) (z := 16) (by rfl)
  obtain ⟨d1, hd1, d1a, d1b⟩ := dig hr3 hr2 (j := 1) (z := 10) (by rfl)
  obtain ⟨d2, hd2, d2a, d2b⟩ := dig hr3 hr2 (j := 2) (z := 16) (by rfl)
  obtain ⟨d3, hd3, d3a, d3b⟩ := dig hr3 hr2 (j := 3) (z := 10) (by rfl)
  obtain ⟨d4, hd4, d4a, d4b⟩ := dig hr3 hr2 (j := 4) (z := 8) (by rfl)
  obtain ⟨d5, hd5, d5a, d5b⟩ := dig hr3 hr2 (j := 5) (z := 6) (by rfl)
  obtain ⟨d6, hd6, d6a, d6b⟩ := dig hr3 hr2 (j := 6) (z := 4) (by rfl)
  obtain ⟨d7, hd7, d7a, d7b⟩ := dig hr3 hr2 (j := 7) (z := 2) (by rfl)
  obtain ⟨d8, hd8, d8a, d8b⟩ := dig hr3 hr2 (j := 8) (z := 5) (by rfl)
  obtain ⟨d9, hd9, d9a, d9b⟩ := dig hr3 hr2 (j := 9) (z := 5) (by rfl)
  have i0 : atI (row.map D.int) 0 = some (.int d0) := ix_map (k := 0) hd0
  have i1 : atI (row.map D.int) 1 = some (.int d1) := ix_map (k := 1) hd1
  have i2 : atI (row.map D.int) 2 = some (.int d2) := ix_map (k := 2) hd2
  have i3 : atI (row.map D.int) 3 = some (.int d3) := ix_map (k := 3) hd3
  have i4 : atI (row.map D.int) 4 = some (.int d4) := ix_map (k := 4) hd4
  have i5 : atI (row.map D.int) 5 = some (.int d5) := ix_map (k := 5) hd5
  have i6 : atI (row.map D.int) 6 = some (.int d6) := ix_map (k := 6) hd6
  have i7 : atI (row.map D.int) 7 = some (.int d7) := ix_map (k := 7) hd7
  have i8 : atI (row.map D.int) 8 = some (.int d8) := ix_map (k := 8) hd8
  have i9 : atI (row.map D.int) 9 = some (.int d9) := ix_map (k := 9) hd9
  obtain ⟨n, sz, n1, n6⟩ := size_ok d4 d5 d4a d4b d5a d5b
  obtain ⟨m1, s1, m19⟩ := menu_ok d0 d1 d0a d0b d1a d1b
  obtain ⟨m2, s2, m29⟩ := menu_ok d2 d3 d2a d2b d3a d3b
  obtain ⟨al, k1, ha, k3⟩ := letters_ok row 10 n (by omega) n1 n6
  obtain ⟨f0, f01, f02, f03⟩ := form_ok ns 2 m1 n false (by omega) n6
  obtain ⟨f, f1, f2, f3⟩ := filled_ok f02 (by omega) d8
  obtain ⟨g0, g01, g02, g03⟩ := form_ok ns 11 m2 n (decide (d7 = 1)) (by omega) n6
  obtain ⟨g, g1, g2, g3⟩ := filled_ok g02 (by omega) d9
  obtain ⟨h, h1, h2, h3⟩ := changed_ok f2 (by omega) n1 c2
  have e1 := la1 ns (f := f) (g := g) ha (by rw [k3]; exact f2) (by rw [k3]; exact g2) (by omega) (by omega) (.lst (row.map .int)) (.int (n : Int)) (.lst [.int 3, .int 4, .int 2, .int 5, .int 3, .int 4, .int 6, .int 3, .int 5, .int 2, .int 4, .int 7, .int 5, .int 1, .int 0])
  have e2 := la1 ns (f := f) (g := h) ha (by rw [k3]; exact f2) (by rw [k3]; exact h2) (by omega) (by omega) (.lst (row.map .int)) (.int (n : Int)) (.lst [.int 3, .int 4, .int 2, .int 5, .int 3, .int 4, .int 6, .int 3, .int 5, .int 2, .int 4, .int 7, .int 5, .int 1, .int 0])
  have p1 := v_callR hc
  have p2 := v_callR hc2
  have p3 : oCall g__law_digits (some [.int c, .lst [.int 16, .int 10, .int 16, .int 10, .int 8, .int 6, .int 4, .int 2, .int 5, .int 5, .int 26, .int 25, .int 24, .int 23, .int 22, .int 21]]) = some (.lst (row.map .int)) := (v_call hr1).trans rfl
  have p4 : oCall g__law_letters (some [.lst (row.map .int), .int 10, .int (n : Int)]) = some (.str al) := v_callR k1
  have p5 : oCall g__law_form (some [.lsk (ns.map .int), .int 2, .int (m1 : Int), .int (n : Int), .bl false]) = some (fD f0) := v_callR f01
  have p6 : oCall g__law_form (some [.lsk (ns.map .int), .int 11, .int (m2 : Int), .int (n : Int), .bl (decide (d7 = 1))]) = some (fD g0) := v_callR g01
  have p7 := v_callR f1
  have p8 := v_callR g1
  have p9 := v_callR h1
  have z1 : (0 + 1 : Nat) ≤ sizeLine := by decide
  have z6 : (0 + 1 + 1 + 1 + 1 + 1 + 1 : Nat) ≤ sizeLine := by decide
  have z8 : (0 + 1 + 1 + 1 + 1 + 1 + 1 + 1 + 1 : Nat) ≤ sizeLine := by decide
  have z10 : (0 + 1 + 1 + 1 + 1 + 1 + 1 + 1 + 1 + 1 + 1 : Nat) ≤ sizeLine := by decide
  have z15 : (0 + 1 + 1 + 1 + 1 + 1 + 1 + 1 + 1 + 1 + 1 + 1 + 1 + 1 + 1 + 1 : Nat) ≤ sizeLine := by decide
  have ad : fAdd (.lst [.int 16, .int 10, .int 16, .int 10, .int 8, .int 6, .int 4, .int 2, .int 5, .int 5]) (.lst [.int 26, .int 25, .int 24, .int 23, .int 22, .int 21]) = some (.lst [.int 16, .int 10, .int 16, .int 10, .int 8, .int 6, .int 4, .int 2, .int 5, .int 5, .int 26, .int 25, .int 24, .int 23, .int 22, .int 21]) := fAdd_lst (show 16 ≤ 100000 by decide)
  have am : ∀ d : D, fAdd (.lst [.int 3, .int 4, .int 2, .int 5, .int 3, .int 4, .int 6, .int 3, .int 5, .int 2, .int 4, .int 7, .int 5, .int 1, .int 0]) (.lst [d]) = some (.lst [.int 3, .int 4, .int 2, .int 5, .int 3, .int 4, .int 6, .int 3, .int 5, .int 2, .int 4, .int 7, .int 5, .int 1, .int 0, d]) := fun _ => fAdd_lst (show 16 ≤ 100000 by decide)
  unfold g_law
  rw [law_split, r_g1]
  clear hc hc2 hr1 hr2 hr3 hl hd0 hd1 hd2 hd3 hd4 hd5 hd6 hd7 hd8 hd9 k1 k3 ha f01 f02 f03 f1 f2 f3 g01 g02 g03 g1 g2 g3 h1 h2 h3
  by_cases h : d6 = 3
  · have e : decide (d6 = 3) = true := decide_eq_true h
    clear h
    walk_at "evh"
  · have e : decide (d6 = 3) = false := decide_eq_false h
    clear h
    walk_at "evh"
end K01
namespace K01
open PySem PySem.Spec PyProof.Rows L2 R F
def topS (i : Nat) : Stmt := PySem.Challenge.pw_firsthand_k01_set_operators.main.body.getD i (.Pass ⟨0, 0, 0, 0⟩)
section
variable {P : Program} {w : World} {K : PySem.W.Frag} {mg : Str → Option Value} {base : Heap}
/-! ### is_alphabet -/
abbrev s_is_alphabet : Stmt := topS 8
abbrev N_is_alphabet : List Str := ["value", "index", "char"]
theorem sc_is_alphabet : FnScope N_is_alphabet ["value"] (defScope s_is_alphabet) := ⟨rfl, rfl, rfl, by decide +kernel, rfl, by decide +kernel, by decide +kernel⟩
theorem okf_is_alphabet {f : Addr} {fd : FuncData} {t_LETTERS : Tok} {t_MOST_LETTERS : Tok} (F : Fun K "is_alphabet" "is_alphabet" s_is_alphabet f fd) (z_enumerate : mg "enumerate" = none) (z_len : mg "len" = none) (gc_LETTERS : mg "LETTERS" = some (.str ⟨(S "abcdefghijklmnopqrstuvwxyz").toArray⟩ t_LETTERS)) (gc_MOST_LETTERS : mg "MOST_LETTERS" = some (.int (6) t_MOST_LETTERS)) : FnOk P w K mg base CX0 1 f fd ["value"] (spR K g_is_alphabet) := by
  refine fn_ok F sc_is_alphabet (fun cdv A outer s H E hr => ?_)
  have nd := sc_is_alphabet.nd
  unfold m_is_alphabet
  exact
  (rss_cons (rs_if (rt_not (rt_chain op_le (ok_cmp _ _) op_le (ok_cmp _ _) (re_b re_int) (re_b (re_cb call_len (ok_len _) (by rfl) z_len PySem.boot_len (rab_cons (rb_v 0) rab_nil))) (re_b (re_gint (by rfl) gc_MOST_LETTERS))))
    (rss_one (rs_ret re_bl))
    rss_nil)
  (rss_cons (rs_for PassesOwn.never rfl (ri_enum (by rfl) z_enumerate (re_v 0)) (rg_tup rfl (rgs_cons (rg_name (i := 1) nd) (rgs_cons (rg_name (i := 2) nd) rgs_nil)))
    (rss_cons (rs_if (rt_cmp (op_notinU (hu_s hr.units)) (ok_notin _) (rb_v 2) (re_b (re_gstr (by rfl) gc_LETTERS)))
      (rss_one (rs_ret re_bl))
      rss_nil)
    (rss_one (rs_if (rt_w (rw_and (rt_cmp op_gt (ok_cmp _ _) (rb_v 1) (re_b re_int)) (rw_and1 (rt_cmp op_geU (ok_geS _) (re_b (re_ix (hu_of hr) (rb_v 0) (re_b (re_op op_sub (ok_sub _) (rb_v 1) (re_b re_int))))) (rb_v 2)))))
      (rss_one (rs_ret re_bl))
      rss_nil))))
  (rss_one (rs_ret re_bl))))
/-! ### check_alphabet -/
abbrev s_check_alphabet : Stmt := topS 9
abbrev N_check_alphabet : List Str := ["alphabet"]
theorem sc_check_alphabet : FnScope N_check_alphabet ["alphabet"] (defScope s_check_alphabet) := ⟨rfl, rfl, rfl, by decide +kernel, rfl, by decide +kernel, by decide +kernel⟩
theorem okf_check_alphabet {f : Addr} {fd : FuncData} (F : Fun K "check_alphabet" "check_alphabet" s_check_alphabet f fd) (C_is_alphabet : Cl P w K mg base "is_alphabet" 1 ["value"] g_is_alphabet) : FnOk P w K mg base CX0 2 f fd ["alphabet"] (spR K g_check_alphabet) := by
  refine fn_ok F sc_check_alphabet (fun cdv A outer s H E hr => ?_)
  have nd := sc_check_alphabet.nd
  unfold m_check_alphabet
  exact
  (rss_one (rs_if (rt_not (rt_val (re_cl C_is_alphabet (hr.mono (by decide)) (by rfl) (ra_cons (re_v 0) ra_nil))))
    (rss_one rs_stuck)
    rss_nil))
/-! ### frozen -/
abbrev s_frozen : Stmt := topS 10
abbrev N_frozen : List Str := ["value", "item"]
theorem sc_frozen : FnScope N_frozen ["value"] (defScope s_frozen) := ⟨rfl, rfl, rfl, by decide +kernel, rfl, by decide +kernel, by decide +kernel⟩
theorem ok_frozen {f : Addr} {fd : FuncData} (F : Fun K "frozen" "frozen" s_frozen f fd) (hm : mg "frozen" = some (.ref f)) (hb : Binds K fd ["value"] []) (z_isinstance : mg "isinstance" = none) (z_list : mg "list" = none) (z_tuple : mg "tuple" = none) : ∀ n : Nat, Cl P w K mg base "frozen" (1 + n) ["value"] (g_frozen n)
  | 0 => ⟨f, fd, ⟨fun vs H Q E h => (by obtain ⟨_, _, _, _, _, e, _⟩ := h; cases e), fun _ _ _ _ _ _ _ _ _ _ _ _ _ h => (by obtain ⟨_, _, _, _, _, e, _⟩ := h; cases e)⟩, hm, F.kp, hb⟩
  | n + 1 => by
    have C_frozen := ok_frozen F hm hb z_isinstance z_list z_tuple n
    refine ⟨f, fd, fn_ok F sc_frozen (fun cdv A outer s H E hr => ?_), hm, F.kp, hb⟩
    have nd := sc_frozen.nd
    exact
    (rss_cons (rs_if (rt_val (re_cb op_isiU (ok_isi _) (by rfl) z_isinstance (by decide +kernel) (rab_cons (rb_v 0) (rab_cons (re_b (re_tup (ra_cons (re_ty (n := "list") (by rfl) z_list (by decide +kernel)) (ra_cons (re_ty (n := "tuple") (by rfl) z_tuple (by decide +kernel)) ra_nil)))) rab_nil))))
    (rss_one (rs_ret (re_ct call_tuple_of (ok_tuple _) (by rfl) z_tuple (by decide +kernel) (rab_cons (re_b (re_f (rf_lc [("item", 1)] rfl rfl nd (ri_data (re_v 0)) (blkOk_by (N := N_frozen) (sc := defScope s_frozen) (by decide +kernel)) (fun _ _ _ _ _ => pg_name (i := 1) nd rfl (Or.inl rfl)) (fun _ _ _ _ _ => rts_nil) (fun _ _ _ _ _ => (re_cl C_frozen hr (by rfl) (ra_cons (re_v 1) ra_nil)))))) rab_nil))))
    rss_nil)
  (rss_one (rs_ret (re_v 0))))
/-! ### form_step -/
abbrev s_form_step : Stmt := topS 12
abbrev N_form_step : List Str := ["form", "state", "symbol"]
theorem sc_form_step : FnScope N_form_step ["form", "state", "symbol"] (defScope s_form_step) := ⟨rfl, rfl, rfl, by decide +kernel, rfl, by decide +kernel, by decide +kernel⟩
theorem okf_form_step {f : Addr} {fd : FuncData} (F : Fun K "form_step" "form_step" s_form_step f fd)  : FnOk P w K mg base CX0 1 f fd ["form", "state", "symbol"] (spR K g_form_step) := by
  refine fn_ok F sc_form_step (fun cdv A outer s H E hr => ?_)
  have nd := sc_form_step.nd
  unfold m_form_step
  exact
  (rss_cons (rs_if (rt_cmp op_isU (ok_is _) (rb_v 1) (re_b re_non))
    (rss_one (rs_ret re_non))
    rss_nil)
  (rss_one (rs_ret (re_ix (hu_of hr) (re_b (re_ix (hu_of hr) (re_b (re_ix (hu_of hr) (rb_v 0) (rb_v 1))) (re_b re_int))) (rb_v 2)))))
/-! ### form_start -/
abbrev s_form_start : Stmt := topS 13
abbrev N_form_start : List Str := ["form"]
theorem sc_form_start : FnScope N_form_start ["form"] (defScope s_form_start) := ⟨rfl, rfl, rfl, by decide +kernel, rfl, by decide +kernel, by decide +kernel⟩
theorem okf_form_start {f : Addr} {fd : FuncData} (F : Fun K "form_start" "form_start" s_form_start f fd) (z_len : mg "len" = none) : FnOk P w K mg base CX0 1 f fd ["form"] (spR K g_form_start) := by
  refine fn_ok F sc_form_start (fun cdv A outer s H E hr => ?_)
  have nd := sc_form_start.nd
  unfold m_form_start
  exact
  (rss_cons (rs_if (rt_cmp (op_eqU hr.units) (ok_eq _) (re_b (re_cb call_len (ok_len _) (by rfl) z_len PySem.boot_len (rab_cons (rb_v 0) rab_nil))) (re_b re_int))
    (rss_one (rs_ret re_non))
    rss_nil)
  (rss_one (rs_ret re_int)))
/-! ### form_stops -/
abbrev s_form_stops : Stmt := topS 14
abbrev N_form_stops : List Str := ["form", "state"]
theorem sc_form_stops : FnScope N_form_stops ["form", "state"] (defScope s_form_stops) := ⟨rfl, rfl, rfl, by decide +kernel, rfl, by decide +kernel, by decide +kernel⟩
theorem okf_form_stops {f : Addr} {fd : FuncData} (F : Fun K "form_stops" "form_stops" s_form_stops f fd)  : FnOk P w K mg base CX0 1 f fd ["form", "state"] (spR K g_form_stops) := by
  refine fn_ok F sc_form_stops (fun cdv A outer s H E hr => ?_)
  have nd := sc_form_stops.nd
  unfold m_form_stops
  exact
  (rss_one (rs_ret (re_and (re_cmp op_isnotU (ok_isnot _) (rb_v 1) (re_b re_non)) (re_one (re_ix (hu_of hr) (re_b (re_ix (hu_of hr) (rb_v 0) (rb_v 1))) (re_b re_int))))))
/-! ### live_flags -/
abbrev s_live_flags : Stmt := topS 15
abbrev N_live_flags : List Str := ["form", "flags", "changed", "state", "row", "target"]
theorem sc_live_flags : FnScope N_live_flags ["form"] (defScope s_live_flags) := ⟨rfl, rfl, rfl, by decide +kernel, rfl, by decide +kernel, by decide +kernel⟩
theorem okf_live_flags {f : Addr} {fd : FuncData} (F : Fun K "live_flags" "live_flags" s_live_flags f fd) (z_any : mg "any" = none) (z_len : mg "len" = none) (z_range : mg "range" = none) (z_reversed : mg "reversed" = none) : FnOk P w K mg base CX0 1 f fd ["form"] (spR K g_live_flags) := by
  refine fn_ok F sc_live_flags (fun cdv A outer s H E hr => ?_)
  have nd := sc_live_flags.nd
  unfold m_live_flags
  exact
  (rss_cons (rs_setF (i := 1) nd (rf_lc [("row", 4)] rfl rfl nd (ri_data (re_v 0)) (blkOk_by (N := N_live_flags) (sc := defScope s_live_flags) (by decide +kernel)) (fun _ _ _ _ _ => pg_name (i := 4) nd rfl (Or.inl rfl)) (fun _ _ _ _ _ => rts_nil) (fun _ _ _ _ _ => (re_ix (hu_of hr) (rb_v 4) (re_b re_int)))))
  (rss_cons (rs_set (i := 2) nd re_bl)
  (rss_cons (rs_while PassesOwn.never (rt_val (re_v 2))
    (rss_cons (rs_set (i := 2) nd re_bl)
    (rss_one (rs_for PassesOwn.never rfl (ri_rev1 (by rfl) z_reversed (by rfl) z_range (re_cb call_len (ok_len _) (by rfl) z_len PySem.boot_len (rab_cons (rb_v 0) rab_nil))) (rg_name (i := 3) nd)
      (rss_one (rs_if (rt_w (rw_and (rt_not (rt_val (re_ix (hu_of hr) (rb_v 1) (rb_v 3)))) (rw_and1 (rt_val (re_cb (cr_any rfl) (ok_any _) (by rfl) z_any (by decide +kernel) (rab_cons (re_b (re_f (rf_lc [("target", 5)] rfl rfl nd (ri_data (re_ix (hu_of hr) (re_b (re_ix (hu_of hr) (rb_v 0) (rb_v 3))) (re_b re_int))) (blkOk_by (N := N_live_flags) (sc := defScope s_live_flags) (by decide +kernel)) (fun _ _ _ _ _ => pg_name (i := 5) nd rfl (Or.inl rfl)) (fun _ _ _ _ _ => rts_nil) (fun _ _ _ _ _ => (re_and (re_cmp op_isnotU (ok_isnot _) (rb_v 5) (re_b re_non)) (re_one (re_ix (hu_of hr) (rb_v 1) (rb_v 5)))))))) rab_nil))))))
        (rss_cons (rs_putL 1 (re_v 3) re_bl)
        (rss_one (rs_set (i := 2) nd re_bl)))
        rss_nil))))))
  (rss_one (rs_retO 1)))))
/-! ### live_moves -/
abbrev s_live_moves : Stmt := topS 16
abbrev N_live_moves : List Str := ["form", "flags", "rows", "row", "target"]
theorem sc_live_moves : FnScope N_live_moves ["form"] (defScope s_live_moves) := ⟨rfl, rfl, rfl, by decide +kernel, rfl, by decide +kernel, by decide +kernel⟩
theorem okf_live_moves {f : Addr} {fd : FuncData} (F : Fun K "live_moves" "live_moves" s_live_moves f fd) (C_live_flags : Cl P w K mg base "live_flags" 1 ["form"] g_live_flags) : FnOk P w K mg base CX0 2 f fd ["form"] (spR K g_live_moves) := by
  refine fn_ok F sc_live_moves (fun cdv A outer s H E hr => ?_)
  have nd := sc_live_moves.nd
  unfold m_live_moves
  exact
  (rss_cons (rs_set (i := 1) nd (re_cl C_live_flags (hr.mono (by decide)) (by rfl) (ra_cons (re_v 0) ra_nil)))
  (rss_cons (rs_setF (i := 2) nd (rf_lst ra_nil))
  (rss_cons (rs_for PassesOwn.never rfl (ri_data (re_v 0)) (rg_name (i := 3) nd)
    (rss_one (rs_app (i := 2) (re_f (rf_lc [("target", 4)] rfl rfl nd (ri_data (re_ix (hu_of hr) (rb_v 3) (re_b re_int))) (blkOk_by (N := N_live_moves) (sc := defScope s_live_moves) (by decide +kernel)) (fun _ _ _ _ _ => pg_name (i := 4) nd rfl (Or.inl rfl)) (fun _ _ _ _ _ => rts_nil) (fun _ _ _ _ _ => (re_if (rt_w (rw_and (rt_cmp op_isnotU (ok_isnot _) (rb_v 4) (re_b re_non)) (rw_and1 (rt_val (re_ix (hu_of hr) (rb_v 1) (rb_v 4)))))) (re_v 4) re_non)))))))
  (rss_one (rs_retO 2)))))
/-! ### numbered -/
abbrev s_numbered : Stmt := topS 17
abbrev N_numbered : List Str := ["keys", "first_numbers", "numbers", "key"]
theorem sc_numbered : FnScope N_numbered ["keys"] (defScope s_numbered) := ⟨rfl, rfl, rfl, by decide +kernel, rfl, by decide +kernel, by decide +kernel⟩
theorem okf_numbered {f : Addr} {fd : FuncData} (F : Fun K "numbered" "numbered" s_numbered f fd) (z_len : mg "len" = none) : FnOk P w K mg base CX0 1 f fd ["keys"] (spR K g_numbered) := by
  refine fn_ok F sc_numbered (fun cdv A outer s H E hr => ?_)
  have nd := sc_numbered.nd
  unfold m_numbered
  exact
  (rss_cons (rs_dnew (py := ⟨0, 0, 0, 0⟩) 1 nd)
  (rss_cons (rs_setF (i := 2) nd (rf_lst ra_nil))
  (rss_cons (rs_for PassesOwn.never rfl (ri_data (re_v 0)) (rg_name (i := 3) nd)
    (rss_cons (rs_if (rt_dnotin hr.units 1 (re_v 3))
      (rss_one (rs_dput hr.units 1 (re_v 3) (re_dlen 1 (by rfl) z_len)))
      rss_nil)
    (rss_one (rs_app (i := 2) (re_dix hr.units 1 (re_v 3))))))
  (rss_one (rs_retO 2)))))
/-! ### state_classes -/
abbrev s_state_classes : Stmt := topS 18
abbrev N_state_classes : List Str := ["form", "rows", "numbers", "keys", "number", "row", "finer", "state", "target"]
theorem sc_state_classes : FnScope N_state_classes ["form", "rows"] (defScope s_state_classes) := ⟨rfl, rfl, rfl, by decide +kernel, rfl, by decide +kernel, by decide +kernel⟩
theorem okf_state_classes {f : Addr} {fd : FuncData} (F : Fun K "state_classes" "state_classes" s_state_classes f fd) (z_tuple : mg "tuple" = none) (z_zip : mg "zip" = none) (C_numbered : Cl P w K mg base "numbered" 1 ["keys"] g_numbered) : FnOk P w K mg base CX0 2 f fd ["form", "rows"] (spR K g_state_classes) := by
  refine fn_ok F sc_state_classes (fun cdv A outer s H E hr => ?_)
  have nd := sc_state_classes.nd
  unfold m_state_classes
  exact
  (rss_cons (rs_set (i := 2) nd (re_cl C_numbered (hr.mono (by decide)) (by rfl) (ra_cons (re_f (rf_lc [("state", 7)] rfl rfl nd (ri_data (re_v 0)) (blkOk_by (N := N_state_classes) (sc := defScope s_state_classes) (by decide +kernel)) (fun _ _ _ _ _ => pg_name (i := 7) nd rfl (Or.inl rfl)) (fun _ _ _ _ _ => rts_nil) (fun _ _ _ _ _ => (re_ix (hu_of hr) (rb_v 7) (re_b re_int))))) ra_nil)))
  (rss_one (rs_while PassesOwn.never (rt_val re_bl)
    (rss_cons (rs_setF (i := 3) nd (rf_lst ra_nil))
    (rss_cons (rs_for PassesOwn.never rfl (ri_zip (by rfl) z_zip (ra_cons (re_v 2) (ra_cons (re_v 1) ra_nil))) (rg_tup rfl (rgs_cons (rg_name (i := 4) nd) (rgs_cons (rg_name (i := 5) nd) rgs_nil)))
      (rss_one (rs_app (i := 3) (re_tup (ra_cons (re_v 4) (ra_cons (re_ct call_tuple_of (ok_tuple _) (by rfl) z_tuple (by decide +kernel) (rab_cons (re_b (re_f (rf_lc [("target", 8)] rfl rfl nd (ri_data (re_v 5)) (blkOk_by (N := N_state_classes) (sc := defScope s_state_classes) (by decide +kernel)) (fun _ _ _ _ _ => pg_name (i := 8) nd rfl (Or.inl rfl)) (fun _ _ _ _ _ => rts_nil) (fun _ _ _ _ _ => (re_if (rt_cmp op_isU (ok_is _) (rb_v 8) (re_b re_non)) re_non (re_ix (hu_of hr) (rb_v 2) (rb_v 8))))))) rab_nil)) ra_nil))))))
    (rss_fz 3 (rss_cons (rs_set (i := 6) nd (re_cl C_numbered (hr.mono (by decide)) (by rfl) (ra_cons (re_v 3) ra_nil)))
    (rss_cons (rs_if (rt_cmp (op_eqU hr.units) (ok_eq _) (rb_v 6) (rb_v 2))
      (rss_one (rs_ret (re_v 2)))
      rss_nil)
    (rss_one (rs_set (i := 2) nd (re_v 6)))))))))))
/-! ### least_form -/
abbrev s_least_form : Stmt := topS 19
abbrev N_least_form : List Str := ["form", "width", "states", "rows", "classes", "order", "numbers", "finished", "state", "row", "symbol", "target"]
theorem sc_least_form : FnScope N_least_form ["form", "width"] (defScope s_least_form) := ⟨rfl, rfl, rfl, by decide +kernel, rfl, by decide +kernel, by decide +kernel⟩
theorem okf_least_form {f : Addr} {fd : FuncData} (F : Fun K "least_form" "least_form" s_least_form f fd) (z_len : mg "len" = none) (z_range : mg "range" = none) (z_tuple : mg "tuple" = none) (C_frozen : Cl P w K mg base "frozen" 5 ["value"] (g_frozen 4)) (C_live_flags : Cl P w K mg base "live_flags" 1 ["form"] g_live_flags) (C_live_moves : Cl P w K mg base "live_moves" 2 ["form"] g_live_moves) (C_state_classes : Cl P w K mg base "state_classes" 2 ["form", "rows"] g_state_classes) : FnOk P w K mg base CX0 6 f fd ["form", "width"] (spR K g_least_form) := by
  refine fn_ok F sc_least_form (fun cdv A outer s H E hr => ?_)
  have nd := sc_least_form.nd
  unfold m_least_form
  exact
  (rss_cons (rs_set (i := 2) nd (re_cl C_frozen (hr.mono (by decide)) (by rfl) (ra_cons (re_v 0) ra_nil)))
  (rss_cons (rs_if (rt_w (rw_or (rt_cmp (op_eqU hr.units) (ok_eq _) (re_b (re_cb call_len (ok_len _) (by rfl) z_len PySem.boot_len (rab_cons (rb_v 2) rab_nil))) (re_b re_int)) (rw_or1 (rt_not (rt_val (re_ix (hu_of hr) (re_b (re_cl C_live_flags (hr.mono (by decide)) (by rfl) (ra_cons (re_v 2) ra_nil))) (re_b re_int)))))))
    (rss_one (rs_ret (re_tup ra_nil)))
    rss_nil)
  (rss_cons (rs_set (i := 3) nd (re_cl C_live_moves (hr.mono (by decide)) (by rfl) (ra_cons (re_v 2) ra_nil)))
  (rss_cons (rs_set (i := 4) nd (re_cl C_state_classes (hr.mono (by decide)) (by rfl) (ra_cons (re_v 2) (ra_cons (re_v 3) ra_nil))))
  (rss_cons (rs_setF (i := 5) nd (rf_lst (ra_cons re_int ra_nil)))
  (rss_cons (rs_dnew1 (k := .Name "" ⟨0, 0, 0, 0⟩) hr.units 6 nd (re_ix (hu_of hr) (rb_v 4) (re_b re_int)) re_int)
  (rss_cons (rs_setF (i := 7) nd (rf_lst ra_nil))
  (rss_cons (rs_while PassesOwn.never (rt_cmp op_lt (ok_cmp _ _) (re_b (re_cb call_len (ok_len _) (by rfl) z_len PySem.boot_len (rab_cons (rb_v 7) rab_nil))) (re_b (re_cb call_len (ok_len _) (by rfl) z_len PySem.boot_len (rab_cons (rb_v 5) rab_nil))))
    (rss_cons (rs_set (i := 8) nd (re_ix (hu_of hr) (rb_v 5) (re_b (re_cb call_len (ok_len _) (by rfl) z_len PySem.boot_len (rab_cons (rb_v 7) rab_nil)))))
    (rss_cons (rs_setF (i := 9) nd (rf_lst ra_nil))
    (rss_cons (rs_for PassesOwn.never rfl (ri_rng1 (by rfl) z_range (ra_cons (re_v 1) ra_nil)) (rg_name (i := 10) nd)
      (rss_cons (rs_set (i := 11) nd (re_ix (hu_of hr) (re_b (re_ix (hu_of hr) (rb_v 3) (rb_v 8))) (rb_v 10)))
      (rss_cons (rs_if (rt_w (rw_and (rt_cmp op_isnotU (ok_isnot _) (rb_v 11) (re_b re_non)) (rw_and1 (rt_dnotin hr.units 6 (re_ix (hu_of hr) (rb_v 4) (rb_v 11))))))
        (rss_cons (rs_dput hr.units 6 (re_ix (hu_of hr) (rb_v 4) (rb_v 11)) (re_cb call_len (ok_len _) (by rfl) z_len PySem.boot_len (rab_cons (rb_v 5) rab_nil)))
        (rss_one (rs_app (i := 5) (re_v 11))))
        rss_nil)
      (rss_one (rs_app (i := 9) (re_if (rt_cmp op_isU (ok_is _) (rb_v 11) (re_b re_non)) re_non (re_dix hr.units 6 (re_ix (hu_of hr) (rb_v 4) (rb_v 11)))))))))
    (rss_one (rs_app (i := 7) (re_tup (ra_cons (re_ix (hu_of hr) (re_b (re_ix (hu_of hr) (rb_v 2) (rb_v 8))) (re_b re_int)) (ra_cons (re_ct call_tuple_of (ok_tuple _) (by rfl) z_tuple (by decide +kernel) (rab_cons (rb_v 9) rab_nil)) ra_nil)))))))))
  (rss_one (rs_ret (re_ct call_tuple_of (ok_tuple _) (by rfl) z_tuple (by decide +kernel) (rab_cons (rb_v 7) rab_nil))))))))))))
/-! ### pair_is_open -/
abbrev s_pair_is_open : Stmt := topS 20
abbrev N_pair_is_open : List Str := ["pair", "keep"]
theorem sc_pair_is_open : FnScope N_pair_is_open ["pair", "keep"] (defScope s_pair_is_open) := ⟨rfl, rfl, rfl, by decide +kernel, rfl, by decide +kernel, by decide +kernel⟩
theorem okf_pair_is_open {f : Addr} {fd : FuncData} (F : Fun K "pair_is_open" "pair_is_open" s_pair_is_open f fd)  : FnOk P w K mg base CX0 1 f fd ["pair", "keep"] (spR K g_pair_is_open) := by
  refine fn_ok F sc_pair_is_open (fun cdv A outer s H E hr => ?_)
  have nd := sc_pair_is_open.nd
  unfold m_pair_is_open
  exact
  (rss_cons (rs_if (rt_cmp (op_eqU hr.units) (ok_eq _) (rb_v 1) (re_b (re_str "both")))
    (rss_one (rs_ret (re_and (re_cmp op_isnotU (ok_isnot _) (re_b (re_ix (hu_of hr) (rb_v 0) (re_b re_int))) (re_b re_non)) (re_one (re_cmp op_isnotU (ok_isnot _) (re_b (re_ix (hu_of hr) (rb_v 0) (re_b re_int))) (re_b re_non))))))
    rss_nil)
  (rss_cons (rs_if (rt_cmp (op_eqU hr.units) (ok_eq _) (rb_v 1) (re_b (re_str "first")))
    (rss_one (rs_ret (re_cmp op_isnotU (ok_isnot _) (re_b (re_ix (hu_of hr) (rb_v 0) (re_b re_int))) (re_b re_non))))
    rss_nil)
  (rss_one (rs_ret (re_or (re_cmp op_isnotU (ok_isnot _) (re_b (re_ix (hu_of hr) (rb_v 0) (re_b re_int))) (re_b re_non)) (re_one (re_cmp op_isnotU (ok_isnot _) (re_b (re_ix (hu_of hr) (rb_v 0) (re_b re_int))) (re_b re_non))))))))
/-! ### pair_ends -/
abbrev s_pair_ends : Stmt := topS 21
abbrev N_pair_ends : List Str := ["one", "two", "pair", "keep"]
theorem sc_pair_ends : FnScope N_pair_ends ["one", "two", "pair", "keep"] (defScope s_pair_ends) := ⟨rfl, rfl, rfl, by decide +kernel, rfl, by decide +kernel, by decide +kernel⟩
theorem okf_pair_ends {f : Addr} {fd : FuncData} (F : Fun K "pair_ends" "pair_ends" s_pair_ends f fd) (C_form_stops : Cl P w K mg base "form_stops" 1 ["form", "state"] g_form_stops) : FnOk P w K mg base CX0 2 f fd ["one", "two", "pair", "keep"] (spR K g_pair_ends) := by
  refine fn_ok F sc_pair_ends (fun cdv A outer s H E hr => ?_)
  have nd := sc_pair_ends.nd
  unfold m_pair_ends
  exact
  (rss_cons (rs_if (rt_cmp (op_eqU hr.units) (ok_eq _) (rb_v 3) (re_b (re_str "both")))
    (rss_one (rs_ret (re_and (re_cl C_form_stops (hr.mono (by decide)) (by rfl) (ra_cons (re_v 0) (ra_cons (re_ix (hu_of hr) (rb_v 2) (re_b re_int)) ra_nil))) (re_one (re_cl C_form_stops (hr.mono (by decide)) (by rfl) (ra_cons (re_v 1) (ra_cons (re_ix (hu_of hr) (rb_v 2) (re_b re_int)) ra_nil)))))))
    rss_nil)
  (rss_cons (rs_if (rt_cmp (op_eqU hr.units) (ok_eq _) (rb_v 3) (re_b (re_str "first")))
    (rss_one (rs_ret (re_and (re_cl C_form_stops (hr.mono (by decide)) (by rfl) (ra_cons (re_v 0) (ra_cons (re_ix (hu_of hr) (rb_v 2) (re_b re_int)) ra_nil))) (re_one (re_not (re_cl C_form_stops (hr.mono (by decide)) (by rfl) (ra_cons (re_v 1) (ra_cons (re_ix (hu_of hr) (rb_v 2) (re_b re_int)) ra_nil))))))))
    rss_nil)
  (rss_one (rs_ret (re_or (re_cl C_form_stops (hr.mono (by decide)) (by rfl) (ra_cons (re_v 0) (ra_cons (re_ix (hu_of hr) (rb_v 2) (re_b re_int)) ra_nil))) (re_one (re_cl C_form_stops (hr.mono (by decide)) (by rfl) (ra_cons (re_v 1) (ra_cons (re_ix (hu_of hr) (rb_v 2) (re_b re_int)) ra_nil)))))))))
/-! ### paired_form -/
abbrev s_paired_form : Stmt := topS 22
abbrev N_paired_form : List Str := ["one", "two", "width", "keep", "start", "pairs", "numbers", "form", "pair", "row", "symbol", "after"]
theorem sc_paired_form : FnScope N_paired_form ["one", "two", "width", "keep"] (defScope s_paired_form) := ⟨rfl, rfl, rfl, by decide +kernel, rfl, by decide +kernel, by decide +kernel⟩
theorem okf_paired_form {f : Addr} {fd : FuncData} (F : Fun K "paired_form" "paired_form" s_paired_form f fd) (z_len : mg "len" = none) (z_range : mg "range" = none) (z_tuple : mg "tuple" = none) (C_form_start : Cl P w K mg base "form_start" 1 ["form"] g_form_start) (C_form_step : Cl P w K mg base "form_step" 1 ["form", "state", "symbol"] g_form_step) (C_least_form : Clk P w K mg base "least_form" 6 ["form", "width"] 1 ["width"] g_least_form) (C_pair_ends : Cl P w K mg base "pair_ends" 2 ["one", "two", "pair", "keep"] g_pair_ends) (C_pair_is_open : Cl P w K mg base "pair_is_open" 1 ["pair", "keep"] g_pair_is_open) : FnOk P w K mg base CX0 7 f fd ["one", "two", "width", "keep"] (spR K g_paired_form) := by
  refine fn_ok F sc_paired_form (fun cdv A outer s H E hr => ?_)
  have nd := sc_paired_form.nd
  unfold m_paired_form
  exact
  (rss_cons (rs_set (i := 4) nd (re_tup (ra_cons (re_cl C_form_start (hr.mono (by decide)) (by rfl) (ra_cons (re_v 0) ra_nil)) (ra_cons (re_cl C_form_start (hr.mono (by decide)) (by rfl) (ra_cons (re_v 1) ra_nil)) ra_nil))))
  (rss_cons (rs_if (rt_not (rt_val (re_cl C_pair_is_open (hr.mono (by decide)) (by rfl) (ra_cons (re_v 4) (ra_cons (re_v 3) ra_nil)))))
    (rss_one (rs_ret (re_tup ra_nil)))
    rss_nil)
  (rss_cons (rs_setF (i := 5) nd (rf_lst (ra_cons (re_v 4) ra_nil)))
  (rss_cons (rs_dnew1 (k := .Name "" ⟨0, 0, 0, 0⟩) hr.units 6 nd (re_v 4) re_int)
  (rss_cons (rs_setF (i := 7) nd (rf_lst ra_nil))
  (rss_cons (rs_while PassesOwn.never (rt_cmp op_lt (ok_cmp _ _) (re_b (re_cb call_len (ok_len _) (by rfl) z_len PySem.boot_len (rab_cons (rb_v 7) rab_nil))) (re_b (re_cb call_len (ok_len _) (by rfl) z_len PySem.boot_len (rab_cons (rb_v 5) rab_nil))))
    (rss_cons (rs_set (i := 8) nd (re_ix (hu_of hr) (rb_v 5) (re_b (re_cb call_len (ok_len _) (by rfl) z_len PySem.boot_len (rab_cons (rb_v 7) rab_nil)))))
    (rss_cons (rs_setF (i := 9) nd (rf_lst ra_nil))
    (rss_cons (rs_for PassesOwn.never rfl (ri_rng1 (by rfl) z_range (ra_cons (re_v 2) ra_nil)) (rg_name (i := 10) nd)
      (rss_cons (rs_set (i := 11) nd (re_tup (ra_cons (re_cl C_form_step (hr.mono (by decide)) (by rfl) (ra_cons (re_v 0) (ra_cons (re_ix (hu_of hr) (rb_v 8) (re_b re_int)) (ra_cons (re_v 10) ra_nil)))) (ra_cons (re_cl C_form_step (hr.mono (by decide)) (by rfl) (ra_cons (re_v 1) (ra_cons (re_ix (hu_of hr) (rb_v 8) (re_b re_int)) (ra_cons (re_v 10) ra_nil)))) ra_nil))))
      (rss_cons (rs_if (rt_w (rw_and (rt_val (re_cl C_pair_is_open (hr.mono (by decide)) (by rfl) (ra_cons (re_v 11) (ra_cons (re_v 3) ra_nil)))) (rw_and1 (rt_dnotin hr.units 6 (re_v 11)))))
        (rss_cons (rs_dput hr.units 6 (re_v 11) (re_cb call_len (ok_len _) (by rfl) z_len PySem.boot_len (rab_cons (rb_v 5) rab_nil)))
        (rss_one (rs_app (i := 5) (re_v 11))))
        rss_nil)
      (rss_one (rs_app (i := 9) (re_dget hr.units 6 (re_v 11)))))))
    (rss_one (rs_app (i := 7) (re_tup (ra_cons (re_cl C_pair_ends (hr.mono (by decide)) (by rfl) (ra_cons (re_v 0) (ra_cons (re_v 1) (ra_cons (re_v 8) (ra_cons (re_v 3) ra_nil))))) (ra_cons (re_ct call_tuple_of (ok_tuple _) (by rfl) z_tuple (by decide +kernel) (rab_cons (rb_v 9) rab_nil)) ra_nil)))))))))
  (rss_fz 7 (rss_one (rs_ret (re_clk C_least_form (hr.mono (by decide)) (by rfl) (ra_cons (re_v 7) ra_nil) (rk_cons (re_v 2) rk_nil)))))))))))
/-! ### flipped_form -/
abbrev s_flipped_form : Stmt := topS 23
abbrev N_flipped_form : List Str := ["form", "width", "sink", "flipped", "ends", "row", "symbol", "target"]
theorem sc_flipped_form : FnScope N_flipped_form ["form", "width"] (defScope s_flipped_form) := ⟨rfl, rfl, rfl, by decide +kernel, rfl, by decide +kernel, by decide +kernel⟩
theorem okf_flipped_form {f : Addr} {fd : FuncData} (F : Fun K "flipped_form" "flipped_form" s_flipped_form f fd) (z_len : mg "len" = none) (z_range : mg "range" = none) (z_tuple : mg "tuple" = none) (C_least_form : Clk P w K mg base "least_form" 6 ["form", "width"] 1 ["width"] g_least_form) : FnOk P w K mg base CX0 7 f fd ["form", "width"] (spR K g_flipped_form) := by
  refine fn_ok F sc_flipped_form (fun cdv A outer s H E hr => ?_)
  have nd := sc_flipped_form.nd
  unfold m_flipped_form
  exact
  (rss_cons (rs_set (i := 2) nd (re_cb call_len (ok_len _) (by rfl) z_len PySem.boot_len (rab_cons (rb_v 0) rab_nil)))
  (rss_cons (rs_setF (i := 3) nd (rf_lst ra_nil))
  (rss_cons (rs_for PassesOwn.never rfl (ri_data (re_v 0)) (rg_tup rfl (rgs_cons (rg_name (i := 4) nd) (rgs_cons (rg_name (i := 5) nd) rgs_nil)))
    (rss_one (rs_app (i := 3) (re_tup (ra_cons (re_not (re_v 4)) (ra_cons (re_ct call_tuple_of (ok_tuple _) (by rfl) z_tuple (by decide +kernel) (rab_cons (re_b (re_f (rf_lc [("target", 7)] rfl rfl nd (ri_data (re_v 5)) (blkOk_by (N := N_flipped_form) (sc := defScope s_flipped_form) (by decide +kernel)) (fun _ _ _ _ _ => pg_name (i := 7) nd rfl (Or.inl rfl)) (fun _ _ _ _ _ => rts_nil) (fun _ _ _ _ _ => (re_if (rt_cmp op_isU (ok_is _) (rb_v 7) (re_b re_non)) (re_v 2) (re_v 7)))))) rab_nil)) ra_nil))))))
  (rss_cons (rs_app (i := 3) (re_tup (ra_cons re_bl (ra_cons (re_ct call_tuple_of (ok_tuple _) (by rfl) z_tuple (by decide +kernel) (rab_cons (re_b (re_f (rf_lc [("symbol", 6)] rfl rfl nd (ri_rng1 (by rfl) z_range (ra_cons (re_v 1) ra_nil)) (blkOk_by (N := N_flipped_form) (sc := defScope s_flipped_form) (by decide +kernel)) (fun _ _ _ _ _ => pg_name (i := 6) nd rfl (Or.inl rfl)) (fun _ _ _ _ _ => rts_nil) (fun _ _ _ _ _ => (re_v 2))))) rab_nil)) ra_nil))))
  (rss_fz 3 (rss_one (rs_ret (re_clk C_least_form (hr.mono (by decide)) (by rfl) (ra_cons (re_v 3) ra_nil) (rk_cons (re_v 1) rk_nil)))))))))
/-! ### is_move -/
abbrev s_is_move : Stmt := topS 30
abbrev N_is_move : List Str := ["form", "move"]
theorem sc_is_move : FnScope N_is_move ["form", "move"] (defScope s_is_move) := ⟨rfl, rfl, rfl, by decide +kernel, rfl, by decide +kernel, by decide +kernel⟩
theorem okf_is_move {f : Addr} {fd : FuncData} (F : Fun K "is_move" "is_move" s_is_move f fd) (z_bool : mg "bool" = none) (z_int : mg "int" = none) (z_isinstance : mg "isinstance" = none) (z_len : mg "len" = none) : FnOk P w K mg base CX0 1 f fd ["form", "move"] (spR K g_is_move) := by
  refine fn_ok F sc_is_move (fun cdv A outer s H E hr => ?_)
  have nd := sc_is_move.nd
  unfold m_is_move
  exact
  (rss_cons (rs_if (rt_cmp op_isU (ok_is _) (rb_v 1) (re_b re_non))
    (rss_one (rs_ret re_bl))
    rss_nil)
  (rss_one (rs_ret (re_and (re_cb op_isiU (ok_isi _) (by rfl) z_isinstance (by decide +kernel) (rab_cons (rb_v 1) (rab_cons (re_b (re_ty (n := "int") (by rfl) z_int (by decide +kernel))) rab_nil))) (re_and (re_not (re_cb op_isiU (ok_isi _) (by rfl) z_isinstance (by decide +kernel) (rab_cons (rb_v 1) (rab_cons (re_b (re_ty (n := "bool") (by rfl) z_bool (by decide +kernel))) rab_nil)))) (re_one (re_chain op_le (ok_cmp _ _) op_lt (ok_cmp _ _) (re_b re_int) (rb_v 1) (re_b (re_cb call_len (ok_len _) (by rfl) z_len PySem.boot_len (rab_cons (rb_v 0) rab_nil))))))))))
/-! ### check_form -/
abbrev s_check_form : Stmt := topS 31
abbrev N_check_form : List Str := ["form", "width", "state", "ends", "row", "move"]
theorem sc_check_form : FnScope N_check_form ["form", "width"] (defScope s_check_form) := ⟨rfl, rfl, rfl, by decide +kernel, rfl, by decide +kernel, by decide +kernel⟩
theorem okf_check_form {f : Addr} {fd : FuncData} (F : Fun K "check_form" "check_form" s_check_form f fd) (z_all : mg "all" = none) (z_enumerate : mg "enumerate" = none) (z_len : mg "len" = none) (C_is_move : Cl P w K mg base "is_move" 1 ["form", "move"] g_is_move) : FnOk P w K mg base CX0 2 f fd ["form", "width"] (spR K g_check_form) := by
  refine fn_ok F sc_check_form (fun cdv A outer s H E hr => ?_)
  have nd := sc_check_form.nd
  unfold m_check_form
  exact
  (rss_one (rs_for PassesOwn.never rfl (ri_enum (by rfl) z_enumerate (re_v 0)) (rg_tup rfl (rgs_cons (rg_name (i := 2) nd) (rgs_cons (rg_tup rfl (rgs_cons (rg_name (i := 3) nd) (rgs_cons (rg_name (i := 4) nd) rgs_nil))) rgs_nil)))
    (rss_one (rs_if (rt_w (rw_or (rt_cmp (op_neU hr.units) (ok_ne _) (re_b (re_cb call_len (ok_len _) (by rfl) z_len PySem.boot_len (rab_cons (rb_v 4) rab_nil))) (rb_v 1)) (rw_or1 (rt_not (rt_val (re_cb (cr_all rfl) (ok_all _) (by rfl) z_all (by decide +kernel) (rab_cons (re_b (re_f (rf_lc [("move", 5)] rfl rfl nd (ri_data (re_v 4)) (blkOk_by (N := N_check_form) (sc := defScope s_check_form) (by decide +kernel)) (fun _ _ _ _ _ => pg_name (i := 5) nd rfl (Or.inl rfl)) (fun _ _ _ _ _ => rts_nil) (fun _ _ _ _ _ => (re_cl C_is_move (hr.mono (by decide)) (by rfl) (ra_cons (re_v 0) (ra_cons (re_v 5) ra_nil))))))) rab_nil)))))))
      (rss_one rs_stuck)
      rss_nil))))
/-! ### check_same_alphabet -/
abbrev s_check_same_alphabet : Stmt := topS 32
abbrev N_check_same_alphabet : List Str := ["one", "two"]
theorem sc_check_same_alphabet : FnScope N_check_same_alphabet ["one", "two"] (defScope s_check_same_alphabet) := ⟨rfl, rfl, rfl, by decide +kernel, rfl, by decide +kernel, by decide +kernel⟩
theorem okx_check_same_alphabet {f : Addr} {fd : FuncData} {C_TextSet : Addr} (F : Fun K "check_same_alphabet" "check_same_alphabet" s_check_same_alphabet f fd) (A_TextSet : ClsAt K "TextSet" C_TextSet) (K_TextSet : Cls K C_TextSet) (n_TextSet_alphabet : NoAttr K C_TextSet "alphabet") (XC_AlphabetsDiffer : Xc P w K mg base "AlphabetsDiffer" "AlphabetsDiffer" 1 ["one", "two"]) : FnOk P w K mg base (L2.CX P w) 3 f fd ["one", "two"] (spX K gx_check_same_alphabet) := by
  refine fn_okX F sc_check_same_alphabet (fun cdv A outer s H E hr => ?_)
  have nd := sc_check_same_alphabet.nd
  have tk : Takes (cxOf (L2.CX P w) P w K mg base N_check_same_alphabet "check_same_alphabet" (defScope s_check_same_alphabet) f cdv A outer s H E) (fun cls d _ H1 => E cls d H1) := takes_of rfl rfl rfl rfl
  unfold m_check_same_alphabet
  exact
  (rss_one (rs_if (rt_cmp (op_neU hr.units) (ok_ne _) (re_b (re_fld A_TextSet K_TextSet n_TextSet_alphabet (re_v 0))) (re_b (re_fld A_TextSet K_TextSet n_TextSet_alphabet (re_v 1))))
    (rss_one (rs_raise XC_AlphabetsDiffer rfl tk (hr.mono (by decide)) (by rfl) (ra_cons (re_fld A_TextSet K_TextSet n_TextSet_alphabet (re_v 0)) (ra_cons (re_fld A_TextSet K_TextSet n_TextSet_alphabet (re_v 1)) ra_nil))))
    rss_nil))
/-! ### TextSet___init__ -/
abbrev s_TextSet___init__ : Stmt := inClass (topS 35) 0
abbrev N_TextSet___init__ : List Str := ["self", "alphabet", "form", "states"]
theorem sc_TextSet___init__ : FnScope N_TextSet___init__ ["self", "alphabet", "form"] (defScope s_TextSet___init__) := ⟨rfl, rfl, rfl, by decide +kernel, rfl, by decide +kernel, by decide +kernel⟩
theorem okf_TextSet___init__ {f : Addr} {fd : FuncData} {C_TextSet : Addr} (F : Fun K "__init__" "TextSet.__init__" s_TextSet___init__ f fd) (z_len : mg "len" = none) (A_TextSet : ClsAt K "TextSet" C_TextSet) (K_TextSet : Cls K C_TextSet) (n_TextSet_alphabet : NoAttr K C_TextSet "alphabet") (n_TextSet_form : NoAttr K C_TextSet "form") (C_check_alphabet : Cl P w K mg base "check_alphabet" 2 ["alphabet"] g_check_alphabet) (C_check_form : Cl P w K mg base "check_form" 2 ["form", "width"] g_check_form) (C_frozen : Cl P w K mg base "frozen" 5 ["value"] (g_frozen 4)) (C_least_form : Clk P w K mg base "least_form" 6 ["form", "width"] 1 ["width"] g_least_form) : FnOk P w K mg base CX0 7 f fd ["self", "alphabet", "form"] (spI K "TextSet" g_TextSet___init__) := by
  refine fn_okI F sc_TextSet___init__ (fun cdv A outer s H E hr => ?_)
  have nd := sc_TextSet___init__.nd
  unfold m_TextSet___init__
  exact
  (rss_cons (rs_do (re_cl C_check_alphabet (hr.mono (by decide)) (by rfl) (ra_cons (re_v 1) ra_nil)))
  (rss_cons (rs_set (i := 3) nd (re_cl C_frozen (hr.mono (by decide)) (by rfl) (ra_cons (re_v 2) ra_nil)))
  (rss_cons (rs_do (re_cl C_check_form (hr.mono (by decide)) (by rfl) (ra_cons (re_v 3) (ra_cons (re_cb call_len (ok_len _) (by rfl) z_len PySem.boot_len (rab_cons (rb_v 1) rab_nil)) ra_nil))))
  (rss_cons (rs_setFld "TextSet" (fun C h => by cases h.inj A_TextSet; exact ⟨K_TextSet, n_TextSet_alphabet⟩) 0 (re_v 1))
  (rss_one (rs_setFld "TextSet" (fun C h => by cases h.inj A_TextSet; exact ⟨K_TextSet, n_TextSet_form⟩) 0 (re_clk C_least_form (hr.mono (by decide)) (by rfl) (ra_cons (re_v 3) ra_nil) (rk_cons (re_cb call_len (ok_len _) (by rfl) z_len PySem.boot_len (rab_cons (rb_v 1) rab_nil)) rk_nil))))))))
/-! ### TextSet___or__ -/
abbrev s_TextSet___or__ : Stmt := inClass (topS 35) 2
abbrev N_TextSet___or__ : List Str := ["self", "other"]
theorem sc_TextSet___or__ : FnScope N_TextSet___or__ ["self", "other"] (defScope s_TextSet___or__) := ⟨rfl, rfl, rfl, by decide +kernel, rfl, by decide +kernel, by decide +kernel⟩
theorem okx_TextSet___or__ {f : Addr} {fd : FuncData} {C_TextSet : Addr} (F : Fun K "__or__" "TextSet.__or__" s_TextSet___or__ f fd) (z_len : mg "len" = none) (A_TextSet : ClsAt K "TextSet" C_TextSet) (K_TextSet : Cls K C_TextSet) (n_TextSet_alphabet : NoAttr K C_TextSet "alphabet") (n_TextSet_form : NoAttr K C_TextSet "form") (C_TextSet___init__ : Mkc P w K mg base "TextSet" "TextSet" 7 ["self", "alphabet", "form"] g_TextSet___init__) (C_paired_form : Cl P w K mg base "paired_form" 7 ["one", "two", "width", "keep"] g_paired_form) (CX_check_same_alphabet : ClX P w K mg base "check_same_alphabet" 3 ["one", "two"] gx_check_same_alphabet) : FnOk P w K mg base (L2.CX P w) 9 f fd ["self", "other"] (spX K gx_TextSet___or__) := by
  refine fn_okX F sc_TextSet___or__ (fun cdv A outer s H E hr => ?_)
  have nd := sc_TextSet___or__.nd
  have tk : Takes (cxOf (L2.CX P w) P w K mg base N_TextSet___or__ "TextSet.__or__" (defScope s_TextSet___or__) f cdv A outer s H E) (fun cls d _ H1 => E cls d H1) := takes_of rfl rfl rfl rfl
  unfold m_TextSet___or__
  exact
  (rss_cons (rs_doX (rx_cl CX_check_same_alphabet tk (hr.mono (by decide)) (by rfl) (ra_cons (re_v 0) (ra_cons (re_v 1) ra_nil))))
  (rss_one (rs_ret (re_make C_TextSet___init__ (hr.mono (by decide)) (by rfl) (ra_cons (re_fld A_TextSet K_TextSet n_TextSet_alphabet (re_v 0)) (ra_cons (re_cl C_paired_form (hr.mono (by decide)) (by rfl) (ra_cons (re_fld A_TextSet K_TextSet n_TextSet_form (re_v 0)) (ra_cons (re_fld A_TextSet K_TextSet n_TextSet_form (re_v 1)) (ra_cons (re_cb call_len (ok_len _) (by rfl) z_len PySem.boot_len (rab_cons (re_b (re_fld A_TextSet K_TextSet n_TextSet_alphabet (re_v 0))) rab_nil)) (ra_cons (re_str "either") ra_nil))))) ra_nil))))))
/-! ### TextSet___and__ -/
abbrev s_TextSet___and__ : Stmt := inClass (topS 35) 3
abbrev N_TextSet___and__ : List Str := ["self", "other"]
theorem sc_TextSet___and__ : FnScope N_TextSet___and__ ["self", "other"] (defScope s_TextSet___and__) := ⟨rfl, rfl, rfl, by decide +kernel, rfl, by decide +kernel, by decide +kernel⟩
theorem okx_TextSet___and__ {f : Addr} {fd : FuncData} {C_TextSet : Addr} (F : Fun K "__and__" "TextSet.__and__" s_TextSet___and__ f fd) (z_len : mg "len" = none) (A_TextSet : ClsAt K "TextSet" C_TextSet) (K_TextSet : Cls K C_TextSet) (n_TextSet_alphabet : NoAttr K C_TextSet "alphabet") (n_TextSet_form : NoAttr K C_TextSet "form") (C_TextSet___init__ : Mkc P w K mg base "TextSet" "TextSet" 7 ["self", "alphabet", "form"] g_TextSet___init__) (C_paired_form : Cl P w K mg base "paired_form" 7 ["one", "two", "width", "keep"] g_paired_form) (CX_check_same_alphabet : ClX P w K mg base "check_same_alphabet" 3 ["one", "two"] gx_check_same_alphabet) : FnOk P w K mg base (L2.CX P w) 9 f fd ["self", "other"] (spX K gx_TextSet___and__) := by
  refine fn_okX F sc_TextSet___and__ (fun cdv A outer s H E hr => ?_)
  have nd := sc_TextSet___and__.nd
  have tk : Takes (cxOf (L2.CX P w) P w K mg base N_TextSet___and__ "TextSet.__and__" (defScope s_TextSet___and__) f cdv A outer s H E) (fun cls d _ H1 => E cls d H1) := takes_of rfl rfl rfl rfl
  unfold m_TextSet___and__
  exact
  (rss_cons (rs_doX (rx_cl CX_check_same_alphabet tk (hr.mono (by decide)) (by rfl) (ra_cons (re_v 0) (ra_cons (re_v 1) ra_nil))))
  (rss_one (rs_ret (re_make C_TextSet___init__ (hr.mono (by decide)) (by rfl) (ra_cons (re_fld A_TextSet K_TextSet n_TextSet_alphabet (re_v 0)) (ra_cons (re_cl C_paired_form (hr.mono (by decide)) (by rfl) (ra_cons (re_fld A_TextSet K_TextSet n_TextSet_form (re_v 0)) (ra_cons (re_fld A_TextSet K_TextSet n_TextSet_form (re_v 1)) (ra_cons (re_cb call_len (ok_len _) (by rfl) z_len PySem.boot_len (rab_cons (re_b (re_fld A_TextSet K_TextSet n_TextSet_alphabet (re_v 0))) rab_nil)) (ra_cons (re_str "both") ra_nil))))) ra_nil))))))
/-! ### TextSet___sub__ -/
abbrev s_TextSet___sub__ : Stmt := inClass (topS 35) 4
abbrev N_TextSet___sub__ : List Str := ["self", "other"]
theorem sc_TextSet___sub__ : FnScope N_TextSet___sub__ ["self", "other"] (defScope s_TextSet___sub__) := ⟨rfl, rfl, rfl, by decide +kernel, rfl, by decide +kernel, by decide +kernel⟩
theorem okx_TextSet___sub__ {f : Addr} {fd : FuncData} {C_TextSet : Addr} (F : Fun K "__sub__" "TextSet.__sub__" s_TextSet___sub__ f fd) (z_len : mg "len" = none) (A_TextSet : ClsAt K "TextSet" C_TextSet) (K_TextSet : Cls K C_TextSet) (n_TextSet_alphabet : NoAttr K C_TextSet "alphabet") (n_TextSet_form : NoAttr K C_TextSet "form") (C_TextSet___init__ : Mkc P w K mg base "TextSet" "TextSet" 7 ["self", "alphabet", "form"] g_TextSet___init__) (C_paired_form : Cl P w K mg base "paired_form" 7 ["one", "two", "width", "keep"] g_paired_form) (CX_check_same_alphabet : ClX P w K mg base "check_same_alphabet" 3 ["one", "two"] gx_check_same_alphabet) : FnOk P w K mg base (L2.CX P w) 9 f fd ["self", "other"] (spX K gx_TextSet___sub__) := by
  refine fn_okX F sc_TextSet___sub__ (fun cdv A outer s H E hr => ?_)
  have nd := sc_TextSet___sub__.nd
  have tk : Takes (cxOf (L2.CX P w) P w K mg base N_TextSet___sub__ "TextSet.__sub__" (defScope s_TextSet___sub__) f cdv A outer s H E) (fun cls d _ H1 => E cls d H1) := takes_of rfl rfl rfl rfl
  unfold m_TextSet___sub__
  exact
  (rss_cons (rs_doX (rx_cl CX_check_same_alphabet tk (hr.mono (by decide)) (by rfl) (ra_cons (re_v 0) (ra_cons (re_v 1) ra_nil))))
  (rss_one (rs_ret (re_make C_TextSet___init__ (hr.mono (by decide)) (by rfl) (ra_cons (re_fld A_TextSet K_TextSet n_TextSet_alphabet (re_v 0)) (ra_cons (re_cl C_paired_form (hr.mono (by decide)) (by rfl) (ra_cons (re_fld A_TextSet K_TextSet n_TextSet_form (re_v 0)) (ra_cons (re_fld A_TextSet K_TextSet n_TextSet_form (re_v 1)) (ra_cons (re_cb call_len (ok_len _) (by rfl) z_len PySem.boot_len (rab_cons (re_b (re_fld A_TextSet K_TextSet n_TextSet_alphabet (re_v 0))) rab_nil)) (ra_cons (re_str "first") ra_nil))))) ra_nil))))))
/-! ### TextSet___invert__ -/
abbrev s_TextSet___invert__ : Stmt := inClass (topS 35) 6
abbrev N_TextSet___invert__ : List Str := ["self"]
theorem sc_TextSet___invert__ : FnScope N_TextSet___invert__ ["self"] (defScope s_TextSet___invert__) := ⟨rfl, rfl, rfl, by decide +kernel, rfl, by decide +kernel, by decide +kernel⟩
theorem okf_TextSet___invert__ {f : Addr} {fd : FuncData} {C_TextSet : Addr} (F : Fun K "__invert__" "TextSet.__invert__" s_TextSet___invert__ f fd) (z_len : mg "len" = none) (A_TextSet : ClsAt K "TextSet" C_TextSet) (K_TextSet : Cls K C_TextSet) (n_TextSet_alphabet : NoAttr K C_TextSet "alphabet") (n_TextSet_form : NoAttr K C_TextSet "form") (C_TextSet___init__ : Mkc P w K mg base "TextSet" "TextSet" 7 ["self", "alphabet", "form"] g_TextSet___init__) (C_flipped_form : Cl P w K mg base "flipped_form" 7 ["form", "width"] g_flipped_form) : FnOk P w K mg base CX0 9 f fd ["self"] (spR K g_TextSet___invert__) := by
  refine fn_ok F sc_TextSet___invert__ (fun cdv A outer s H E hr => ?_)
  have nd := sc_TextSet___invert__.nd
  unfold m_TextSet___invert__
  exact
  (rss_one (rs_ret (re_make C_TextSet___init__ (hr.mono (by decide)) (by rfl) (ra_cons (re_fld A_TextSet K_TextSet n_TextSet_alphabet (re_v 0)) (ra_cons (re_cl C_flipped_form (hr.mono (by decide)) (by rfl) (ra_cons (re_fld A_TextSet K_TextSet n_TextSet_form (re_v 0)) (ra_cons (re_cb call_len (ok_len _) (by rfl) z_len PySem.boot_len (rab_cons (re_b (re_fld A_TextSet K_TextSet n_TextSet_alphabet (re_v 0))) rab_nil)) ra_nil))) ra_nil)))))
/-! ### TextSet_begin -/
abbrev s_TextSet_begin : Stmt := inClass (topS 35) 9
abbrev N_TextSet_begin : List Str := ["self"]
theorem sc_TextSet_begin : FnScope N_TextSet_begin ["self"] (defScope s_TextSet_begin) := ⟨rfl, rfl, rfl, by decide +kernel, rfl, by decide +kernel, by decide +kernel⟩
theorem okf_TextSet_begin {f : Addr} {fd : FuncData} {C_TextSet : Addr} (F : Fun K "begin" "TextSet.begin" s_TextSet_begin f fd) (A_TextSet : ClsAt K "TextSet" C_TextSet) (K_TextSet : Cls K C_TextSet) (n_TextSet_form : NoAttr K C_TextSet "form") (C_form_start : Cl P w K mg base "form_start" 1 ["form"] g_form_start) : FnOk P w K mg base CX0 2 f fd ["self"] (spR K g_TextSet_begin) := by
  refine fn_ok F sc_TextSet_begin (fun cdv A outer s H E hr => ?_)
  have nd := sc_TextSet_begin.nd
  unfold m_TextSet_begin
  exact
  (rss_one (rs_ret (re_cl C_form_start (hr.mono (by decide)) (by rfl) (ra_cons (re_fld A_TextSet K_TextSet n_TextSet_form (re_v 0)) ra_nil))))
/-! ### TextSet_step -/
abbrev s_TextSet_step : Stmt := inClass (topS 35) 10
abbrev N_TextSet_step : List Str := ["self", "state", "letter", "symbol"]
theorem sc_TextSet_step : FnScope N_TextSet_step ["self", "state", "letter"] (defScope s_TextSet_step) := ⟨rfl, rfl, rfl, by decide +kernel, rfl, by decide +kernel, by decide +kernel⟩
theorem okf_TextSet_step {f : Addr} {fd : FuncData} {C_TextSet : Addr} (F : Fun K "step" "TextSet.step" s_TextSet_step f fd) (A_TextSet : ClsAt K "TextSet" C_TextSet) (K_TextSet : Cls K C_TextSet) (n_TextSet_alphabet : NoAttr K C_TextSet "alphabet") (n_TextSet_form : NoAttr K C_TextSet "form") (C_form_step : Cl P w K mg base "form_step" 1 ["form", "state", "symbol"] g_form_step) : FnOk P w K mg base CX0 2 f fd ["self", "state", "letter"] (spR K g_TextSet_step) := by
  refine fn_ok F sc_TextSet_step (fun cdv A outer s H E hr => ?_)
  have nd := sc_TextSet_step.nd
  unfold m_TextSet_step
  exact
  (rss_cons (rs_set (i := 3) nd (re_mt PySem.F.slot_str_find PySem.F.type_str_find mt_find (ok_find1 _) (re_b (re_fld A_TextSet K_TextSet n_TextSet_alphabet (re_v 0))) (rab_cons (rb_v 2) rab_nil)))
  (rss_cons (rs_if (rt_cmp op_lt (ok_cmp _ _) (rb_v 3) (re_b re_int))
    (rss_one (rs_ret re_non))
    rss_nil)
  (rss_one (rs_ret (re_cl C_form_step (hr.mono (by decide)) (by rfl) (ra_cons (re_fld A_TextSet K_TextSet n_TextSet_form (re_v 0)) (ra_cons (re_v 1) (ra_cons (re_v 3) ra_nil))))))))
/-! ### TextSet_steps -/
abbrev s_TextSet_steps : Stmt := inClass (topS 35) 11
abbrev N_TextSet_steps : List Str := ["self", "state", "text", "after", "letter"]
theorem sc_TextSet_steps : FnScope N_TextSet_steps ["self", "state", "text"] (defScope s_TextSet_steps) := ⟨rfl, rfl, rfl, by decide +kernel, rfl, by decide +kernel, by decide +kernel⟩
theorem okf_TextSet_steps {f : Addr} {fd : FuncData} (F : Fun K "steps" "TextSet.steps" s_TextSet_steps f fd) (C_TextSet_step : Mt P w K mg base "TextSet" "step" 2 ["self", "state", "letter"] g_TextSet_step) : FnOk P w K mg base CX0 4 f fd ["self", "state", "text"] (spR K g_TextSet_steps) := by
  refine fn_ok F sc_TextSet_steps (fun cdv A outer s H E hr => ?_)
  have nd := sc_TextSet_steps.nd
  unfold m_TextSet_steps
  exact
  (rss_cons (rs_set (i := 3) nd (re_v 1))
  (rss_cons (rs_for PassesOwn.never rfl (ri_data (re_v 2)) (rg_name (i := 4) nd)
    (rss_one (rs_set (i := 3) nd (re_meth C_TextSet_step (hr.mono (by decide)) (re_v 0) (ra_cons (re_v 3) (ra_cons (re_v 4) ra_nil))))))
  (rss_one (rs_ret (re_v 3)))))
/-! ### TextSet_stops -/
abbrev s_TextSet_stops : Stmt := inClass (topS 35) 12
abbrev N_TextSet_stops : List Str := ["self", "state"]
theorem sc_TextSet_stops : FnScope N_TextSet_stops ["self", "state"] (defScope s_TextSet_stops) := ⟨rfl, rfl, rfl, by decide +kernel, rfl, by decide +kernel, by decide +kernel⟩
theorem okf_TextSet_stops {f : Addr} {fd : FuncData} {C_TextSet : Addr} (F : Fun K "stops" "TextSet.stops" s_TextSet_stops f fd) (A_TextSet : ClsAt K "TextSet" C_TextSet) (K_TextSet : Cls K C_TextSet) (n_TextSet_form : NoAttr K C_TextSet "form") (C_form_stops : Cl P w K mg base "form_stops" 1 ["form", "state"] g_form_stops) : FnOk P w K mg base CX0 2 f fd ["self", "state"] (spR K g_TextSet_stops) := by
  refine fn_ok F sc_TextSet_stops (fun cdv A outer s H E hr => ?_)
  have nd := sc_TextSet_stops.nd
  unfold m_TextSet_stops
  exact
  (rss_one (rs_ret (re_cl C_form_stops (hr.mono (by decide)) (by rfl) (ra_cons (re_fld A_TextSet K_TextSet n_TextSet_form (re_v 0)) (ra_cons (re_v 1) ra_nil)))))
/-! ### TextSet___contains__ -/
abbrev s_TextSet___contains__ : Stmt := inClass (topS 35) 7
abbrev N_TextSet___contains__ : List Str := ["self", "value"]
theorem sc_TextSet___contains__ : FnScope N_TextSet___contains__ ["self", "value"] (defScope s_TextSet___contains__) := ⟨rfl, rfl, rfl, by decide +kernel, rfl, by decide +kernel, by decide +kernel⟩
theorem okf_TextSet___contains__ {f : Addr} {fd : FuncData} (F : Fun K "__contains__" "TextSet.__contains__" s_TextSet___contains__ f fd) (C_TextSet_begin : Mt P w K mg base "TextSet" "begin" 2 ["self"] g_TextSet_begin) (C_TextSet_steps : Mt P w K mg base "TextSet" "steps" 4 ["self", "state", "text"] g_TextSet_steps) (C_TextSet_stops : Mt P w K mg base "TextSet" "stops" 2 ["self", "state"] g_TextSet_stops) : FnOk P w K mg base CX0 6 f fd ["self", "value"] (spR K g_TextSet___contains__) := by
  refine fn_ok F sc_TextSet___contains__ (fun cdv A outer s H E hr => ?_)
  have nd := sc_TextSet___contains__.nd
  unfold m_TextSet___contains__
  exact
  (rss_one (rs_ret (re_meth C_TextSet_stops (hr.mono (by decide)) (re_v 0) (ra_cons (re_meth C_TextSet_steps (hr.mono (by decide)) (re_v 0) (ra_cons (re_meth0 C_TextSet_begin (hr.mono (by decide)) (re_v 0)) (ra_cons (re_v 1) ra_nil))) ra_nil))))
/-! ### TextSet_is_empty -/
abbrev s_TextSet_is_empty : Stmt := inClass (topS 35) 8
abbrev N_TextSet_is_empty : List Str := ["self"]
theorem sc_TextSet_is_empty : FnScope N_TextSet_is_empty ["self"] (defScope s_TextSet_is_empty) := ⟨rfl, rfl, rfl, by decide +kernel, rfl, by decide +kernel, by decide +kernel⟩
theorem okf_TextSet_is_empty {f : Addr} {fd : FuncData} {C_TextSet : Addr} (F : Fun K "is_empty" "TextSet.is_empty" s_TextSet_is_empty f fd) (z_len : mg "len" = none) (A_TextSet : ClsAt K "TextSet" C_TextSet) (K_TextSet : Cls K C_TextSet) (n_TextSet_form : NoAttr K C_TextSet "form") : FnOk P w K mg base CX0 1 f fd ["self"] (spR K g_TextSet_is_empty) := by
  refine fn_ok F sc_TextSet_is_empty (fun cdv A outer s H E hr => ?_)
  have nd := sc_TextSet_is_empty.nd
  unfold m_TextSet_is_empty
  exact
  (rss_one (rs_ret (re_cmp (op_eqU hr.units) (ok_eq _) (re_b (re_cb call_len (ok_len _) (by rfl) z_len PySem.boot_len (rab_cons (re_b (re_fld A_TextSet K_TextSet n_TextSet_form (re_v 0))) rab_nil))) (re_b re_int))))
/-! ### TextSet_state_after -/
abbrev s_TextSet_state_after : Stmt := inClass (topS 35) 13
abbrev N_TextSet_state_after : List Str := ["self", "text"]
theorem sc_TextSet_state_after : FnScope N_TextSet_state_after ["self", "text"] (defScope s_TextSet_state_after) := ⟨rfl, rfl, rfl, by decide +kernel, rfl, by decide +kernel, by decide +kernel⟩
theorem okf_TextSet_state_after {f : Addr} {fd : FuncData} (F : Fun K "state_after" "TextSet.state_after" s_TextSet_state_after f fd) (C_TextSet_begin : Mt P w K mg base "TextSet" "begin" 2 ["self"] g_TextSet_begin) (C_TextSet_steps : Mt P w K mg base "TextSet" "steps" 4 ["self", "state", "text"] g_TextSet_steps) : FnOk P w K mg base CX0 6 f fd ["self", "text"] (spR K g_TextSet_state_after) := by
  refine fn_ok F sc_TextSet_state_after (fun cdv A outer s H E hr => ?_)
  have nd := sc_TextSet_state_after.nd
  unfold m_TextSet_state_after
  exact
  (rss_one (rs_ret (re_meth C_TextSet_steps (hr.mono (by decide)) (re_v 0) (ra_cons (re_meth0 C_TextSet_begin (hr.mono (by decide)) (re_v 0)) (ra_cons (re_v 1) ra_nil)))))
/-! ### _law_whole -/
abbrev s__law_whole : Stmt := topS 37
abbrev N__law_whole : List Str := ["_law_value"]
theorem sc__law_whole : FnScope N__law_whole ["_law_value"] (defScope s__law_whole) := ⟨rfl, rfl, rfl, by decide +kernel, rfl, by decide +kernel, by decide +kernel⟩
theorem okf__law_whole {f : Addr} {fd : FuncData} (F : Fun K "_law_whole" "_law_whole" s__law_whole f fd) (z_bool : mg "bool" = none) (z_int : mg "int" = none) (z_isinstance : mg "isinstance" = none) : FnOk P w K mg base CX0 1 f fd ["_law_value"] (spR K g__law_whole) := by
  refine fn_ok F sc__law_whole (fun cdv A outer s H E hr => ?_)
  have nd := sc__law_whole.nd
  unfold m__law_whole
  exact
  (rss_one (rs_ret (re_and (re_cb op_isiU (ok_isi _) (by rfl) z_isinstance (by decide +kernel) (rab_cons (rb_v 0) (rab_cons (re_b (re_ty (n := "int") (by rfl) z_int (by decide +kernel))) rab_nil))) (re_one (re_not (re_cb op_isiU (ok_isi _) (by rfl) z_isinstance (by decide +kernel) (rab_cons (rb_v 0) (rab_cons (re_b (re_ty (n := "bool") (by rfl) z_bool (by decide +kernel))) rab_nil))))))))
/-! ### _law_cell -/
abbrev s__law_cell : Stmt := topS 38
abbrev N__law_cell : List Str := ["_law_script", "_law_k", "_law_seed", "_law_cell_here"]
theorem sc__law_cell : FnScope N__law_cell ["_law_script", "_law_k"] (defScope s__law_cell) := ⟨rfl, rfl, rfl, by decide +kernel, rfl, by decide +kernel, by decide +kernel⟩
theorem okf__law_cell {f : Addr} {fd : FuncData} (F : Fun K "_law_cell" "_law_cell" s__law_cell f fd) (z_int : mg "int" = none) (z_len : mg "len" = none) : FnOk P w K mg base CX0 1 f fd ["_law_script", "_law_k"] (spR K g__law_cell) := by
  refine fn_ok F sc__law_cell (fun cdv A outer s H E hr => ?_)
  have nd := sc__law_cell.nd
  unfold m__law_cell
  exact
  (rss_cons (rs_if (rt_cmp op_lt (ok_cmp _ _) (rb_v 1) (re_b (re_cb call_len (ok_len _) (by rfl) z_len PySem.boot_len (rab_cons (rb_v 0) rab_nil))))
    (rss_one (rs_ret (re_ix (hu_of hr) (rb_v 0) (rb_v 1))))
    rss_nil)
  (rss_cons (rs_set (i := 2) nd re_int)
  (rss_cons (rs_for PassesOwn.never rfl (ri_data (re_v 0)) (rg_name (i := 3) nd)
    (rss_one (rs_set (i := 2) nd (re_op op_mod (ok_mod _) (re_b (re_ct call_int1 (ok_int _) (by rfl) z_int (by decide +kernel) (rab_cons (re_b (re_op op_addU (ok_add _) (re_b (re_op op_mulU (ok_mul _) (rb_v 2) (re_b re_int))) (re_b (re_op op_mod (ok_mod _) (re_b (re_ct call_int1 (ok_int _) (by rfl) z_int (by decide +kernel) (rab_cons (rb_v 3) rab_nil))) (re_b re_int))))) rab_nil))) (re_b re_int)))))
  (rss_one (rs_ret (re_op op_mod (ok_mod _) (re_b (re_ct call_int1 (ok_int _) (by rfl) z_int (by decide +kernel) (rab_cons (re_b (re_op op_mulU (ok_mul _) (re_b (re_op op_mulU (ok_mul _) (re_b (re_op op_addU (ok_add _) (rb_v 2) (re_b re_int))) (re_b (re_op op_addU (ok_add _) (rb_v 1) (re_b re_int))))) (re_b re_int))) rab_nil))) (re_b re_int)))))))
/-! ### _law_digits -/
abbrev s__law_digits : Stmt := topS 39
abbrev N__law_digits : List Str := ["_law_cell_here", "_law_sizes", "_law_row", "_law_rest", "_law_seed", "_law_k", "_law_size", "_law_twice"]
theorem sc__law_digits : FnScope N__law_digits ["_law_cell_here", "_law_sizes"] (defScope s__law_digits) := ⟨rfl, rfl, rfl, by decide +kernel, rfl, by decide +kernel, by decide +kernel⟩
theorem okf__law_digits {f : Addr} {fd : FuncData} (F : Fun K "_law_digits" "_law_digits" s__law_digits f fd) (z_int : mg "int" = none) (z_len : mg "len" = none) (z_range : mg "range" = none) : FnOk P w K mg base CX0 1 f fd ["_law_cell_here", "_law_sizes"] (spR K g__law_digits) := by
  refine fn_ok F sc__law_digits (fun cdv A outer s H E hr => ?_)
  have nd := sc__law_digits.nd
  unfold m__law_digits
  exact
  (rss_cons (rs_setF (i := 2) nd (rf_lst ra_nil))
  (rss_cons (rs_set (i := 3) nd (re_ct call_int1 (ok_int _) (by rfl) z_int (by decide +kernel) (rab_cons (rb_v 0) rab_nil)))
  (rss_cons (rs_if (rt_cmp op_ge (ok_cmp _ _) (rb_v 3) (re_b (re_op op_pow (ok_pow _) (re_b re_int) (re_b re_int))))
    (rss_cons (rs_set (i := 3) nd (re_op op_sub (ok_sub _) (rb_v 3) (re_b (re_op op_pow (ok_pow _) (re_b re_int) (re_b re_int)))))
    (rss_cons (rs_for PassesOwn.never rfl (ri_data (re_v 1)) (rg_name (i := 6) nd)
      (rss_cons (rs_app (i := 2) (re_op op_mod (ok_mod _) (re_b (re_ct call_int1 (ok_int _) (by rfl) z_int (by decide +kernel) (rab_cons (rb_v 3) rab_nil))) (rb_v 6)))
      (rss_one (rs_set (i := 3) nd (re_op op_fdiv (ok_div _) (re_b (re_ct call_int1 (ok_int _) (by rfl) z_int (by decide +kernel) (rab_cons (rb_v 3) rab_nil))) (rb_v 6))))))
    (rss_one (rs_retO 2))))
    rss_nil)
  (rss_cons (rs_set (i := 4) nd (re_op op_mod (ok_mod _) (re_b (re_ct call_int1 (ok_int _) (by rfl) z_int (by decide +kernel) (rab_cons (rb_v 3) rab_nil))) (re_b re_int)))
  (rss_cons (rs_for PassesOwn.never rfl (ri_rng1 (by rfl) z_range (ra_cons (re_cb call_len (ok_len _) (by rfl) z_len PySem.boot_len (rab_cons (rb_v 1) rab_nil)) ra_nil)) (rg_name (i := 5) nd)
    (rss_cons (rs_set (i := 4) nd (re_op op_mod (ok_mod _) (re_b (re_ct call_int1 (ok_int _) (by rfl) z_int (by decide +kernel) (rab_cons (re_b (re_op op_addU (ok_add _) (re_b (re_op op_addU (ok_add _) (re_b (re_op op_mulU (ok_mul _) (rb_v 4) (re_b re_int))) (re_b (re_op op_mulU (ok_mul _) (re_b re_int) (rb_v 5))))) (re_b re_int))) rab_nil))) (re_b re_int)))
    (rss_cons (rs_set (i := 7) nd (re_op op_mod (ok_mod _) (re_b (re_ct call_int1 (ok_int _) (by rfl) z_int (by decide +kernel) (rab_cons (re_b (re_op op_mulU (ok_mul _) (rb_v 4) (re_b (re_op op_addU (ok_add _) (re_b (re_op op_fdiv (ok_div _) (rb_v 4) (re_b re_int))) (re_b re_int))))) rab_nil))) (re_b re_int)))
    (rss_one (rs_app (i := 2) (re_op op_mod (ok_mod _) (re_b (re_op op_fdiv (ok_div _) (rb_v 7) (re_b re_int))) (re_b (re_ix (hu_of hr) (rb_v 1) (rb_v 5)))))))))
  (rss_one (rs_retO 2)))))))
/-! ### _law_letters -/
abbrev s__law_letters : Stmt := topS 40
abbrev N__law_letters : List Str := ["_law_row", "_law_at", "_law_size", "_law_left", "_law_taken", "_law_k", "_law_place"]
theorem sc__law_letters : FnScope N__law_letters ["_law_row", "_law_at", "_law_size"] (defScope s__law_letters) := ⟨rfl, rfl, rfl, by decide +kernel, rfl, by decide +kernel, by decide +kernel⟩
theorem okf__law_letters {f : Addr} {fd : FuncData} (F : Fun K "_law_letters" "_law_letters" s__law_letters f fd) (z_int : mg "int" = none) (z_len : mg "len" = none) (z_range : mg "range" = none) (z_sorted : mg "sorted" = none) : FnOk P w K mg base CX0 1 f fd ["_law_row", "_law_at", "_law_size"] (spR K g__law_letters) := by
  refine fn_ok F sc__law_letters (fun cdv A outer s H E hr => ?_)
  have nd := sc__law_letters.nd
  unfold m__law_letters
  exact
  (rss_cons (rs_set (i := 3) nd (re_str "abcdefghijklmnopqrstuvwxyz"))
  (rss_cons (rs_setF (i := 4) nd (rf_lst ra_nil))
  (rss_cons (rs_for PassesOwn.never rfl (ri_rng1 (by rfl) z_range (ra_cons (re_v 2) ra_nil)) (rg_name (i := 5) nd)
    (rss_cons (rs_set (i := 6) nd (re_op op_mod (ok_mod _) (re_b (re_ct call_int1 (ok_int _) (by rfl) z_int (by decide +kernel) (rab_cons (re_b (re_ix (hu_of hr) (rb_v 0) (re_b (re_op op_addU (ok_add _) (rb_v 1) (rb_v 5))))) rab_nil))) (re_b (re_cb call_len (ok_len _) (by rfl) z_len PySem.boot_len (rab_cons (rb_v 3) rab_nil)))))
    (rss_cons (rs_app (i := 4) (re_ix (hu_of hr) (rb_v 3) (rb_v 6)))
    (rss_one (rs_set (i := 3) nd (re_op op_addU (ok_add _) (re_b (re_sl (rb_v 3) ro_none (ro_some (re_v 6)))) (re_b (re_sl (rb_v 3) (ro_some (re_op op_addU (ok_add _) (rb_v 6) (re_b re_int))) ro_none))))))))
  (rss_one (rs_ret (re_mt PySem.F.slot_str_join PySem.F.type_str_join mt_join (ok_join _) (re_b (re_str "")) (rab_cons (re_b (re_f (rf_sortC (by rfl) z_sorted (rab_cons (rb_v 4) rab_nil)))) rab_nil)))))))
/-! ### _law_other -/
abbrev s__law_other : Stmt := topS 41
abbrev N__law_other : List Str := ["_law_target", "_law_half", "_law_digit"]
theorem sc__law_other : FnScope N__law_other ["_law_target", "_law_half", "_law_digit"] (defScope s__law_other) := ⟨rfl, rfl, rfl, by decide +kernel, rfl, by decide +kernel, by decide +kernel⟩
theorem okf__law_other {f : Addr} {fd : FuncData} (F : Fun K "_law_other" "_law_other" s__law_other f fd) (z_int : mg "int" = none) : FnOk P w K mg base CX0 1 f fd ["_law_target", "_law_half", "_law_digit"] (spR K g__law_other) := by
  refine fn_ok F sc__law_other (fun cdv A outer s H E hr => ?_)
  have nd := sc__law_other.nd
  unfold m__law_other
  exact
  (rss_cons (rs_if (rt_w (rw_or (rt_cmp op_isU (ok_is _) (rb_v 0) (re_b re_non)) (rw_or1 (rt_cmp op_ge (ok_cmp _ _) (rb_v 0) (re_b (re_op op_mulU (ok_mul _) (re_b re_int) (rb_v 1)))))))
    (rss_one (rs_ret (re_v 0)))
    rss_nil)
  (rss_one (rs_ret (re_op op_addU (ok_add _) (re_b (re_op op_mod (ok_mod _) (re_b (re_ct call_int1 (ok_int _) (by rfl) z_int (by decide +kernel) (rab_cons (rb_v 0) rab_nil))) (rb_v 1))) (re_b (re_op op_mulU (ok_mul _) (rb_v 1) (re_b (re_op op_mod (ok_mod _) (re_b (re_ct call_int1 (ok_int _) (by rfl) z_int (by decide +kernel) (rab_cons (rb_v 2) rab_nil))) (re_b re_int)))))))))
/-! ### _law_form -/
abbrev s__law_form : Stmt := topS 42
abbrev N__law_form : List Str := ["_law_script", "_law_at", "_law_many", "_law_size", "_law_doubled", "_law_half", "_law_rows", "_law_k", "_law_row", "_law_ends_here", "_law_targets", "_law_j"]
theorem sc__law_form : FnScope N__law_form ["_law_script", "_law_at", "_law_many", "_law_size", "_law_doubled"] (defScope s__law_form) := ⟨rfl, rfl, rfl, by decide +kernel, rfl, by decide +kernel, by decide +kernel⟩
theorem okf__law_form {f : Addr} {fd : FuncData} (F : Fun K "_law_form" "_law_form" s__law_form f fd) (z_int : mg "int" = none) (z_range : mg "range" = none) (z_tuple : mg "tuple" = none) (C__law_cell : Cl P w K mg base "_law_cell" 1 ["_law_script", "_law_k"] g__law_cell) (C__law_digits : Cl P w K mg base "_law_digits" 1 ["_law_cell_here", "_law_sizes"] g__law_digits) (C__law_other : Cl P w K mg base "_law_other" 1 ["_law_target", "_law_half", "_law_digit"] g__law_other) : FnOk P w K mg base CX0 2 f fd ["_law_script", "_law_at", "_law_many", "_law_size", "_law_doubled"] (spR K g__law_form) := by
  refine fn_ok F sc__law_form (fun cdv A outer s H E hr => ?_)
  have nd := sc__law_form.nd
  unfold m__law_form
  exact
  (rss_cons (rs_set (i := 5) nd (re_op op_fdiv (ok_div _) (rb_v 2) (re_b re_int)))
  (rss_cons (rs_setF (i := 6) nd (rf_lst ra_nil))
  (rss_cons (rs_for PassesOwn.never rfl (ri_rng1 (by rfl) z_range (ra_cons (re_v 2) ra_nil)) (rg_name (i := 7) nd)
    (rss_cons (rs_set (i := 8) nd (re_cl C__law_digits (hr.mono (by decide)) (by rfl) (ra_cons (re_op op_addU (ok_add _) (re_b (re_cl C__law_cell (hr.mono (by decide)) (by rfl) (ra_cons (re_v 0) (ra_cons (re_op op_addU (ok_add _) (rb_v 1) (rb_v 7)) ra_nil)))) (re_b (re_op op_mulU (ok_mul _) (re_b re_int) (rb_v 7)))) (ra_cons (re_op op_addU (ok_add _) (re_b (re_op op_addU (ok_add _) (re_b (re_f (rf_lst (ra_cons re_int (ra_cons re_int ra_nil))))) (re_b (re_op op_mulU (ok_mul _) (re_b (re_f (rf_lst (ra_cons (re_op op_addU (ok_add _) (rb_v 2) (re_b re_int)) ra_nil)))) (re_b re_int))))) (re_b (re_f (rf_lst (ra_cons re_int ra_nil))))) ra_nil))))
    (rss_cons (rs_set (i := 9) nd (re_cmp op_lt (ok_cmp _ _) (re_b (re_ix (hu_of hr) (rb_v 8) (re_b re_int))) (re_b re_int)))
    (rss_cons (rs_setLc (i := 10) [("_law_j", 11)] rfl rfl nd rfl rfl (sw_true rfl rfl rfl (by decide +kernel)) (ri_rng1 (by rfl) z_range (ra_cons (re_v 3) ra_nil)) (blkOk_by (N := N__law_form) (sc := defScope s__law_form) (by decide +kernel)) (fun _ _ _ _ _ => pg_name (i := 11) nd rfl (Or.inl rfl)) (fun _ _ _ _ _ => rts_nil) (fun _ _ _ _ _ => (re_ix (hu_of hr) (re_b (re_f (rf_lst (ra_cons re_non (ra_cons (re_ix (hu_of hr) (rb_v 8) (re_b (re_op op_addU (ok_add _) (re_b re_int) (rb_v 11)))) ra_nil))))) (re_b (re_ct call_int1 (ok_int _) (by rfl) z_int (by decide +kernel) (rab_cons (re_b (re_cmp op_lt (ok_cmp _ _) (re_b (re_ix (hu_of hr) (rb_v 8) (re_b (re_op op_addU (ok_add _) (re_b re_int) (rb_v 11))))) (rb_v 2))) rab_nil))))))
    (rss_cons (rs_if (rt_w (rw_and (rt_val (re_v 4)) (rw_and (rt_cmp op_le (ok_cmp _ _) (rb_v 5) (rb_v 7)) (rw_and1 (rt_cmp op_lt (ok_cmp _ _) (rb_v 7) (re_b (re_op op_mulU (ok_mul _) (re_b re_int) (rb_v 5))))))))
      (rss_cons (rs_set (i := 9) nd (re_ix (hu_of hr) (re_b (re_ix (hu_of hr) (rb_v 6) (re_b (re_op op_sub (ok_sub _) (rb_v 7) (rb_v 5))))) (re_b re_int)))
      (rss_one (rs_setLc (i := 10) [("_law_j", 11)] rfl rfl nd rfl rfl (sw_true rfl rfl rfl (by decide +kernel)) (ri_rng1 (by rfl) z_range (ra_cons (re_v 3) ra_nil)) (blkOk_by (N := N__law_form) (sc := defScope s__law_form) (by decide +kernel)) (fun _ _ _ _ _ => pg_name (i := 11) nd rfl (Or.inl rfl)) (fun _ _ _ _ _ => rts_nil) (fun _ _ _ _ _ => (re_cl C__law_other (hr.mono (by decide)) (by rfl) (ra_cons (re_ix (hu_of hr) (re_b (re_ix (hu_of hr) (re_b (re_ix (hu_of hr) (rb_v 6) (re_b (re_op op_sub (ok_sub _) (rb_v 7) (rb_v 5))))) (re_b re_int))) (rb_v 11)) (ra_cons (re_v 5) (ra_cons (re_ix (hu_of hr) (rb_v 8) (re_b (re_op op_addU (ok_add _) (re_b re_int) (rb_v 11)))) ra_nil))))))))
      (rss_one (rs_if (rt_w (rw_and (rt_cmp (op_eqU hr.units) (ok_eq _) (re_b (re_ix (hu_of hr) (rb_v 8) (re_b re_int))) (re_b re_int)) (rw_and1 (rt_cmp op_gt (ok_cmp _ _) (rb_v 7) (re_b re_int)))))
        (rss_cons (rs_set (i := 9) nd (re_ix (hu_of hr) (re_b (re_ix (hu_of hr) (rb_v 6) (re_b (re_op op_mod (ok_mod _) (re_b (re_ct call_int1 (ok_int _) (by rfl) z_int (by decide +kernel) (rab_cons (re_b (re_ix (hu_of hr) (rb_v 8) (re_b re_int))) rab_nil))) (rb_v 7))))) (re_b re_int)))
        (rss_one (rs_set (i := 10) nd (re_ix (hu_of hr) (re_b (re_ix (hu_of hr) (rb_v 6) (re_b (re_op op_mod (ok_mod _) (re_b (re_ct call_int1 (ok_int _) (by rfl) z_int (by decide +kernel) (rab_cons (re_b (re_ix (hu_of hr) (rb_v 8) (re_b re_int))) rab_nil))) (rb_v 7))))) (re_b re_int)))))
        (rss_one (rs_if (rt_w (rw_and (rt_cmp (op_eqU hr.units) (ok_eq _) (re_b (re_ix (hu_of hr) (rb_v 8) (re_b re_int))) (re_b re_int)) (rw_and1 (rt_cmp op_gt (ok_cmp _ _) (rb_v 7) (re_b re_int)))))
          (rss_cons (rs_set (i := 9) nd re_bl)
          (rss_one (rs_setLc (i := 10) [("_law_j", 11)] rfl rfl nd rfl rfl (sw_true rfl rfl rfl (by decide +kernel)) (ri_rng1 (by rfl) z_range (ra_cons (re_v 3) ra_nil)) (blkOk_by (N := N__law_form) (sc := defScope s__law_form) (by decide +kernel)) (fun _ _ _ _ _ => pg_name (i := 11) nd rfl (Or.inl rfl)) (fun _ _ _ _ _ => rts_nil) (fun _ _ _ _ _ => (re_ix (hu_of hr) (re_b (re_f (rf_lst (ra_cons re_non (ra_cons (re_v 7) ra_nil))))) (re_b (re_op op_mod (ok_mod _) (re_b (re_ct call_int1 (ok_int _) (by rfl) z_int (by decide +kernel) (rab_cons (re_b (re_ix (hu_of hr) (rb_v 8) (re_b (re_op op_addU (ok_add _) (re_b re_int) (rb_v 11))))) rab_nil))) (re_b re_int))))))))
          rss_nil)))))
    (rss_one (rs_app (i := 6) (re_tup (ra_cons (re_v 9) (ra_cons (re_ct call_tuple_of (ok_tuple _) (by rfl) z_tuple (by decide +kernel) (rab_cons (rb_v 10) rab_nil)) ra_nil))))))))))
  (rss_one (rs_ret (re_ct call_tuple_of (ok_tuple _) (by rfl) z_tuple (by decide +kernel) (rab_cons (rb_v 6) rab_nil)))))))
/-! ### _law_filled -/
abbrev s__law_filled : Stmt := topS 43
abbrev N__law_filled : List Str := ["_law_form_here", "_law_digit", "_law_reached", "_law_at", "_law_last", "_law_after"]
theorem sc__law_filled : FnScope N__law_filled ["_law_form_here", "_law_digit"] (defScope s__law_filled) := ⟨rfl, rfl, rfl, by decide +kernel, rfl, by decide +kernel, by decide +kernel⟩
theorem okf__law_filled {f : Addr} {fd : FuncData} (F : Fun K "_law_filled" "_law_filled" s__law_filled f fd) (z_len : mg "len" = none) (z_range : mg "range" = none) : FnOk P w K mg base CX0 1 f fd ["_law_form_here", "_law_digit"] (spR K g__law_filled) := by
  refine fn_ok F sc__law_filled (fun cdv A outer s H E hr => ?_)
  have nd := sc__law_filled.nd
  unfold m__law_filled
  exact
  (rss_cons (rs_setF (i := 2) nd (rf_lst ra_nil))
  (rss_cons (rs_if (rt_cmp op_gt (ok_cmp _ _) (re_b (re_cb call_len (ok_len _) (by rfl) z_len PySem.boot_len (rab_cons (rb_v 0) rab_nil))) (re_b re_int))
    (rss_one (rs_setF (i := 2) nd (rf_lst (ra_cons re_int ra_nil))))
    rss_nil)
  (rss_cons (rs_for PassesOwn.never rfl (ri_rng1 (by rfl) z_range (ra_cons (re_cb call_len (ok_len _) (by rfl) z_len PySem.boot_len (rab_cons (rb_v 0) rab_nil)) ra_nil)) (rg_name (i := 3) nd)
    (rss_cons (rs_if (rt_cmp op_ge (ok_cmp _ _) (rb_v 3) (re_b (re_cb call_len (ok_len _) (by rfl) z_len PySem.boot_len (rab_cons (rb_v 2) rab_nil))))
      (rss_one rs_break)
      rss_nil)
    (rss_cons (rs_if (rt_val (re_ix (hu_of hr) (re_b (re_ix (hu_of hr) (rb_v 0) (re_b (re_ix (hu_of hr) (rb_v 2) (rb_v 3))))) (re_b re_int)))
      (rss_one (rs_ret (re_v 0)))
      rss_nil)
    (rss_one (rs_for PassesOwn.never rfl (ri_data (re_ix (hu_of hr) (re_b (re_ix (hu_of hr) (rb_v 0) (re_b (re_ix (hu_of hr) (rb_v 2) (rb_v 3))))) (re_b re_int))) (rg_name (i := 5) nd)
      (rss_one (rs_if (rt_w (rw_and (rt_cmp op_isnotU (ok_isnot _) (rb_v 5) (re_b re_non)) (rw_and1 (rt_cmp (op_notinU (hu_s hr.units)) (ok_notin _) (rb_v 5) (rb_v 2)))))
        (rss_one (rs_app (i := 2) (re_v 5)))
        rss_nil)))))))
  (rss_cons (rs_if (rt_w (rw_or (rt_cmp (op_eqU hr.units) (ok_eq _) (re_b (re_cb call_len (ok_len _) (by rfl) z_len PySem.boot_len (rab_cons (rb_v 2) rab_nil))) (re_b re_int)) (rw_or1 (rt_cmp (op_eqU hr.units) (ok_eq _) (rb_v 1) (re_b re_int)))))
    (rss_one (rs_ret (re_v 0)))
    rss_nil)
  (rss_cons (rs_set (i := 4) nd (re_ix (hu_of hr) (rb_v 2) (re_b (re_neg re_int))))
  (rss_one (rs_ret (re_op op_addU (ok_add _) (re_b (re_op op_addU (ok_add _) (re_b (re_sl (rb_v 0) ro_none (ro_some (re_v 4)))) (re_b (re_tup (ra_cons (re_tup (ra_cons re_bl (ra_cons (re_ix (hu_of hr) (re_b (re_ix (hu_of hr) (rb_v 0) (rb_v 4))) (re_b re_int)) ra_nil))) ra_nil))))) (re_b (re_sl (rb_v 0) (ro_some (re_op op_addU (ok_add _) (rb_v 4) (re_b re_int))) ro_none))))))))))
/-! ### _law_is_form -/
abbrev s__law_is_form : Stmt := topS 44
abbrev N__law_is_form : List Str := ["_law_answer", "_law_size", "_law_row", "_law_after"]
theorem sc__law_is_form : FnScope N__law_is_form ["_law_answer", "_law_size"] (defScope s__law_is_form) := ⟨rfl, rfl, rfl, by decide +kernel, rfl, by decide +kernel, by decide +kernel⟩
theorem okf__law_is_form {f : Addr} {fd : FuncData} (F : Fun K "_law_is_form" "_law_is_form" s__law_is_form f fd) (z_bool : mg "bool" = none) (z_isinstance : mg "isinstance" = none) (z_len : mg "len" = none) (z_tuple : mg "tuple" = none) (C__law_whole : Cl P w K mg base "_law_whole" 1 ["_law_value"] g__law_whole) : FnOk P w K mg base CX0 2 f fd ["_law_answer", "_law_size"] (spR K g__law_is_form) := by
  refine fn_ok F sc__law_is_form (fun cdv A outer s H E hr => ?_)
  have nd := sc__law_is_form.nd
  unfold m__law_is_form
  exact
  (rss_cons (rs_if (rt_not (rt_val (re_cb op_isiU (ok_isi _) (by rfl) z_isinstance (by decide +kernel) (rab_cons (rb_v 0) (rab_cons (re_b (re_ty (n := "tuple") (by rfl) z_tuple (by decide +kernel))) rab_nil)))))
    (rss_one (rs_ret re_bl))
    rss_nil)
  (rss_cons (rs_for PassesOwn.never rfl (ri_data (re_v 0)) (rg_name (i := 2) nd)
    (rss_cons (rs_if (rt_w (rw_or (rt_not (rt_val (re_cb op_isiU (ok_isi _) (by rfl) z_isinstance (by decide +kernel) (rab_cons (rb_v 2) (rab_cons (re_b (re_ty (n := "tuple") (by rfl) z_tuple (by decide +kernel))) rab_nil))))) (rw_or (rt_cmp (op_neU hr.units) (ok_ne _) (re_b (re_cb call_len (ok_len _) (by rfl) z_len PySem.boot_len (rab_cons (rb_v 2) rab_nil))) (re_b re_int)) (rw_or1 (rt_not (rt_val (re_cb op_isiU (ok_isi _) (by rfl) z_isinstance (by decide +kernel) (rab_cons (re_b (re_ix (hu_of hr) (rb_v 2) (re_b re_int))) (rab_cons (re_b (re_ty (n := "bool") (by rfl) z_bool (by decide +kernel))) rab_nil)))))))))
      (rss_one (rs_ret re_bl))
      rss_nil)
    (rss_cons (rs_if (rt_w (rw_or (rt_not (rt_val (re_cb op_isiU (ok_isi _) (by rfl) z_isinstance (by decide +kernel) (rab_cons (re_b (re_ix (hu_of hr) (rb_v 2) (re_b re_int))) (rab_cons (re_b (re_ty (n := "tuple") (by rfl) z_tuple (by decide +kernel))) rab_nil))))) (rw_or1 (rt_cmp (op_neU hr.units) (ok_ne _) (re_b (re_cb call_len (ok_len _) (by rfl) z_len PySem.boot_len (rab_cons (re_b (re_ix (hu_of hr) (rb_v 2) (re_b re_int))) rab_nil))) (rb_v 1)))))
      (rss_one (rs_ret re_bl))
      rss_nil)
    (rss_one (rs_for PassesOwn.never rfl (ri_data (re_ix (hu_of hr) (rb_v 2) (re_b re_int))) (rg_name (i := 3) nd)
      (rss_one (rs_if (rt_w (rw_and (rt_cmp op_isnotU (ok_isnot _) (rb_v 3) (re_b re_non)) (rw_and1 (rt_w (rw_or (rt_not (rt_val (re_cl C__law_whole (hr.mono (by decide)) (by rfl) (ra_cons (re_v 3) ra_nil)))) (rw_or (rt_cmp op_lt (ok_cmp _ _) (rb_v 3) (re_b re_int)) (rw_or1 (rt_cmp op_ge (ok_cmp _ _) (rb_v 3) (re_b (re_cb call_len (ok_len _) (by rfl) z_len PySem.boot_len (rab_cons (rb_v 0) rab_nil)))))))))))
        (rss_one (rs_ret re_bl))
        rss_nil)))))))
  (rss_one (rs_ret re_bl))))
/-! ### _law_first -/
abbrev s__law_first : Stmt := topS 45
abbrev N__law_first : List Str := ["_law_form_here"]
theorem sc__law_first : FnScope N__law_first ["_law_form_here"] (defScope s__law_first) := ⟨rfl, rfl, rfl, by decide +kernel, rfl, by decide +kernel, by decide +kernel⟩
theorem okf__law_first {f : Addr} {fd : FuncData} (F : Fun K "_law_first" "_law_first" s__law_first f fd) (z_int : mg "int" = none) (z_len : mg "len" = none) : FnOk P w K mg base CX0 1 f fd ["_law_form_here"] (spR K g__law_first) := by
  refine fn_ok F sc__law_first (fun cdv A outer s H E hr => ?_)
  have nd := sc__law_first.nd
  unfold m__law_first
  exact
  (rss_one (rs_ret (re_ix (hu_of hr) (re_b (re_f (rf_lst (ra_cons re_non (ra_cons re_int ra_nil))))) (re_b (re_ct call_int1 (ok_int _) (by rfl) z_int (by decide +kernel) (rab_cons (re_b (re_cmp op_gt (ok_cmp _ _) (re_b (re_cb call_len (ok_len _) (by rfl) z_len PySem.boot_len (rab_cons (rb_v 0) rab_nil))) (re_b re_int))) rab_nil))))))
/-! ### _law_ends -/
abbrev s__law_ends : Stmt := topS 46
abbrev N__law_ends : List Str := ["_law_form_here", "_law_state_here"]
theorem sc__law_ends : FnScope N__law_ends ["_law_form_here", "_law_state_here"] (defScope s__law_ends) := ⟨rfl, rfl, rfl, by decide +kernel, rfl, by decide +kernel, by decide +kernel⟩
theorem okf__law_ends {f : Addr} {fd : FuncData} (F : Fun K "_law_ends" "_law_ends" s__law_ends f fd)  : FnOk P w K mg base CX0 1 f fd ["_law_form_here", "_law_state_here"] (spR K g__law_ends) := by
  refine fn_ok F sc__law_ends (fun cdv A outer s H E hr => ?_)
  have nd := sc__law_ends.nd
  unfold m__law_ends
  exact
  (rss_one (rs_ret (re_and (re_cmp op_isnotU (ok_isnot _) (rb_v 1) (re_b re_non)) (re_one (re_ix (hu_of hr) (re_b (re_ix (hu_of hr) (rb_v 0) (rb_v 1))) (re_b re_int))))))
/-! ### _law_next -/
abbrev s__law_next : Stmt := topS 47
abbrev N__law_next : List Str := ["_law_form_here", "_law_state_here", "_law_k"]
theorem sc__law_next : FnScope N__law_next ["_law_form_here", "_law_state_here", "_law_k"] (defScope s__law_next) := ⟨rfl, rfl, rfl, by decide +kernel, rfl, by decide +kernel, by decide +kernel⟩
theorem okf__law_next {f : Addr} {fd : FuncData} (F : Fun K "_law_next" "_law_next" s__law_next f fd)  : FnOk P w K mg base CX0 1 f fd ["_law_form_here", "_law_state_here", "_law_k"] (spR K g__law_next) := by
  refine fn_ok F sc__law_next (fun cdv A outer s H E hr => ?_)
  have nd := sc__law_next.nd
  unfold m__law_next
  exact
  (rss_cons (rs_if (rt_cmp op_isU (ok_is _) (rb_v 1) (re_b re_non))
    (rss_one (rs_ret re_non))
    rss_nil)
  (rss_one (rs_ret (re_ix (hu_of hr) (re_b (re_ix (hu_of hr) (re_b (re_ix (hu_of hr) (rb_v 0) (rb_v 1))) (re_b re_int))) (rb_v 2)))))
/-! ### _law_due -/
abbrev s__law_due : Stmt := topS 48
abbrev N__law_due : List Str := ["_law_deed", "_law_a", "_law_b"]
theorem sc__law_due : FnScope N__law_due ["_law_deed", "_law_a", "_law_b"] (defScope s__law_due) := ⟨rfl, rfl, rfl, by decide +kernel, rfl, by decide +kernel, by decide +kernel⟩
theorem okf__law_due {f : Addr} {fd : FuncData} (F : Fun K "_law_due" "_law_due" s__law_due f fd)  : FnOk P w K mg base CX0 1 f fd ["_law_deed", "_law_a", "_law_b"] (spR K g__law_due) := by
  refine fn_ok F sc__law_due (fun cdv A outer s H E hr => ?_)
  have nd := sc__law_due.nd
  unfold m__law_due
  exact
  (rss_one (rs_ret (re_ix (hu_of hr) (re_b (re_f (rf_lst (ra_cons (re_or (re_v 1) (re_one (re_v 2))) (ra_cons (re_and (re_v 1) (re_one (re_v 2))) (ra_cons (re_and (re_v 1) (re_one (re_not (re_v 2)))) (ra_cons (re_not (re_v 1)) (ra_cons (re_and (re_v 2) (re_one (re_not (re_v 1)))) (ra_cons (re_not (re_v 2)) (ra_cons (re_v 1) (ra_cons (re_v 2) (ra_cons re_bl ra_nil)))))))))))) (rb_v 0))))
/-! ### _law_kept -/
abbrev s__law_kept : Stmt := topS 49
abbrev N__law_kept : List Str := ["_law_size", "_law_answer", "_law_one", "_law_two", "_law_deed", "_law_start", "_law_known", "_law_waiting", "_law_at", "_law_now", "_law_k", "_law_after"]
theorem sc__law_kept : FnScope N__law_kept ["_law_size", "_law_answer", "_law_one", "_law_two", "_law_deed"] (defScope s__law_kept) := ⟨rfl, rfl, rfl, by decide +kernel, rfl, by decide +kernel, by decide +kernel⟩
theorem okf__law_kept {f : Addr} {fd : FuncData} (F : Fun K "_law_kept" "_law_kept" s__law_kept f fd) (z_len : mg "len" = none) (z_range : mg "range" = none) (C__law_due : Cl P w K mg base "_law_due" 1 ["_law_deed", "_law_a", "_law_b"] g__law_due) (C__law_ends : Cl P w K mg base "_law_ends" 1 ["_law_form_here", "_law_state_here"] g__law_ends) (C__law_first : Cl P w K mg base "_law_first" 1 ["_law_form_here"] g__law_first) (C__law_next : Cl P w K mg base "_law_next" 1 ["_law_form_here", "_law_state_here", "_law_k"] g__law_next) : FnOk P w K mg base CX0 2 f fd ["_law_size", "_law_answer", "_law_one", "_law_two", "_law_deed"] (spR K g__law_kept) := by
  refine fn_ok F sc__law_kept (fun cdv A outer s H E hr => ?_)
  have nd := sc__law_kept.nd
  unfold m__law_kept
  exact
  (rss_cons (rs_set (i := 5) nd (re_tup (ra_cons (re_cl C__law_first (hr.mono (by decide)) (by rfl) (ra_cons (re_v 1) ra_nil)) (ra_cons (re_cl C__law_first (hr.mono (by decide)) (by rfl) (ra_cons (re_v 2) ra_nil)) (ra_cons (re_cl C__law_first (hr.mono (by decide)) (by rfl) (ra_cons (re_v 3) ra_nil)) ra_nil)))))
  (rss_cons (rs_dnew1 (k := .Name "" ⟨0, 0, 0, 0⟩) hr.units 6 nd (re_v 5) re_bl)
  (rss_cons (rs_setF (i := 7) nd (rf_lst (ra_cons (re_v 5) ra_nil)))
  (rss_cons (rs_for PassesOwn.never rfl (ri_rng1 (by rfl) z_range (ra_cons (re_op op_mulU (ok_mul _) (re_b (re_op op_mulU (ok_mul _) (re_b (re_op op_addU (ok_add _) (re_b (re_cb call_len (ok_len _) (by rfl) z_len PySem.boot_len (rab_cons (rb_v 1) rab_nil))) (re_b re_int))) (re_b (re_op op_addU (ok_add _) (re_b (re_cb call_len (ok_len _) (by rfl) z_len PySem.boot_len (rab_cons (rb_v 2) rab_nil))) (re_b re_int))))) (re_b (re_op op_addU (ok_add _) (re_b (re_cb call_len (ok_len _) (by rfl) z_len PySem.boot_len (rab_cons (rb_v 3) rab_nil))) (re_b re_int)))) ra_nil)) (rg_name (i := 8) nd)
    (rss_cons (rs_if (rt_cmp op_ge (ok_cmp _ _) (rb_v 8) (re_b (re_cb call_len (ok_len _) (by rfl) z_len PySem.boot_len (rab_cons (rb_v 7) rab_nil))))
      (rss_one rs_break)
      rss_nil)
    (rss_cons (rs_set (i := 9) nd (re_ix (hu_of hr) (rb_v 7) (rb_v 8)))
    (rss_cons (rs_if (rt_cmp (op_neU hr.units) (ok_ne _) (re_b (re_cl C__law_ends (hr.mono (by decide)) (by rfl) (ra_cons (re_v 1) (ra_cons (re_ix (hu_of hr) (rb_v 9) (re_b re_int)) ra_nil)))) (re_b (re_cl C__law_due (hr.mono (by decide)) (by rfl) (ra_cons (re_v 4) (ra_cons (re_cl C__law_ends (hr.mono (by decide)) (by rfl) (ra_cons (re_v 2) (ra_cons (re_ix (hu_of hr) (rb_v 9) (re_b re_int)) ra_nil))) (ra_cons (re_cl C__law_ends (hr.mono (by decide)) (by rfl) (ra_cons (re_v 3) (ra_cons (re_ix (hu_of hr) (rb_v 9) (re_b re_int)) ra_nil))) ra_nil))))))
      (rss_one (rs_ret re_bl))
      rss_nil)
    (rss_one (rs_for PassesOwn.never rfl (ri_rng1 (by rfl) z_range (ra_cons (re_v 0) ra_nil)) (rg_name (i := 10) nd)
      (rss_cons (rs_set (i := 11) nd (re_tup (ra_cons (re_cl C__law_next (hr.mono (by decide)) (by rfl) (ra_cons (re_v 1) (ra_cons (re_ix (hu_of hr) (rb_v 9) (re_b re_int)) (ra_cons (re_v 10) ra_nil)))) (ra_cons (re_cl C__law_next (hr.mono (by decide)) (by rfl) (ra_cons (re_v 2) (ra_cons (re_ix (hu_of hr) (rb_v 9) (re_b re_int)) (ra_cons (re_v 10) ra_nil)))) (ra_cons (re_cl C__law_next (hr.mono (by decide)) (by rfl) (ra_cons (re_v 3) (ra_cons (re_ix (hu_of hr) (rb_v 9) (re_b re_int)) (ra_cons (re_v 10) ra_nil)))) ra_nil)))))
      (rss_one (rs_if (rt_dnotin hr.units 6 (re_v 11))
        (rss_cons (rs_dput hr.units 6 (re_v 11) re_bl)
        (rss_one (rs_app (i := 7) (re_v 11))))
        rss_nil)))))))))
  (rss_one (rs_ret re_bl))))))
/-! ### _law_has_text -/
abbrev s__law_has_text : Stmt := topS 50
abbrev N__law_has_text : List Str := ["_law_size", "_law_form_here", "_law_reached", "_law_at", "_law_k", "_law_after"]
theorem sc__law_has_text : FnScope N__law_has_text ["_law_size", "_law_form_here"] (defScope s__law_has_text) := ⟨rfl, rfl, rfl, by decide +kernel, rfl, by decide +kernel, by decide +kernel⟩
theorem okf__law_has_text {f : Addr} {fd : FuncData} (F : Fun K "_law_has_text" "_law_has_text" s__law_has_text f fd) (z_len : mg "len" = none) (z_range : mg "range" = none) : FnOk P w K mg base CX0 1 f fd ["_law_size", "_law_form_here"] (spR K g__law_has_text) := by
  refine fn_ok F sc__law_has_text (fun cdv A outer s H E hr => ?_)
  have nd := sc__law_has_text.nd
  unfold m__law_has_text
  exact
  (rss_cons (rs_setF (i := 2) nd (rf_lst ra_nil))
  (rss_cons (rs_if (rt_cmp op_gt (ok_cmp _ _) (re_b (re_cb call_len (ok_len _) (by rfl) z_len PySem.boot_len (rab_cons (rb_v 1) rab_nil))) (re_b re_int))
    (rss_one (rs_setF (i := 2) nd (rf_lst (ra_cons re_int ra_nil))))
    rss_nil)
  (rss_cons (rs_for PassesOwn.never rfl (ri_rng1 (by rfl) z_range (ra_cons (re_cb call_len (ok_len _) (by rfl) z_len PySem.boot_len (rab_cons (rb_v 1) rab_nil)) ra_nil)) (rg_name (i := 3) nd)
    (rss_cons (rs_if (rt_cmp op_ge (ok_cmp _ _) (rb_v 3) (re_b (re_cb call_len (ok_len _) (by rfl) z_len PySem.boot_len (rab_cons (rb_v 2) rab_nil))))
      (rss_one rs_break)
      rss_nil)
    (rss_cons (rs_if (rt_val (re_ix (hu_of hr) (re_b (re_ix (hu_of hr) (rb_v 1) (re_b (re_ix (hu_of hr) (rb_v 2) (rb_v 3))))) (re_b re_int)))
      (rss_one (rs_ret re_bl))
      rss_nil)
    (rss_one (rs_for PassesOwn.never rfl (ri_rng1 (by rfl) z_range (ra_cons (re_v 0) ra_nil)) (rg_name (i := 4) nd)
      (rss_cons (rs_set (i := 5) nd (re_ix (hu_of hr) (re_b (re_ix (hu_of hr) (re_b (re_ix (hu_of hr) (rb_v 1) (re_b (re_ix (hu_of hr) (rb_v 2) (rb_v 3))))) (re_b re_int))) (rb_v 4)))
      (rss_one (rs_if (rt_w (rw_and (rt_cmp op_isnotU (ok_isnot _) (rb_v 5) (re_b re_non)) (rw_and1 (rt_cmp (op_notinU (hu_s hr.units)) (ok_notin _) (rb_v 5) (rb_v 2)))))
        (rss_one (rs_app (i := 2) (re_v 5)))
        rss_nil))))))))
  (rss_one (rs_ret re_bl)))))
/-! ### _law_state -/
abbrev s__law_state : Stmt := topS 51
abbrev N__law_state : List Str := ["_law_alphabet", "_law_form_here", "_law_string_here", "_law_state_here", "_law_char_here"]
theorem sc__law_state : FnScope N__law_state ["_law_alphabet", "_law_form_here", "_law_string_here"] (defScope s__law_state) := ⟨rfl, rfl, rfl, by decide +kernel, rfl, by decide +kernel, by decide +kernel⟩
theorem okf__law_state {f : Addr} {fd : FuncData} (F : Fun K "_law_state" "_law_state" s__law_state f fd) (C__law_first : Cl P w K mg base "_law_first" 1 ["_law_form_here"] g__law_first) : FnOk P w K mg base CX0 2 f fd ["_law_alphabet", "_law_form_here", "_law_string_here"] (spR K g__law_state) := by
  refine fn_ok F sc__law_state (fun cdv A outer s H E hr => ?_)
  have nd := sc__law_state.nd
  unfold m__law_state
  exact
  (rss_cons (rs_set (i := 3) nd (re_cl C__law_first (hr.mono (by decide)) (by rfl) (ra_cons (re_v 1) ra_nil)))
  (rss_cons (rs_for PassesOwn.never rfl (ri_data (re_v 2)) (rg_name (i := 4) nd)
    (rss_cons (rs_if (rt_w (rw_or (rt_cmp op_isU (ok_is _) (rb_v 3) (re_b re_non)) (rw_or1 (rt_cmp (op_notinU (hu_s hr.units)) (ok_notin _) (rb_v 4) (rb_v 0)))))
      (rss_one (rs_ret re_non))
      rss_nil)
    (rss_one (rs_set (i := 3) nd (re_ix (hu_of hr) (re_b (re_ix (hu_of hr) (re_b (re_ix (hu_of hr) (rb_v 1) (rb_v 3))) (re_b re_int))) (re_b (re_mt PySem.F.slot_str_find PySem.F.type_str_find mt_find (ok_find1 _) (rb_v 0) (rab_cons (rb_v 4) rab_nil))))))))
  (rss_one (rs_ret (re_v 3)))))
/-! ### _law_char -/
abbrev s__law_char : Stmt := topS 52
abbrev N__law_char : List Str := ["_law_alphabet", "_law_digit", "_law_chars"]
theorem sc__law_char : FnScope N__law_char ["_law_alphabet", "_law_digit"] (defScope s__law_char) := ⟨rfl, rfl, rfl, by decide +kernel, rfl, by decide +kernel, by decide +kernel⟩
theorem okf__law_char {f : Addr} {fd : FuncData} (F : Fun K "_law_char" "_law_char" s__law_char f fd) (z_int : mg "int" = none) (z_len : mg "len" = none) : FnOk P w K mg base CX0 1 f fd ["_law_alphabet", "_law_digit"] (spR K g__law_char) := by
  refine fn_ok F sc__law_char (fun cdv A outer s H E hr => ?_)
  have nd := sc__law_char.nd
  unfold m__law_char
  exact
  (rss_cons (rs_set (i := 2) nd (re_str " !\"#$&'()*+,-./0123456789:;<=>?@ABCDEFGHIJKLMNOPQRSTUVWXYZ[\\]^_`"))
  (rss_cons (rs_set (i := 2) nd (re_op op_addU (ok_add _) (rb_v 2) (re_b (re_str "abcdefghijklmnopqrstuvwxyz{|}~\n"))))
  (rss_cons (rs_if (rt_cmp op_lt (ok_cmp _ _) (rb_v 1) (re_b (re_cb call_len (ok_len _) (by rfl) z_len PySem.boot_len (rab_cons (rb_v 2) rab_nil))))
    (rss_one (rs_ret (re_ix (hu_of hr) (rb_v 2) (rb_v 1))))
    rss_nil)
  (rss_one (rs_ret (re_ix (hu_of hr) (rb_v 0) (re_b (re_op op_mod (ok_mod _) (re_b (re_ct call_int1 (ok_int _) (by rfl) z_int (by decide +kernel) (rab_cons (rb_v 1) rab_nil))) (re_b (re_cb call_len (ok_len _) (by rfl) z_len PySem.boot_len (rab_cons (rb_v 0) rab_nil)))))))))))
/-! ### _law_path -/
abbrev s__law_path : Stmt := topS 53
abbrev N__law_path : List Str := ["_law_alphabet", "_law_form_here", "_law_row", "_law_size", "_law_cut", "_law_state_here", "_law_string_here", "_law_best", "_law_k", "_law_after", "_law_j", "_law_symbol"]
theorem sc__law_path : FnScope N__law_path ["_law_alphabet", "_law_form_here", "_law_row", "_law_size", "_law_cut"] (defScope s__law_path) := ⟨rfl, rfl, rfl, by decide +kernel, rfl, by decide +kernel, by decide +kernel⟩
theorem okf__law_path {f : Addr} {fd : FuncData} (F : Fun K "_law_path" "_law_path" s__law_path f fd) (z_int : mg "int" = none) (z_len : mg "len" = none) (z_range : mg "range" = none) (C__law_first : Cl P w K mg base "_law_first" 1 ["_law_form_here"] g__law_first) : FnOk P w K mg base CX0 2 f fd ["_law_alphabet", "_law_form_here", "_law_row", "_law_size", "_law_cut"] (spR K g__law_path) := by
  refine fn_ok F sc__law_path (fun cdv A outer s H E hr => ?_)
  have nd := sc__law_path.nd
  unfold m__law_path
  exact
  (rss_cons (rs_set (i := 5) nd (re_cl C__law_first (hr.mono (by decide)) (by rfl) (ra_cons (re_v 1) ra_nil)))
  (rss_cons (rs_set (i := 6) nd (re_str ""))
  (rss_cons (rs_set (i := 7) nd (re_str ""))
  (rss_cons (rs_for PassesOwn.never rfl (ri_rng1 (by rfl) z_range (ra_cons (re_v 3) ra_nil)) (rg_name (i := 8) nd)
    (rss_cons (rs_set (i := 9) nd re_non)
    (rss_cons (rs_for PassesOwn.never rfl (ri_rng1 (by rfl) z_range (ra_cons (re_cb call_len (ok_len _) (by rfl) z_len PySem.boot_len (rab_cons (rb_v 0) rab_nil)) ra_nil)) (rg_name (i := 10) nd)
      (rss_cons (rs_set (i := 11) nd (re_op op_mod (ok_mod _) (re_b (re_ct call_int1 (ok_int _) (by rfl) z_int (by decide +kernel) (rab_cons (re_b (re_op op_addU (ok_add _) (re_b (re_ix (hu_of hr) (rb_v 2) (rb_v 8))) (rb_v 10))) rab_nil))) (re_b (re_cb call_len (ok_len _) (by rfl) z_len PySem.boot_len (rab_cons (rb_v 0) rab_nil)))))
      (rss_one (rs_if (rt_w (rw_and (rt_cmp op_isU (ok_is _) (rb_v 9) (re_b re_non)) (rw_and (rt_cmp op_isnotU (ok_isnot _) (rb_v 5) (re_b re_non)) (rw_and1 (rt_cmp op_isnotU (ok_isnot _) (re_b (re_ix (hu_of hr) (re_b (re_ix (hu_of hr) (re_b (re_ix (hu_of hr) (rb_v 1) (rb_v 5))) (re_b re_int))) (rb_v 11))) (re_b re_non))))))
        (rss_cons (rs_set (i := 9) nd (re_ix (hu_of hr) (re_b (re_ix (hu_of hr) (re_b (re_ix (hu_of hr) (rb_v 1) (rb_v 5))) (re_b re_int))) (rb_v 11)))
        (rss_one (rs_set (i := 6) nd (re_op op_addU (ok_add _) (rb_v 6) (re_b (re_ix (hu_of hr) (rb_v 0) (rb_v 11)))))))
        rss_nil))))
    (rss_cons (rs_if (rt_cmp op_isU (ok_is _) (rb_v 9) (re_b re_non))
      (rss_one rs_break)
      rss_nil)
    (rss_cons (rs_set (i := 5) nd (re_v 9))
    (rss_one (rs_if (rt_val (re_ix (hu_of hr) (re_b (re_ix (hu_of hr) (rb_v 1) (rb_v 5))) (re_b re_int)))
      (rss_one (rs_set (i := 7) nd (re_v 6)))
      rss_nil)))))))
  (rss_one (rs_ret (re_ix (hu_of hr) (re_b (re_f (rf_lst (ra_cons (re_v 6) (ra_cons (re_v 7) ra_nil))))) (rb_v 4))))))))
/-! ### _law_string -/
abbrev s__law_string : Stmt := topS 54
abbrev N__law_string : List Str := ["_law_alphabet", "_law_form_here", "_law_cell_here", "_law_row", "_law_size", "_law_more", "_law_k"]
theorem sc__law_string : FnScope N__law_string ["_law_alphabet", "_law_form_here", "_law_cell_here"] (defScope s__law_string) := ⟨rfl, rfl, rfl, by decide +kernel, rfl, by decide +kernel, by decide +kernel⟩
theorem okf__law_string {f : Addr} {fd : FuncData} (F : Fun K "_law_string" "_law_string" s__law_string f fd) (z_int : mg "int" = none) (z_len : mg "len" = none) (z_range : mg "range" = none) (C__law_char : Cl P w K mg base "_law_char" 1 ["_law_alphabet", "_law_digit"] g__law_char) (C__law_digits : Cl P w K mg base "_law_digits" 1 ["_law_cell_here", "_law_sizes"] g__law_digits) (C__law_path : Cl P w K mg base "_law_path" 2 ["_law_alphabet", "_law_form_here", "_law_row", "_law_size", "_law_cut"] g__law_path) : FnOk P w K mg base CX0 3 f fd ["_law_alphabet", "_law_form_here", "_law_cell_here"] (spR K g__law_string) := by
  refine fn_ok F sc__law_string (fun cdv A outer s H E hr => ?_)
  have nd := sc__law_string.nd
  unfold m__law_string
  exact
  (rss_cons (rs_set (i := 3) nd (re_cl C__law_digits (hr.mono (by decide)) (by rfl) (ra_cons (re_v 2) (ra_cons (re_op op_addU (ok_add _) (re_b (re_op op_addU (ok_add _) (re_b (re_f (rf_lst (ra_cons re_int (ra_cons re_int (ra_cons re_int (ra_cons re_int ra_nil))))))) (re_b (re_op op_mulU (ok_mul _) (re_b (re_f (rf_lst (ra_cons re_int ra_nil)))) (re_b re_int))))) (re_b (re_f (rf_lst (ra_cons re_int ra_nil))))) ra_nil))))
  (rss_cons (rs_set (i := 4) nd (re_ix (hu_of hr) (re_b (re_f (rf_lst (ra_cons (re_ix (hu_of hr) (rb_v 3) (re_b re_int)) (ra_cons (re_ix (hu_of hr) (rb_v 3) (re_b re_int)) ra_nil))))) (re_b (re_ct call_int1 (ok_int _) (by rfl) z_int (by decide +kernel) (rab_cons (re_b (re_or (re_cmp (op_eqU hr.units) (ok_eq _) (re_b (re_ix (hu_of hr) (rb_v 3) (re_b re_int))) (re_b re_int)) (re_one (re_cmp (op_eqU hr.units) (ok_eq _) (re_b (re_ix (hu_of hr) (rb_v 3) (re_b re_int))) (re_b re_int))))) rab_nil)))))
  (rss_cons (rs_set (i := 5) nd (re_op op_mulU (ok_mul _) (re_b (re_sl (rb_v 3) (ro_some re_int) (ro_some re_int))) (re_b re_int)))
  (rss_cons (rs_if (rt_cmp (op_eqU hr.units) (ok_eq _) (re_b (re_ix (hu_of hr) (rb_v 3) (re_b re_int))) (re_b re_int))
    (rss_one (rs_set (i := 4) nd (re_op op_mulU (ok_mul _) (re_b re_int) (rb_v 4))))
    rss_nil)
  (rss_cons (rs_if (rt_cmp op_lt (ok_cmp _ _) (re_b (re_ix (hu_of hr) (rb_v 3) (re_b re_int))) (re_b re_int))
    (rss_one (rs_ret (re_cl C__law_path (hr.mono (by decide)) (by rfl) (ra_cons (re_v 0) (ra_cons (re_v 1) (ra_cons (re_v 5) (ra_cons (re_v 4) (ra_cons (re_ix (hu_of hr) (rb_v 3) (re_b re_int)) ra_nil))))))))
    rss_nil)
  (rss_cons (rs_if (rt_cmp op_lt (ok_cmp _ _) (re_b (re_ix (hu_of hr) (rb_v 3) (re_b re_int))) (re_b re_int))
    (rss_one (rs_ret (re_mt PySem.F.slot_str_join PySem.F.type_str_join mt_join (ok_join _) (re_b (re_str "")) (rab_cons (re_b (re_f (rf_lc [("_law_k", 6)] rfl rfl nd (ri_rng1 (by rfl) z_range (ra_cons (re_v 4) ra_nil)) (blkOk_by (N := N__law_string) (sc := defScope s__law_string) (by decide +kernel)) (fun _ _ _ _ _ => pg_name (i := 6) nd rfl (Or.inl rfl)) (fun _ _ _ _ _ => rts_nil) (fun _ _ _ _ _ => (re_ix (hu_of hr) (rb_v 0) (re_b (re_op op_mod (ok_mod _) (re_b (re_ct call_int1 (ok_int _) (by rfl) z_int (by decide +kernel) (rab_cons (re_b (re_ix (hu_of hr) (rb_v 5) (rb_v 6))) rab_nil))) (re_b (re_cb call_len (ok_len _) (by rfl) z_len PySem.boot_len (rab_cons (rb_v 0) rab_nil)))))))))) rab_nil))))
    rss_nil)
  (rss_one (rs_ret (re_mt PySem.F.slot_str_join PySem.F.type_str_join mt_join (ok_join _) (re_b (re_str "")) (rab_cons (re_b (re_f (rf_lc [("_law_k", 6)] rfl rfl nd (ri_rng1 (by rfl) z_range (ra_cons (re_v 4) ra_nil)) (blkOk_by (N := N__law_string) (sc := defScope s__law_string) (by decide +kernel)) (fun _ _ _ _ _ => pg_name (i := 6) nd rfl (Or.inl rfl)) (fun _ _ _ _ _ => rts_nil) (fun _ _ _ _ _ => (re_cl C__law_char (hr.mono (by decide)) (by rfl) (ra_cons (re_v 0) (ra_cons (re_ix (hu_of hr) (rb_v 5) (rb_v 6)) ra_nil))))))) rab_nil))))))))))
/-! ### _law_changed -/
abbrev s__law_changed : Stmt := topS 55
abbrev N__law_changed : List Str := ["_law_form_here", "_law_size", "_law_cell_here", "_law_row", "_law_at", "_law_targets", "_law_after"]
theorem sc__law_changed : FnScope N__law_changed ["_law_form_here", "_law_size", "_law_cell_here"] (defScope s__law_changed) := ⟨rfl, rfl, rfl, by decide +kernel, rfl, by decide +kernel, by decide +kernel⟩
theorem okf__law_changed {f : Addr} {fd : FuncData} (F : Fun K "_law_changed" "_law_changed" s__law_changed f fd) (z_int : mg "int" = none) (z_len : mg "len" = none) (z_list : mg "list" = none) (z_tuple : mg "tuple" = none) (C__law_digits : Cl P w K mg base "_law_digits" 1 ["_law_cell_here", "_law_sizes"] g__law_digits) : FnOk P w K mg base CX0 2 f fd ["_law_form_here", "_law_size", "_law_cell_here"] (spR K g__law_changed) := by
  refine fn_ok F sc__law_changed (fun cdv A outer s H E hr => ?_)
  have nd := sc__law_changed.nd
  unfold m__law_changed
  exact
  (rss_cons (rs_set (i := 3) nd (re_cl C__law_digits (hr.mono (by decide)) (by rfl) (ra_cons (re_v 2) (ra_cons (re_f (rf_lst (ra_cons re_int (ra_cons re_int (ra_cons re_int (ra_cons re_int ra_nil)))))) ra_nil))))
  (rss_cons (rs_if (rt_cmp (op_eqU hr.units) (ok_eq _) (re_b (re_cb call_len (ok_len _) (by rfl) z_len PySem.boot_len (rab_cons (rb_v 0) rab_nil))) (re_b re_int))
    (rss_one (rs_ret (re_v 0)))
    rss_nil)
  (rss_cons (rs_set (i := 4) nd (re_op op_mod (ok_mod _) (re_b (re_ct call_int1 (ok_int _) (by rfl) z_int (by decide +kernel) (rab_cons (re_b (re_ix (hu_of hr) (rb_v 3) (re_b re_int))) rab_nil))) (re_b (re_cb call_len (ok_len _) (by rfl) z_len PySem.boot_len (rab_cons (rb_v 0) rab_nil)))))
  (rss_cons (rs_setF (i := 5) nd (rf_list (by rfl) z_list (rab_cons (re_b (re_ix (hu_of hr) (re_b (re_ix (hu_of hr) (rb_v 0) (rb_v 4))) (re_b re_int))) rab_nil)))
  (rss_cons (rs_set (i := 6) nd (re_op op_mod (ok_mod _) (re_b (re_ct call_int1 (ok_int _) (by rfl) z_int (by decide +kernel) (rab_cons (re_b (re_ix (hu_of hr) (rb_v 3) (re_b re_int))) rab_nil))) (re_b (re_op op_addU (ok_add _) (re_b (re_cb call_len (ok_len _) (by rfl) z_len PySem.boot_len (rab_cons (rb_v 0) rab_nil))) (re_b re_int)))))
  (rss_cons (rs_putL 5 (re_op op_mod (ok_mod _) (re_b (re_ct call_int1 (ok_int _) (by rfl) z_int (by decide +kernel) (rab_cons (re_b (re_ix (hu_of hr) (rb_v 3) (re_b re_int))) rab_nil))) (rb_v 1)) (re_ix (hu_of hr) (re_b (re_f (rf_lst (ra_cons re_non (ra_cons (re_v 6) ra_nil))))) (re_b (re_ct call_int1 (ok_int _) (by rfl) z_int (by decide +kernel) (rab_cons (re_b (re_cmp op_lt (ok_cmp _ _) (rb_v 6) (re_b (re_cb call_len (ok_len _) (by rfl) z_len PySem.boot_len (rab_cons (rb_v 0) rab_nil))))) rab_nil)))))
  (rss_one (rs_ret (re_op op_addU (ok_add _) (re_b (re_op op_addU (ok_add _) (re_b (re_sl (rb_v 0) ro_none (ro_some (re_v 4)))) (re_b (re_tup (ra_cons (re_tup (ra_cons (re_cmp (op_neU hr.units) (ok_ne _) (re_b (re_ix (hu_of hr) (re_b (re_ix (hu_of hr) (rb_v 0) (rb_v 4))) (re_b re_int))) (re_b (re_cmp (op_eqU hr.units) (ok_eq _) (re_b (re_ix (hu_of hr) (rb_v 3) (re_b re_int))) (re_b re_int)))) (ra_cons (re_ct call_tuple_of (ok_tuple _) (by rfl) z_tuple (by decide +kernel) (rab_cons (rb_v 5) rab_nil)) ra_nil))) ra_nil))))) (re_b (re_sl (rb_v 0) (ro_some (re_op op_addU (ok_add _) (rb_v 4) (re_b re_int))) ro_none)))))))))))
/-! ### _law_fits -/
abbrev s__law_fits : Stmt := topS 56
abbrev N__law_fits : List Str := ["_law_alphabet", "_law_texts", "_law_one", "_law_two", "_law_deed"]
theorem sc__law_fits : FnScope N__law_fits ["_law_alphabet", "_law_texts", "_law_one", "_law_two", "_law_deed"] (defScope s__law_fits) := ⟨rfl, rfl, rfl, by decide +kernel, rfl, by decide +kernel, by decide +kernel⟩
theorem okf__law_fits {f : Addr} {fd : FuncData} {C_TextSet : Addr} (F : Fun K "_law_fits" "_law_fits" s__law_fits f fd) (z_bool : mg "bool" = none) (z_isinstance : mg "isinstance" = none) (z_len : mg "len" = none) (A_TextSet : ClsAt K "TextSet" C_TextSet) (K_TextSet : Cls K C_TextSet) (I_TextSet : IsC K C_TextSet) (mc_TextSet : mg "TextSet" = some (.ref C_TextSet)) (n_TextSet_alphabet : NoAttr K C_TextSet "alphabet") (n_TextSet_form : NoAttr K C_TextSet "form") (C_TextSet_is_empty : Pr P w K mg base "TextSet" "is_empty" 1 ["self"] g_TextSet_is_empty) (C__law_has_text : Cl P w K mg base "_law_has_text" 1 ["_law_size", "_law_form_here"] g__law_has_text) (C__law_is_form : Cl P w K mg base "_law_is_form" 2 ["_law_answer", "_law_size"] g__law_is_form) (C__law_kept : Cl P w K mg base "_law_kept" 2 ["_law_size", "_law_answer", "_law_one", "_law_two", "_law_deed"] g__law_kept) : FnOk P w K mg base CX0 3 f fd ["_law_alphabet", "_law_texts", "_law_one", "_law_two", "_law_deed"] (spR K g__law_fits) := by
  refine fn_ok F sc__law_fits (fun cdv A outer s H E hr => ?_)
  have nd := sc__law_fits.nd
  unfold m__law_fits
  exact
  (rss_cons (rs_if (rt_w (rw_or (rt_not (rt_val (re_isC A_TextSet I_TextSet (by rfl) z_isinstance (by rfl) (mc_TextSet) (re_v 1)))) (rw_or (rt_cmp (op_neU hr.units) (ok_ne _) (re_b (re_fld A_TextSet K_TextSet n_TextSet_alphabet (re_v 1))) (rb_v 0)) (rw_or1 (rt_not (rt_val (re_cl C__law_is_form (hr.mono (by decide)) (by rfl) (ra_cons (re_fld A_TextSet K_TextSet n_TextSet_form (re_v 1)) (ra_cons (re_cb call_len (ok_len _) (by rfl) z_len PySem.boot_len (rab_cons (rb_v 0) rab_nil)) ra_nil)))))))))
    (rss_one (rs_ret re_bl))
    rss_nil)
  (rss_cons (rs_if (rt_w (rw_or (rt_not (rt_val (re_cb op_isiU (ok_isi _) (by rfl) z_isinstance (by decide +kernel) (rab_cons (re_b (re_prop C_TextSet_is_empty (hr.mono (by decide)) (re_v 1))) (rab_cons (re_b (re_ty (n := "bool") (by rfl) z_bool (by decide +kernel))) rab_nil))))) (rw_or1 (rt_cmp (op_eqU hr.units) (ok_eq _) (re_b (re_prop C_TextSet_is_empty (hr.mono (by decide)) (re_v 1))) (re_b (re_cl C__law_has_text (hr.mono (by decide)) (by rfl) (ra_cons (re_cb call_len (ok_len _) (by rfl) z_len PySem.boot_len (rab_cons (rb_v 0) rab_nil)) (ra_cons (re_fld A_TextSet K_TextSet n_TextSet_form (re_v 1)) ra_nil))))))))
    (rss_one (rs_ret re_bl))
    rss_nil)
  (rss_one (rs_ret (re_cl C__law_kept (hr.mono (by decide)) (by rfl) (ra_cons (re_cb call_len (ok_len _) (by rfl) z_len PySem.boot_len (rab_cons (rb_v 0) rab_nil)) (ra_cons (re_fld A_TextSet K_TextSet n_TextSet_form (re_v 1)) (ra_cons (re_v 2) (ra_cons (re_v 3) (ra_cons (re_v 4) ra_nil))))))))))
/-! ### _law_differ -/
abbrev s__law_differ : Stmt := topS 57
abbrev N__law_differ : List Str := ["_law_one", "_law_two", "_law_deed", "_law_due_here", "_law_answer", "e"]
theorem sc__law_differ : FnScope N__law_differ ["_law_one", "_law_two", "_law_deed", "_law_due_here"] (defScope s__law_differ) := ⟨rfl, rfl, rfl, by decide +kernel, rfl, by decide +kernel, by decide +kernel⟩
theorem okf__law_differ {f : Addr} {fd : FuncData} {C_AlphabetsDiffer : Addr} {C_BadAlphabet : Addr} {C_BadForm : Addr} {C_CopyError : Addr} (F : Fun K "_law_differ" "_law_differ" s__law_differ f fd) (z_ValueError : mg "ValueError" = none) (z_isinstance : mg "isinstance" = none) (z_str : mg "str" = none) (CX_TextSet___and__ : OpX P w K mg base "TextSet" "__and__" 9 ["self", "other"] gx_TextSet___and__) (CX_TextSet___or__ : OpX P w K mg base "TextSet" "__or__" 9 ["self", "other"] gx_TextSet___or__) (CX_TextSet___sub__ : OpX P w K mg base "TextSet" "__sub__" 9 ["self", "other"] gx_TextSet___sub__) (A_AlphabetsDiffer : ClsAt K "AlphabetsDiffer" C_AlphabetsDiffer) (T_AlphabetsDiffer : XfC K C_AlphabetsDiffer) (n_AlphabetsDiffer_one : PySem.W.findIn K (.ref C_AlphabetsDiffer) "one" = some none) (n_AlphabetsDiffer_two : PySem.W.findIn K (.ref C_AlphabetsDiffer) "two" = some none) (EC_AlphabetsDiffer : ExcC K C_AlphabetsDiffer) (mc_AlphabetsDiffer : mg "AlphabetsDiffer" = some (.ref C_AlphabetsDiffer)) (mc_BadAlphabet : mg "BadAlphabet" = some (.ref C_BadAlphabet)) (mc_BadForm : mg "BadForm" = some (.ref C_BadForm)) (mc_CopyError : mg "CopyError" = some (.ref C_CopyError)) (ki_AlphabetsDiffer_BadAlphabet : PySem.W.kitOne K (.ref C_AlphabetsDiffer) (.ref C_BadAlphabet) = some false) (ki_AlphabetsDiffer_BadForm : PySem.W.kitOne K (.ref C_AlphabetsDiffer) (.ref C_BadForm) = some false) (ki_AlphabetsDiffer_CopyError : PySem.W.kitOne K (.ref C_AlphabetsDiffer) (.ref C_CopyError) = some true) (ki_AlphabetsDiffer_ValueError : PySem.W.kitOne K (.ref C_AlphabetsDiffer) (.type "ValueError") = some true) (xm_AlphabetsDiffer : PySem.W.exmOne K (.ref C_AlphabetsDiffer) (.ref C_AlphabetsDiffer) = some true) : FnOk P w K mg base CX0 11 f fd ["_law_one", "_law_two", "_law_deed", "_law_due_here"] (spR K g__law_differ) := by
  refine fn_ok F sc__law_differ (fun cdv A outer s H E hr => ?_)
  have nd := sc__law_differ.nd
  unfold m__law_differ
  exact
  (rss_cons (rs_set (i := 4) nd re_non)
  (rss_cons (rs_try (i := 5) rfl rfl nd rfl rfl ⟨by rfl, by decide, .inl mc_AlphabetsDiffer⟩ takes0 (tbc A_AlphabetsDiffer xm_AlphabetsDiffer tb0)
    (fun W1 pn xe tk hp => (rss_one (rs_if (rt_cmp (op_eqU hr.units) (ok_eq _) (rb_v 2) (re_b re_int))
      (rss_one (rs_setX (i := 4) nd (rx_bin CX_TextSet___or__ tk (hr.mono (by decide)) (re_v 0) (re_v 1))))
      (rss_one (rs_if (rt_cmp (op_eqU hr.units) (ok_eq _) (rb_v 2) (re_b re_int))
        (rss_one (rs_setX (i := 4) nd (rx_bin CX_TextSet___and__ tk (hr.mono (by decide)) (re_v 0) (re_v 1))))
        (rss_one (rs_setX (i := 4) nd (rx_bin CX_TextSet___sub__ tk (hr.mono (by decide)) (re_v 0) (re_v 1)))))))))
    (fun a oe cls d pn hz hf => (rss_cons (rs_if (rt_w (rw_or (rt_not (rt_val (re_cb op_isiU (ok_isi _) (by rfl) z_isinstance (by decide +kernel) (rab_cons (re_b (re_xf T_AlphabetsDiffer A_AlphabetsDiffer n_AlphabetsDiffer_one hz hf 5)) (rab_cons (re_b (re_ty (n := "str") (by rfl) z_str (by decide +kernel))) rab_nil))))) (rw_or (rt_not (rt_val (re_cb op_isiU (ok_isi _) (by rfl) z_isinstance (by decide +kernel) (rab_cons (re_b (re_xf T_AlphabetsDiffer A_AlphabetsDiffer n_AlphabetsDiffer_two hz hf 5)) (rab_cons (re_b (re_ty (n := "str") (by rfl) z_str (by decide +kernel))) rab_nil))))) (rw_or1 (rt_val (re_xis (tbc A_AlphabetsDiffer ⟨EC_AlphabetsDiffer, ki_AlphabetsDiffer_BadAlphabet⟩ tb0) relV_ref hz hf (by rfl) z_isinstance (pe_cls (by rfl) mc_BadAlphabet) 5))))))
      (rss_one (rs_ret re_bl))
      rss_nil)
    (rss_cons (rs_if (rt_w (rw_or (rt_cmp (op_neU hr.units) (ok_ne _) (re_b (re_xf T_AlphabetsDiffer A_AlphabetsDiffer n_AlphabetsDiffer_one hz hf 5)) (re_b (re_ix (hu_s hr.units) (rb_v 3) (re_b re_int)))) (rw_or (rt_cmp (op_neU hr.units) (ok_ne _) (re_b (re_xf T_AlphabetsDiffer A_AlphabetsDiffer n_AlphabetsDiffer_two hz hf 5)) (re_b (re_ix (hu_s hr.units) (rb_v 3) (re_b re_int)))) (rw_or1 (rt_val (re_xis (tbc A_AlphabetsDiffer ⟨EC_AlphabetsDiffer, ki_AlphabetsDiffer_BadForm⟩ tb0) relV_ref hz hf (by rfl) z_isinstance (pe_cls (by rfl) mc_BadForm) 5))))))
      (rss_one (rs_ret re_bl))
      rss_nil)
    (rss_one (rs_ret (re_and (re_xis (tbc A_AlphabetsDiffer ⟨EC_AlphabetsDiffer, ki_AlphabetsDiffer_CopyError⟩ tb0) relV_ref hz hf (by rfl) z_isinstance (pe_cls (by rfl) mc_CopyError) 5) (re_one (re_xis (tbc A_AlphabetsDiffer ⟨EC_AlphabetsDiffer, ki_AlphabetsDiffer_ValueError⟩ tb0) relV_ty hz hf (by rfl) z_isinstance (pe_bltn (v := .ty "ValueError") (by rfl) z_ValueError (by decide +kernel) rfl) 5)))))))))
  (rss_one (rs_ret (re_and (re_cmp op_isnotU (ok_isnot _) (rb_v 4) (re_b re_non)) (re_one (re_cmp (op_eqU hr.units) (ok_eq _) (re_b (re_ix (hu_of hr) (rb_v 3) (re_b re_int))) (re_b (re_ix (hu_of hr) (rb_v 3) (re_b re_int))))))))))
/-! ### _law_same_state -/
abbrev s__law_same_state : Stmt := topS 58
abbrev N__law_same_state : List Str := ["_law_actual", "_law_due_here"]
theorem sc__law_same_state : FnScope N__law_same_state ["_law_actual", "_law_due_here"] (defScope s__law_same_state) := ⟨rfl, rfl, rfl, by decide +kernel, rfl, by decide +kernel, by decide +kernel⟩
theorem okf__law_same_state {f : Addr} {fd : FuncData} (F : Fun K "_law_same_state" "_law_same_state" s__law_same_state f fd) (C__law_whole : Cl P w K mg base "_law_whole" 1 ["_law_value"] g__law_whole) : FnOk P w K mg base CX0 2 f fd ["_law_actual", "_law_due_here"] (spR K g__law_same_state) := by
  refine fn_ok F sc__law_same_state (fun cdv A outer s H E hr => ?_)
  have nd := sc__law_same_state.nd
  unfold m__law_same_state
  exact
  (rss_cons (rs_if (rt_cmp op_isU (ok_is _) (rb_v 1) (re_b re_non))
    (rss_one (rs_ret (re_cmp op_isU (ok_is _) (rb_v 0) (re_b re_non))))
    rss_nil)
  (rss_one (rs_ret (re_and (re_cl C__law_whole (hr.mono (by decide)) (by rfl) (ra_cons (re_v 0) ra_nil)) (re_one (re_cmp (op_eqU hr.units) (ok_eq _) (rb_v 0) (rb_v 1)))))))
/-! ### _law_is_text -/
abbrev s__law_is_text : Stmt := topS 59
abbrev N__law_is_text : List Str := ["_law_alphabet", "_law_string_here", "_law_char_here"]
theorem sc__law_is_text : FnScope N__law_is_text ["_law_alphabet", "_law_string_here"] (defScope s__law_is_text) := ⟨rfl, rfl, rfl, by decide +kernel, rfl, by decide +kernel, by decide +kernel⟩
theorem okf__law_is_text {f : Addr} {fd : FuncData} (F : Fun K "_law_is_text" "_law_is_text" s__law_is_text f fd)  : FnOk P w K mg base CX0 1 f fd ["_law_alphabet", "_law_string_here"] (spR K g__law_is_text) := by
  refine fn_ok F sc__law_is_text (fun cdv A outer s H E hr => ?_)
  have nd := sc__law_is_text.nd
  unfold m__law_is_text
  exact
  (rss_cons (rs_for PassesOwn.never rfl (ri_data (re_v 1)) (rg_name (i := 2) nd)
    (rss_one (rs_if (rt_cmp (op_notinU (hu_s hr.units)) (ok_notin _) (rb_v 2) (rb_v 0))
      (rss_one (rs_ret re_bl))
      rss_nil)))
  (rss_one (rs_ret re_bl)))
/-! ### _law_reads -/
abbrev s__law_reads : Stmt := topS 60
abbrev N__law_reads : List Str := ["_law_alphabet", "_law_string_here", "_law_answers", "_law_one", "_law_two", "_law_a", "_law_b", "_law_row", "_law_due_here"]
theorem sc__law_reads : FnScope N__law_reads ["_law_alphabet", "_law_string_here", "_law_answers", "_law_one", "_law_two"] (defScope s__law_reads) := ⟨rfl, rfl, rfl, by decide +kernel, rfl, by decide +kernel, by decide +kernel⟩
theorem okf__law_reads {f : Addr} {fd : FuncData} {C_TextSet : Addr} (F : Fun K "_law_reads" "_law_reads" s__law_reads f fd) (A_TextSet : ClsAt K "TextSet" C_TextSet) (K_TextSet : Cls K C_TextSet) (n_TextSet_form : NoAttr K C_TextSet "form") (C_TextSet___contains__ : Op P w K mg base "TextSet" "__contains__" 6 ["self", "value"] g_TextSet___contains__) (C_TextSet_state_after : Mt P w K mg base "TextSet" "state_after" 6 ["self", "text"] g_TextSet_state_after) (C__law_due : Cl P w K mg base "_law_due" 1 ["_law_deed", "_law_a", "_law_b"] g__law_due) (C__law_ends : Cl P w K mg base "_law_ends" 1 ["_law_form_here", "_law_state_here"] g__law_ends) (C__law_is_text : Cl P w K mg base "_law_is_text" 1 ["_law_alphabet", "_law_string_here"] g__law_is_text) (C__law_same_state : Cl P w K mg base "_law_same_state" 2 ["_law_actual", "_law_due_here"] g__law_same_state) (C__law_state : Cl P w K mg base "_law_state" 2 ["_law_alphabet", "_law_form_here", "_law_string_here"] g__law_state) : FnOk P w K mg base CX0 8 f fd ["_law_alphabet", "_law_string_here", "_law_answers", "_law_one", "_law_two"] (spR K g__law_reads) := by
  refine fn_ok F sc__law_reads (fun cdv A outer s H E hr => ?_)
  have nd := sc__law_reads.nd
  unfold m__law_reads
  exact
  (rss_cons (rs_set (i := 5) nd (re_cl C__law_ends (hr.mono (by decide)) (by rfl) (ra_cons (re_v 3) (ra_cons (re_cl C__law_state (hr.mono (by decide)) (by rfl) (ra_cons (re_v 0) (ra_cons (re_v 3) (ra_cons (re_v 1) ra_nil)))) ra_nil))))
  (rss_cons (rs_set (i := 6) nd (re_cl C__law_ends (hr.mono (by decide)) (by rfl) (ra_cons (re_v 4) (ra_cons (re_cl C__law_state (hr.mono (by decide)) (by rfl) (ra_cons (re_v 0) (ra_cons (re_v 4) (ra_cons (re_v 1) ra_nil)))) ra_nil))))
  (rss_cons (rs_for PassesOwn.never rfl (ri_data (re_v 2)) (rg_name (i := 7) nd)
    (rss_cons (rs_set (i := 8) nd (re_and (re_cl C__law_is_text (hr.mono (by decide)) (by rfl) (ra_cons (re_v 0) (ra_cons (re_v 1) ra_nil))) (re_one (re_cl C__law_due (hr.mono (by decide)) (by rfl) (ra_cons (re_ix (hu_of hr) (rb_v 7) (re_b re_int)) (ra_cons (re_v 5) (ra_cons (re_v 6) ra_nil)))))))
    (rss_cons (rs_if (rt_cmp (op_neU hr.units) (ok_ne _) (re_b (re_inO C_TextSet___contains__ (hr.mono (by decide)) (re_v 1) (re_ix (hu_of hr) (rb_v 7) (re_b re_int)))) (rb_v 8))
      (rss_one (rs_ret re_bl))
      rss_nil)
    (rss_one (rs_if (rt_not (rt_val (re_cl C__law_same_state (hr.mono (by decide)) (by rfl) (ra_cons (re_meth C_TextSet_state_after (hr.mono (by decide)) (re_ix (hu_of hr) (rb_v 7) (re_b re_int)) (ra_cons (re_v 1) ra_nil)) (ra_cons (re_cl C__law_state (hr.mono (by decide)) (by rfl) (ra_cons (re_v 0) (ra_cons (re_fld A_TextSet K_TextSet n_TextSet_form (re_ix (hu_of hr) (rb_v 7) (re_b re_int))) (ra_cons (re_v 1) ra_nil)))) ra_nil)))))
      (rss_one (rs_ret re_bl))
      rss_nil)))))
  (rss_one (rs_ret re_bl)))))
/-! ### _law_other_alphabet -/
abbrev s__law_other_alphabet : Stmt := topS 61
abbrev N__law_other_alphabet : List Str := ["_law_script", "_law_alphabet", "_law_one", "_law_row", "_law_other_here", "_law_form_here", "_law_strange", "_law_deed", "_law_letter"]
theorem sc__law_other_alphabet : FnScope N__law_other_alphabet ["_law_script", "_law_alphabet", "_law_one"] (defScope s__law_other_alphabet) := ⟨rfl, rfl, rfl, by decide +kernel, rfl, by decide +kernel, by decide +kernel⟩
theorem okf__law_other_alphabet {f : Addr} {fd : FuncData} (F : Fun K "_law_other_alphabet" "_law_other_alphabet" s__law_other_alphabet f fd) (z_range : mg "range" = none) (z_tuple : mg "tuple" = none) (C_TextSet___init__ : Mkc P w K mg base "TextSet" "TextSet" 7 ["self", "alphabet", "form"] g_TextSet___init__) (C__law_cell : Cl P w K mg base "_law_cell" 1 ["_law_script", "_law_k"] g__law_cell) (C__law_differ : Cl P w K mg base "_law_differ" 11 ["_law_one", "_law_two", "_law_deed", "_law_due_here"] g__law_differ) (C__law_digits : Cl P w K mg base "_law_digits" 1 ["_law_cell_here", "_law_sizes"] g__law_digits) (C__law_letters : Cl P w K mg base "_law_letters" 1 ["_law_row", "_law_at", "_law_size"] g__law_letters) : FnOk P w K mg base CX0 12 f fd ["_law_script", "_law_alphabet", "_law_one"] (spR K g__law_other_alphabet) := by
  refine fn_ok F sc__law_other_alphabet (fun cdv A outer s H E hr => ?_)
  have nd := sc__law_other_alphabet.nd
  unfold m__law_other_alphabet
  exact
  (rss_cons (rs_set (i := 3) nd (re_cl C__law_digits (hr.mono (by decide)) (by rfl) (ra_cons (re_cl C__law_cell (hr.mono (by decide)) (by rfl) (ra_cons (re_v 0) (ra_cons re_int ra_nil))) (ra_cons (re_op op_addU (ok_add _) (re_b (re_f (rf_lst (ra_cons re_int (ra_cons re_int ra_nil))))) (re_b (re_f (rf_lst (ra_cons re_int (ra_cons re_int (ra_cons re_int (ra_cons re_int (ra_cons re_int (ra_cons re_int ra_nil)))))))))) ra_nil))))
  (rss_cons (rs_set (i := 4) nd (re_cl C__law_letters (hr.mono (by decide)) (by rfl) (ra_cons (re_v 3) (ra_cons re_int (ra_cons (re_op op_addU (ok_add _) (re_b re_int) (re_b (re_ix (hu_of hr) (rb_v 3) (re_b re_int)))) ra_nil)))))
  (rss_cons (rs_set (i := 5) nd (re_tup ra_nil))
  (rss_cons (rs_if (rt_cmp op_lt (ok_cmp _ _) (re_b (re_ix (hu_of hr) (rb_v 3) (re_b re_int))) (re_b re_int))
    (rss_one (rs_set (i := 5) nd (re_tup (ra_cons (re_tup (ra_cons re_bl (ra_cons (re_ct call_tuple_of (ok_tuple _) (by rfl) z_tuple (by decide +kernel) (rab_cons (re_b (re_f (rf_lc [("_law_letter", 8)] rfl rfl nd (ri_data (re_v 4)) (blkOk_by (N := N__law_other_alphabet) (sc := defScope s__law_other_alphabet) (by decide +kernel)) (fun _ _ _ _ _ => pg_name (i := 8) nd rfl (Or.inl rfl)) (fun _ _ _ _ _ => rts_nil) (fun _ _ _ _ _ => re_int)))) rab_nil)) ra_nil))) ra_nil))))
    rss_nil)
  (rss_cons (rs_set (i := 6) nd (re_make C_TextSet___init__ (hr.mono (by decide)) (by rfl) (ra_cons (re_v 4) (ra_cons (re_v 5) ra_nil))))
  (rss_cons (rs_for PassesOwn.never rfl (ri_rng1 (by rfl) z_range (ra_cons re_int ra_nil)) (rg_name (i := 7) nd)
    (rss_cons (rs_if (rt_not (rt_val (re_cl C__law_differ (hr.mono (by decide)) (by rfl) (ra_cons (re_v 2) (ra_cons (re_v 6) (ra_cons (re_v 7) (ra_cons (re_f (rf_lst (ra_cons (re_v 1) (ra_cons (re_v 4) ra_nil)))) ra_nil)))))))
      (rss_one (rs_ret re_bl))
      rss_nil)
    (rss_one (rs_if (rt_not (rt_val (re_cl C__law_differ (hr.mono (by decide)) (by rfl) (ra_cons (re_v 6) (ra_cons (re_v 2) (ra_cons (re_v 7) (ra_cons (re_f (rf_lst (ra_cons (re_v 4) (ra_cons (re_v 1) ra_nil)))) ra_nil)))))))
      (rss_one (rs_ret re_bl))
      rss_nil))))
  (rss_one (rs_ret re_bl))))))))
/-! ### law -/
abbrev s_law : Stmt := topS 62
abbrev N_law : List Str := ["_law_script", "_law_shape", "_law_size", "_law_alphabet", "_law_menu", "_law_first_here", "_law_second", "_law_one", "_law_two", "_law_answers", "_law_row", "_law_kept_here", "_law_k", "_law_again", "_law_string_here", "_law_texts"]
theorem sc_law : FnScope N_law ["_law_script"] (defScope s_law) := ⟨rfl, rfl, rfl, by decide +kernel, rfl, by decide +kernel, by decide +kernel⟩
theorem okf_law {f : Addr} {fd : FuncData} {C_TextSet : Addr} (F : Fun K "law" "law" s_law f fd) (z_range : mg "range" = none) (A_TextSet : ClsAt K "TextSet" C_TextSet) (K_TextSet : Cls K C_TextSet) (n_TextSet_alphabet : NoAttr K C_TextSet "alphabet") (n_TextSet_form : NoAttr K C_TextSet "form") (C_TextSet___and__ : Op P w K mg base "TextSet" "__and__" 9 ["self", "other"] g_TextSet___and__) (C_TextSet___init__ : Mkc P w K mg base "TextSet" "TextSet" 7 ["self", "alphabet", "form"] g_TextSet___init__) (C_TextSet___invert__ : Op P w K mg base "TextSet" "__invert__" 9 ["self"] g_TextSet___invert__) (C_TextSet___or__ : Op P w K mg base "TextSet" "__or__" 9 ["self", "other"] g_TextSet___or__) (C_TextSet___sub__ : Op P w K mg base "TextSet" "__sub__" 9 ["self", "other"] g_TextSet___sub__) (C__law_cell : Cl P w K mg base "_law_cell" 1 ["_law_script", "_law_k"] g__law_cell) (C__law_changed : Cl P w K mg base "_law_changed" 2 ["_law_form_here", "_law_size", "_law_cell_here"] g__law_changed) (C__law_digits : Cl P w K mg base "_law_digits" 1 ["_law_cell_here", "_law_sizes"] g__law_digits) (C__law_filled : Cl P w K mg base "_law_filled" 1 ["_law_form_here", "_law_digit"] g__law_filled) (C__law_fits : Cl P w K mg base "_law_fits" 3 ["_law_alphabet", "_law_texts", "_law_one", "_law_two", "_law_deed"] g__law_fits) (C__law_form : Cl P w K mg base "_law_form" 2 ["_law_script", "_law_at", "_law_many", "_law_size", "_law_doubled"] g__law_form) (C__law_letters : Cl P w K mg base "_law_letters" 1 ["_law_row", "_law_at", "_law_size"] g__law_letters) (C__law_other_alphabet : Cl P w K mg base "_law_other_alphabet" 12 ["_law_script", "_law_alphabet", "_law_one"] g__law_other_alphabet) (C__law_reads : Cl P w K mg base "_law_reads" 8 ["_law_alphabet", "_law_string_here", "_law_answers", "_law_one", "_law_two"] g__law_reads) (C__law_string : Cl P w K mg base "_law_string" 3 ["_law_alphabet", "_law_form_here", "_law_cell_here"] g__law_string) : FnOk P w K mg base CX0 13 f fd ["_law_script"] (spR K g_law) := by
  refine fn_ok F sc_law (fun cdv A outer s H E hr => ?_)
  have nd := sc_law.nd
  unfold m_law
  exact
  (rss_cons (rs_set (i := 1) nd (re_cl C__law_digits (hr.mono (by decide)) (by rfl) (ra_cons (re_cl C__law_cell (hr.mono (by decide)) (by rfl) (ra_cons (re_v 0) (ra_cons re_int ra_nil))) (ra_cons (re_op op_addU (ok_add _) (re_b (re_f (rf_lst (ra_cons re_int (ra_cons re_int (ra_cons re_int (ra_cons re_int (ra_cons re_int (ra_cons re_int (ra_cons re_int (ra_cons re_int (ra_cons re_int (ra_cons re_int ra_nil))))))))))))) (re_b (re_f (rf_lst (ra_cons re_int (ra_cons re_int (ra_cons re_int (ra_cons re_int (ra_cons re_int (ra_cons re_int ra_nil)))))))))) ra_nil))))
  (rss_cons (rs_set (i := 2) nd (re_ix (hu_of hr) (re_b (re_f (rf_lst (ra_cons re_int (ra_cons re_int (ra_cons re_int (ra_cons re_int (ra_cons re_int (ra_cons re_int (ra_cons re_int (ra_cons (re_op op_addU (ok_add _) (re_b re_int) (re_b (re_ix (hu_of hr) (rb_v 1) (re_b re_int)))) ra_nil))))))))))) (re_b (re_ix (hu_of hr) (rb_v 1) (re_b re_int)))))
  (rss_cons (rs_set (i := 3) nd (re_cl C__law_letters (hr.mono (by decide)) (by rfl) (ra_cons (re_v 1) (ra_cons re_int (ra_cons (re_v 2) ra_nil)))))
  (rss_cons (rs_set (i := 4) nd (re_f (rf_lst (ra_cons re_int (ra_cons re_int (ra_cons re_int (ra_cons re_int (ra_cons re_int (ra_cons re_int (ra_cons re_int (ra_cons re_int (ra_cons re_int (ra_cons re_int (ra_cons re_int (ra_cons re_int (ra_cons re_int (ra_cons re_int (ra_cons re_int ra_nil))))))))))))))))))
  (rss_cons (rs_set (i := 5) nd (re_cl C__law_filled (hr.mono (by decide)) (by rfl) (ra_cons (re_cl C__law_form (hr.mono (by decide)) (by rfl) (ra_cons (re_v 0) (ra_cons re_int (ra_cons (re_ix (hu_of hr) (re_b (re_op op_addU (ok_add _) (rb_v 4) (re_b (re_f (rf_lst (ra_cons (re_ix (hu_of hr) (rb_v 1) (re_b re_int)) ra_nil)))))) (re_b (re_ix (hu_of hr) (rb_v 1) (re_b re_int)))) (ra_cons (re_v 2) (ra_cons re_bl ra_nil)))))) (ra_cons (re_ix (hu_of hr) (rb_v 1) (re_b re_int)) ra_nil))))
  (rss_cons (rs_set (i := 6) nd (re_cl C__law_filled (hr.mono (by decide)) (by rfl) (ra_cons (re_cl C__law_form (hr.mono (by decide)) (by rfl) (ra_cons (re_v 0) (ra_cons re_int (ra_cons (re_ix (hu_of hr) (re_b (re_op op_addU (ok_add _) (rb_v 4) (re_b (re_f (rf_lst (ra_cons (re_ix (hu_of hr) (rb_v 1) (re_b re_int)) ra_nil)))))) (re_b (re_ix (hu_of hr) (rb_v 1) (re_b re_int)))) (ra_cons (re_v 2) (ra_cons (re_cmp (op_eqU hr.units) (ok_eq _) (re_b (re_ix (hu_of hr) (rb_v 1) (re_b re_int))) (re_b re_int)) ra_nil)))))) (ra_cons (re_ix (hu_of hr) (rb_v 1) (re_b re_int)) ra_nil))))
  (rss_cons (rs_if (rt_cmp (op_eqU hr.units) (ok_eq _) (re_b (re_ix (hu_of hr) (rb_v 1) (re_b re_int))) (re_b re_int))
    (rss_one (rs_set (i := 6) nd (re_cl C__law_changed (hr.mono (by decide)) (by rfl) (ra_cons (re_v 5) (ra_cons (re_v 2) (ra_cons (re_cl C__law_cell (hr.mono (by decide)) (by rfl) (ra_cons (re_v 0) (ra_cons re_int ra_nil))) ra_nil))))))
    rss_nil)
  (rss_cons (rs_set (i := 7) nd (re_make C_TextSet___init__ (hr.mono (by decide)) (by rfl) (ra_cons (re_v 3) (ra_cons (re_v 5) ra_nil))))
  (rss_cons (rs_set (i := 8) nd (re_make C_TextSet___init__ (hr.mono (by decide)) (by rfl) (ra_cons (re_v 3) (ra_cons (re_v 6) ra_nil))))
  (rss_cons (rs_set (i := 9) nd (re_f (rf_lst (ra_cons (re_f (rf_lst (ra_cons (re_bin C_TextSet___or__ (hr.mono (by decide)) (re_v 7) (re_v 8)) (ra_cons re_int ra_nil)))) (ra_cons (re_f (rf_lst (ra_cons (re_bin C_TextSet___and__ (hr.mono (by decide)) (re_v 7) (re_v 8)) (ra_cons re_int ra_nil)))) (ra_cons (re_f (rf_lst (ra_cons (re_bin C_TextSet___sub__ (hr.mono (by decide)) (re_v 7) (re_v 8)) (ra_cons re_int ra_nil)))) (ra_cons (re_f (rf_lst (ra_cons (re_inv C_TextSet___invert__ (hr.mono (by decide)) (re_v 7)) (ra_cons re_int ra_nil)))) (ra_cons (re_f (rf_lst (ra_cons (re_bin C_TextSet___or__ (hr.mono (by decide)) (re_v 8) (re_v 7)) (ra_cons re_int ra_nil)))) (ra_cons (re_f (rf_lst (ra_cons (re_bin C_TextSet___and__ (hr.mono (by decide)) (re_v 8) (re_v 7)) (ra_cons re_int ra_nil)))) ra_nil)))))))))
  (rss_cons (rs_set (i := 9) nd (re_op op_addU (ok_add _) (rb_v 9) (re_b (re_f (rf_lst (ra_cons (re_f (rf_lst (ra_cons (re_bin C_TextSet___sub__ (hr.mono (by decide)) (re_v 8) (re_v 7)) (ra_cons re_int ra_nil)))) (ra_cons (re_f (rf_lst (ra_cons (re_inv C_TextSet___invert__ (hr.mono (by decide)) (re_v 8)) (ra_cons re_int ra_nil)))) (ra_cons (re_f (rf_lst (ra_cons (re_v 7) (ra_cons re_int ra_nil)))) (ra_cons (re_f (rf_lst (ra_cons (re_v 8) (ra_cons re_int ra_nil)))) (ra_cons (re_f (rf_lst (ra_cons (re_bin C_TextSet___or__ (hr.mono (by decide)) (re_v 7) (re_v 7)) (ra_cons re_int ra_nil)))) (ra_cons (re_f (rf_lst (ra_cons (re_bin C_TextSet___and__ (hr.mono (by decide)) (re_v 8) (re_v 8)) (ra_cons re_int ra_nil)))) (ra_cons (re_f (rf_lst (ra_cons (re_bin C_TextSet___sub__ (hr.mono (by decide)) (re_v 7) (re_v 7)) (ra_cons re_int ra_nil)))) ra_nil))))))))))))
  (rss_cons (rs_for PassesOwn.never rfl (ri_data (re_v 9)) (rg_name (i := 10) nd)
    (rss_one (rs_if (rt_not (rt_val (re_cl C__law_fits (hr.mono (by decide)) (by rfl) (ra_cons (re_v 3) (ra_cons (re_ix (hu_of hr) (rb_v 10) (re_b re_int)) (ra_cons (re_v 5) (ra_cons (re_v 6) (ra_cons (re_ix (hu_of hr) (rb_v 10) (re_b re_int)) ra_nil))))))))
      (rss_one (rs_ret re_bl))
      rss_nil)))
  (rss_cons (rs_setLc (i := 11) [("_law_row", 10)] rfl rfl nd rfl rfl (sw_true rfl rfl rfl (by decide +kernel)) (ri_data (re_v 9)) (blkOk_by (N := N_law) (sc := defScope s_law) (by decide +kernel)) (fun _ _ _ _ _ => pg_name (i := 10) nd rfl (Or.inl rfl)) (fun _ _ _ _ _ => rts_nil) (fun _ _ _ _ _ => (re_fld A_TextSet K_TextSet n_TextSet_form (re_ix (hu_of hr) (rb_v 10) (re_b re_int)))))
  (rss_cons (rs_if (rt_not (rt_val (re_cl C__law_other_alphabet (hr.mono (by decide)) (by rfl) (ra_cons (re_v 0) (ra_cons (re_v 3) (ra_cons (re_v 7) ra_nil))))))
    (rss_one (rs_ret re_bl))
    rss_nil)
  (rss_cons (rs_for PassesOwn.never rfl (ri_rng1 (by rfl) z_range (ra_cons re_int ra_nil)) (rg_name (i := 12) nd)
    (rss_cons (rs_set (i := 14) nd (re_cl C__law_string (hr.mono (by decide)) (by rfl) (ra_cons (re_v 3) (ra_cons (re_ix (hu_of hr) (re_b (re_f (rf_lst (ra_cons (re_v 5) (ra_cons (re_v 6) ra_nil))))) (re_b (re_op op_fdiv (ok_div _) (rb_v 12) (re_b re_int)))) (ra_cons (re_cl C__law_cell (hr.mono (by decide)) (by rfl) (ra_cons (re_v 0) (ra_cons (re_op op_addU (ok_add _) (re_b re_int) (rb_v 12)) ra_nil))) ra_nil)))))
    (rss_one (rs_if (rt_not (rt_val (re_cl C__law_reads (hr.mono (by decide)) (by rfl) (ra_cons (re_v 3) (ra_cons (re_v 14) (ra_cons (re_v 9) (ra_cons (re_v 5) (ra_cons (re_v 6) ra_nil))))))))
      (rss_one (rs_ret re_bl))
      rss_nil))))
  (rss_cons (rs_set (i := 13) nd (re_f (rf_lst (ra_cons (re_bin C_TextSet___or__ (hr.mono (by decide)) (re_v 7) (re_v 8)) (ra_cons (re_bin C_TextSet___and__ (hr.mono (by decide)) (re_v 7) (re_v 8)) (ra_cons (re_bin C_TextSet___sub__ (hr.mono (by decide)) (re_v 7) (re_v 8)) (ra_cons (re_inv C_TextSet___invert__ (hr.mono (by decide)) (re_v 7)) ra_nil)))))))
  (rss_cons (rs_if (rt_w (rw_or (rt_cmp (op_neU hr.units) (ok_ne _) (re_b (re_f (rf_lc [("_law_texts", 15)] rfl rfl nd (ri_data (re_v 13)) (blkOk_by (N := N_law) (sc := defScope s_law) (by decide +kernel)) (fun _ _ _ _ _ => pg_name (i := 15) nd rfl (Or.inl rfl)) (fun _ _ _ _ _ => rts_nil) (fun _ _ _ _ _ => (re_fld A_TextSet K_TextSet n_TextSet_form (re_v 15)))))) (re_b (re_sl (rb_v 11) ro_none (ro_some re_int)))) (rw_or1 (rt_cmp (op_neU hr.units) (ok_ne _) (re_b (re_f (rf_lc [("_law_row", 10)] rfl rfl nd (ri_data (re_v 9)) (blkOk_by (N := N_law) (sc := defScope s_law) (by decide +kernel)) (fun _ _ _ _ _ => pg_name (i := 10) nd rfl (Or.inl rfl)) (fun _ _ _ _ _ => rts_nil) (fun _ _ _ _ _ => (re_fld A_TextSet K_TextSet n_TextSet_form (re_ix (hu_of hr) (rb_v 10) (re_b re_int))))))) (rb_v 11)))))
    (rss_one (rs_ret re_bl))
    rss_nil)
  (rss_one (rs_ret (re_and (re_cmp (op_eqU hr.units) (ok_eq _) (re_b (re_fld A_TextSet K_TextSet n_TextSet_alphabet (re_v 7))) (rb_v 3)) (re_one (re_cmp (op_eqU hr.units) (ok_eq _) (re_b (re_fld A_TextSet K_TextSet n_TextSet_alphabet (re_v 8))) (rb_v 3)))))))))))))))))))))))
end
end K01
namespace K01
open PySem PySem.Spec PyProof.Rows L2 R F
section
variable {P : Program} {w : World} {K : PySem.W.Frag} {mg : Str → Option Value} {base : Heap}
abbrev s_AlphabetsDiffer___init__ : Stmt := inClass (topS 4) 0
theorem sc_AlphabetsDiffer___init__ : FnScope ["self", "one", "two"] ["self", "one", "two"] (defScope s_AlphabetsDiffer___init__) := ⟨rfl, rfl, rfl, by decide +kernel, rfl, by decide +kernel, by decide +kernel⟩
theorem okx_AlphabetsDiffer {f : Addr} {fd : FuncData} {C : Addr} (F : Fun K "__init__" "AlphabetsDiffer.__init__" s_AlphabetsDiffer___init__ f fd) (T : OexC K C) (h1 : PySem.W.findIn K (.ref C) "one" = some none) (h2 : PySem.W.findIn K (.ref C) "two" = some none) : FnOk P w K mg base CX0 1 f fd ["self", "one", "two"] (spXI C ["one", "two"]) := xi2 F sc_AlphabetsDiffer___init__ T h1 h2 (by decide) (fun cdv A outer s H E => pss_cons (ps_ost (pv 0) (pv 1)) (pss_one (ps_ost (pv 0) (pv 2))))
end
set_option maxHeartbeats 0 in
theorem all_mk {P : Program} {w : World} {K : PySem.W.Frag} {h : Heap} {mg : Str → Option Value} {C_TextSet : Addr} {C_AlphabetsDiffer : Addr} {C_BadAlphabet : Addr} {C_BadForm : Addr} {C_CopyError : Addr} {f0 : Addr} {od0 an0 : Option Addr} {sl0 : Array (Option Value)} {oc0 kV0 dc0 pm0 cd0 ct0 : Value} {f1 : Addr} {od1 an1 : Option Addr} {sl1 : Array (Option Value)} {oc1 kV1 dc1 pm1 cd1 ct1 : Value} {f2 : Addr} {od2 an2 : Option Addr} {sl2 : Array (Option Value)} {oc2 kV2 dc2 pm2 cd2 ct2 : Value} {f3 : Addr} {od3 an3 : Option Addr} {sl3 : Array (Option Value)} {oc3 kV3 dc3 pm3 cd3 ct3 : Value} {f4 : Addr} {od4 an4 : Option Addr} {sl4 : Array (Option Value)} {oc4 kV4 dc4 pm4 cd4 ct4 : Value} {f5 : Addr} {od5 an5 : Option Addr} {sl5 : Array (Option Value)} {oc5 kV5 dc5 pm5 cd5 ct5 : Value} {f6 : Addr} {od6 an6 : Option Addr} {sl6 : Array (Option Value)} {oc6 kV6 dc6 pm6 cd6 ct6 : Value} {f7 : Addr} {od7 an7 : Option Addr} {sl7 : Array (Option Value)} {oc7 kV7 dc7 pm7 cd7 ct7 : Value} {f8 : Addr} {od8 an8 : Option Addr} {sl8 : Array (Option Value)} {oc8 kV8 dc8 pm8 cd8 ct8 : Value} {f9 : Addr} {od9 an9 : Option Addr} {sl9 : Array (Option Value)} {oc9 kV9 dc9 pm9 cd9 ct9 : Value} {f10 : Addr} {od10 an10 : Option Addr} {sl10 : Array (Option Value)} {oc10 kV10 dc10 pm10 cd10 ct10 : Value} {f11 : Addr} {od11 an11 : Option Addr} {sl11 : Array (Option Value)} {oc11 kV11 dc11 pm11 cd11 ct11 : Value} {f12 : Addr} {od12 an12 : Option Addr} {sl12 : Array (Option Value)} {oc12 kV12 dc12 pm12 cd12 ct12 : Value} {f13 : Addr} {od13 an13 : Option Addr} {sl13 : Array (Option Value)} {oc13 kV13 dc13 pm13 cd13 ct13 : Value} {f14 : Addr} {od14 an14 : Option Addr} {sl14 : Array (Option Value)} {oc14 kV14 dc14 pm14 cd14 ct14 : Value} {f15 : Addr} {od15 an15 : Option Addr} {sl15 : Array (Option Value)} {oc15 kV15 dc15 pm15 cd15 ct15 : Value} {f16 : Addr} {od16 an16 : Option Addr} {sl16 : Array (Option Value)} {oc16 kV16 dc16 pm16 cd16 ct16 : Value} {f17 : Addr} {od17 an17 : Option Addr} {sl17 : Array (Option Value)} {oc17 kV17 dc17 pm17 cd17 ct17 : Value} {f18 : Addr} {od18 an18 : Option Addr} {sl18 : Array (Option Value)} {oc18 kV18 dc18 pm18 cd18 ct18 : Value} {f19 : Addr} {od19 an19 : Option Addr} {sl19 : Array (Option Value)} {oc19 kV19 dc19 pm19 cd19 ct19 : Value} {f20 : Addr} {od20 an20 : Option Addr} {sl20 : Array (Option Value)} {oc20 kV20 dc20 pm20 cd20 ct20 : Value} {f21 : Addr} {od21 an21 : Option Addr} {sl21 : Array (Option Value)} {oc21 kV21 dc21 pm21 cd21 ct21 : Value} {f22 : Addr} {od22 an22 : Option Addr} {sl22 : Array (Option Value)} {oc22 kV22 dc22 pm22 cd22 ct22 : Value} {f23 : Addr} {od23 an23 : Option Addr} {sl23 : Array (Option Value)} {oc23 kV23 dc23 pm23 cd23 ct23 : Value} {f24 : Addr} {od24 an24 : Option Addr} {sl24 : Array (Option Value)} {oc24 kV24 dc24 pm24 cd24 ct24 : Value} {f25 : Addr} {od25 an25 : Option Addr} {sl25 : Array (Option Value)} {oc25 kV25 dc25 pm25 cd25 ct25 : Value} {f26 : Addr} {od26 an26 : Option Addr} {sl26 : Array (Option Value)} {oc26 kV26 dc26 pm26 cd26 ct26 : Value} {f27 : Addr} {od27 an27 : Option Addr} {sl27 : Array (Option Value)} {oc27 kV27 dc27 pm27 cd27 ct27 : Value} {f28 : Addr} {od28 an28 : Option Addr} {sl28 : Array (Option Value)} {oc28 kV28 dc28 pm28 cd28 ct28 : Value} {p28 : Addr} {rest28 : List Value} {f29 : Addr} {od29 an29 : Option Addr} {sl29 : Array (Option Value)} {oc29 kV29 dc29 pm29 cd29 ct29 : Value} {f30 : Addr} {od30 an30 : Option Addr} {sl30 : Array (Option Value)} {oc30 kV30 dc30 pm30 cd30 ct30 : Value} {f31 : Addr} {od31 an31 : Option Addr} {sl31 : Array (Option Value)} {oc31 kV31 dc31 pm31 cd31 ct31 : Value} {f32 : Addr} {od32 an32 : Option Addr} {sl32 : Array (Option Value)} {oc32 kV32 dc32 pm32 cd32 ct32 : Value} {f33 : Addr} {od33 an33 : Option Addr} {sl33 : Array (Option Value)} {oc33 kV33 dc33 pm33 cd33 ct33 : Value} {f34 : Addr} {od34 an34 : Option Addr} {sl34 : Array (Option Value)} {oc34 kV34 dc34 pm34 cd34 ct34 : Value} {f35 : Addr} {od35 an35 : Option Addr} {sl35 : Array (Option Value)} {oc35 kV35 dc35 pm35 cd35 ct35 : Value} {f36 : Addr} {od36 an36 : Option Addr} {sl36 : Array (Option Value)} {oc36 kV36 dc36 pm36 cd36 ct36 : Value} {f37 : Addr} {od37 an37 : Option Addr} {sl37 : Array (Option Value)} {oc37 kV37 dc37 pm37 cd37 ct37 : Value} {f38 : Addr} {od38 an38 : Option Addr} {sl38 : Array (Option Value)} {oc38 kV38 dc38 pm38 cd38 ct38 : Value} {f39 : Addr} {od39 an39 : Option Addr} {sl39 : Array (Option Value)} {oc39 kV39 dc39 pm39 cd39 ct39 : Value} {f40 : Addr} {od40 an40 : Option Addr} {sl40 : Array (Option Value)} {oc40 kV40 dc40 pm40 cd40 ct40 : Value} {f41 : Addr} {od41 an41 : Option Addr} {sl41 : Array (Option Value)} {oc41 kV41 dc41 pm41 cd41 ct41 : Value} {f42 : Addr} {od42 an42 : Option Addr} {sl42 : Array (Option Value)} {oc42 kV42 dc42 pm42 cd42 ct42 : Value} {f43 : Addr} {od43 an43 : Option Addr} {sl43 : Array (Option Value)} {oc43 kV43 dc43 pm43 cd43 ct43 : Value} {f44 : Addr} {od44 an44 : Option Addr} {sl44 : Array (Option Value)} {oc44 kV44 dc44 pm44 cd44 ct44 : Value} {f45 : Addr} {od45 an45 : Option Addr} {sl45 : Array (Option Value)} {oc45 kV45 dc45 pm45 cd45 ct45 : Value} {f46 : Addr} {od46 an46 : Option Addr} {sl46 : Array (Option Value)} {oc46 kV46 dc46 pm46 cd46 ct46 : Value} {f47 : Addr} {od47 an47 : Option Addr} {sl47 : Array (Option Value)} {oc47 kV47 dc47 pm47 cd47 ct47 : Value} {f48 : Addr} {od48 an48 : Option Addr} {sl48 : Array (Option Value)} {oc48 kV48 dc48 pm48 cd48 ct48 : Value} {f49 : Addr} {od49 an49 : Option Addr} {sl49 : Array (Option Value)} {oc49 kV49 dc49 pm49 cd49 ct49 : Value} {f50 : Addr} {od50 an50 : Option Addr} {sl50 : Array (Option Value)} {oc50 kV50 dc50 pm50 cd50 ct50 : Value} {f51 : Addr} {od51 an51 : Option Addr} {sl51 : Array (Option Value)} {oc51 kV51 dc51 pm51 cd51 ct51 : Value} {f52 : Addr} {od52 an52 : Option Addr} {sl52 : Array (Option Value)} {oc52 kV52 dc52 pm52 cd52 ct52 : Value} {f53 : Addr} {od53 an53 : Option Addr} {sl53 : Array (Option Value)} {oc53 kV53 dc53 pm53 cd53 ct53 : Value} {f54 : Addr} {od54 an54 : Option Addr} {sl54 : Array (Option Value)} {oc54 kV54 dc54 pm54 cd54 ct54 : Value} {f55 : Addr} {od55 an55 : Option Addr} {sl55 : Array (Option Value)} {oc55 kV55 dc55 pm55 cd55 ct55 : Value} {f1000 : Addr} {od1000 an1000 : Option Addr} {sl1000 : Array (Option Value)} {oc1000 kV1000 dc1000 pm1000 cd1000 ct1000 : Value} {nm_AlphabetsDiffer q_AlphabetsDiffer : Str} {N_AlphabetsDiffer : Addr} {bs_AlphabetsDiffer bm_AlphabetsDiffer : List Value} {sn_AlphabetsDiffer : List Str} {sub_AlphabetsDiffer : List Value} {ab_AlphabetsDiffer : Bool} {col_AlphabetsDiffer : Option Bool} {dd_AlphabetsDiffer : Option Addr} {ma_AlphabetsDiffer mb_AlphabetsDiffer mc1_AlphabetsDiffer md_AlphabetsDiffer me_AlphabetsDiffer : Option Value} {t_LETTERS : Tok} {t_MOST_LETTERS : Tok} {fa : Addr} (X : K.In h) (G : h.Ns mainGlobals mg) (hfa : mg "law" = some (.ref fa))
    (A_TextSet : PySem.W.nsIn K mainGlobals "TextSet" = some (some (.ref C_TextSet)))
    (Cpg_TextSet : PySem.W.plainGet K C_TextSet Str.empty = true)
    (Chd_TextSet : PySem.W.hasDictIn K C_TextSet = true)
    (Cpo_TextSet : PySem.W.plainOver K C_TextSet = true)
    (Csa_TextSet : PySem.W.findIn K (.ref C_TextSet) "__setattr__" = some (some (.builtin "object.__setattr__")))
    (n_TextSet_alphabet : PySem.W.findIn K (.ref C_TextSet) "alphabet" = some none)
    (n_TextSet_form : PySem.W.findIn K (.ref C_TextSet) "form" = some none)
    (Ca_TextSet : PySem.W.findIn K (.ref C_TextSet) "__class__" = some (some (.builtin "object.__class__")))
    (Cn_TextSet : PySem.W.specialIn K (.builtin "object.__class__") "__get__" = some (some (.builtin "getset_descriptor.__get__")))
    (Ct_TextSet : PySem.W.takesIn K (.builtin "object.__class__") = some true)
    (Cm_TextSet : PySem.W.mroIn K C_TextSet (.type "object") = some true)
    (sf_TextSet : PySem.W.selfFirst K C_TextSet = true)
    (A_AlphabetsDiffer : PySem.W.nsIn K mainGlobals "AlphabetsDiffer" = some (some (.ref C_AlphabetsDiffer)))
    (A_BadAlphabet : PySem.W.nsIn K mainGlobals "BadAlphabet" = some (some (.ref C_BadAlphabet)))
    (A_BadForm : PySem.W.nsIn K mainGlobals "BadForm" = some (some (.ref C_BadForm)))
    (A_CopyError : PySem.W.nsIn K mainGlobals "CopyError" = some (some (.ref C_CopyError)))
    (xga_AlphabetsDiffer : PySem.W.findIn K (.ref C_AlphabetsDiffer) "__getattribute__" = some (some (.builtin "BaseException.__getattribute__")))
    (xgg_AlphabetsDiffer : PySem.W.findIn K (.ref C_AlphabetsDiffer) "__getattr__" = some none)
    (xsb_AlphabetsDiffer : PySem.W.subIn K (.ref C_AlphabetsDiffer) (.type "BaseException") = some true)
    (xhd_AlphabetsDiffer : PySem.W.hasDictIn K C_AlphabetsDiffer = true)
    (xa_AlphabetsDiffer : PySem.W.findIn K (.ref C_AlphabetsDiffer) "__class__" = some (some (.builtin "object.__class__")))
    (xn_AlphabetsDiffer : PySem.W.specialIn K (.builtin "object.__class__") "__get__" = some (some (.builtin "getset_descriptor.__get__")))
    (xt_AlphabetsDiffer : PySem.W.takesIn K (.builtin "object.__class__") = some true)
    (xo_AlphabetsDiffer : PySem.W.mroIn K C_AlphabetsDiffer (.type "object") = some true)
    (yh_BadAlphabet : PySem.W.hasDictIn K C_BadAlphabet = true)
    (yt_BadAlphabet : PySem.W.typeIn K (.ref C_BadAlphabet) = some (.type "type"))
    (ys_BadAlphabet : PySem.W.subIn K (.ref C_BadAlphabet) (.ref C_BadAlphabet) = some true)
    (yb_BadAlphabet : PySem.W.subIn K (.ref C_BadAlphabet) (.type "BaseException") = some true)
    (yx_AlphabetsDiffer_BadAlphabet : PySem.W.subIn K (.ref C_AlphabetsDiffer) (.ref C_BadAlphabet) = some false)
    (yh_BadForm : PySem.W.hasDictIn K C_BadForm = true)
    (yt_BadForm : PySem.W.typeIn K (.ref C_BadForm) = some (.type "type"))
    (ys_BadForm : PySem.W.subIn K (.ref C_BadForm) (.ref C_BadForm) = some true)
    (yb_BadForm : PySem.W.subIn K (.ref C_BadForm) (.type "BaseException") = some true)
    (yx_AlphabetsDiffer_BadForm : PySem.W.subIn K (.ref C_AlphabetsDiffer) (.ref C_BadForm) = some false)
    (yh_CopyError : PySem.W.hasDictIn K C_CopyError = true)
    (yt_CopyError : PySem.W.typeIn K (.ref C_CopyError) = some (.type "type"))
    (ys_CopyError : PySem.W.subIn K (.ref C_CopyError) (.ref C_CopyError) = some true)
    (yb_CopyError : PySem.W.subIn K (.ref C_CopyError) (.type "BaseException") = some true)
    (yx_AlphabetsDiffer_CopyError : PySem.W.subIn K (.ref C_AlphabetsDiffer) (.ref C_CopyError) = some true)
    (yx_AlphabetsDiffer_ValueError : PySem.W.subIn K (.ref C_AlphabetsDiffer) (.type "ValueError") = some true)
    (n_AlphabetsDiffer_one : PySem.W.findIn K (.ref C_AlphabetsDiffer) "one" = some none)
    (n_AlphabetsDiffer_two : PySem.W.findIn K (.ref C_AlphabetsDiffer) "two" = some none)
    (yh_AlphabetsDiffer : PySem.W.hasDictIn K C_AlphabetsDiffer = true)
    (yt_AlphabetsDiffer : PySem.W.typeIn K (.ref C_AlphabetsDiffer) = some (.type "type"))
    (ys_AlphabetsDiffer : PySem.W.subIn K (.ref C_AlphabetsDiffer) (.ref C_AlphabetsDiffer) = some true)
    (yb_AlphabetsDiffer : PySem.W.subIn K (.ref C_AlphabetsDiffer) (.type "BaseException") = some true)
    (yx_AlphabetsDiffer_AlphabetsDiffer : PySem.W.subIn K (.ref C_AlphabetsDiffer) (.ref C_AlphabetsDiffer) = some true)
    (a0 : PySem.W.nsIn K mainGlobals "is_alphabet" = some (some (.ref f0)))
    (l0 : K.lookup f0 = some ⟨oc0, od0, .func (PySem.W.fnOf "is_alphabet" "is_alphabet" (defArgs s_is_alphabet) (defBody s_is_alphabet) (defScope s_is_alphabet) .none kV0 dc0 pm0 an0 cd0 ct0), sl0⟩)
    (c0 : PySem.W.codeIn K cd0 "is_alphabet" = true)
    (k0 : PySem.W.keepIn K (.ref f0) = true)
    (a1 : PySem.W.nsIn K mainGlobals "check_alphabet" = some (some (.ref f1)))
    (l1 : K.lookup f1 = some ⟨oc1, od1, .func (PySem.W.fnOf "check_alphabet" "check_alphabet" (defArgs s_check_alphabet) (defBody s_check_alphabet) (defScope s_check_alphabet) .none kV1 dc1 pm1 an1 cd1 ct1), sl1⟩)
    (c1 : PySem.W.codeIn K cd1 "check_alphabet" = true)
    (k1 : PySem.W.keepIn K (.ref f1) = true)
    (a2 : PySem.W.nsIn K mainGlobals "frozen" = some (some (.ref f2)))
    (l2 : K.lookup f2 = some ⟨oc2, od2, .func (PySem.W.fnOf "frozen" "frozen" (defArgs s_frozen) (defBody s_frozen) (defScope s_frozen) .none kV2 dc2 pm2 an2 cd2 ct2), sl2⟩)
    (c2 : PySem.W.codeIn K cd2 "frozen" = true)
    (k2 : PySem.W.keepIn K (.ref f2) = true)
    (a3 : PySem.W.nsIn K mainGlobals "form_step" = some (some (.ref f3)))
    (l3 : K.lookup f3 = some ⟨oc3, od3, .func (PySem.W.fnOf "form_step" "form_step" (defArgs s_form_step) (defBody s_form_step) (defScope s_form_step) .none kV3 dc3 pm3 an3 cd3 ct3), sl3⟩)
    (c3 : PySem.W.codeIn K cd3 "form_step" = true)
    (k3 : PySem.W.keepIn K (.ref f3) = true)
    (a4 : PySem.W.nsIn K mainGlobals "form_start" = some (some (.ref f4)))
    (l4 : K.lookup f4 = some ⟨oc4, od4, .func (PySem.W.fnOf "form_start" "form_start" (defArgs s_form_start) (defBody s_form_start) (defScope s_form_start) .none kV4 dc4 pm4 an4 cd4 ct4), sl4⟩)
    (c4 : PySem.W.codeIn K cd4 "form_start" = true)
    (k4 : PySem.W.keepIn K (.ref f4) = true)
    (a5 : PySem.W.nsIn K mainGlobals "form_stops" = some (some (.ref f5)))
    (l5 : K.lookup f5 = some ⟨oc5, od5, .func (PySem.W.fnOf "form_stops" "form_stops" (defArgs s_form_stops) (defBody s_form_stops) (defScope s_form_stops) .none kV5 dc5 pm5 an5 cd5 ct5), sl5⟩)
    (c5 : PySem.W.codeIn K cd5 "form_stops" = true)
    (k5 : PySem.W.keepIn K (.ref f5) = true)
    (a6 : PySem.W.nsIn K mainGlobals "live_flags" = some (some (.ref f6)))
    (l6 : K.lookup f6 = some ⟨oc6, od6, .func (PySem.W.fnOf "live_flags" "live_flags" (defArgs s_live_flags) (defBody s_live_flags) (defScope s_live_flags) .none kV6 dc6 pm6 an6 cd6 ct6), sl6⟩)
    (c6 : PySem.W.codeIn K cd6 "live_flags" = true)
    (k6 : PySem.W.keepIn K (.ref f6) = true)
    (a7 : PySem.W.nsIn K mainGlobals "live_moves" = some (some (.ref f7)))
    (l7 : K.lookup f7 = some ⟨oc7, od7, .func (PySem.W.fnOf "live_moves" "live_moves" (defArgs s_live_moves) (defBody s_live_moves) (defScope s_live_moves) .none kV7 dc7 pm7 an7 cd7 ct7), sl7⟩)
    (c7 : PySem.W.codeIn K cd7 "live_moves" = true)
    (k7 : PySem.W.keepIn K (.ref f7) = true)
    (a8 : PySem.W.nsIn K mainGlobals "numbered" = some (some (.ref f8)))
    (l8 : K.lookup f8 = some ⟨oc8, od8, .func (PySem.W.fnOf "numbered" "numbered" (defArgs s_numbered) (defBody s_numbered) (defScope s_numbered) .none kV8 dc8 pm8 an8 cd8 ct8), sl8⟩)
    (c8 : PySem.W.codeIn K cd8 "numbered" = true)
    (k8 : PySem.W.keepIn K (.ref f8) = true)
    (a9 : PySem.W.nsIn K mainGlobals "state_classes" = some (some (.ref f9)))
    (l9 : K.lookup f9 = some ⟨oc9, od9, .func (PySem.W.fnOf "state_classes" "state_classes" (defArgs s_state_classes) (defBody s_state_classes) (defScope s_state_classes) .none kV9 dc9 pm9 an9 cd9 ct9), sl9⟩)
    (c9 : PySem.W.codeIn K cd9 "state_classes" = true)
    (k9 : PySem.W.keepIn K (.ref f9) = true)
    (a10 : PySem.W.nsIn K mainGlobals "least_form" = some (some (.ref f10)))
    (l10 : K.lookup f10 = some ⟨oc10, od10, .func (PySem.W.fnOf "least_form" "least_form" (defArgs s_least_form) (defBody s_least_form) (defScope s_least_form) .none kV10 dc10 pm10 an10 cd10 ct10), sl10⟩)
    (c10 : PySem.W.codeIn K cd10 "least_form" = true)
    (k10 : PySem.W.keepIn K (.ref f10) = true)
    (a11 : PySem.W.nsIn K mainGlobals "pair_is_open" = some (some (.ref f11)))
    (l11 : K.lookup f11 = some ⟨oc11, od11, .func (PySem.W.fnOf "pair_is_open" "pair_is_open" (defArgs s_pair_is_open) (defBody s_pair_is_open) (defScope s_pair_is_open) .none kV11 dc11 pm11 an11 cd11 ct11), sl11⟩)
    (c11 : PySem.W.codeIn K cd11 "pair_is_open" = true)
    (k11 : PySem.W.keepIn K (.ref f11) = true)
    (a12 : PySem.W.nsIn K mainGlobals "pair_ends" = some (some (.ref f12)))
    (l12 : K.lookup f12 = some ⟨oc12, od12, .func (PySem.W.fnOf "pair_ends" "pair_ends" (defArgs s_pair_ends) (defBody s_pair_ends) (defScope s_pair_ends) .none kV12 dc12 pm12 an12 cd12 ct12), sl12⟩)
    (c12 : PySem.W.codeIn K cd12 "pair_ends" = true)
    (k12 : PySem.W.keepIn K (.ref f12) = true)
    (a13 : PySem.W.nsIn K mainGlobals "paired_form" = some (some (.ref f13)))
    (l13 : K.lookup f13 = some ⟨oc13, od13, .func (PySem.W.fnOf "paired_form" "paired_form" (defArgs s_paired_form) (defBody s_paired_form) (defScope s_paired_form) .none kV13 dc13 pm13 an13 cd13 ct13), sl13⟩)
    (c13 : PySem.W.codeIn K cd13 "paired_form" = true)
    (k13 : PySem.W.keepIn K (.ref f13) = true)
    (a14 : PySem.W.nsIn K mainGlobals "flipped_form" = some (some (.ref f14)))
    (l14 : K.lookup f14 = some ⟨oc14, od14, .func (PySem.W.fnOf "flipped_form" "flipped_form" (defArgs s_flipped_form) (defBody s_flipped_form) (defScope s_flipped_form) .none kV14 dc14 pm14 an14 cd14 ct14), sl14⟩)
    (c14 : PySem.W.codeIn K cd14 "flipped_form" = true)
    (k14 : PySem.W.keepIn K (.ref f14) = true)
    (a15 : PySem.W.nsIn K mainGlobals "is_move" = some (some (.ref f15)))
    (l15 : K.lookup f15 = some ⟨oc15, od15, .func (PySem.W.fnOf "is_move" "is_move" (defArgs s_is_move) (defBody s_is_move) (defScope s_is_move) .none kV15 dc15 pm15 an15 cd15 ct15), sl15⟩)
    (c15 : PySem.W.codeIn K cd15 "is_move" = true)
    (k15 : PySem.W.keepIn K (.ref f15) = true)
    (a16 : PySem.W.nsIn K mainGlobals "check_form" = some (some (.ref f16)))
    (l16 : K.lookup f16 = some ⟨oc16, od16, .func (PySem.W.fnOf "check_form" "check_form" (defArgs s_check_form) (defBody s_check_form) (defScope s_check_form) .none kV16 dc16 pm16 an16 cd16 ct16), sl16⟩)
    (c16 : PySem.W.codeIn K cd16 "check_form" = true)
    (k16 : PySem.W.keepIn K (.ref f16) = true)
    (a17 : PySem.W.nsIn K mainGlobals "check_same_alphabet" = some (some (.ref f17)))
    (l17 : K.lookup f17 = some ⟨oc17, od17, .func (PySem.W.fnOf "check_same_alphabet" "check_same_alphabet" (defArgs s_check_same_alphabet) (defBody s_check_same_alphabet) (defScope s_check_same_alphabet) .none kV17 dc17 pm17 an17 cd17 ct17), sl17⟩)
    (c17 : PySem.W.codeIn K cd17 "check_same_alphabet" = true)
    (k17 : PySem.W.keepIn K (.ref f17) = true)
    (a18 : PySem.W.findIn K (.ref C_TextSet) "__init__" = some (some (.ref f18)))
    (i18 : PySem.W.isFn K (.ref f18) = true)
    (mk18 : PySem.W.makesIn K C_TextSet = true)
    (kc18 : PySem.W.keepIn K (.ref C_TextSet) = true)
    (l18 : K.lookup f18 = some ⟨oc18, od18, .func (PySem.W.fnOf "__init__" "TextSet.__init__" (defArgs s_TextSet___init__) (defBody s_TextSet___init__) (defScope s_TextSet___init__) .none kV18 dc18 pm18 an18 cd18 ct18), sl18⟩)
    (c18 : PySem.W.codeIn K cd18 "TextSet.__init__" = true)
    (k18 : PySem.W.keepIn K (.ref f18) = true)
    (a19 : PySem.W.findIn K (.ref C_TextSet) "__or__" = some (some (.ref f19)))
    (i19 : PySem.W.isFn K (.ref f19) = true)
    (l19 : K.lookup f19 = some ⟨oc19, od19, .func (PySem.W.fnOf "__or__" "TextSet.__or__" (defArgs s_TextSet___or__) (defBody s_TextSet___or__) (defScope s_TextSet___or__) .none kV19 dc19 pm19 an19 cd19 ct19), sl19⟩)
    (c19 : PySem.W.codeIn K cd19 "TextSet.__or__" = true)
    (k19 : PySem.W.keepIn K (.ref f19) = true)
    (a20 : PySem.W.findIn K (.ref C_TextSet) "__and__" = some (some (.ref f20)))
    (i20 : PySem.W.isFn K (.ref f20) = true)
    (l20 : K.lookup f20 = some ⟨oc20, od20, .func (PySem.W.fnOf "__and__" "TextSet.__and__" (defArgs s_TextSet___and__) (defBody s_TextSet___and__) (defScope s_TextSet___and__) .none kV20 dc20 pm20 an20 cd20 ct20), sl20⟩)
    (c20 : PySem.W.codeIn K cd20 "TextSet.__and__" = true)
    (k20 : PySem.W.keepIn K (.ref f20) = true)
    (a21 : PySem.W.findIn K (.ref C_TextSet) "__sub__" = some (some (.ref f21)))
    (i21 : PySem.W.isFn K (.ref f21) = true)
    (l21 : K.lookup f21 = some ⟨oc21, od21, .func (PySem.W.fnOf "__sub__" "TextSet.__sub__" (defArgs s_TextSet___sub__) (defBody s_TextSet___sub__) (defScope s_TextSet___sub__) .none kV21 dc21 pm21 an21 cd21 ct21), sl21⟩)
    (c21 : PySem.W.codeIn K cd21 "TextSet.__sub__" = true)
    (k21 : PySem.W.keepIn K (.ref f21) = true)
    (a22 : PySem.W.findIn K (.ref C_TextSet) "__invert__" = some (some (.ref f22)))
    (i22 : PySem.W.isFn K (.ref f22) = true)
    (l22 : K.lookup f22 = some ⟨oc22, od22, .func (PySem.W.fnOf "__invert__" "TextSet.__invert__" (defArgs s_TextSet___invert__) (defBody s_TextSet___invert__) (defScope s_TextSet___invert__) .none kV22 dc22 pm22 an22 cd22 ct22), sl22⟩)
    (c22 : PySem.W.codeIn K cd22 "TextSet.__invert__" = true)
    (k22 : PySem.W.keepIn K (.ref f22) = true)
    (a23 : PySem.W.findIn K (.ref C_TextSet) "begin" = some (some (.ref f23)))
    (i23 : PySem.W.isFn K (.ref f23) = true)
    (l23 : K.lookup f23 = some ⟨oc23, od23, .func (PySem.W.fnOf "begin" "TextSet.begin" (defArgs s_TextSet_begin) (defBody s_TextSet_begin) (defScope s_TextSet_begin) .none kV23 dc23 pm23 an23 cd23 ct23), sl23⟩)
    (c23 : PySem.W.codeIn K cd23 "TextSet.begin" = true)
    (k23 : PySem.W.keepIn K (.ref f23) = true)
    (a24 : PySem.W.findIn K (.ref C_TextSet) "step" = some (some (.ref f24)))
    (i24 : PySem.W.isFn K (.ref f24) = true)
    (l24 : K.lookup f24 = some ⟨oc24, od24, .func (PySem.W.fnOf "step" "TextSet.step" (defArgs s_TextSet_step) (defBody s_TextSet_step) (defScope s_TextSet_step) .none kV24 dc24 pm24 an24 cd24 ct24), sl24⟩)
    (c24 : PySem.W.codeIn K cd24 "TextSet.step" = true)
    (k24 : PySem.W.keepIn K (.ref f24) = true)
    (a25 : PySem.W.findIn K (.ref C_TextSet) "steps" = some (some (.ref f25)))
    (i25 : PySem.W.isFn K (.ref f25) = true)
    (l25 : K.lookup f25 = some ⟨oc25, od25, .func (PySem.W.fnOf "steps" "TextSet.steps" (defArgs s_TextSet_steps) (defBody s_TextSet_steps) (defScope s_TextSet_steps) .none kV25 dc25 pm25 an25 cd25 ct25), sl25⟩)
    (c25 : PySem.W.codeIn K cd25 "TextSet.steps" = true)
    (k25 : PySem.W.keepIn K (.ref f25) = true)
    (a26 : PySem.W.findIn K (.ref C_TextSet) "stops" = some (some (.ref f26)))
    (i26 : PySem.W.isFn K (.ref f26) = true)
    (l26 : K.lookup f26 = some ⟨oc26, od26, .func (PySem.W.fnOf "stops" "TextSet.stops" (defArgs s_TextSet_stops) (defBody s_TextSet_stops) (defScope s_TextSet_stops) .none kV26 dc26 pm26 an26 cd26 ct26), sl26⟩)
    (c26 : PySem.W.codeIn K cd26 "TextSet.stops" = true)
    (k26 : PySem.W.keepIn K (.ref f26) = true)
    (a27 : PySem.W.findIn K (.ref C_TextSet) "__contains__" = some (some (.ref f27)))
    (i27 : PySem.W.isFn K (.ref f27) = true)
    (l27 : K.lookup f27 = some ⟨oc27, od27, .func (PySem.W.fnOf "__contains__" "TextSet.__contains__" (defArgs s_TextSet___contains__) (defBody s_TextSet___contains__) (defScope s_TextSet___contains__) .none kV27 dc27 pm27 an27 cd27 ct27), sl27⟩)
    (c27 : PySem.W.codeIn K cd27 "TextSet.__contains__" = true)
    (k27 : PySem.W.keepIn K (.ref f27) = true)
    (a28 : PySem.W.findIn K (.ref C_TextSet) "is_empty" = some (some (.ref p28)))
    (r28 : PySem.W.recIn K p28 "property" = some (.ref f28 :: rest28))
    (g28 : PySem.W.specialIn K (.ref p28) "__get__" = some (some (.builtin "property.__get__")))
    (t28 : PySem.W.takesIn K (.ref p28) = some true)
    (l28 : K.lookup f28 = some ⟨oc28, od28, .func (PySem.W.fnOf "is_empty" "TextSet.is_empty" (defArgs s_TextSet_is_empty) (defBody s_TextSet_is_empty) (defScope s_TextSet_is_empty) .none kV28 dc28 pm28 an28 cd28 ct28), sl28⟩)
    (c28 : PySem.W.codeIn K cd28 "TextSet.is_empty" = true)
    (k28 : PySem.W.keepIn K (.ref f28) = true)
    (a29 : PySem.W.findIn K (.ref C_TextSet) "state_after" = some (some (.ref f29)))
    (i29 : PySem.W.isFn K (.ref f29) = true)
    (l29 : K.lookup f29 = some ⟨oc29, od29, .func (PySem.W.fnOf "state_after" "TextSet.state_after" (defArgs s_TextSet_state_after) (defBody s_TextSet_state_after) (defScope s_TextSet_state_after) .none kV29 dc29 pm29 an29 cd29 ct29), sl29⟩)
    (c29 : PySem.W.codeIn K cd29 "TextSet.state_after" = true)
    (k29 : PySem.W.keepIn K (.ref f29) = true)
    (a30 : PySem.W.nsIn K mainGlobals "_law_whole" = some (some (.ref f30)))
    (l30 : K.lookup f30 = some ⟨oc30, od30, .func (PySem.W.fnOf "_law_whole" "_law_whole" (defArgs s__law_whole) (defBody s__law_whole) (defScope s__law_whole) .none kV30 dc30 pm30 an30 cd30 ct30), sl30⟩)
    (c30 : PySem.W.codeIn K cd30 "_law_whole" = true)
    (k30 : PySem.W.keepIn K (.ref f30) = true)
    (a31 : PySem.W.nsIn K mainGlobals "_law_cell" = some (some (.ref f31)))
    (l31 : K.lookup f31 = some ⟨oc31, od31, .func (PySem.W.fnOf "_law_cell" "_law_cell" (defArgs s__law_cell) (defBody s__law_cell) (defScope s__law_cell) .none kV31 dc31 pm31 an31 cd31 ct31), sl31⟩)
    (c31 : PySem.W.codeIn K cd31 "_law_cell" = true)
    (k31 : PySem.W.keepIn K (.ref f31) = true)
    (a32 : PySem.W.nsIn K mainGlobals "_law_digits" = some (some (.ref f32)))
    (l32 : K.lookup f32 = some ⟨oc32, od32, .func (PySem.W.fnOf "_law_digits" "_law_digits" (defArgs s__law_digits) (defBody s__law_digits) (defScope s__law_digits) .none kV32 dc32 pm32 an32 cd32 ct32), sl32⟩)
    (c32 : PySem.W.codeIn K cd32 "_law_digits" = true)
    (k32 : PySem.W.keepIn K (.ref f32) = true)
    (a33 : PySem.W.nsIn K mainGlobals "_law_letters" = some (some (.ref f33)))
    (l33 : K.lookup f33 = some ⟨oc33, od33, .func (PySem.W.fnOf "_law_letters" "_law_letters" (defArgs s__law_letters) (defBody s__law_letters) (defScope s__law_letters) .none kV33 dc33 pm33 an33 cd33 ct33), sl33⟩)
    (c33 : PySem.W.codeIn K cd33 "_law_letters" = true)
    (k33 : PySem.W.keepIn K (.ref f33) = true)
    (a34 : PySem.W.nsIn K mainGlobals "_law_other" = some (some (.ref f34)))
    (l34 : K.lookup f34 = some ⟨oc34, od34, .func (PySem.W.fnOf "_law_other" "_law_other" (defArgs s__law_other) (defBody s__law_other) (defScope s__law_other) .none kV34 dc34 pm34 an34 cd34 ct34), sl34⟩)
    (c34 : PySem.W.codeIn K cd34 "_law_other" = true)
    (k34 : PySem.W.keepIn K (.ref f34) = true)
    (a35 : PySem.W.nsIn K mainGlobals "_law_form" = some (some (.ref f35)))
    (l35 : K.lookup f35 = some ⟨oc35, od35, .func (PySem.W.fnOf "_law_form" "_law_form" (defArgs s__law_form) (defBody s__law_form) (defScope s__law_form) .none kV35 dc35 pm35 an35 cd35 ct35), sl35⟩)
    (c35 : PySem.W.codeIn K cd35 "_law_form" = true)
    (k35 : PySem.W.keepIn K (.ref f35) = true)
    (a36 : PySem.W.nsIn K mainGlobals "_law_filled" = some (some (.ref f36)))
    (l36 : K.lookup f36 = some ⟨oc36, od36, .func (PySem.W.fnOf "_law_filled" "_law_filled" (defArgs s__law_filled) (defBody s__law_filled) (defScope s__law_filled) .none kV36 dc36 pm36 an36 cd36 ct36), sl36⟩)
    (c36 : PySem.W.codeIn K cd36 "_law_filled" = true)
    (k36 : PySem.W.keepIn K (.ref f36) = true)
    (a37 : PySem.W.nsIn K mainGlobals "_law_is_form" = some (some (.ref f37)))
    (l37 : K.lookup f37 = some ⟨oc37, od37, .func (PySem.W.fnOf "_law_is_form" "_law_is_form" (defArgs s__law_is_form) (defBody s__law_is_form) (defScope s__law_is_form) .none kV37 dc37 pm37 an37 cd37 ct37), sl37⟩)
    (c37 : PySem.W.codeIn K cd37 "_law_is_form" = true)
    (k37 : PySem.W.keepIn K (.ref f37) = true)
    (a38 : PySem.W.nsIn K mainGlobals "_law_first" = some (some (.ref f38)))
    (l38 : K.lookup f38 = some ⟨oc38, od38, .func (PySem.W.fnOf "_law_first" "_law_first" (defArgs s__law_first) (defBody s__law_first) (defScope s__law_first) .none kV38 dc38 pm38 an38 cd38 ct38), sl38⟩)
    (c38 : PySem.W.codeIn K cd38 "_law_first" = true)
    (k38 : PySem.W.keepIn K (.ref f38) = true)
    (a39 : PySem.W.nsIn K mainGlobals "_law_ends" = some (some (.ref f39)))
    (l39 : K.lookup f39 = some ⟨oc39, od39, .func (PySem.W.fnOf "_law_ends" "_law_ends" (defArgs s__law_ends) (defBody s__law_ends) (defScope s__law_ends) .none kV39 dc39 pm39 an39 cd39 ct39), sl39⟩)
    (c39 : PySem.W.codeIn K cd39 "_law_ends" = true)
    (k39 : PySem.W.keepIn K (.ref f39) = true)
    (a40 : PySem.W.nsIn K mainGlobals "_law_next" = some (some (.ref f40)))
    (l40 : K.lookup f40 = some ⟨oc40, od40, .func (PySem.W.fnOf "_law_next" "_law_next" (defArgs s__law_next) (defBody s__law_next) (defScope s__law_next) .none kV40 dc40 pm40 an40 cd40 ct40), sl40⟩)
    (c40 : PySem.W.codeIn K cd40 "_law_next" = true)
    (k40 : PySem.W.keepIn K (.ref f40) = true)
    (a41 : PySem.W.nsIn K mainGlobals "_law_due" = some (some (.ref f41)))
    (l41 : K.lookup f41 = some ⟨oc41, od41, .func (PySem.W.fnOf "_law_due" "_law_due" (defArgs s__law_due) (defBody s__law_due) (defScope s__law_due) .none kV41 dc41 pm41 an41 cd41 ct41), sl41⟩)
    (c41 : PySem.W.codeIn K cd41 "_law_due" = true)
    (k41 : PySem.W.keepIn K (.ref f41) = true)
    (a42 : PySem.W.nsIn K mainGlobals "_law_kept" = some (some (.ref f42)))
    (l42 : K.lookup f42 = some ⟨oc42, od42, .func (PySem.W.fnOf "_law_kept" "_law_kept" (defArgs s__law_kept) (defBody s__law_kept) (defScope s__law_kept) .none kV42 dc42 pm42 an42 cd42 ct42), sl42⟩)
    (c42 : PySem.W.codeIn K cd42 "_law_kept" = true)
    (k42 : PySem.W.keepIn K (.ref f42) = true)
    (a43 : PySem.W.nsIn K mainGlobals "_law_has_text" = some (some (.ref f43)))
    (l43 : K.lookup f43 = some ⟨oc43, od43, .func (PySem.W.fnOf "_law_has_text" "_law_has_text" (defArgs s__law_has_text) (defBody s__law_has_text) (defScope s__law_has_text) .none kV43 dc43 pm43 an43 cd43 ct43), sl43⟩)
    (c43 : PySem.W.codeIn K cd43 "_law_has_text" = true)
    (k43 : PySem.W.keepIn K (.ref f43) = true)
    (a44 : PySem.W.nsIn K mainGlobals "_law_state" = some (some (.ref f44)))
    (l44 : K.lookup f44 = some ⟨oc44, od44, .func (PySem.W.fnOf "_law_state" "_law_state" (defArgs s__law_state) (defBody s__law_state) (defScope s__law_state) .none kV44 dc44 pm44 an44 cd44 ct44), sl44⟩)
    (c44 : PySem.W.codeIn K cd44 "_law_state" = true)
    (k44 : PySem.W.keepIn K (.ref f44) = true)
    (a45 : PySem.W.nsIn K mainGlobals "_law_char" = some (some (.ref f45)))
    (l45 : K.lookup f45 = some ⟨oc45, od45, .func (PySem.W.fnOf "_law_char" "_law_char" (defArgs s__law_char) (defBody s__law_char) (defScope s__law_char) .none kV45 dc45 pm45 an45 cd45 ct45), sl45⟩)
    (c45 : PySem.W.codeIn K cd45 "_law_char" = true)
    (k45 : PySem.W.keepIn K (.ref f45) = true)
    (a46 : PySem.W.nsIn K mainGlobals "_law_path" = some (some (.ref f46)))
    (l46 : K.lookup f46 = some ⟨oc46, od46, .func (PySem.W.fnOf "_law_path" "_law_path" (defArgs s__law_path) (defBody s__law_path) (defScope s__law_path) .none kV46 dc46 pm46 an46 cd46 ct46), sl46⟩)
    (c46 : PySem.W.codeIn K cd46 "_law_path" = true)
    (k46 : PySem.W.keepIn K (.ref f46) = true)
    (a47 : PySem.W.nsIn K mainGlobals "_law_string" = some (some (.ref f47)))
    (l47 : K.lookup f47 = some ⟨oc47, od47, .func (PySem.W.fnOf "_law_string" "_law_string" (defArgs s__law_string) (defBody s__law_string) (defScope s__law_string) .none kV47 dc47 pm47 an47 cd47 ct47), sl47⟩)
    (c47 : PySem.W.codeIn K cd47 "_law_string" = true)
    (k47 : PySem.W.keepIn K (.ref f47) = true)
    (a48 : PySem.W.nsIn K mainGlobals "_law_changed" = some (some (.ref f48)))
    (l48 : K.lookup f48 = some ⟨oc48, od48, .func (PySem.W.fnOf "_law_changed" "_law_changed" (defArgs s__law_changed) (defBody s__law_changed) (defScope s__law_changed) .none kV48 dc48 pm48 an48 cd48 ct48), sl48⟩)
    (c48 : PySem.W.codeIn K cd48 "_law_changed" = true)
    (k48 : PySem.W.keepIn K (.ref f48) = true)
    (a49 : PySem.W.nsIn K mainGlobals "_law_fits" = some (some (.ref f49)))
    (l49 : K.lookup f49 = some ⟨oc49, od49, .func (PySem.W.fnOf "_law_fits" "_law_fits" (defArgs s__law_fits) (defBody s__law_fits) (defScope s__law_fits) .none kV49 dc49 pm49 an49 cd49 ct49), sl49⟩)
    (c49 : PySem.W.codeIn K cd49 "_law_fits" = true)
    (k49 : PySem.W.keepIn K (.ref f49) = true)
    (a50 : PySem.W.nsIn K mainGlobals "_law_differ" = some (some (.ref f50)))
    (l50 : K.lookup f50 = some ⟨oc50, od50, .func (PySem.W.fnOf "_law_differ" "_law_differ" (defArgs s__law_differ) (defBody s__law_differ) (defScope s__law_differ) .none kV50 dc50 pm50 an50 cd50 ct50), sl50⟩)
    (c50 : PySem.W.codeIn K cd50 "_law_differ" = true)
    (k50 : PySem.W.keepIn K (.ref f50) = true)
    (a51 : PySem.W.nsIn K mainGlobals "_law_same_state" = some (some (.ref f51)))
    (l51 : K.lookup f51 = some ⟨oc51, od51, .func (PySem.W.fnOf "_law_same_state" "_law_same_state" (defArgs s__law_same_state) (defBody s__law_same_state) (defScope s__law_same_state) .none kV51 dc51 pm51 an51 cd51 ct51), sl51⟩)
    (c51 : PySem.W.codeIn K cd51 "_law_same_state" = true)
    (k51 : PySem.W.keepIn K (.ref f51) = true)
    (a52 : PySem.W.nsIn K mainGlobals "_law_is_text" = some (some (.ref f52)))
    (l52 : K.lookup f52 = some ⟨oc52, od52, .func (PySem.W.fnOf "_law_is_text" "_law_is_text" (defArgs s__law_is_text) (defBody s__law_is_text) (defScope s__law_is_text) .none kV52 dc52 pm52 an52 cd52 ct52), sl52⟩)
    (c52 : PySem.W.codeIn K cd52 "_law_is_text" = true)
    (k52 : PySem.W.keepIn K (.ref f52) = true)
    (a53 : PySem.W.nsIn K mainGlobals "_law_reads" = some (some (.ref f53)))
    (l53 : K.lookup f53 = some ⟨oc53, od53, .func (PySem.W.fnOf "_law_reads" "_law_reads" (defArgs s__law_reads) (defBody s__law_reads) (defScope s__law_reads) .none kV53 dc53 pm53 an53 cd53 ct53), sl53⟩)
    (c53 : PySem.W.codeIn K cd53 "_law_reads" = true)
    (k53 : PySem.W.keepIn K (.ref f53) = true)
    (a54 : PySem.W.nsIn K mainGlobals "_law_other_alphabet" = some (some (.ref f54)))
    (l54 : K.lookup f54 = some ⟨oc54, od54, .func (PySem.W.fnOf "_law_other_alphabet" "_law_other_alphabet" (defArgs s__law_other_alphabet) (defBody s__law_other_alphabet) (defScope s__law_other_alphabet) .none kV54 dc54 pm54 an54 cd54 ct54), sl54⟩)
    (c54 : PySem.W.codeIn K cd54 "_law_other_alphabet" = true)
    (k54 : PySem.W.keepIn K (.ref f54) = true)
    (a55 : PySem.W.nsIn K mainGlobals "law" = some (some (.ref f55)))
    (l55 : K.lookup f55 = some ⟨oc55, od55, .func (PySem.W.fnOf "law" "law" (defArgs s_law) (defBody s_law) (defScope s_law) .none kV55 dc55 pm55 an55 cd55 ct55), sl55⟩)
    (c55 : PySem.W.codeIn K cd55 "law" = true)
    (k55 : PySem.W.keepIn K (.ref f55) = true)
    (a1000 : PySem.W.findIn K (.ref C_AlphabetsDiffer) "__init__" = some (some (.ref f1000)))
    (l1000 : K.lookup f1000 = some ⟨oc1000, od1000, .func (PySem.W.fnOf "__init__" "AlphabetsDiffer.__init__" (defArgs s_AlphabetsDiffer___init__) (defBody s_AlphabetsDiffer___init__) (defScope s_AlphabetsDiffer___init__) .none kV1000 dc1000 pm1000 an1000 cd1000 ct1000), sl1000⟩)
    (c1000 : PySem.W.codeIn K cd1000 "AlphabetsDiffer.__init__" = true)
    (k1000 : PySem.W.keepIn K (.ref f1000) = true)
    (t1000 : PySem.W.typeIn K (.ref f1000) = some (.type "function"))
    (ocl_AlphabetsDiffer : K.lookup C_AlphabetsDiffer = some (excClassObj nm_AlphabetsDiffer q_AlphabetsDiffer C_AlphabetsDiffer N_AlphabetsDiffer bs_AlphabetsDiffer bm_AlphabetsDiffer true sn_AlphabetsDiffer sub_AlphabetsDiffer ab_AlphabetsDiffer col_AlphabetsDiffer dd_AlphabetsDiffer ma_AlphabetsDiffer mb_AlphabetsDiffer mc1_AlphabetsDiffer md_AlphabetsDiffer me_AlphabetsDiffer "ValueError.__new__"))
    (obm_AlphabetsDiffer : PySem.HandSPX.refsVE bm_AlphabetsDiffer = true)
    (osa_AlphabetsDiffer : PySem.W.findIn K (.ref C_AlphabetsDiffer) "__setattr__" = some (some (.builtin "object.__setattr__")))
    (oex_AlphabetsDiffer : PySem.W.subIn K (.ref C_AlphabetsDiffer) (.type "BaseException") = some true)
    (oty_AlphabetsDiffer : PySem.W.typeIn K (.ref C_AlphabetsDiffer) = some (.type "type"))
    (okc_AlphabetsDiffer : PySem.W.keepIn K (.ref C_AlphabetsDiffer) = true)
    (on_AlphabetsDiffer_one : PySem.W.findIn K (.ref C_AlphabetsDiffer) "one" = some none)
    (on_AlphabetsDiffer_two : PySem.W.findIn K (.ref C_AlphabetsDiffer) "two" = some none)
    (z_ValueError : PySem.W.nsIn K mainGlobals "ValueError" = some none)
    (z_all : PySem.W.nsIn K mainGlobals "all" = some none)
    (z_any : PySem.W.nsIn K mainGlobals "any" = some none)
    (z_bool : PySem.W.nsIn K mainGlobals "bool" = some none)
    (z_enumerate : PySem.W.nsIn K mainGlobals "enumerate" = some none)
    (z_int : PySem.W.nsIn K mainGlobals "int" = some none)
    (z_isinstance : PySem.W.nsIn K mainGlobals "isinstance" = some none)
    (z_len : PySem.W.nsIn K mainGlobals "len" = some none)
    (z_list : PySem.W.nsIn K mainGlobals "list" = some none)
    (z_range : PySem.W.nsIn K mainGlobals "range" = some none)
    (z_reversed : PySem.W.nsIn K mainGlobals "reversed" = some none)
    (z_sorted : PySem.W.nsIn K mainGlobals "sorted" = some none)
    (z_str : PySem.W.nsIn K mainGlobals "str" = some none)
    (z_tuple : PySem.W.nsIn K mainGlobals "tuple" = some none)
    (z_zip : PySem.W.nsIn K mainGlobals "zip" = some none)
    (gc_LETTERS : PySem.W.nsIn K mainGlobals "LETTERS" = some (some (.str ⟨(S "abcdefghijklmnopqrstuvwxyz").toArray⟩ t_LETTERS)))
    (gc_MOST_LETTERS : PySem.W.nsIn K mainGlobals "MOST_LETTERS" = some (some (.int (6) t_MOST_LETTERS))) :
    ∃ fd : FuncData, (∀ (s : Shared) (v : Value), BindsTo s fd ⟨[v], []⟩ [("_law_script", v)]) ∧ ∀ base : Heap, K.In base → base.Ns mainGlobals mg → FnOk P w K mg base CX0 13 fa fd ["_law_script"] (spR K g_law) := by
  have K_TextSet : Cls K C_TextSet := ⟨Cpg_TextSet, Chd_TextSet, Cpo_TextSet, Csa_TextSet⟩
  have mc_TextSet := PySem.W.mg_of X G A_TextSet
  have Ce_TextSet : PySem.W.kitOne K (.ref C_TextSet) (.ref C_TextSet) = some true := if_pos (beq_self_eq_true _)
  have I_TextSet : IsC K C_TextSet := ⟨⟨K_TextSet, Ca_TextSet, Cn_TextSet⟩, Ct_TextSet, Cm_TextSet, Ce_TextSet⟩
  have mc_AlphabetsDiffer := PySem.W.mg_of X G A_AlphabetsDiffer
  have mc_BadAlphabet := PySem.W.mg_of X G A_BadAlphabet
  have mc_BadForm := PySem.W.mg_of X G A_BadForm
  have mc_CopyError := PySem.W.mg_of X G A_CopyError
  have T_AlphabetsDiffer : XfC K C_AlphabetsDiffer := ⟨xga_AlphabetsDiffer, xgg_AlphabetsDiffer, xsb_AlphabetsDiffer, xhd_AlphabetsDiffer⟩
  have EC_AlphabetsDiffer : ExcC K C_AlphabetsDiffer := ⟨xga_AlphabetsDiffer, xgg_AlphabetsDiffer, xsb_AlphabetsDiffer, xhd_AlphabetsDiffer, xa_AlphabetsDiffer, xn_AlphabetsDiffer, xt_AlphabetsDiffer, xo_AlphabetsDiffer⟩
  have ki_AlphabetsDiffer_BadAlphabet := kit_of yh_BadAlphabet yt_BadAlphabet ys_BadAlphabet yx_AlphabetsDiffer_BadAlphabet
  have ki_AlphabetsDiffer_BadForm := kit_of yh_BadForm yt_BadForm ys_BadForm yx_AlphabetsDiffer_BadForm
  have ki_AlphabetsDiffer_CopyError := kit_of yh_CopyError yt_CopyError ys_CopyError yx_AlphabetsDiffer_CopyError
  have ki_AlphabetsDiffer_ValueError := kit_ty (by decide +kernel) yx_AlphabetsDiffer_ValueError
  have xm_AlphabetsDiffer := PySem.W.exm_ref yb_AlphabetsDiffer yh_AlphabetsDiffer yt_AlphabetsDiffer yx_AlphabetsDiffer_AlphabetsDiffer
  have e := hfa.symm.trans (PySem.W.mg_of X G a55)
  cases e
  have z_ValueError := PySem.W.mg_none_of X G z_ValueError
  have z_all := PySem.W.mg_none_of X G z_all
  have z_any := PySem.W.mg_none_of X G z_any
  have z_bool := PySem.W.mg_none_of X G z_bool
  have z_enumerate := PySem.W.mg_none_of X G z_enumerate
  have z_int := PySem.W.mg_none_of X G z_int
  have z_isinstance := PySem.W.mg_none_of X G z_isinstance
  have z_len := PySem.W.mg_none_of X G z_len
  have z_list := PySem.W.mg_none_of X G z_list
  have z_range := PySem.W.mg_none_of X G z_range
  have z_reversed := PySem.W.mg_none_of X G z_reversed
  have z_sorted := PySem.W.mg_none_of X G z_sorted
  have z_str := PySem.W.mg_none_of X G z_str
  have z_tuple := PySem.W.mg_none_of X G z_tuple
  have z_zip := PySem.W.mg_none_of X G z_zip
  have gc_LETTERS := PySem.W.mg_of X G gc_LETTERS
  have gc_MOST_LETTERS := PySem.W.mg_of X G gc_MOST_LETTERS
  have F0 := fun_mk (st := s_is_alphabet) l0 c0 k0
  have b0 := F0.binds (ps := ["value"]) fun _ _ _ _ _ _ us hl => match us, hl with | [_], _ => rfl
  have F1 := fun_mk (st := s_check_alphabet) l1 c1 k1
  have b1 := F1.binds (ps := ["alphabet"]) fun _ _ _ _ _ _ us hl => match us, hl with | [_], _ => rfl
  have F2 := fun_mk (st := s_frozen) l2 c2 k2
  have b2 := F2.binds (ps := ["value"]) fun _ _ _ _ _ _ us hl => match us, hl with | [_], _ => rfl
  have F3 := fun_mk (st := s_form_step) l3 c3 k3
  have b3 := F3.binds (ps := ["form", "state", "symbol"]) fun _ _ _ _ _ _ us hl => match us, hl with | [_, _, _], _ => rfl
  have F4 := fun_mk (st := s_form_start) l4 c4 k4
  have b4 := F4.binds (ps := ["form"]) fun _ _ _ _ _ _ us hl => match us, hl with | [_], _ => rfl
  have F5 := fun_mk (st := s_form_stops) l5 c5 k5
  have b5 := F5.binds (ps := ["form", "state"]) fun _ _ _ _ _ _ us hl => match us, hl with | [_, _], _ => rfl
  have F6 := fun_mk (st := s_live_flags) l6 c6 k6
  have b6 := F6.binds (ps := ["form"]) fun _ _ _ _ _ _ us hl => match us, hl with | [_], _ => rfl
  have F7 := fun_mk (st := s_live_moves) l7 c7 k7
  have b7 := F7.binds (ps := ["form"]) fun _ _ _ _ _ _ us hl => match us, hl with | [_], _ => rfl
  have F8 := fun_mk (st := s_numbered) l8 c8 k8
  have b8 := F8.binds (ps := ["keys"]) fun _ _ _ _ _ _ us hl => match us, hl with | [_], _ => rfl
  have F9 := fun_mk (st := s_state_classes) l9 c9 k9
  have b9 := F9.binds (ps := ["form", "rows"]) fun _ _ _ _ _ _ us hl => match us, hl with | [_, _], _ => rfl
  have F10 := fun_mk (st := s_least_form) l10 c10 k10
  have b10 : KBn K _ ["form", "width"] 1 ["width"] (· ++ ·) (· ++ ·) := ⟨fun s us ws _ h1 h2 => match us, ws, h1, h2 with | [_], [_], _, _ => .of_eq (show bindArgs (PySem.W.fnOf "least_form" "least_form" (defArgs s_least_form) (defBody s_least_form) (defScope s_least_form) .none kV10 dc10 pm10 an10 cd10 ct10) _ = _ from rfl), fun r1 r2 => r1.append r2⟩
  have F11 := fun_mk (st := s_pair_is_open) l11 c11 k11
  have b11 := F11.binds (ps := ["pair", "keep"]) fun _ _ _ _ _ _ us hl => match us, hl with | [_, _], _ => rfl
  have F12 := fun_mk (st := s_pair_ends) l12 c12 k12
  have b12 := F12.binds (ps := ["one", "two", "pair", "keep"]) fun _ _ _ _ _ _ us hl => match us, hl with | [_, _, _, _], _ => rfl
  have F13 := fun_mk (st := s_paired_form) l13 c13 k13
  have b13 := F13.binds (ps := ["one", "two", "width", "keep"]) fun _ _ _ _ _ _ us hl => match us, hl with | [_, _, _, _], _ => rfl
  have F14 := fun_mk (st := s_flipped_form) l14 c14 k14
  have b14 := F14.binds (ps := ["form", "width"]) fun _ _ _ _ _ _ us hl => match us, hl with | [_, _], _ => rfl
  have F15 := fun_mk (st := s_is_move) l15 c15 k15
  have b15 := F15.binds (ps := ["form", "move"]) fun _ _ _ _ _ _ us hl => match us, hl with | [_, _], _ => rfl
  have F16 := fun_mk (st := s_check_form) l16 c16 k16
  have b16 := F16.binds (ps := ["form", "width"]) fun _ _ _ _ _ _ us hl => match us, hl with | [_, _], _ => rfl
  have F17 := fun_mk (st := s_check_same_alphabet) l17 c17 k17
  have b17 := F17.binds (ps := ["one", "two"]) fun _ _ _ _ _ _ us hl => match us, hl with | [_, _], _ => rfl
  have F18 := fun_mk (st := s_TextSet___init__) l18 c18 k18
  have b18 := F18.binds (ps := ["self", "alphabet", "form"]) fun _ _ _ _ _ _ us hl => match us, hl with | [_, _, _], _ => rfl
  have F19 := fun_mk (st := s_TextSet___or__) l19 c19 k19
  have b19 := F19.binds (ps := ["self", "other"]) fun _ _ _ _ _ _ us hl => match us, hl with | [_, _], _ => rfl
  have F20 := fun_mk (st := s_TextSet___and__) l20 c20 k20
  have b20 := F20.binds (ps := ["self", "other"]) fun _ _ _ _ _ _ us hl => match us, hl with | [_, _], _ => rfl
  have F21 := fun_mk (st := s_TextSet___sub__) l21 c21 k21
  have b21 := F21.binds (ps := ["self", "other"]) fun _ _ _ _ _ _ us hl => match us, hl with | [_, _], _ => rfl
  have F22 := fun_mk (st := s_TextSet___invert__) l22 c22 k22
  have b22 := F22.binds (ps := ["self"]) fun _ _ _ _ _ _ us hl => match us, hl with | [_], _ => rfl
  have F23 := fun_mk (st := s_TextSet_begin) l23 c23 k23
  have b23 := F23.binds (ps := ["self"]) fun _ _ _ _ _ _ us hl => match us, hl with | [_], _ => rfl
  have F24 := fun_mk (st := s_TextSet_step) l24 c24 k24
  have b24 := F24.binds (ps := ["self", "state", "letter"]) fun _ _ _ _ _ _ us hl => match us, hl with | [_, _, _], _ => rfl
  have F25 := fun_mk (st := s_TextSet_steps) l25 c25 k25
  have b25 := F25.binds (ps := ["self", "state", "text"]) fun _ _ _ _ _ _ us hl => match us, hl with | [_, _, _], _ => rfl
  have F26 := fun_mk (st := s_TextSet_stops) l26 c26 k26
  have b26 := F26.binds (ps := ["self", "state"]) fun _ _ _ _ _ _ us hl => match us, hl with | [_, _], _ => rfl
  have F27 := fun_mk (st := s_TextSet___contains__) l27 c27 k27
  have b27 := F27.binds (ps := ["self", "value"]) fun _ _ _ _ _ _ us hl => match us, hl with | [_, _], _ => rfl
  have F28 := fun_mk (st := s_TextSet_is_empty) l28 c28 k28
  have b28 := F28.binds (ps := ["self"]) fun _ _ _ _ _ _ us hl => match us, hl with | [_], _ => rfl
  have F29 := fun_mk (st := s_TextSet_state_after) l29 c29 k29
  have b29 := F29.binds (ps := ["self", "text"]) fun _ _ _ _ _ _ us hl => match us, hl with | [_, _], _ => rfl
  have F30 := fun_mk (st := s__law_whole) l30 c30 k30
  have b30 := F30.binds (ps := ["_law_value"]) fun _ _ _ _ _ _ us hl => match us, hl with | [_], _ => rfl
  have F31 := fun_mk (st := s__law_cell) l31 c31 k31
  have b31 := F31.binds (ps := ["_law_script", "_law_k"]) fun _ _ _ _ _ _ us hl => match us, hl with | [_, _], _ => rfl
  have F32 := fun_mk (st := s__law_digits) l32 c32 k32
  have b32 := F32.binds (ps := ["_law_cell_here", "_law_sizes"]) fun _ _ _ _ _ _ us hl => match us, hl with | [_, _], _ => rfl
  have F33 := fun_mk (st := s__law_letters) l33 c33 k33
  have b33 := F33.binds (ps := ["_law_row", "_law_at", "_law_size"]) fun _ _ _ _ _ _ us hl => match us, hl with | [_, _, _], _ => rfl
  have F34 := fun_mk (st := s__law_other) l34 c34 k34
  have b34 := F34.binds (ps := ["_law_target", "_law_half", "_law_digit"]) fun _ _ _ _ _ _ us hl => match us, hl with | [_, _, _], _ => rfl
  have F35 := fun_mk (st := s__law_form) l35 c35 k35
  have b35 := F35.binds (ps := ["_law_script", "_law_at", "_law_many", "_law_size", "_law_doubled"]) fun _ _ _ _ _ _ us hl => match us, hl with | [_, _, _, _, _], _ => rfl
  have F36 := fun_mk (st := s__law_filled) l36 c36 k36
  have b36 := F36.binds (ps := ["_law_form_here", "_law_digit"]) fun _ _ _ _ _ _ us hl => match us, hl with | [_, _], _ => rfl
  have F37 := fun_mk (st := s__law_is_form) l37 c37 k37
  have b37 := F37.binds (ps := ["_law_answer", "_law_size"]) fun _ _ _ _ _ _ us hl => match us, hl with | [_, _], _ => rfl
  have F38 := fun_mk (st := s__law_first) l38 c38 k38
  have b38 := F38.binds (ps := ["_law_form_here"]) fun _ _ _ _ _ _ us hl => match us, hl with | [_], _ => rfl
  have F39 := fun_mk (st := s__law_ends) l39 c39 k39
  have b39 := F39.binds (ps := ["_law_form_here", "_law_state_here"]) fun _ _ _ _ _ _ us hl => match us, hl with | [_, _], _ => rfl
  have F40 := fun_mk (st := s__law_next) l40 c40 k40
  have b40 := F40.binds (ps := ["_law_form_here", "_law_state_here", "_law_k"]) fun _ _ _ _ _ _ us hl => match us, hl with | [_, _, _], _ => rfl
  have F41 := fun_mk (st := s__law_due) l41 c41 k41
  have b41 := F41.binds (ps := ["_law_deed", "_law_a", "_law_b"]) fun _ _ _ _ _ _ us hl => match us, hl with | [_, _, _], _ => rfl
  have F42 := fun_mk (st := s__law_kept) l42 c42 k42
  have b42 := F42.binds (ps := ["_law_size", "_law_answer", "_law_one", "_law_two", "_law_deed"]) fun _ _ _ _ _ _ us hl => match us, hl with | [_, _, _, _, _], _ => rfl
  have F43 := fun_mk (st := s__law_has_text) l43 c43 k43
  have b43 := F43.binds (ps := ["_law_size", "_law_form_here"]) fun _ _ _ _ _ _ us hl => match us, hl with | [_, _], _ => rfl
  have F44 := fun_mk (st := s__law_state) l44 c44 k44
  have b44 := F44.binds (ps := ["_law_alphabet", "_law_form_here", "_law_string_here"]) fun _ _ _ _ _ _ us hl => match us, hl with | [_, _, _], _ => rfl
  have F45 := fun_mk (st := s__law_char) l45 c45 k45
  have b45 := F45.binds (ps := ["_law_alphabet", "_law_digit"]) fun _ _ _ _ _ _ us hl => match us, hl with | [_, _], _ => rfl
  have F46 := fun_mk (st := s__law_path) l46 c46 k46
  have b46 := F46.binds (ps := ["_law_alphabet", "_law_form_here", "_law_row", "_law_size", "_law_cut"]) fun _ _ _ _ _ _ us hl => match us, hl with | [_, _, _, _, _], _ => rfl
  have F47 := fun_mk (st := s__law_string) l47 c47 k47
  have b47 := F47.binds (ps := ["_law_alphabet", "_law_form_here", "_law_cell_here"]) fun _ _ _ _ _ _ us hl => match us, hl with | [_, _, _], _ => rfl
  have F48 := fun_mk (st := s__law_changed) l48 c48 k48
  have b48 := F48.binds (ps := ["_law_form_here", "_law_size", "_law_cell_here"]) fun _ _ _ _ _ _ us hl => match us, hl with | [_, _, _], _ => rfl
  have F49 := fun_mk (st := s__law_fits) l49 c49 k49
  have b49 := F49.binds (ps := ["_law_alphabet", "_law_texts", "_law_one", "_law_two", "_law_deed"]) fun _ _ _ _ _ _ us hl => match us, hl with | [_, _, _, _, _], _ => rfl
  have F50 := fun_mk (st := s__law_differ) l50 c50 k50
  have b50 := F50.binds (ps := ["_law_one", "_law_two", "_law_deed", "_law_due_here"]) fun _ _ _ _ _ _ us hl => match us, hl with | [_, _, _, _], _ => rfl
  have F51 := fun_mk (st := s__law_same_state) l51 c51 k51
  have b51 := F51.binds (ps := ["_law_actual", "_law_due_here"]) fun _ _ _ _ _ _ us hl => match us, hl with | [_, _], _ => rfl
  have F52 := fun_mk (st := s__law_is_text) l52 c52 k52
  have b52 := F52.binds (ps := ["_law_alphabet", "_law_string_here"]) fun _ _ _ _ _ _ us hl => match us, hl with | [_, _], _ => rfl
  have F53 := fun_mk (st := s__law_reads) l53 c53 k53
  have b53 := F53.binds (ps := ["_law_alphabet", "_law_string_here", "_law_answers", "_law_one", "_law_two"]) fun _ _ _ _ _ _ us hl => match us, hl with | [_, _, _, _, _], _ => rfl
  have F54 := fun_mk (st := s__law_other_alphabet) l54 c54 k54
  have b54 := F54.binds (ps := ["_law_script", "_law_alphabet", "_law_one"]) fun _ _ _ _ _ _ us hl => match us, hl with | [_, _, _], _ => rfl
  have F55 := fun_mk (st := s_law) l55 c55 k55
  have b55 := F55.binds (ps := ["_law_script"]) fun _ _ _ _ _ _ us hl => match us, hl with | [_], _ => rfl
  have F1000 := fun_mk (st := s_AlphabetsDiffer___init__) l1000 c1000 k1000
  have b1000 := F1000.binds (ps := ["self", "one", "two"]) fun _ _ _ _ _ _ us hl => match us, hl with | [_, _, _], _ => rfl
  have O_AlphabetsDiffer : OexC K C_AlphabetsDiffer := ⟨⟨_, _, _, _, _, _, _, _, _, _, _, _, _, _, _, ocl_AlphabetsDiffer, obm_AlphabetsDiffer⟩, osa_AlphabetsDiffer, oex_AlphabetsDiffer, oty_AlphabetsDiffer, okc_AlphabetsDiffer⟩
  refine ⟨PySem.W.fnOf "law" "law" (defArgs s_law) (defBody s_law) (defScope s_law) .none kV55 dc55 pm55 an55 cd55 ct55, fun s v => .of_eq rfl, fun base _ _ => ?_⟩
  have XC_AlphabetsDiffer : Xc P w K mg base "AlphabetsDiffer" "AlphabetsDiffer" 1 ["one", "two"] := ⟨_, _, _, _, A_AlphabetsDiffer, O_AlphabetsDiffer, a1000, t1000, okx_AlphabetsDiffer F1000 O_AlphabetsDiffer on_AlphabetsDiffer_one on_AlphabetsDiffer_two, b1000, mc_AlphabetsDiffer⟩
  have C_is_alphabet : Cl P w K mg base "is_alphabet" 1 ["value"] g_is_alphabet := ⟨_, _, okf_is_alphabet (P := P) (w := w) (mg := mg) (base := base) F0 z_enumerate z_len gc_LETTERS gc_MOST_LETTERS, PySem.W.mg_of X G a0, k0, b0⟩
  have C_check_alphabet : Cl P w K mg base "check_alphabet" 2 ["alphabet"] g_check_alphabet := ⟨_, _, okf_check_alphabet (P := P) (w := w) (mg := mg) (base := base) F1 C_is_alphabet, PySem.W.mg_of X G a1, k1, b1⟩
  have C_frozen := ok_frozen (P := P) (w := w) (base := base) F2 (PySem.W.mg_of X G a2) b2 z_isinstance z_list z_tuple 4
  have C_form_step : Cl P w K mg base "form_step" 1 ["form", "state", "symbol"] g_form_step := ⟨_, _, okf_form_step (P := P) (w := w) (mg := mg) (base := base) F3 , PySem.W.mg_of X G a3, k3, b3⟩
  have C_form_start : Cl P w K mg base "form_start" 1 ["form"] g_form_start := ⟨_, _, okf_form_start (P := P) (w := w) (mg := mg) (base := base) F4 z_len, PySem.W.mg_of X G a4, k4, b4⟩
  have C_form_stops : Cl P w K mg base "form_stops" 1 ["form", "state"] g_form_stops := ⟨_, _, okf_form_stops (P := P) (w := w) (mg := mg) (base := base) F5 , PySem.W.mg_of X G a5, k5, b5⟩
  have C_live_flags : Cl P w K mg base "live_flags" 1 ["form"] g_live_flags := ⟨_, _, okf_live_flags (P := P) (w := w) (mg := mg) (base := base) F6 z_any z_len z_range z_reversed, PySem.W.mg_of X G a6, k6, b6⟩
  have C_live_moves : Cl P w K mg base "live_moves" 2 ["form"] g_live_moves := ⟨_, _, okf_live_moves (P := P) (w := w) (mg := mg) (base := base) F7 C_live_flags, PySem.W.mg_of X G a7, k7, b7⟩
  have C_numbered : Cl P w K mg base "numbered" 1 ["keys"] g_numbered := ⟨_, _, okf_numbered (P := P) (w := w) (mg := mg) (base := base) F8 z_len, PySem.W.mg_of X G a8, k8, b8⟩
  have C_state_classes : Cl P w K mg base "state_classes" 2 ["form", "rows"] g_state_classes := ⟨_, _, okf_state_classes (P := P) (w := w) (mg := mg) (base := base) F9 z_tuple z_zip C_numbered, PySem.W.mg_of X G a9, k9, b9⟩
  have C_least_form : Clk P w K mg base "least_form" 6 ["form", "width"] 1 ["width"] g_least_form := ⟨⟨_, _, okf_least_form (P := P) (w := w) (mg := mg) (base := base) F10 z_len z_range z_tuple C_frozen C_live_flags C_live_moves C_state_classes, PySem.W.mg_of X G a10, k10, b10⟩⟩
  have C_pair_is_open : Cl P w K mg base "pair_is_open" 1 ["pair", "keep"] g_pair_is_open := ⟨_, _, okf_pair_is_open (P := P) (w := w) (mg := mg) (base := base) F11 , PySem.W.mg_of X G a11, k11, b11⟩
  have C_pair_ends : Cl P w K mg base "pair_ends" 2 ["one", "two", "pair", "keep"] g_pair_ends := ⟨_, _, okf_pair_ends (P := P) (w := w) (mg := mg) (base := base) F12 C_form_stops, PySem.W.mg_of X G a12, k12, b12⟩
  have C_paired_form : Cl P w K mg base "paired_form" 7 ["one", "two", "width", "keep"] g_paired_form := ⟨_, _, okf_paired_form (P := P) (w := w) (mg := mg) (base := base) F13 z_len z_range z_tuple C_form_start C_form_step C_least_form C_pair_ends C_pair_is_open, PySem.W.mg_of X G a13, k13, b13⟩
  have C_flipped_form : Cl P w K mg base "flipped_form" 7 ["form", "width"] g_flipped_form := ⟨_, _, okf_flipped_form (P := P) (w := w) (mg := mg) (base := base) F14 z_len z_range z_tuple C_least_form, PySem.W.mg_of X G a14, k14, b14⟩
  have C_is_move : Cl P w K mg base "is_move" 1 ["form", "move"] g_is_move := ⟨_, _, okf_is_move (P := P) (w := w) (mg := mg) (base := base) F15 z_bool z_int z_isinstance z_len, PySem.W.mg_of X G a15, k15, b15⟩
  have C_check_form : Cl P w K mg base "check_form" 2 ["form", "width"] g_check_form := ⟨_, _, okf_check_form (P := P) (w := w) (mg := mg) (base := base) F16 z_all z_enumerate z_len C_is_move, PySem.W.mg_of X G a16, k16, b16⟩
  have CX_check_same_alphabet : ClX P w K mg base "check_same_alphabet" 3 ["one", "two"] gx_check_same_alphabet := ⟨⟨_, _, okx_check_same_alphabet (P := P) (w := w) (mg := mg) (base := base) F17 A_TextSet K_TextSet n_TextSet_alphabet XC_AlphabetsDiffer, PySem.W.mg_of X G a17, k17, b17⟩⟩
  have C_check_same_alphabet := CX_check_same_alphabet.calm
  have C_TextSet___init__ : Mkc P w K mg base "TextSet" "TextSet" 7 ["self", "alphabet", "form"] g_TextSet___init__ := ⟨⟨_, _, _, A_TextSet, ⟨mk18, a18, i18, kc18⟩, okf_TextSet___init__ (P := P) (w := w) (mg := mg) (base := base) F18 z_len A_TextSet K_TextSet n_TextSet_alphabet n_TextSet_form C_check_alphabet C_check_form C_frozen C_least_form, b18, mc_TextSet⟩⟩
  have CX_TextSet___or__ : OpX P w K mg base "TextSet" "__or__" 9 ["self", "other"] gx_TextSet___or__ := ⟨⟨_, _, _, A_TextSet, sf_TextSet, a19, i19, okx_TextSet___or__ (P := P) (w := w) (mg := mg) (base := base) F19 z_len A_TextSet K_TextSet n_TextSet_alphabet n_TextSet_form C_TextSet___init__ C_paired_form CX_check_same_alphabet, b19⟩⟩
  have C_TextSet___or__ := CX_TextSet___or__.calm
  have CX_TextSet___and__ : OpX P w K mg base "TextSet" "__and__" 9 ["self", "other"] gx_TextSet___and__ := ⟨⟨_, _, _, A_TextSet, sf_TextSet, a20, i20, okx_TextSet___and__ (P := P) (w := w) (mg := mg) (base := base) F20 z_len A_TextSet K_TextSet n_TextSet_alphabet n_TextSet_form C_TextSet___init__ C_paired_form CX_check_same_alphabet, b20⟩⟩
  have C_TextSet___and__ := CX_TextSet___and__.calm
  have CX_TextSet___sub__ : OpX P w K mg base "TextSet" "__sub__" 9 ["self", "other"] gx_TextSet___sub__ := ⟨⟨_, _, _, A_TextSet, sf_TextSet, a21, i21, okx_TextSet___sub__ (P := P) (w := w) (mg := mg) (base := base) F21 z_len A_TextSet K_TextSet n_TextSet_alphabet n_TextSet_form C_TextSet___init__ C_paired_form CX_check_same_alphabet, b21⟩⟩
  have C_TextSet___sub__ := CX_TextSet___sub__.calm
  have C_TextSet___invert__ : Op P w K mg base "TextSet" "__invert__" 9 ["self"] g_TextSet___invert__ := ⟨⟨_, _, _, A_TextSet, sf_TextSet, a22, i22, okf_TextSet___invert__ (P := P) (w := w) (mg := mg) (base := base) F22 z_len A_TextSet K_TextSet n_TextSet_alphabet n_TextSet_form C_TextSet___init__ C_flipped_form, b22⟩⟩
  have C_TextSet_begin : Mt P w K mg base "TextSet" "begin" 2 ["self"] g_TextSet_begin := ⟨⟨_, _, _, A_TextSet, K_TextSet, ⟨a23, i23, k23⟩, okf_TextSet_begin (P := P) (w := w) (mg := mg) (base := base) F23 A_TextSet K_TextSet n_TextSet_form C_form_start, b23⟩⟩
  have C_TextSet_step : Mt P w K mg base "TextSet" "step" 2 ["self", "state", "letter"] g_TextSet_step := ⟨⟨_, _, _, A_TextSet, K_TextSet, ⟨a24, i24, k24⟩, okf_TextSet_step (P := P) (w := w) (mg := mg) (base := base) F24 A_TextSet K_TextSet n_TextSet_alphabet n_TextSet_form C_form_step, b24⟩⟩
  have C_TextSet_steps : Mt P w K mg base "TextSet" "steps" 4 ["self", "state", "text"] g_TextSet_steps := ⟨⟨_, _, _, A_TextSet, K_TextSet, ⟨a25, i25, k25⟩, okf_TextSet_steps (P := P) (w := w) (mg := mg) (base := base) F25 C_TextSet_step, b25⟩⟩
  have C_TextSet_stops : Mt P w K mg base "TextSet" "stops" 2 ["self", "state"] g_TextSet_stops := ⟨⟨_, _, _, A_TextSet, K_TextSet, ⟨a26, i26, k26⟩, okf_TextSet_stops (P := P) (w := w) (mg := mg) (base := base) F26 A_TextSet K_TextSet n_TextSet_form C_form_stops, b26⟩⟩
  have C_TextSet___contains__ : Op P w K mg base "TextSet" "__contains__" 6 ["self", "value"] g_TextSet___contains__ := ⟨⟨_, _, _, A_TextSet, sf_TextSet, a27, i27, okf_TextSet___contains__ (P := P) (w := w) (mg := mg) (base := base) F27 C_TextSet_begin C_TextSet_steps C_TextSet_stops, b27⟩⟩
  have C_TextSet_is_empty : Pr P w K mg base "TextSet" "is_empty" 1 ["self"] g_TextSet_is_empty := ⟨⟨_, _, _, _, A_TextSet, K_TextSet, ⟨a28, g28, t28, _, r28⟩, okf_TextSet_is_empty (P := P) (w := w) (mg := mg) (base := base) F28 z_len A_TextSet K_TextSet n_TextSet_form, b28⟩⟩
  have C_TextSet_state_after : Mt P w K mg base "TextSet" "state_after" 6 ["self", "text"] g_TextSet_state_after := ⟨⟨_, _, _, A_TextSet, K_TextSet, ⟨a29, i29, k29⟩, okf_TextSet_state_after (P := P) (w := w) (mg := mg) (base := base) F29 C_TextSet_begin C_TextSet_steps, b29⟩⟩
  have C__law_whole : Cl P w K mg base "_law_whole" 1 ["_law_value"] g__law_whole := ⟨_, _, okf__law_whole (P := P) (w := w) (mg := mg) (base := base) F30 z_bool z_int z_isinstance, PySem.W.mg_of X G a30, k30, b30⟩
  have C__law_cell : Cl P w K mg base "_law_cell" 1 ["_law_script", "_law_k"] g__law_cell := ⟨_, _, okf__law_cell (P := P) (w := w) (mg := mg) (base := base) F31 z_int z_len, PySem.W.mg_of X G a31, k31, b31⟩
  have C__law_digits : Cl P w K mg base "_law_digits" 1 ["_law_cell_here", "_law_sizes"] g__law_digits := ⟨_, _, okf__law_digits (P := P) (w := w) (mg := mg) (base := base) F32 z_int z_len z_range, PySem.W.mg_of X G a32, k32, b32⟩
  have C__law_letters : Cl P w K mg base "_law_letters" 1 ["_law_row", "_law_at", "_law_size"] g__law_letters := ⟨_, _, okf__law_letters (P := P) (w := w) (mg := mg) (base := base) F33 z_int z_len z_range z_sorted, PySem.W.mg_of X G a33, k33, b33⟩
  have C__law_other : Cl P w K mg base "_law_other" 1 ["_law_target", "_law_half", "_law_digit"] g__law_other := ⟨_, _, okf__law_other (P := P) (w := w) (mg := mg) (base := base) F34 z_int, PySem.W.mg_of X G a34, k34, b34⟩
  have C__law_form : Cl P w K mg base "_law_form" 2 ["_law_script", "_law_at", "_law_many", "_law_size", "_law_doubled"] g__law_form := ⟨_, _, okf__law_form (P := P) (w := w) (mg := mg) (base := base) F35 z_int z_range z_tuple C__law_cell C__law_digits C__law_other, PySem.W.mg_of X G a35, k35, b35⟩
  have C__law_filled : Cl P w K mg base "_law_filled" 1 ["_law_form_here", "_law_digit"] g__law_filled := ⟨_, _, okf__law_filled (P := P) (w := w) (mg := mg) (base := base) F36 z_len z_range, PySem.W.mg_of X G a36, k36, b36⟩
  have C__law_is_form : Cl P w K mg base "_law_is_form" 2 ["_law_answer", "_law_size"] g__law_is_form := ⟨_, _, okf__law_is_form (P := P) (w := w) (mg := mg) (base := base) F37 z_bool z_isinstance z_len z_tuple C__law_whole, PySem.W.mg_of X G a37, k37, b37⟩
  have C__law_first : Cl P w K mg base "_law_first" 1 ["_law_form_here"] g__law_first := ⟨_, _, okf__law_first (P := P) (w := w) (mg := mg) (base := base) F38 z_int z_len, PySem.W.mg_of X G a38, k38, b38⟩
  have C__law_ends : Cl P w K mg base "_law_ends" 1 ["_law_form_here", "_law_state_here"] g__law_ends := ⟨_, _, okf__law_ends (P := P) (w := w) (mg := mg) (base := base) F39 , PySem.W.mg_of X G a39, k39, b39⟩
  have C__law_next : Cl P w K mg base "_law_next" 1 ["_law_form_here", "_law_state_here", "_law_k"] g__law_next := ⟨_, _, okf__law_next (P := P) (w := w) (mg := mg) (base := base) F40 , PySem.W.mg_of X G a40, k40, b40⟩
  have C__law_due : Cl P w K mg base "_law_due" 1 ["_law_deed", "_law_a", "_law_b"] g__law_due := ⟨_, _, okf__law_due (P := P) (w := w) (mg := mg) (base := base) F41 , PySem.W.mg_of X G a41, k41, b41⟩
  have C__law_kept : Cl P w K mg base "_law_kept" 2 ["_law_size", "_law_answer", "_law_one", "_law_two", "_law_deed"] g__law_kept := ⟨_, _, okf__law_kept (P := P) (w := w) (mg := mg) (base := base) F42 z_len z_range C__law_due C__law_ends C__law_first C__law_next, PySem.W.mg_of X G a42, k42, b42⟩
  have C__law_has_text : Cl P w K mg base "_law_has_text" 1 ["_law_size", "_law_form_here"] g__law_has_text := ⟨_, _, okf__law_has_text (P := P) (w := w) (mg := mg) (base := base) F43 z_len z_range, PySem.W.mg_of X G a43, k43, b43⟩
  have C__law_state : Cl P w K mg base "_law_state" 2 ["_law_alphabet", "_law_form_here", "_law_string_here"] g__law_state := ⟨_, _, okf__law_state (P := P) (w := w) (mg := mg) (base := base) F44 C__law_first, PySem.W.mg_of X G a44, k44, b44⟩
  have C__law_char : Cl P w K mg base "_law_char" 1 ["_law_alphabet", "_law_digit"] g__law_char := ⟨_, _, okf__law_char (P := P) (w := w) (mg := mg) (base := base) F45 z_int z_len, PySem.W.mg_of X G a45, k45, b45⟩
  have C__law_path : Cl P w K mg base "_law_path" 2 ["_law_alphabet", "_law_form_here", "_law_row", "_law_size", "_law_cut"] g__law_path := ⟨_, _, okf__law_path (P := P) (w := w) (mg := mg) (base := base) F46 z_int z_len z_range C__law_first, PySem.W.mg_of X G a46, k46, b46⟩
  have C__law_string : Cl P w K mg base "_law_string" 3 ["_law_alphabet", "_law_form_here", "_law_cell_here"] g__law_string := ⟨_, _, okf__law_string (P := P) (w := w) (mg := mg) (base := base) F47 z_int z_len z_range C__law_char C__law_digits C__law_path, PySem.W.mg_of X G a47, k47, b47⟩
  have C__law_changed : Cl P w K mg base "_law_changed" 2 ["_law_form_here", "_law_size", "_law_cell_here"] g__law_changed := ⟨_, _, okf__law_changed (P := P) (w := w) (mg := mg) (base := base) F48 z_int z_len z_list z_tuple C__law_digits, PySem.W.mg_of X G a48, k48, b48⟩
  have C__law_fits : Cl P w K mg base "_law_fits" 3 ["_law_alphabet", "_law_texts", "_law_one", "_law_two", "_law_deed"] g__law_fits := ⟨_, _, okf__law_fits (P := P) (w := w) (mg := mg) (base := base) F49 z_bool z_isinstance z_len A_TextSet K_TextSet I_TextSet mc_TextSet n_TextSet_alphabet n_TextSet_form C_TextSet_is_empty C__law_has_text C__law_is_form C__law_kept, PySem.W.mg_of X G a49, k49, b49⟩
  have C__law_differ : Cl P w K mg base "_law_differ" 11 ["_law_one", "_law_two", "_law_deed", "_law_due_here"] g__law_differ := ⟨_, _, okf__law_differ (P := P) (w := w) (mg := mg) (base := base) F50 z_ValueError z_isinstance z_str CX_TextSet___and__ CX_TextSet___or__ CX_TextSet___sub__ A_AlphabetsDiffer T_AlphabetsDiffer n_AlphabetsDiffer_one n_AlphabetsDiffer_two EC_AlphabetsDiffer mc_AlphabetsDiffer mc_BadAlphabet mc_BadForm mc_CopyError ki_AlphabetsDiffer_BadAlphabet ki_AlphabetsDiffer_BadForm ki_AlphabetsDiffer_CopyError ki_AlphabetsDiffer_ValueError xm_AlphabetsDiffer, PySem.W.mg_of X G a50, k50, b50⟩
  have C__law_same_state : Cl P w K mg base "_law_same_state" 2 ["_law_actual", "_law_due_here"] g__law_same_state := ⟨_, _, okf__law_same_state (P := P) (w := w) (mg := mg) (base := base) F51 C__law_whole, PySem.W.mg_of X G a51, k51, b51⟩
  have C__law_is_text : Cl P w K mg base "_law_is_text" 1 ["_law_alphabet", "_law_string_here"] g__law_is_text := ⟨_, _, okf__law_is_text (P := P) (w := w) (mg := mg) (base := base) F52 , PySem.W.mg_of X G a52, k52, b52⟩
  have C__law_reads : Cl P w K mg base "_law_reads" 8 ["_law_alphabet", "_law_string_here", "_law_answers", "_law_one", "_law_two"] g__law_reads := ⟨_, _, okf__law_reads (P := P) (w := w) (mg := mg) (base := base) F53 A_TextSet K_TextSet n_TextSet_form C_TextSet___contains__ C_TextSet_state_after C__law_due C__law_ends C__law_is_text C__law_same_state C__law_state, PySem.W.mg_of X G a53, k53, b53⟩
  have C__law_other_alphabet : Cl P w K mg base "_law_other_alphabet" 12 ["_law_script", "_law_alphabet", "_law_one"] g__law_other_alphabet := ⟨_, _, okf__law_other_alphabet (P := P) (w := w) (mg := mg) (base := base) F54 z_range z_tuple C_TextSet___init__ C__law_cell C__law_differ C__law_digits C__law_letters, PySem.W.mg_of X G a54, k54, b54⟩
  exact okf_law F55 z_range A_TextSet K_TextSet n_TextSet_alphabet n_TextSet_form C_TextSet___and__ C_TextSet___init__ C_TextSet___invert__ C_TextSet___or__ C_TextSet___sub__ C__law_cell C__law_changed C__law_digits C__law_filled C__law_fits C__law_form C__law_letters C__law_other_alphabet C__law_reads C__law_string
end K01
namespace K01
open PySem PySem.Spec PyProof.Rows L2 R
theorem rps_ints {K : PySem.W.Frag} {B : Hp} : ∀ ns : List Int, Rps K B (ns.map V.int) (ns.map D.int)
  | [] => .nil
  | n :: r => .cons (.int n) (rps_ints r)
theorem sp_law (g : List D → Option Sl) (hg : ∀ ns : List Int, ns.length ≤ 63 → g [.lsk (ns.map D.int)] = some (.d (.bl true))) {K : PySem.W.Frag} {H : Hp} {a : Addr} {ns : List Int} {E : XK} (hl : ns.length ≤ 63) (hS : SqL K H a (ns.map V.int)) : spR K g [.ref a] H (fun v _ => v = .bl true) E :=
  ⟨H, [.lsk (ns.map D.int)], _, Same.refl _, .cons (.lsk hS (rps_ints ns)) .nil, hg ns hl, fun v B' H' _ r => by cases r; rfl⟩
end K01
open PySem PySem.W PyProof.Rows
set_option maxHeartbeats 0 in
theorem PySem.Challenge.cw_firsthand_k01_set_operators_holds : PySem.Challenge.rw_firsthand_k01_set_operators.Holds := by
  w_on; o_law; k_head; (case hw => w_witness2)
  k_fill
  refine L2.walk_of (l := PySem.Challenge.rw_firsthand_k01_set_operators) (n := 63) (k := 13) (x := "_law_script") (CX := fun _ => L2.CX0) (sp := fun w => R.spR _ K01.g_law) rfl (by decide) rfl ⟨rfl, by decide, by decide⟩ (fun w h Y => PySem.W.kIn_of Y) ?F (fun _ _ a ns hl _ hS => K01.sp_law K01.g_law K01.law_true hl hS) (fun _ _ _ _ _ h => h)
  case F =>
    intro w mg fa h KX G hmg
    refine' K01.all_mk KX G hmg ?A_TextSet ?Cpg_TextSet ?Chd_TextSet ?Cpo_TextSet ?Csa_TextSet ?n_TextSet_alphabet ?n_TextSet_form ?Ca_TextSet ?Cn_TextSet ?Ct_TextSet ?Cm_TextSet ?sf_TextSet ?A_AlphabetsDiffer ?A_BadAlphabet ?A_BadForm ?A_CopyError ?xga_AlphabetsDiffer ?xgg_AlphabetsDiffer ?xsb_AlphabetsDiffer ?xhd_AlphabetsDiffer ?xa_AlphabetsDiffer ?xn_AlphabetsDiffer ?xt_AlphabetsDiffer ?xo_AlphabetsDiffer ?yh_BadAlphabet ?yt_BadAlphabet ?ys_BadAlphabet ?yb_BadAlphabet ?yx_AlphabetsDiffer_BadAlphabet ?yh_BadForm ?yt_BadForm ?ys_BadForm ?yb_BadForm ?yx_AlphabetsDiffer_BadForm ?yh_CopyError ?yt_CopyError ?ys_CopyError ?yb_CopyError ?yx_AlphabetsDiffer_CopyError ?yx_AlphabetsDiffer_ValueError ?n_AlphabetsDiffer_one ?n_AlphabetsDiffer_two ?yh_AlphabetsDiffer ?yt_AlphabetsDiffer ?ys_AlphabetsDiffer ?yb_AlphabetsDiffer ?yx_AlphabetsDiffer_AlphabetsDiffer ?a0 ?l0 ?c0 ?k0 ?a1 ?l1 ?c1 ?k1 ?a2 ?l2 ?c2 ?k2 ?a3 ?l3 ?c3 ?k3 ?a4 ?l4 ?c4 ?k4 ?a5 ?l5 ?c5 ?k5 ?a6 ?l6 ?c6 ?k6 ?a7 ?l7 ?c7 ?k7 ?a8 ?l8 ?c8 ?k8 ?a9 ?l9 ?c9 ?k9 ?a10 ?l10 ?c10 ?k10 ?a11 ?l11 ?c11 ?k11 ?a12 ?l12 ?c12 ?k12 ?a13 ?l13 ?c13 ?k13 ?a14 ?l14 ?c14 ?k14 ?a15 ?l15 ?c15 ?k15 ?a16 ?l16 ?c16 ?k16 ?a17 ?l17 ?c17 ?k17 ?a18 ?i18 ?mk18 ?kc18 ?l18 ?c18 ?k18 ?a19 ?i19 ?l19 ?c19 ?k19 ?a20 ?i20 ?l20 ?c20 ?k20 ?a21 ?i21 ?l21 ?c21 ?k21 ?a22 ?i22 ?l22 ?c22 ?k22 ?a23 ?i23 ?l23 ?c23 ?k23 ?a24 ?i24 ?l24 ?c24 ?k24 ?a25 ?i25 ?l25 ?c25 ?k25 ?a26 ?i26 ?l26 ?c26 ?k26 ?a27 ?i27 ?l27 ?c27 ?k27 ?a28 ?r28 ?g28 ?t28 ?l28 ?c28 ?k28 ?a29 ?i29 ?l29 ?c29 ?k29 ?a30 ?l30 ?c30 ?k30 ?a31 ?l31 ?c31 ?k31 ?a32 ?l32 ?c32 ?k32 ?a33 ?l33 ?c33 ?k33 ?a34 ?l34 ?c34 ?k34 ?a35 ?l35 ?c35 ?k35 ?a36 ?l36 ?c36 ?k36 ?a37 ?l37 ?c37 ?k37 ?a38 ?l38 ?c38 ?k38 ?a39 ?l39 ?c39 ?k39 ?a40 ?l40 ?c40 ?k40 ?a41 ?l41 ?c41 ?k41 ?a42 ?l42 ?c42 ?k42 ?a43 ?l43 ?c43 ?k43 ?a44 ?l44 ?c44 ?k44 ?a45 ?l45 ?c45 ?k45 ?a46 ?l46 ?c46 ?k46 ?a47 ?l47 ?c47 ?k47 ?a48 ?l48 ?c48 ?k48 ?a49 ?l49 ?c49 ?k49 ?a50 ?l50 ?c50 ?k50 ?a51 ?l51 ?c51 ?k51 ?a52 ?l52 ?c52 ?k52 ?a53 ?l53 ?c53 ?k53 ?a54 ?l54 ?c54 ?k54 ?a55 ?l55 ?c55 ?k55 ?a1000 ?l1000 ?c1000 ?k1000 ?t1000 ?ocl_AlphabetsDiffer ?obm_AlphabetsDiffer ?osa_AlphabetsDiffer ?oex_AlphabetsDiffer ?oty_AlphabetsDiffer ?okc_AlphabetsDiffer ?on_AlphabetsDiffer_one ?on_AlphabetsDiffer_two ?z_ValueError ?z_all ?z_any ?z_bool ?z_enumerate ?z_int ?z_isinstance ?z_len ?z_list ?z_range ?z_reversed ?z_sorted ?z_str ?z_tuple ?z_zip ?gc_LETTERS ?gc_MOST_LETTERS
    (case A_TextSet => k_is)
    (case Cpg_TextSet => k_is)
    (case Chd_TextSet => k_is)
    (case Cpo_TextSet => k_is)
    (case Csa_TextSet => k_is)
    (case n_TextSet_alphabet => k_is)
    (case n_TextSet_form => k_is)
    (case Ca_TextSet => k_is)
    (case Cn_TextSet => k_is)
    (case Ct_TextSet => k_is)
    (case Cm_TextSet => k_is)
    (case sf_TextSet => k_is)
    (case A_AlphabetsDiffer => k_is)
    (case A_BadAlphabet => k_is)
    (case A_BadForm => k_is)
    (case A_CopyError => k_is)
    (case xga_AlphabetsDiffer => k_is)
    (case xgg_AlphabetsDiffer => k_is)
    (case xsb_AlphabetsDiffer => k_is)
    (case xhd_AlphabetsDiffer => k_is)
    (case xa_AlphabetsDiffer => k_is)
    (case xn_AlphabetsDiffer => k_is)
    (case xt_AlphabetsDiffer => k_is)
    (case xo_AlphabetsDiffer => k_is)
    (case yh_BadAlphabet => k_is)
    (case yt_BadAlphabet => k_is)
    (case ys_BadAlphabet => k_is)
    (case yb_BadAlphabet => k_is)
    (case yx_AlphabetsDiffer_BadAlphabet => k_is)
    (case yh_BadForm => k_is)
    (case yt_BadForm => k_is)
    (case ys_BadForm => k_is)
    (case yb_BadForm => k_is)
    (case yx_AlphabetsDiffer_BadForm => k_is)
    (case yh_CopyError => k_is)
    (case yt_CopyError => k_is)
    (case ys_CopyError => k_is)
    (case yb_CopyError => k_is)
    (case yx_AlphabetsDiffer_CopyError => k_is)
    (case yx_AlphabetsDiffer_ValueError => k_is)
    (case n_AlphabetsDiffer_one => k_is)
    (case n_AlphabetsDiffer_two => k_is)
    (case yh_AlphabetsDiffer => k_is)
    (case yt_AlphabetsDiffer => k_is)
    (case ys_AlphabetsDiffer => k_is)
    (case yb_AlphabetsDiffer => k_is)
    (case yx_AlphabetsDiffer_AlphabetsDiffer => k_is)
    (case a0 => k_is)
    (case l0 => k_is)
    (case c0 => k_is)
    (case k0 => k_is)
    (case a1 => k_is)
    (case l1 => k_is)
    (case c1 => k_is)
    (case k1 => k_is)
    (case a2 => k_is)
    (case l2 => k_is)
    (case c2 => k_is)
    (case k2 => k_is)
    (case a3 => k_is)
    (case l3 => k_is)
    (case c3 => k_is)
    (case k3 => k_is)
    (case a4 => k_is)
    (case l4 => k_is)
    (case c4 => k_is)
    (case k4 => k_is)
    (case a5 => k_is)
    (case l5 => k_is)
    (case c5 => k_is)
    (case k5 => k_is)
    (case a6 => k_is)
    (case l6 => k_is)
    (case c6 => k_is)
    (case k6 => k_is)
    (case a7 => k_is)
    (case l7 => k_is)
    (case c7 => k_is)
    (case k7 => k_is)
    (case a8 => k_is)
    (case l8 => k_is)
    (case c8 => k_is)
    (case k8 => k_is)
    (case a9 => k_is)
    (case l9 => k_is)
    (case c9 => k_is)
    (case k9 => k_is)
    (case a10 => k_is)
    (case l10 => k_is)
    (case c10 => k_is)
    (case k10 => k_is)
    (case a11 => k_is)
    (case l11 => k_is)
    (case c11 => k_is)
    (case k11 => k_is)
    (case a12 => k_is)
    (case l12 => k_is)
    (case c12 => k_is)
    (case k12 => k_is)
    (case a13 => k_is)
    (case l13 => k_is)
    (case c13 => k_is)
    (case k13 => k_is)
    (case a14 => k_is)
    (case l14 => k_is)
    (case c14 => k_is)
    (case k14 => k_is)
    (case a15 => k_is)
    (case l15 => k_is)
    (case c15 => k_is)
    (case k15 => k_is)
    (case a16 => k_is)
    (case l16 => k_is)
    (case c16 => k_is)
    (case k16 => k_is)
    (case a17 => k_is)
    (case l17 => k_is)
    (case c17 => k_is)
    (case k17 => k_is)
    (case a18 => k_is)
    (case i18 => k_is)
    (case mk18 => k_is)
    (case kc18 => k_is)
    (case l18 => k_is)
    (case c18 => k_is)
    (case k18 => k_is)
    (case a19 => k_is)
    (case i19 => k_is)
    (case l19 => k_is)
    (case c19 => k_is)
    (case k19 => k_is)
    (case a20 => k_is)
    (case i20 => k_is)
    (case l20 => k_is)
    (case c20 => k_is)
    (case k20 => k_is)
    (case a21 => k_is)
    (case i21 => k_is)
    (case l21 => k_is)
    (case c21 => k_is)
    (case k21 => k_is)
    (case a22 => k_is)
    (case i22 => k_is)
    (case l22 => k_is)
    (case c22 => k_is)
    (case k22 => k_is)
    (case a23 => k_is)
    (case i23 => k_is)
    (case l23 => k_is)
    (case c23 => k_is)
    (case k23 => k_is)
    (case a24 => k_is)
    (case i24 => k_is)
    (case l24 => k_is)
    (case c24 => k_is)
    (case k24 => k_is)
    (case a25 => k_is)
    (case i25 => k_is)
    (case l25 => k_is)
    (case c25 => k_is)
    (case k25 => k_is)
    (case a26 => k_is)
    (case i26 => k_is)
    (case l26 => k_is)
    (case c26 => k_is)
    (case k26 => k_is)
    (case a27 => k_is)
    (case i27 => k_is)
    (case l27 => k_is)
    (case c27 => k_is)
    (case k27 => k_is)
    (case a28 => k_is)
    (case r28 => k_is)
    (case g28 => k_is)
    (case t28 => k_is)
    (case l28 => k_is)
    (case c28 => k_is)
    (case k28 => k_is)
    (case a29 => k_is)
    (case i29 => k_is)
    (case l29 => k_is)
    (case c29 => k_is)
    (case k29 => k_is)
    (case a30 => k_is)
    (case l30 => k_is)
    (case c30 => k_is)
    (case k30 => k_is)
    (case a31 => k_is)
    (case l31 => k_is)
    (case c31 => k_is)
    (case k31 => k_is)
    (case a32 => k_is)
    (case l32 => k_is)
    (case c32 => k_is)
    (case k32 => k_is)
    (case a33 => k_is)
    (case l33 => k_is)
    (case c33 => k_is)
    (case k33 => k_is)
    (case a34 => k_is)
    (case l34 => k_is)
    (case c34 => k_is)
    (case k34 => k_is)
    (case a35 => k_is)
    (case l35 => k_is)
    (case c35 => k_is)
    (case k35 => k_is)
    (case a36 => k_is)
    (case l36 => k_is)
    (case c36 => k_is)
    (case k36 => k_is)
    (case a37 => k_is)
    (case l37 => k_is)
    (case c37 => k_is)
    (case k37 => k_is)
    (case a38 => k_is)
    (case l38 => k_is)
    (case c38 => k_is)
    (case k38 => k_is)
    (case a39 => k_is)
    (case l39 => k_is)
    (case c39 => k_is)
    (case k39 => k_is)
    (case a40 => k_is)
    (case l40 => k_is)
    (case c40 => k_is)
    (case k40 => k_is)
    (case a41 => k_is)
    (case l41 => k_is)
    (case c41 => k_is)
    (case k41 => k_is)
    (case a42 => k_is)
    (case l42 => k_is)
    (case c42 => k_is)
    (case k42 => k_is)
    (case a43 => k_is)
    (case l43 => k_is)
    (case c43 => k_is)
    (case k43 => k_is)
    (case a44 => k_is)
    (case l44 => k_is)
    (case c44 => k_is)
    (case k44 => k_is)
    (case a45 => k_is)
    (case l45 => k_is)
    (case c45 => k_is)
    (case k45 => k_is)
    (case a46 => k_is)
    (case l46 => k_is)
    (case c46 => k_is)
    (case k46 => k_is)
    (case a47 => k_is)
    (case l47 => k_is)
    (case c47 => k_is)
    (case k47 => k_is)
    (case a48 => k_is)
    (case l48 => k_is)
    (case c48 => k_is)
    (case k48 => k_is)
    (case a49 => k_is)
    (case l49 => k_is)
    (case c49 => k_is)
    (case k49 => k_is)
    (case a50 => k_is)
    (case l50 => k_is)
    (case c50 => k_is)
    (case k50 => k_is)
    (case a51 => k_is)
    (case l51 => k_is)
    (case c51 => k_is)
    (case k51 => k_is)
    (case a52 => k_is)
    (case l52 => k_is)
    (case c52 => k_is)
    (case k52 => k_is)
    (case a53 => k_is)
    (case l53 => k_is)
    (case c53 => k_is)
    (case k53 => k_is)
    (case a54 => k_is)
    (case l54 => k_is)
    (case c54 => k_is)
    (case k54 => k_is)
    (case a55 => k_is)
    (case l55 => k_is)
    (case c55 => k_is)
    (case k55 => k_is)
    (case a1000 => k_is)
    (case l1000 => k_is)
    (case c1000 => k_is)
    (case k1000 => k_is)
    (case t1000 => k_is)
    (case ocl_AlphabetsDiffer => k_is)
    (case obm_AlphabetsDiffer => decide +kernel)
    (case osa_AlphabetsDiffer => k_is)
    (case oex_AlphabetsDiffer => k_is)
    (case oty_AlphabetsDiffer => k_is)
    (case okc_AlphabetsDiffer => k_is)
    (case on_AlphabetsDiffer_one => k_is)
    (case on_AlphabetsDiffer_two => k_is)
    (case z_ValueError => k_is)
    (case z_all => k_is)
    (case z_any => k_is)
    (case z_bool => k_is)
    (case z_enumerate => k_is)
    (case z_int => k_is)
    (case z_isinstance => k_is)
    (case z_len => k_is)
    (case z_list => k_is)
    (case z_range => k_is)
    (case z_reversed => k_is)
    (case z_sorted => k_is)
    (case z_str => k_is)
    (case z_tuple => k_is)
    (case z_zip => k_is)
    (case gc_LETTERS => k_is)
    (case gc_MOST_LETTERS => k_is)
