import PyProof.Rows.All
import Wide.All
import OpenK.AllK
import Wide.FinOn
import HandS.ForMost
import HandS.Wide
import HandS.IsInst
import HandS.SortInts
import HandS.Zip
import HandS.TupAny
import KE.KDictKeyed
import HandS.More
import HandS.SetFor
import HandS.Style
import HandS.Rev
import HandS.Text
import HandS.HeadHook3
import PySem.Challenge.RW_tanglehouse_k24_whole_polynomials_as_tex
set_option Elab.async false
set_option linter.all false
set_option maxRecDepth 100000
namespace Th
open PySem PySem.Spec PyProof.Rows L2

/-- whatever the heap that stays tells of a value -/
structure Gn where
  R : PySem.W.Frag → Hp → V → Prop
  mono : ∀ {K : PySem.W.Frag} {H H' : Hp} {x : V}, (∀ b o, H b = some o → H' b = some o) → R K H x → R K H' x
/-- an own object of any kind, what it leads to being in the heap that stays -/
structure Go where
  R : PySem.W.Frag → Hp → Addr → HO → Prop
  mono : ∀ {K : PySem.W.Frag} {H H' : Hp} {p : Addr} {o : HO}, (∀ b o, H b = some o → H' b = some o) → R K H p o → R K H' p o
  mu : ∀ {K : PySem.W.Frag} {H : Hp} {p : Addr} {o : HO}, R K H p o → Mut (some o)
/-- a new thing of any make, told by the heap in which it wasn't there, what stays, and the heap -/
structure Nw where
  R : PySem.W.Frag → Hp → Hp → Hp → V → Prop
  fresh : ∀ {K : PySem.W.Frag} {H H1 HF' H' : Hp} {x : V}, (∀ p, H1 p = none → H p = none) → R K H1 HF' H' x → R K H HF' H' x
  later : ∀ {K : PySem.W.Frag} {H HF1 H1 HF2 H2 : Hp} {x : V}, (∀ b o, HF1 b = some o → HF2 b = some o) → (∀ b o, H1 b = some o → H b = none → H2 b = some o ∧ (HF1 b = none → HF2 b = none)) → R K H HF1 H1 x → R K H HF2 H2 x
/-! ### what a slot holds: data that stays, or an object of one's own -/
inductive A where
  | d (v : PyData)
  | ml (xs : List PyData)
  | mk (kvs : List (Key × PyData))
  | mt (kvs : List (NestedKey × PyData))
  | fk (kvs : List (Key × PyData))
  | ft (kvs : List (NestedKey × PyData))
  | tw (l : List (List PyData ⊕ PyData))
  | dl (m : List (Int × List PyData))
  | rk (kvs : List (Key × PyData))
  | pin (x : V)
  | gn (g : Gn)
  | go (g : Go)
  | nw (g : Nw)
  | any
def A.own : A → Bool
  | .ml _ => true
  | .mk _ => true
  | .mt _ => true
  | .go _ => true
  | _ => false
abbrev Rho := List A

theorem same_upd {H : Hp} {p : Addr} {o : HO} (h : H p = none) : Same H (upd H p o) := fun b x e => by
  rw [upd_ne (ne_of_none e h)]
  exact e
theorem same_rd {H H' : Hp} {a : Addr} {o : HO} (s : Same H H') (h : Rd H a o) : Rd H' a o := h.elim (fun h => .inl (s _ _ h)) (fun ⟨u, h⟩ => .inr ⟨u, s _ _ h⟩)
theorem same_l {K : PySem.W.Frag} {H H' : Hp} {a : Addr} {xs : List V} (s : Same H H') (h : SqL K H a xs) : SqL K H' a xs := h.elim (fun h => .inl (same_rd s h)) .inr
theorem same_t {K : PySem.W.Frag} {H H' : Hp} {a : Addr} {xs : List V} (s : Same H H') (h : SqT K H a xs) : SqT K H' a xs := h.elim (fun h => .inl (same_rd s h)) .inr
section
variable {K : PySem.W.Frag} {H H' : Hp}
mutual
theorem dp_mono (s : Same H H') : ∀ {v : V} {d : PyData}, Dp K H v d → Dp K H' v d
  | _, _, .non => .non
  | _, _, .bl b => .bl b
  | _, _, .int i => .int i
  | _, _, .str x => .str x
  | _, _, .lst h a => .lst (same_l s h) (dpa_mono s a)
  | _, _, .tup h a => .tup (same_t s h) (dpa_mono s a)
theorem dpa_mono (s : Same H H') : ∀ {vs : List V} {ds : List PyData}, DpAll K H vs ds → DpAll K H' vs ds
  | _, _, .nil => .nil
  | _, _, .cons h t => .cons (dp_mono s h) (dpa_mono s t)
end
theorem dpa_len : ∀ {vs : List V} {ds : List PyData}, DpAll K H vs ds → vs.length = ds.length
  | _, _, .nil => rfl
  | _, _, .cons _ t => congrArg (· + 1) (dpa_len t)
theorem dpa_get : ∀ {vs : List V} {ds : List PyData} {i : Nat} {d : PyData}, DpAll K H vs ds → ds[i]? = some d → ∃ v, vs[i]? = some v ∧ Dp K H v d
  | _, _, _, _, .nil, e => by simp at e
  | _, _, 0, _, .cons h _, e => by simp at e; subst e; exact ⟨_, rfl, h⟩
  | _, _, i + 1, d, .cons _ t, e => by
    obtain ⟨v, a, b⟩ := dpa_get (i := i) (d := d) t (by simpa using e)
    exact ⟨v, by simpa using a, b⟩
theorem dpa_get' : ∀ {vs : List V} {ds : List PyData} {i : Nat} {v : V}, DpAll K H vs ds → vs[i]? = some v → ∃ d, ds[i]? = some d ∧ Dp K H v d
  | _, _, _, _, .nil, e => by simp at e
  | _, _, 0, _, .cons h _, e => by simp at e; subst e; exact ⟨_, rfl, h⟩
  | _, _, i + 1, d, .cons _ t, e => by
    obtain ⟨v, a, b⟩ := dpa_get' (i := i) (v := d) t (by simpa using e)
    exact ⟨v, by simpa using a, b⟩
theorem dpa_app : ∀ {vs ws : List V} {ds es : List PyData}, DpAll K H vs ds → DpAll K H ws es → DpAll K H (vs ++ ws) (ds ++ es)
  | _, _, _, _, .nil, h => h
  | _, _, _, _, .cons a t, h => .cons a (dpa_app t h)
theorem dpa_set : ∀ {vs : List V} {ds : List PyData} {i : Nat} {v : V} {d : PyData}, DpAll K H vs ds → Dp K H v d → DpAll K H (vs.set i v) (ds.set i d)
  | _, _, _, _, _, .nil, _ => .nil
  | _, _, 0, _, _, .cons _ t, h => .cons h t
  | _, _, i + 1, _, _, .cons a t, h => .cons a (dpa_set t h)
theorem dpa_take : ∀ {vs : List V} {ds : List PyData} (n : Nat), DpAll K H vs ds → DpAll K H (vs.take n) (ds.take n)
  | _, _, 0, _ => .nil
  | _, _, _ + 1, .nil => .nil
  | _, _, n + 1, .cons a t => .cons a (dpa_take n t)
theorem dpa_drop : ∀ {vs : List V} {ds : List PyData} (n : Nat), DpAll K H vs ds → DpAll K H (vs.drop n) (ds.drop n)
  | _, _, 0, h => h
  | _, _, _ + 1, .nil => .nil
  | _, _, n + 1, .cons _ t => dpa_drop n t
theorem dpa_rev : ∀ {vs : List V} {ds : List PyData}, DpAll K H vs ds → DpAll K H vs.reverse ds.reverse
  | _, _, .nil => .nil
  | _, _, .cons a t => by
    rw [List.reverse_cons, List.reverse_cons]
    exact dpa_app (dpa_rev t) (.cons a .nil)
end

def DpKV {κ : Type} (K : PySem.W.Frag) (HF : Hp) : List (κ × V) → List (κ × PyData) → Prop := Paired fun p q => p.1 = q.1 ∧ Dp K HF p.2 q.2
theorem dpkv_mono {κ : Type} {K : PySem.W.Frag} {H H' : Hp} (s : Same H H') {l : List (κ × V)} {m : List (κ × PyData)} (h : DpKV K H l m) : DpKV K H' l m := Paired.mapP h fun _ _ q => ⟨q.1, dp_mono s q.2⟩

/-! dicts whose keys are tuples, nested or not, without texts: known by the object itself -/
mutual
def noTx : NestedKey → Bool
  | .text _ => false
  | .tup ks => noTxs ks
  | .none => true
  | .num _ => true
def noTxs : List NestedKey → Bool
  | [] => true
  | k :: ks => noTx k && noTxs ks
end
mutual
theorem hash_noTx (w w' : World) : ∀ k : NestedKey, noTx k = true → k.hash w = k.hash w'
  | .none, _ => by simp only [NestedKey.hash]
  | .num _, _ => by simp only [NestedKey.hash]
  | .text _, h => by simp [noTx] at h
  | .tup ks, h => by
    simp only [NestedKey.hash]
    rw [hashes_noTx w w' ks (by simpa [noTx] using h)]
theorem hashes_noTx (w w' : World) : ∀ ks : List NestedKey, noTxs ks = true → NestedKey.hashes w ks = NestedKey.hashes w' ks
  | [], _ => by simp only [NestedKey.hashes]
  | k :: ks, h => by
    simp only [noTxs, Bool.and_eq_true] at h
    simp only [NestedKey.hashes]
    rw [hash_noTx w w' k h.1, hashes_noTx w w' ks h.2]
end
def AtO (p : Addr) (o : Obj) : HO := .ext fun h => h.get? p = some o
structure TabOf (o : Obj) (xs : List (NestedKey × Addr × Value)) : Prop where
  ex : o.ExactDict
  nt : ∀ x ∈ xs, noTx x.1 = true
  nd : (xs.map (·.1)).Nodup
  es : ∃ (w : World) (es : Array DictEntry) (ep : Nat), o.data = .dict es ep ∧ es.toList = xs.map fun x => ⟨x.1.hash w, .ref x.2.1, x.2.2⟩
def TKV (K : PySem.W.Frag) (HF : Hp) : List (NestedKey × Addr × Value) → List (NestedKey × PyData) → Prop := Paired fun x kv => x.1 = kv.1 ∧ kv.1.depth ≤ 8 ∧ Dp K HF (.ref x.2.1) kv.1.data ∧ ∃ v, RelV v x.2.2 ∧ Dp K HF v kv.2
theorem tkv_mono {K : PySem.W.Frag} {H H' : Hp} (s : Same H H') {xs : List (NestedKey × Addr × Value)} {kvs : List (NestedKey × PyData)} (h : TKV K H xs kvs) : TKV K H' xs kvs := Paired.mapP h fun _ _ q => by
  obtain ⟨a, b, c, v, d, e⟩ := q
  exact ⟨a, b, dp_mono s c, v, d, dp_mono s e⟩
def TRel (K : PySem.W.Frag) (HF : Hp) (p : Addr) (u : HO) (kvs : List (NestedKey × PyData)) : Prop := ∃ o xs, u = AtO p o ∧ (p == sysModules) = false ∧ TabOf o xs ∧ TKV K HF xs kvs
theorem trel_mono {K : PySem.W.Frag} {H H' : Hp} (s : Same H H') {p : Addr} {u : HO} {kvs : List (NestedKey × PyData)} (h : TRel K H p u kvs) : TRel K H' p u kvs := by
  obtain ⟨o, xs, a, b, c, d⟩ := h
  exact ⟨o, xs, a, b, c, tkv_mono s d⟩

/-- an own object's content -/
def HRel (K : PySem.W.Frag) (HF : Hp) (p : Addr) : HO → A → Prop
  | .lst ys, .ml xs => DpAll K HF ys xs
  | .dK kws, .mk kvs => DpKV K HF kws kvs
  | .ext φ, .mt kvs => TRel K HF p (.ext φ) kvs
  | o, .go g => g.R K HF p o
  | _, _ => False
theorem hrel_mono {K : PySem.W.Frag} {HF HF' : Hp} (s : Same HF HF') {p : Addr} {o : HO} {a : A} (h : HRel K HF p o a) : HRel K HF' p o a := by
  cases o <;> cases a <;> first | exact h.elim | exact dpa_mono s h | exact dpkv_mono s h | exact trel_mono s h | exact Go.mono _ s h
theorem hrel_own {K : PySem.W.Frag} {HF : Hp} {p : Addr} {o : HO} {a : A} (h : HRel K HF p o a) : a.own = true := by
  cases o <;> cases a <;> first | exact h.elim | rfl
theorem hrel_mut {K : PySem.W.Frag} {HF : Hp} {p : Addr} {o : HO} {a : A} (h : HRel K HF p o a) : Mut (some o) := by
  cases o <;> cases a <;> first | exact h.elim | exact Go.mu _ h | trivial

def Owns (K : PySem.W.Frag) (HF H : Hp) (x : V) (a : A) : Prop := ∃ p o, x = .ref p ∧ HF p = none ∧ H p = some o ∧ HRel K HF p o a
/-- a dict that nobody changes -/
def FkRel (K : PySem.W.Frag) (HF : Hp) (x : V) (kvs : List (Key × PyData)) : Prop := ∃ p kws od, x = .ref p ∧ HF p = some (.frz od (.dK kws)) ∧ DpKV K HF kws kvs
def FtRel (K : PySem.W.Frag) (HF : Hp) (x : V) (kvs : List (NestedKey × PyData)) : Prop := ∃ p u, x = .ref p ∧ HF p = some u ∧ TRel K HF p u kvs
theorem fk_mono {K : PySem.W.Frag} {HF HF' : Hp} (s : Same HF HF') {x : V} {kvs : List (Key × PyData)} (h : FkRel K HF x kvs) : FkRel K HF' x kvs := by
  obtain ⟨p, kws, od, e, h1, h2⟩ := h
  exact ⟨p, kws, od, e, s _ _ h1, dpkv_mono s h2⟩
theorem ft_mono {K : PySem.W.Frag} {HF HF' : Hp} (s : Same HF HF') {x : V} {kvs : List (NestedKey × PyData)} (h : FtRel K HF x kvs) : FtRel K HF' x kvs := by
  obtain ⟨p, u, e, h1, h2⟩ := h
  exact ⟨p, u, e, s _ _ h1, trel_mono s h2⟩
/-- a dict that is read for a while -/
def RkRel (K : PySem.W.Frag) (HF : Hp) (x : V) (kvs : List (Key × PyData)) : Prop := ∃ p kws, x = .ref p ∧ HF p = some (.dK kws) ∧ DpKV K HF kws kvs
theorem rk_mono {K : PySem.W.Frag} {HF HF' : Hp} (s : Same HF HF') {x : V} {kvs : List (Key × PyData)} (h : RkRel K HF x kvs) : RkRel K HF' x kvs := by
  obtain ⟨p, kws, e, h1, h2⟩ := h
  exact ⟨p, kws, e, s _ _ h1, dpkv_mono s h2⟩
def ARel (K : PySem.W.Frag) (HF H : Hp) (s : Option V) : A → Prop
  | .d v => ∃ x, s = some x ∧ Dp K HF x v
  | .any => True
  | .tw _ => True
  | .dl _ => True
  | .nw _ => True
  | .rk kvs => ∃ x, s = some x ∧ RkRel K HF x kvs
  | .pin y => s = some y
  | .fk kvs => ∃ x, s = some x ∧ FkRel K HF x kvs
  | .ft kvs => ∃ x, s = some x ∧ FtRel K HF x kvs
  | .gn g => ∃ x, s = some x ∧ g.R K HF x
  | a => ∃ x, s = some x ∧ Owns K HF H x a
theorem arel_own {K : PySem.W.Frag} {HF H : Hp} {s : Option V} {a : A} (ho : a.own = true) : ARel K HF H s a ↔ ∃ x, s = some x ∧ Owns K HF H x a := by
  cases a <;> first | exact Iff.rfl | cases ho

def OwnAt (ρ : Rho) (σ : L2.St) (p : Addr) : Prop := ∃ (i : Nat) (a : A), ρ[i]? = some a ∧ a.own = true ∧ σ[i]? = some (some (V.ref p))
structure Sl (K : PySem.W.Frag) (ρ : Rho) (σ : L2.St) (HF H : Hp) : Prop where
  len : σ.length = ρ.length
  sub : Same HF H
  slot : ∀ (i : Nat) (a : A), ρ[i]? = some a → ∃ s, σ[i]? = some s ∧ ARel K HF H s a
  apart : ∀ (i j : Nat) (a b : A) (p : Addr), ρ[i]? = some a → ρ[j]? = some b → a.own = true → b.own = true → σ[i]? = some (some (V.ref p)) → σ[j]? = some (some (V.ref p)) → i = j
theorem Sl.at {K : PySem.W.Frag} {ρ : Rho} {σ : L2.St} {HF H : Hp} (S : Sl K ρ σ HF H) {i : Nat} {v : PyData} (h : ρ[i]? = some (.d v)) : ∃ x, σ[i]? = some (some x) ∧ Dp K HF x v := by
  obtain ⟨s, e, x, rfl, q⟩ := S.slot i _ h
  exact ⟨x, e, q⟩
theorem Sl.ownAt {K : PySem.W.Frag} {ρ : Rho} {σ : L2.St} {HF H : Hp} (S : Sl K ρ σ HF H) {i : Nat} {a : A} (h : ρ[i]? = some a) (ho : a.own = true) : ∃ p o, σ[i]? = some (some (V.ref p)) ∧ HF p = none ∧ H p = some o ∧ HRel K HF p o a := by
  obtain ⟨s, e, q⟩ := S.slot i _ h
  obtain ⟨x, rfl, p, o, rfl, q1, q2, q3⟩ := (arel_own ho).mp q
  exact ⟨p, o, e, q1, q2, q3⟩
theorem Sl.ownAt' {K : PySem.W.Frag} {ρ : Rho} {σ : L2.St} {HF H : Hp} (S : Sl K ρ σ HF H) {p : Addr} (h : OwnAt ρ σ p) : HF p = none ∧ ∃ o, H p = some o := by
  obtain ⟨i, a, e1, ho, e2⟩ := h
  obtain ⟨q, o, e3, h1, h2, _⟩ := S.ownAt e1 ho
  rw [e2] at e3
  cases e3
  exact ⟨h1, o, h2⟩

/-- the shape stays -/
def Shape (ρ ρ' : Rho) : Prop := ρ'.length = ρ.length ∧ ∀ (i : Nat) (a : A), ρ[i]? = some a → ∃ a' : A, ρ'[i]? = some a' ∧ a'.own = a.own ∧ (a.own = false → a' = a)
theorem Shape.refl (ρ : Rho) : Shape ρ ρ := ⟨rfl, fun i a h => ⟨a, h, rfl, fun _ => rfl⟩⟩
theorem Shape.trans {ρ ρ1 ρ2 : Rho} (a : Shape ρ ρ1) (b : Shape ρ1 ρ2) : Shape ρ ρ2 := ⟨b.1.trans a.1, fun i x h => by
  obtain ⟨y, h1, h2, h3⟩ := a.2 i x h
  obtain ⟨z, g1, g2, g3⟩ := b.2 i y h1
  exact ⟨z, g1, g2.trans h2, fun e => (g3 (h2.trans e)).trans (h3 e)⟩⟩
theorem Shape.back {ρ ρ' : Rho} (s : Shape ρ ρ') {i : Nat} {a' : A} (h : ρ'[i]? = some a') : ∃ a, ρ[i]? = some a ∧ a'.own = a.own ∧ (a.own = false → a' = a) := by
  have hi : i < ρ.length := by
    have := (List.getElem?_eq_some_iff.mp h).1
    rw [s.1] at this
    exact this
  obtain ⟨a2, h1, h2, h3⟩ := s.2 i ρ[i] (List.getElem?_eq_getElem hi)
  rw [h] at h1
  cases h1
  exact ⟨_, List.getElem?_eq_getElem hi, h2, h3⟩
theorem Shape.own {ρ ρ' : Rho} (s : Shape ρ ρ') {σ : L2.St} {p : Addr} : OwnAt ρ' σ p ↔ OwnAt ρ σ p := by
  constructor
  · rintro ⟨i, a, h1, h2, h3⟩
    obtain ⟨b, g1, g2, _⟩ := s.back h1
    exact ⟨i, b, g1, by rw [← g2]; exact h2, h3⟩
  · rintro ⟨i, a, h1, h2, h3⟩
    obtain ⟨b, g1, g2, _⟩ := s.2 i a h1
    exact ⟨i, b, g1, by rw [g2]; exact h2, h3⟩

structure Fw (ρ ρ' : Rho) (σ : L2.St) (HF H HF' H' : Hp) : Prop where
  sh : Shape ρ ρ'
  hf : Same HF HF'
  keep : ∀ b o, H b = some o → ¬ OwnAt ρ σ b → H' b = some o
  new : ∀ b o, HF' b = some o → HF b = some o ∨ H b = none
  pres : ∀ b o, H b = some o → ∃ o', H' b = some o'
theorem Fw.refl (ρ : Rho) (σ : L2.St) (HF H : Hp) : Fw ρ ρ σ HF H HF H := ⟨.refl ρ, .refl _, fun _ _ h _ => h, fun _ _ h => .inl h, fun _ o h => ⟨o, h⟩⟩
theorem Fw.trans {ρ ρ1 ρ2 : Rho} {σ : L2.St} {HF H HF1 H1 HF2 H2 : Hp} (a : Fw ρ ρ1 σ HF H HF1 H1) (b : Fw ρ1 ρ2 σ HF1 H1 HF2 H2) : Fw ρ ρ2 σ HF H HF2 H2 where
  sh := a.sh.trans b.sh
  hf := a.hf.trans b.hf
  keep := fun p o h n => b.keep p o (a.keep p o h n) fun z => n (a.sh.own.mp z)
  new := fun p o h => by
    rcases b.new p o h with h | h
    · exact a.new p o h
    · cases q : H p with
      | none => exact .inr rfl
      | some u =>
        obtain ⟨o', e⟩ := a.pres p u q
        rw [h] at e
        cases e
  pres := fun p o h => by
    obtain ⟨o', e⟩ := a.pres p o h
    exact b.pres p o' e
/-- what is new stays so -/
theorem Fw.fresh {ρ ρ' : Rho} {σ : L2.St} {HF H HF' H' : Hp} (f : Fw ρ ρ' σ HF H HF' H') {p : Addr} (h : H' p = none) : H p = none := by
  cases q : H p with
  | none => rfl
  | some u =>
    obtain ⟨o', e⟩ := f.pres p u q
    rw [h] at e
    cases e
theorem Fw.hfn {ρ ρ' : Rho} {σ : L2.St} {HF H HF' H' : Hp} (f : Fw ρ ρ' σ HF H HF' H') {p : Addr} {o : HO} (h : HF p = none) (h2 : H p = some o) : HF' p = none := by
  cases q : HF' p with
  | none => rfl
  | some u =>
    rcases f.new p u q with e | e
    · rw [h] at e; cases e
    · rw [h2] at e; cases e

/-! ### a new object -/
section
variable {K : PySem.W.Frag} {ρ : Rho} {σ : L2.St} {HF H : Hp} {p : Addr}
theorem Sl.notOwn (S : Sl K ρ σ HF H) (hp : H p = none) : ¬ OwnAt ρ σ p := fun z => by
  obtain ⟨_, o, e⟩ := S.ownAt' z
  rw [hp] at e
  cases e
theorem Sl.hfNone (S : Sl K ρ σ HF H) (hp : H p = none) : HF p = none := by
  cases q : HF p with
  | none => rfl
  | some u =>
    have := S.sub p u q
    rw [hp] at this
    cases this
theorem arel_mono {HF' H' : Hp} {s : Option V} {a : A} (h : ARel K HF H s a) (hf : Same HF HF') (ho : ∀ p o, s = some (.ref p) → HF p = none → H p = some o → a.own = true → HF' p = none ∧ H' p = some o) : ARel K HF' H' s a := by
  cases hc : a.own with
  | true =>
    obtain ⟨x, rfl, p, o, rfl, h1, h2, h3⟩ := (arel_own hc).mp h
    obtain ⟨g1, g2⟩ := ho p o rfl h1 h2 hc
    exact (arel_own hc).mpr ⟨_, rfl, p, o, rfl, g1, g2, hrel_mono hf h3⟩
  | false =>
    cases a with
    | d v => obtain ⟨x, e, q⟩ := h; exact ⟨x, e, dp_mono hf q⟩
    | any => trivial
    | tw _ => trivial
    | dl _ => trivial
    | nw _ => trivial
    | rk v => obtain ⟨x, e, q⟩ := h; exact ⟨x, e, rk_mono hf q⟩
    | pin y => exact h
    | fk v => obtain ⟨x, e, q⟩ := h; exact ⟨x, e, fk_mono hf q⟩
    | ft v => obtain ⟨x, e, q⟩ := h; exact ⟨x, e, ft_mono hf q⟩
    | gn g => obtain ⟨x, e, q⟩ := h; exact ⟨x, e, g.mono hf q⟩
    | go _ => cases hc
    | ml _ => cases hc
    | mk _ => cases hc
    | mt _ => cases hc
/-- an own object that stands nowhere -/
theorem Sl.allocO (S : Sl K ρ σ HF H) (hp : H p = none) (o : HO) : Sl K ρ σ HF (upd H p o) ∧ Fw ρ ρ σ HF H HF (upd H p o) := by
  refine ⟨⟨S.len, fun b u e => ?_, fun i a h => ?_, S.apart⟩, ⟨.refl ρ, .refl _, fun b u e _ => ?_, fun _ _ h => .inl h, fun b u e => ?_⟩⟩
  · rw [upd_ne (ne_of_none (S.sub b u e) hp)]
    exact S.sub b u e
  · obtain ⟨s, e, q⟩ := S.slot i a h
    refine ⟨s, e, arel_mono q (.refl _) fun b u e1 h1 h2 _ => ⟨h1, ?_⟩⟩
    rw [upd_ne (ne_of_none h2 hp)]
    exact h2
  · rw [upd_ne (ne_of_none e hp)]
    exact e
  · exact ⟨u, by rw [upd_ne (ne_of_none e hp)]; exact e⟩
/-- data -/
theorem Sl.allocD (S : Sl K ρ σ HF H) (hp : H p = none) (o : HO) : Sl K ρ σ (upd HF p o) (upd H p o) ∧ Fw ρ ρ σ HF H (upd HF p o) (upd H p o) := by
  have hfp := S.hfNone hp
  refine ⟨⟨S.len, fun b u e => ?_, fun i a h => ?_, S.apart⟩, ⟨.refl ρ, same_upd hfp, fun b u e _ => ?_, fun b u e => ?_, fun b u e => ?_⟩⟩
  · by_cases hb : b = p
    · subst hb
      rw [upd_same] at e ⊢
      exact e
    · rw [upd_ne hb] at e ⊢
      exact S.sub b u e
  · obtain ⟨s, e, q⟩ := S.slot i a h
    refine ⟨s, e, arel_mono q (same_upd hfp) fun b u e1 h1 h2 _ => ?_⟩
    have hb := ne_of_none h2 hp
    rw [upd_ne hb, upd_ne hb]
    exact ⟨h1, h2⟩
  · rw [upd_ne (ne_of_none e hp)]
    exact e
  · by_cases hb : b = p
    · subst hb
      exact .inr hp
    · rw [upd_ne hb] at e
      exact .inl e
  · exact ⟨u, by rw [upd_ne (ne_of_none e hp)]; exact e⟩
/-- an own object in no slot becomes data -/
theorem Sl.frz (S : Sl K ρ σ HF H) {o : HO} (hp : H p = some o) (hn : HF p = none) (hw : ¬ OwnAt ρ σ p) : Sl K ρ σ (upd HF p o) H := by
  refine ⟨S.len, fun b u e => ?_, fun i a h => ?_, S.apart⟩
  · by_cases hb : b = p
    · subst hb
      rw [upd_same] at e
      exact hp.trans e
    · rw [upd_ne hb] at e
      exact S.sub b u e
  · obtain ⟨s, e, q⟩ := S.slot i a h
    refine ⟨s, e, arel_mono q (same_upd hn) fun b u e1 h1 h2 ho => ⟨?_, h2⟩⟩
    rw [upd_ne fun z => hw ⟨i, a, h, ho, by rw [← z, e, e1]⟩]
    exact h1
end

/-! ### results -/
/-- an item of a new tuple: a new list, or data -/
def TwR (K : PySem.W.Frag) (H HF' H' : Hp) (x : V) : List PyData ⊕ PyData → Prop
  | .inl zs => ∃ q us, x = .ref q ∧ H q = none ∧ HF' q = none ∧ H' q = some (.lst us) ∧ DpAll K HF' us zs
  | .inr v => Dp K HF' x v
def TwRel (K : PySem.W.Frag) (H HF' H' : Hp) (x : V) (l : List (List PyData ⊕ PyData)) : Prop := ∃ t ys, x = .ref t ∧ H t = none ∧ HF' t = none ∧ H' t = some (.tup ys) ∧ Paired (TwR K H HF' H') ys l
/-- a new dict of new lists -/
def DlI (K : PySem.W.Frag) (H0 HF H : Hp) (w : Key × V) (kv : Int × List PyData) : Prop := w.1 = Sum.inl kv.1 ∧ ∃ q us, w.2 = .ref q ∧ H0 q = none ∧ HF q = none ∧ H q = some (.lst us) ∧ DpAll K HF us kv.2
structure DlK (K : PySem.W.Frag) (H0 : Hp) (p : Addr) (kws : List (Key × V)) (m : List (Int × List PyData)) (HF H : Hp) : Prop where
  at_ : H p = some (.dK kws)
  base : H0 p = none
  fr : HF p = none
  its : Paired (DlI K H0 HF H) kws m
  nk : (m.map (·.1)).Nodup
  na : (kws.map (·.2)).Nodup
def RRel (K : PySem.W.Frag) (H HF' H' : Hp) (x : V) : A → Prop
  | .d v => Dp K HF' x v
  | .any => True
  | .tw l => TwRel K H HF' H' x l
  | .dl m => ∃ p kws, x = .ref p ∧ DlK K H p kws m HF' H'
  | .rk kvs => RkRel K HF' x kvs
  | .pin y => x = y
  | .fk kvs => FkRel K HF' x kvs
  | .ft kvs => FtRel K HF' x kvs
  | .gn g => g.R K HF' x
  | .nw g => g.R K H HF' H' x
  | a => ∃ p o, x = .ref p ∧ H p = none ∧ HF' p = none ∧ H' p = some o ∧ HRel K HF' p o a
theorem rrel_own {K : PySem.W.Frag} {H HF' H' : Hp} {x : V} {a : A} (ho : a.own = true) : RRel K H HF' H' x a ↔ ∃ p o, x = .ref p ∧ H p = none ∧ HF' p = none ∧ H' p = some o ∧ HRel K HF' p o a := by
  cases a <;> first | exact Iff.rfl | cases ho
theorem dl_fresh {K : PySem.W.Frag} {H H1 HF' H' : Hp} {x : V} {m : List (Int × List PyData)} (h : ∀ p, H1 p = none → H p = none) (r : RRel K H1 HF' H' x (.dl m)) : RRel K H HF' H' x (.dl m) := by
  obtain ⟨p, kws, e, g⟩ := r
  exact ⟨p, kws, e, g.at_, h _ g.base, g.fr, Paired.mapP g.its fun w kv z => by
    obtain ⟨z1, q, us, z2, z3, z4, z5, z6⟩ := z
    exact ⟨z1, q, us, z2, h _ z3, z4, z5, z6⟩, g.nk, g.na⟩
theorem tw_fresh {K : PySem.W.Frag} {H H1 HF' H' : Hp} {x : V} {l : List (List PyData ⊕ PyData)} (h : ∀ p, H1 p = none → H p = none) (r : TwRel K H1 HF' H' x l) : TwRel K H HF' H' x l := by
  obtain ⟨t, ys, e, h1, h2, h3, h4⟩ := r
  refine ⟨t, ys, e, h _ h1, h2, h3, Paired.mapP h4 fun y a z => ?_⟩
  cases a with
  | inl zs => obtain ⟨q, us, g1, g2, g3⟩ := z; exact ⟨q, us, g1, h _ g2, g3⟩
  | inr v => exact z
def Ev (K : PySem.W.Frag) (te : TE) (ρ : Rho) (a : A) (ρ' : Rho) : Prop := ∀ σ HF H, Sl K ρ σ HF H → ∀ Q : VK,
  (∀ x HF' H', Sl K ρ' σ HF' H' → Fw ρ ρ' σ HF H HF' H' → RRel K H HF' H' x a → Q x H') → te σ H Q
/-- an operand: readable as v, now and behind what leaves the slots as they are -/
def ORel (K : PySem.W.Frag) (HF H : Hp) (x : V) : PyData → Prop
  | .list xs => ∃ p ys, x = .ref p ∧ SqL K H p ys ∧ DpAll K HF ys xs
  | v => Dp K HF x v
theorem ORel.of {K : PySem.W.Frag} {HF H : Hp} {x : V} {v : PyData} (s : Same HF H) (h : Dp K HF x v) : ORel K HF H x v := by
  cases h with
  | lst a b => exact ⟨_, _, rfl, same_l s a, b⟩
  | non => exact .non
  | bl b => exact .bl b
  | int b => exact .int b
  | str b => exact .str b
  | tup a b => exact .tup a b
theorem ORel.dp {K : PySem.W.Frag} {HF H : Hp} {x : V} {v : PyData} (s : Same HF H) (h : ORel K HF H x v) : Dp K H x v := by
  cases v with
  | list xs => obtain ⟨p, ys, rfl, a, b⟩ := h; exact .lst a (dpa_mono s b)
  | none => exact dp_mono s h
  | bool b => exact dp_mono s h
  | int b => exact dp_mono s h
  | str b => exact dp_mono s h
  | tuple b => exact dp_mono s h
  | dict b => exact dp_mono s h
def Kp (k : Option Nat) (ρ ρ2 : Rho) : Prop := match k with
  | none => True
  | some i => ρ2[i]? = ρ[i]?
theorem Kp.refl {k : Option Nat} {ρ : Rho} : Kp k ρ ρ := by
  cases k with
  | none => trivial
  | some i => rfl
def Op (K : PySem.W.Frag) (te : TE) (ρ : Rho) (v : PyData) (ρ' : Rho) (k : Option Nat) : Prop := ∀ σ HF H, Sl K ρ σ HF H → ∀ Q : VK,
  (∀ x HF' H', Sl K ρ' σ HF' H' → Fw ρ ρ' σ HF H HF' H' → (∀ ρ2 HF2 H2, Kp k ρ' ρ2 → Sl K ρ2 σ HF2 H2 → Fw ρ' ρ2 σ HF' H' HF2 H2 → ORel K HF2 H2 x v) → Q x H') → te σ H Q
def EvT (K : PySem.W.Frag) (t : TT) (ρ : Rho) (b : Bool) (ρ' : Rho) : Prop := ∀ σ HF H, Sl K ρ σ HF H → ∀ Q : Bool → Hp → Prop,
  (∀ HF' H', Sl K ρ' σ HF' H' → Fw ρ ρ' σ HF H HF' H' → Q b H') → t σ H Q

section
variable {K : PySem.W.Frag} {ρ ρ1 ρ2 : Rho} {te ta tb : TE} {u v w z : PyData}
theorem Ev.op (h : Ev K te ρ (.d v) ρ1) : Op K te ρ v ρ1 none := fun σ HF H S Q q => h σ HF H S Q fun x HF' H' S' f r =>
  q x HF' H' S' f fun ρ2 HF2 H2 _ S2 f2 => .of S2.sub (dp_mono f2.hf r)
theorem Ev.opL {xs : List PyData} (h : Ev K te ρ (.ml xs) ρ1) : Op K te ρ (.list xs) ρ1 none := fun σ HF H S Q q => h σ HF H S Q fun x HF' H' S' f r => by
  obtain ⟨p, o, rfl, h0, h1, h2, h3⟩ := r
  refine q _ HF' H' S' f fun ρ2 HF2 H2 _ S2 f2 => ?_
  cases o <;> first | exact h3.elim | skip
  refine ⟨p, _, rfl, .inl (.inl (f2.keep p _ h2 fun z => S.notOwn h0 (f.sh.own.mp z))), dpa_mono f2.hf h3⟩
theorem op_slot {i : Nat} {xs : List PyData} (h : ρ[i]? = some (.ml xs)) : Op K (tVar i) ρ (.list xs) ρ (some i) := fun σ HF H S Q q => by
  obtain ⟨p, o, e, _⟩ := S.ownAt h rfl
  refine ⟨.ref p, e, q _ HF H S (.refl ..) fun ρ2 HF2 H2 hk S2 f2 => ?_⟩
  obtain ⟨p2, o2, e2, h1, h2, h3⟩ := S2.ownAt ((show ρ2[i]? = ρ[i]? from hk).trans h) rfl
  rw [e] at e2
  cases e2
  cases o2 <;> first | exact h3.elim | skip
  exact ⟨p, _, rfl, .inl (.inl h2), h3⟩
theorem Ev.freeze {xs : List PyData} (h : Ev K te ρ (.ml xs) ρ1) : Ev K te ρ (.d (.list xs)) ρ1 := fun σ HF H S Q q => h σ HF H S Q fun x HF' H' S' f r => by
  obtain ⟨p, o, rfl, h0, h1, h2, h3⟩ := r
  have nw : ¬ OwnAt ρ1 σ p := fun z => S.notOwn h0 (f.sh.own.mp z)
  cases o <;> first | exact h3.elim | skip
  rename_i ys
  refine q _ (upd HF' p (.lst ys)) H' (S'.frz h2 h1 nw) ⟨f.sh, f.hf.trans (same_upd h1), f.keep, fun b u e => ?_, f.pres⟩ (.lst (.inl (.inl upd_same)) (dpa_mono (same_upd h1) h3))
  by_cases hb : b = p
  · subst hb
    exact .inr h0
  · rw [upd_ne hb] at e
    exact f.new b u e
theorem ev_var {i : Nat} (h : ρ[i]? = some (.d v)) : Ev K (tVar i) ρ (.d v) ρ := fun σ HF H S Q q => by
  obtain ⟨x, e, r⟩ := S.at h
  exact ⟨x, e, q x HF H S (.refl ..) r⟩
theorem ev_c {x : V} (h : ∀ HF, Dp K HF x v) : Ev K (tC x) ρ (.d v) ρ := fun σ HF H S Q q => q x HF H S (.refl ..) (h HF)

/-- two values to one, nothing made -/
def RV (K : PySem.W.Frag) (r : R2) (u w z : PyData) : Prop := ∀ (HF H : Hp) (x y : V) (Q : VK), Dp K HF x u → Dp K HF y w → Same HF H → (∀ v, Dp K HF v z → Q v H) → r x y H Q
theorem ev_op {r : R2} (ha : Ev K ta ρ (.d u) ρ1) (hb : Ev K tb ρ1 (.d w) ρ2) (hr : RV K r u w z) : Ev K (tOp r ta tb) ρ (.d z) ρ2 := fun σ HF H S Q q =>
  ha σ HF H S _ fun x HF1 H1 S1 f1 r1 => hb σ HF1 H1 S1 _ fun y HF2 H2 S2 f2 r2 => hr HF2 H2 x y Q (dp_mono f2.hf r1) r2 S2.sub fun v hv => q v HF2 H2 S2 (f1.trans f2) hv
def RO (K : PySem.W.Frag) (r : R2) (u w z : PyData) : Prop := ∀ (HF H : Hp) (x y : V) (Q : VK), ORel K HF H x u → ORel K HF H y w → Same HF H → (∀ v, Dp K HF v z → Q v H) → r x y H Q
theorem ev_op2 {r : R2} {k k2 : Option Nat} (ha : Op K ta ρ u ρ1 k) (hb : Op K tb ρ1 w ρ2 k2) (hk : Kp k ρ1 ρ2) (hr : RO K r u w z) : Ev K (tOp r ta tb) ρ (.d z) ρ2 := fun σ HF H S Q q =>
  ha σ HF H S _ fun x HF1 H1 S1 f1 r1 => hb σ HF1 H1 S1 _ fun y HF2 H2 S2 f2 r2 => hr HF2 H2 x y Q (r1 ρ2 HF2 H2 hk S2 f2) (r2 ρ2 HF2 H2 .refl S2 (.refl ..)) S2.sub fun v hv => q v HF2 H2 S2 (f1.trans f2) hv
/-- .. a new own object -/
def RNo (K : PySem.W.Frag) (r : R2) (u w : PyData) (a : A) : Prop := ∀ (HF H : Hp) (x y : V) (Q : VK), ORel K HF H x u → ORel K HF H y w → Same HF H → (∀ p o, H p = none → HRel K HF p o a → Q (.ref p) (upd H p o)) → r x y H Q
theorem ev_opN {r : R2} {a : A} {k k2 : Option Nat} (ha : Op K ta ρ u ρ1 k) (hb : Op K tb ρ1 w ρ2 k2) (hk : Kp k ρ1 ρ2) (hr : RNo K r u w a) : Ev K (tOp r ta tb) ρ a ρ2 := fun σ HF H S Q q =>
  ha σ HF H S _ fun x HF1 H1 S1 f1 r1 => hb σ HF1 H1 S1 _ fun y HF2 H2 S2 f2 r2 => hr HF2 H2 x y Q (r1 ρ2 HF2 H2 hk S2 f2) (r2 ρ2 HF2 H2 .refl S2 (.refl ..)) S2.sub fun p o hp ho => by
    obtain ⟨S3, f3⟩ := S2.allocO hp o
    have f12 := f1.trans f2
    exact q _ HF2 _ S3 (f12.trans f3) ((rrel_own (hrel_own ho)).mpr ⟨p, o, rfl, f12.fresh hp, S2.hfNone hp, upd_same, ho⟩)

/-! ### argument lists -/
inductive Arg where
  | dat (v : PyData)
  | lent (i : Nat)
def ArgR (K : PySem.W.Frag) (ρ : Rho) (σ : L2.St) (HF : Hp) (x : V) : Arg → Prop
  | .dat v => Dp K HF x v
  | .lent i => σ[i]? = some (some x) ∧ ∃ a, ρ[i]? = some a ∧ a.own = true
def EvA (K : PySem.W.Frag) (ta : TA) (ρ : Rho) (l : List Arg) (ρ' : Rho) : Prop := ∀ σ HF H, Sl K ρ σ HF H → ∀ Q : List V → Hp → Prop,
  (∀ xs HF' H', Sl K ρ' σ HF' H' → Fw ρ ρ' σ HF H HF' H' → Paired (ArgR K ρ' σ HF') xs l → Q xs H') → ta σ H Q
theorem argR_mono {σ : L2.St} {HF HF' H H' : Hp} {x : V} {a : Arg} (f : Fw ρ ρ1 σ HF H HF' H') (h : ArgR K ρ σ HF x a) : ArgR K ρ1 σ HF' x a := by
  cases a with
  | dat v => exact dp_mono f.hf h
  | lent i =>
    obtain ⟨e, a, e2, ho⟩ := h
    obtain ⟨a', g1, g2, _⟩ := f.sh.2 i a e2
    exact ⟨e, a', g1, by rw [g2]; exact ho⟩
theorem ea_nil : EvA K tNil ρ [] ρ := fun σ HF H S Q q => q [] HF H S (.refl ..) .nil
theorem ea_cons {tr : TA} {l : List Arg} (ha : Ev K ta ρ (.d v) ρ1) (hr : EvA K tr ρ1 l ρ2) : EvA K (tCons ta tr) ρ (.dat v :: l) ρ2 := fun σ HF H S Q q =>
  ha σ HF H S _ fun x HF1 H1 S1 f1 r1 => hr σ HF1 H1 S1 _ fun xs HF2 H2 S2 f2 r2 => q _ HF2 H2 S2 (f1.trans f2) (.cons (dp_mono f2.hf r1) r2)
theorem ea_lent {tr : TA} {l : List Arg} {i : Nat} {a : A} (h : ρ[i]? = some a) (ho : a.own = true) (hr : EvA K tr ρ l ρ2) : EvA K (tCons (tVar i) tr) ρ (.lent i :: l) ρ2 := fun σ HF H S Q q => by
  obtain ⟨p, o, e, _⟩ := S.ownAt h ho
  exact ⟨.ref p, e, hr σ HF H S _ fun xs HF2 H2 S2 f2 r2 => q _ HF2 H2 S2 f2 (.cons (argR_mono f2 (a := .lent i) ⟨e, a, h, ho⟩) r2)⟩
end
end Th

set_option Elab.async false
set_option linter.all false
set_option maxRecDepth 100000
namespace Th
open PySem PySem.Spec PyProof.Rows L2

/-! ### the judgements on the text -/
section
variable (X : Cx)
def wE (e : Expr) : TE := fun σ H Q => ∃ te, PE X e te ∧ te σ H Q
def wT (e : Expr) : TT := fun σ H Q => ∃ te, PT X e te ∧ te σ H Q
def wW (e : Expr) : TT := fun σ H Q => ∃ te, PW X e te ∧ te σ H Q
def wA (es : List Expr) : TA := fun σ H Q => ∃ te, PA X es te ∧ te σ H Q
def wS (st : Stmt) : TS := fun D σ H => ∃ t, PS X st t ∧ t D σ H
def wSs (st : List Stmt) : TS := fun D σ H => ∃ t, PSs X st t ∧ t D σ H
abbrev E (e : Expr) (ρ : Rho) (a : A) (ρ' : Rho) : Prop := Ev X.K (wE X e) ρ a ρ'
abbrev EO (e : Expr) (ρ : Rho) (v : PyData) (ρ' : Rho) (k : Option Nat) : Prop := Op X.K (wE X e) ρ v ρ' k
abbrev ET (e : Expr) (ρ : Rho) (b : Bool) (ρ' : Rho) : Prop := EvT X.K (wT X e) ρ b ρ'
abbrev EW (e : Expr) (ρ : Rho) (b : Bool) (ρ' : Rho) : Prop := EvT X.K (wW X e) ρ b ρ'
end
section
variable {X : Cx}
theorem pe_w {e : Expr} : PE X e (wE X e) := ⟨fun pins s σ H Q I ⟨_, h, q⟩ => h.run pins s σ H Q I q⟩
theorem pt_w {e : Expr} : PT X e (wT X e) := ⟨fun pins s σ H Q I ⟨_, h, q⟩ => h.run pins s σ H Q I q⟩
theorem pw_w {e : Expr} : PW X e (wW X e) := ⟨fun wh pins s σ H Q I ⟨_, h, q⟩ => h.run wh pins s σ H Q I q⟩
theorem pa_w {es : List Expr} : PA X es (wA X es) := ⟨fun pos pins s σ H Q I ⟨_, h, q⟩ => h.run pos pins s σ H Q I q⟩
theorem ps_w {st : Stmt} : PS X st (wS X st) := ⟨fun pins s σ H Q I ⟨_, h, q⟩ => h.run pins s σ H Q I q⟩
theorem pss_w {st : List Stmt} : PSs X st (wSs X st) := ⟨fun pins s σ H Q I ⟨_, h, q⟩ => h.run pins s σ H Q I q⟩
variable {e e1 e2 : Expr} {te : TE} {ρ ρ1 ρ2 : Rho} {a : A} {u v w z : PyData} {k k1 k2 : Option Nat} {b : Bool} {pos : Pos}
theorem E.of (h : PE X e te) (h2 : Ev X.K te ρ a ρ1) : E X e ρ a ρ1 := fun σ HF H S Q q => ⟨te, h, h2 σ HF H S Q q⟩
theorem EO.of (h : PE X e te) (h2 : Op X.K te ρ v ρ1 k) : EO X e ρ v ρ1 k := fun σ HF H S Q q => ⟨te, h, h2 σ HF H S Q q⟩
theorem ET.of {t : TT} (h : PT X e t) (h2 : EvT X.K t ρ b ρ1) : ET X e ρ b ρ1 := fun σ HF H S Q q => ⟨t, h, h2 σ HF H S Q q⟩

/-! ### names, constants -/
theorem e_var (i : Nat) {x : Str} (h : ρ[i]? = some (.d v)) (hN : X.N[i]? = some x := by rfl) (hv : Vis X.env.scope x := by first | exact Or.inl rfl | exact Or.inr (Or.inl rfl) | exact Or.inr (Or.inr rfl))
    (hd : (x == ("__debug__" : Str)) = false := by decide) (hcd : (x == ("__classdict__" : Str)) = false := by decide) : E X (.Name x pos) ρ (.d v) ρ := .of (pe_var hN hv hd hcd) (ev_var h)
theorem o_slot (i : Nat) {x : Str} {xs : List PyData} (h : ρ[i]? = some (.ml xs)) (hN : X.N[i]? = some x := by rfl) (hv : Vis X.env.scope x := by first | exact Or.inl rfl | exact Or.inr (Or.inl rfl) | exact Or.inr (Or.inr rfl))
    (hd : (x == ("__debug__" : Str)) = false := by decide) (hcd : (x == ("__classdict__" : Str)) = false := by decide) : EO X (.Name x pos) ρ (.list xs) ρ (some i) := .of (pe_var hN hv hd hcd) (op_slot h)
theorem e_int {i : Int} {j : Nat} : E X (.Constant (.int i) j pos) ρ (.d (.int i)) ρ := .of pe_int (ev_c fun _ => .int i)
theorem e_bl {i : Bool} {j : Nat} : E X (.Constant (.bool i) j pos) ρ (.d (.bool i)) ρ := .of pe_bl (ev_c fun _ => .bl i)
theorem e_non {j : Nat} : E X (.Constant .none j pos) ρ (.d .none) ρ := .of pe_non (ev_c fun _ => .non)
theorem e_str {x : Str} {j : Nat} : E X (.Constant (.str x) j pos) ρ (.d (.str x)) ρ := .of pe_str (ev_c fun _ => .str x)
theorem E.o (h : E X e ρ (.d v) ρ1) : EO X e ρ v ρ1 none := Ev.op h
theorem E.ol {xs : List PyData} (h : E X e ρ (.ml xs) ρ1) : EO X e ρ (.list xs) ρ1 none := Ev.opL h
theorem E.fz {xs : List PyData} (h : E X e ρ (.ml xs) ρ1) : E X e ρ (.d (.list xs)) ρ1 := Ev.freeze h
theorem E.to (h : E X e ρ (.d v) ρ1) (q : v = w) : E X e ρ (.d w) ρ1 := q ▸ h
theorem ET.to {c : Bool} (h : ET X e ρ b ρ1) (q : b = c) : ET X e ρ c ρ1 := q ▸ h

/-! ### whole numbers -/
theorem rv_I0 {K : PySem.W.Frag} {g : Int → Int → V} {i j : Int} (h : ∀ HF, Dp K HF (g i j) z) : RV K (rI0 g) (.int i) (.int j) z := fun HF H x y Q hx hy _ q => by
  cases hx; cases hy
  exact ⟨i, j, rfl, rfl, q _ (h HF)⟩
theorem rv_I {K : PySem.W.Frag} {C : Int → Int → Prop} {g : Int → Int → V} {i j : Int} (hc : C i j) (h : ∀ HF, Dp K HF (g i j) z) : RV K (rI C g) (.int i) (.int j) z := fun HF H x y Q hx hy _ q => by
  cases hx; cases hy
  exact ⟨i, j, rfl, rfl, hc, q _ (h HF)⟩
variable {i j : Int}
theorem e_add (ha : E X e1 ρ (.d (.int i)) ρ1) (hb : E X e2 ρ1 (.d (.int j)) ρ2) : E X (.BinOp e1 .Add e2 pos) ρ (.d (.int (i + j))) ρ2 := .of (pe_op op_add pe_w pe_w) (ev_op ha hb (rv_I0 fun _ => .int _))
theorem e_sub (ha : E X e1 ρ (.d (.int i)) ρ1) (hb : E X e2 ρ1 (.d (.int j)) ρ2) : E X (.BinOp e1 .Sub e2 pos) ρ (.d (.int (i - j))) ρ2 := .of (pe_op op_sub pe_w pe_w) (ev_op ha hb (rv_I0 fun _ => .int _))
theorem e_mul (ha : E X e1 ρ (.d (.int i)) ρ1) (hb : E X e2 ρ1 (.d (.int j)) ρ2) (hc : CMulW i j) : E X (.BinOp e1 .Mult e2 pos) ρ (.d (.int (i * j))) ρ2 := .of (pe_op op_mulW pe_w pe_w) (ev_op ha hb (rv_I hc fun _ => .int _))
theorem e_div (ha : E X e1 ρ (.d (.int i)) ρ1) (hb : E X e2 ρ1 (.d (.int j)) ρ2) (hc : CDivW i j) : E X (.BinOp e1 .FloorDiv e2 pos) ρ (.d (.int (i / j))) ρ2 := .of (pe_op op_fdivW pe_w pe_w) (ev_op ha hb (rv_I hc fun _ => .int _))
theorem e_mod (ha : E X e1 ρ (.d (.int i)) ρ1) (hb : E X e2 ρ1 (.d (.int j)) ρ2) (hc : 0 < j) : E X (.BinOp e1 .Mod e2 pos) ρ (.d (.int (i % j))) ρ2 := .of (pe_op op_mod pe_w pe_w) (ev_op ha hb (rv_I (C := fun _ j => 0 < j) hc fun _ => .int _))
theorem e_pow (ha : E X e1 ρ (.d (.int i)) ρ1) (hb : E X e2 ρ1 (.d (.int j)) ρ2) (hc : CPow i j) : E X (.BinOp e1 .Pow e2 pos) ρ (.d (.int (i ^ j.toNat))) ρ2 := .of (pe_op op_pow pe_w pe_w) (ev_op ha hb (rv_I hc fun _ => .int _))
theorem e_neg (ha : E X e ρ (.d (.int i)) ρ1) : E X (.UnaryOp .USub e pos) ρ (.d (.int (-i))) ρ1 := .of (pe_un un_neg pe_w) fun σ HF H S Q q => ha σ HF H S _ fun x HF1 H1 S1 f1 r1 => by
  cases r1
  exact ⟨i, rfl, q _ HF1 H1 S1 f1 (.int _)⟩
theorem e_lt (ha : E X e1 ρ (.d (.int i)) ρ1) (hb : E X e2 ρ1 (.d (.int j)) ρ2) : E X (.Compare e1 [.Lt] [e2] pos) ρ (.d (.bool (decide (i < j)))) ρ2 := .of (pe_cmpR op_lt pe_w pe_w (nomark _)) (ev_op ha hb (rv_I0 fun _ => .bl _))
theorem e_le (ha : E X e1 ρ (.d (.int i)) ρ1) (hb : E X e2 ρ1 (.d (.int j)) ρ2) : E X (.Compare e1 [.LtE] [e2] pos) ρ (.d (.bool (decide (i ≤ j)))) ρ2 := .of (pe_cmpR op_le pe_w pe_w (nomark _)) (ev_op ha hb (rv_I0 fun _ => .bl _))
theorem e_gt (ha : E X e1 ρ (.d (.int i)) ρ1) (hb : E X e2 ρ1 (.d (.int j)) ρ2) : E X (.Compare e1 [.Gt] [e2] pos) ρ (.d (.bool (decide (j < i)))) ρ2 := .of (pe_cmpR op_gt pe_w pe_w (nomark _)) (ev_op ha hb (rv_I0 fun _ => .bl _))
theorem e_ge (ha : E X e1 ρ (.d (.int i)) ρ1) (hb : E X e2 ρ1 (.d (.int j)) ρ2) : E X (.Compare e1 [.GtE] [e2] pos) ρ (.d (.bool (decide (j ≤ i)))) ρ2 := .of (pe_cmpR op_ge pe_w pe_w (nomark _)) (ev_op ha hb (rv_I0 fun _ => .bl _))
theorem e_eqI (ha : E X e1 ρ (.d (.int i)) ρ1) (hb : E X e2 ρ1 (.d (.int j)) ρ2) : E X (.Compare e1 [.Eq] [e2] pos) ρ (.d (.bool (decide (i = j)))) ρ2 :=
  .of (pe_cmpR op_eq pe_w pe_w (nomark _)) (ev_op ha hb fun HF H x y Q hx hy _ q => by cases hx; cases hy; exact ⟨rfl, by rw [show decide (V.int i = V.int j) = decide (i = j) by simp]; exact q _ (.bl _)⟩)
theorem e_neI (ha : E X e1 ρ (.d (.int i)) ρ1) (hb : E X e2 ρ1 (.d (.int j)) ρ2) : E X (.Compare e1 [.NotEq] [e2] pos) ρ (.d (.bool (!decide (i = j)))) ρ2 :=
  .of (pe_cmpR op_ne pe_w pe_w (nomark _)) (ev_op ha hb fun HF H x y Q hx hy _ q => by cases hx; cases hy; exact ⟨rfl, by rw [show decide (V.int i = V.int j) = decide (i = j) by simp]; exact q _ (.bl _)⟩)
/-- data compared at any depth -/
theorem e_eqD {hr : X.A.units + 64 < cLine} (ha : EO X e1 ρ v ρ1 k1) (hb : EO X e2 ρ1 w ρ2 k2) (h1 : SeqAt.shaped v = true) (h2 : SeqAt.shaped w = true) (hk : Kp k1 ρ1 ρ2 := by first | exact trivial | exact rfl) : E X (.Compare e1 [.Eq] [e2] pos) ρ (.d (.bool (PyData.eqv v w))) ρ2 :=
  .of (pe_cmpR (op_eqD hr) pe_w pe_w (nomark _)) (ev_op2 ha hb hk fun HF H x y Q hx hy s q => ⟨v, w, hx.dp s, hy.dp s, h1, h2, q _ (.bl _)⟩)
theorem e_neD {hr : X.A.units + 64 < cLine} (ha : EO X e1 ρ v ρ1 k1) (hb : EO X e2 ρ1 w ρ2 k2) (h1 : SeqAt.shaped v = true) (h2 : SeqAt.shaped w = true) (hk : Kp k1 ρ1 ρ2 := by first | exact trivial | exact rfl) : E X (.Compare e1 [.NotEq] [e2] pos) ρ (.d (.bool (!PyData.eqv v w))) ρ2 :=
  .of (pe_cmpR (op_neD hr) pe_w pe_w (nomark _)) (ev_op2 ha hb hk fun HF H x y Q hx hy s q => ⟨v, w, hx.dp s, hy.dp s, h1, h2, q _ (.bl _)⟩)

/-! ### tests -/
theorem t_val (h : E X e ρ (.d (.bool b)) ρ1) (he : ∀ whole, isTrue e X.env whole = (do let v ← whole; standAt e.pos; holding [v] (truthy v)) := by intro _; rfl) : ET X e ρ b ρ1 :=
  .of (pt_val pe_w he) fun σ HF H S Q q => h σ HF H S _ fun x HF1 H1 S1 f1 r1 => by
    cases r1
    exact ⟨b, rfl, q HF1 H1 S1 f1⟩
theorem t_cmp {op : CmpOp} {r : R2} (ho : OpR X (compareOp op) r) (h : Ev X.K (tOp r (wE X e1) (wE X e2)) ρ (.d (.bool b)) ρ1) (hm : behindInMarks op e2 = false) : ET X (.Compare e1 [op] [e2] pos) ρ b ρ1 :=
  .of (pt_cmpR ho pe_w pe_w hm) fun σ HF H S Q q => h σ HF H S _ fun x HF1 H1 S1 f1 r1 => by
    cases r1
    exact ⟨b, rfl, q HF1 H1 S1 f1⟩
theorem t_lt (ha : E X e1 ρ (.d (.int i)) ρ1) (hb : E X e2 ρ1 (.d (.int j)) ρ2) : ET X (.Compare e1 [.Lt] [e2] pos) ρ (decide (i < j)) ρ2 := t_cmp op_lt (ev_op ha hb (rv_I0 fun _ => .bl _)) (nomark _)
theorem t_le (ha : E X e1 ρ (.d (.int i)) ρ1) (hb : E X e2 ρ1 (.d (.int j)) ρ2) : ET X (.Compare e1 [.LtE] [e2] pos) ρ (decide (i ≤ j)) ρ2 := t_cmp op_le (ev_op ha hb (rv_I0 fun _ => .bl _)) (nomark _)
theorem t_gt (ha : E X e1 ρ (.d (.int i)) ρ1) (hb : E X e2 ρ1 (.d (.int j)) ρ2) : ET X (.Compare e1 [.Gt] [e2] pos) ρ (decide (j < i)) ρ2 := t_cmp op_gt (ev_op ha hb (rv_I0 fun _ => .bl _)) (nomark _)
theorem t_ge (ha : E X e1 ρ (.d (.int i)) ρ1) (hb : E X e2 ρ1 (.d (.int j)) ρ2) : ET X (.Compare e1 [.GtE] [e2] pos) ρ (decide (j ≤ i)) ρ2 := t_cmp op_ge (ev_op ha hb (rv_I0 fun _ => .bl _)) (nomark _)
theorem t_eqI (ha : E X e1 ρ (.d (.int i)) ρ1) (hb : E X e2 ρ1 (.d (.int j)) ρ2) : ET X (.Compare e1 [.Eq] [e2] pos) ρ (decide (i = j)) ρ2 :=
  t_cmp op_eq (ev_op ha hb fun HF H x y Q hx hy _ q => by cases hx; cases hy; exact ⟨rfl, by rw [show decide (V.int i = V.int j) = decide (i = j) by simp]; exact q _ (.bl _)⟩) (nomark _)
theorem t_neI (ha : E X e1 ρ (.d (.int i)) ρ1) (hb : E X e2 ρ1 (.d (.int j)) ρ2) : ET X (.Compare e1 [.NotEq] [e2] pos) ρ (!decide (i = j)) ρ2 :=
  t_cmp op_ne (ev_op ha hb fun HF H x y Q hx hy _ q => by cases hx; cases hy; exact ⟨rfl, by rw [show decide (V.int i = V.int j) = decide (i = j) by simp]; exact q _ (.bl _)⟩) (nomark _)
theorem t_eqD {hr : X.A.units + 64 < cLine} (ha : EO X e1 ρ v ρ1 k1) (hb : EO X e2 ρ1 w ρ2 k2) (h1 : SeqAt.shaped v = true) (h2 : SeqAt.shaped w = true) (hk : Kp k1 ρ1 ρ2 := by first | exact trivial | exact rfl) : ET X (.Compare e1 [.Eq] [e2] pos) ρ (PyData.eqv v w) ρ2 :=
  t_cmp (op_eqD hr) (ev_op2 ha hb hk fun HF H x y Q hx hy s q => ⟨v, w, hx.dp s, hy.dp s, h1, h2, q _ (.bl _)⟩) (nomark _)
theorem t_neD {hr : X.A.units + 64 < cLine} (ha : EO X e1 ρ v ρ1 k1) (hb : EO X e2 ρ1 w ρ2 k2) (h1 : SeqAt.shaped v = true) (h2 : SeqAt.shaped w = true) (hk : Kp k1 ρ1 ρ2 := by first | exact trivial | exact rfl) : ET X (.Compare e1 [.NotEq] [e2] pos) ρ (!PyData.eqv v w) ρ2 :=
  t_cmp (op_neD hr) (ev_op2 ha hb hk fun HF H x y Q hx hy s q => ⟨v, w, hx.dp s, hy.dp s, h1, h2, q _ (.bl _)⟩) (nomark _)
theorem t_not (h : ET X e ρ b ρ1) : ET X (.UnaryOp .Not e pos) ρ (!b) ρ1 := .of (pt_not pt_w) fun σ HF H S Q q => h σ HF H S _ fun HF1 H1 S1 f1 => q HF1 H1 S1 f1
theorem t_w (h : EW X e ρ b ρ1) : ET X e ρ b ρ1 := .of (PW.pt pw_w) fun σ HF H S Q q => h σ HF H S Q q
/-- and, or: the later ones leave the slots as they are (or change them in the same way) -/
theorem w_and1 (h : ET X e ρ b ρ1) : EW X (.BoolOp .And [e] pos) ρ b ρ1 := fun σ HF H S Q q => ⟨_, pw_and1 pt_w, h σ HF H S Q q⟩
theorem w_or1 (h : ET X e ρ b ρ1) : EW X (.BoolOp .Or [e] pos) ρ b ρ1 := fun σ HF H S Q q => ⟨_, pw_or1 pt_w, h σ HF H S Q q⟩
variable {rest : List Expr} {c : Bool}
theorem w_and (h : ET X e ρ b ρ1) (h2 : b = true → EW X (.BoolOp .And (e1 :: rest) pos) ρ1 c ρ1) : EW X (.BoolOp .And (e :: e1 :: rest) pos) ρ (b && c) ρ1 := fun σ HF H S Q q => ⟨_, pw_and pt_w pw_w, h σ HF H S _ fun HF1 H1 S1 f1 => by
  cases b with
  | true => exact h2 rfl σ HF1 H1 S1 Q fun HF2 H2 S2 f2 => q HF2 H2 S2 (f1.trans f2)
  | false => exact q HF1 H1 S1 f1⟩
theorem w_or (h : ET X e ρ b ρ1) (h2 : b = false → EW X (.BoolOp .Or (e1 :: rest) pos) ρ1 c ρ1) : EW X (.BoolOp .Or (e :: e1 :: rest) pos) ρ (b || c) ρ1 := fun σ HF H S Q q => ⟨_, pw_or pt_w pw_w, h σ HF H S _ fun HF1 H1 S1 f1 => by
  cases b with
  | false => exact h2 rfl σ HF1 H1 S1 Q fun HF2 H2 S2 f2 => q HF2 H2 S2 (f1.trans f2)
  | true => exact q HF1 H1 S1 f1⟩
/-- .. as values -/
theorem e_one {op : BoolOp} (h : E X e ρ a ρ1) : E X (.BoolOp op [e] pos) ρ a ρ1 := .of (pe_one pe_w) h
theorem e_and (h : E X e ρ (.d (.bool b)) ρ1) (h2 : b = true → E X (.BoolOp .And (e1 :: rest) pos) ρ1 (.d (.bool c)) ρ1) : E X (.BoolOp .And (e :: e1 :: rest) pos) ρ (.d (.bool (b && c))) ρ1 := .of (pe_and pe_w pe_w) fun σ HF H S Q q => h σ HF H S _ fun x HF1 H1 S1 f1 r1 => by
  cases r1
  refine ⟨b, rfl, ?_⟩
  cases b with
  | true => exact h2 rfl σ HF1 H1 S1 Q fun y HF2 H2 S2 f2 r2 => q y HF2 H2 S2 (f1.trans f2) r2
  | false => exact q _ HF1 H1 S1 f1 (.bl false)
theorem e_or (h : E X e ρ (.d (.bool b)) ρ1) (h2 : b = false → E X (.BoolOp .Or (e1 :: rest) pos) ρ1 (.d (.bool c)) ρ1) : E X (.BoolOp .Or (e :: e1 :: rest) pos) ρ (.d (.bool (b || c))) ρ1 := .of (pe_or pe_w pe_w) fun σ HF H S Q q => h σ HF H S _ fun x HF1 H1 S1 f1 r1 => by
  cases r1
  refine ⟨b, rfl, ?_⟩
  cases b with
  | false => exact h2 rfl σ HF1 H1 S1 Q fun y HF2 H2 S2 f2 r2 => q y HF2 H2 S2 (f1.trans f2) r2
  | true => exact q _ HF1 H1 S1 f1 (.bl true)
theorem e_not (h : E X e ρ (.d (.bool b)) ρ1) : E X (.UnaryOp .Not e pos) ρ (.d (.bool (!b))) ρ1 := .of (pe_not pe_w) fun σ HF H S Q q => h σ HF H S _ fun x HF1 H1 S1 f1 r1 => by
  cases r1
  exact ⟨b, rfl, q _ HF1 H1 S1 f1 (.bl _)⟩
theorem e_if {t : Expr} (h : ET X t ρ b ρ1) (h1 : b = true → E X e1 ρ1 a ρ2) (h2 : b = false → E X e2 ρ1 a ρ2) : E X (.IfExp t e1 e2 pos) ρ a ρ2 := .of (pe_ifExp pt_w pe_w pe_w) fun σ HF H S Q q => h σ HF H S _ fun HF1 H1 S1 f1 => by
  have hfr : ∀ x HF2 H2, RRel X.K H1 HF2 H2 x a → RRel X.K H HF2 H2 x a := fun x HF2 H2 r => by
    cases ho : a.own with
    | true =>
      obtain ⟨p, o, q1, q2, q3⟩ := (rrel_own ho).mp r
      exact (rrel_own ho).mpr ⟨p, o, q1, f1.fresh q2, q3⟩
    | false => cases a <;> first | exact r | exact tw_fresh (fun p h => f1.fresh h) r | exact dl_fresh (fun p h => f1.fresh h) r | exact Nw.fresh _ (fun p h => f1.fresh h) r | cases ho
  cases b with
  | true => exact h1 rfl σ HF1 H1 S1 Q fun y HF2 H2 S2 f2 r2 => q y HF2 H2 S2 (f1.trans f2) (hfr _ _ _ r2)
  | false => exact h2 rfl σ HF1 H1 S1 Q fun y HF2 H2 S2 f2 r2 => q y HF2 H2 S2 (f1.trans f2) (hfr _ _ _ r2)

/-! ### displays -/
def EvD (K : PySem.W.Frag) (ta : TA) (ρ : Rho) (ds : List PyData) (ρ' : Rho) : Prop := ∀ σ HF H, Sl K ρ σ HF H → ∀ Q : List V → Hp → Prop,
  (∀ xs HF' H', Sl K ρ' σ HF' H' → Fw ρ ρ' σ HF H HF' H' → DpAll K HF' xs ds → Q xs H') → ta σ H Q
abbrev ED (X : Cx) (es : List Expr) (ρ : Rho) (ds : List PyData) (ρ' : Rho) : Prop := EvD X.K (wA X es) ρ ds ρ'
variable {es : List Expr} {ds : List PyData}
theorem d_nil : ED X [] ρ [] ρ := fun σ HF H S Q q => ⟨_, pa_nil, q [] HF H S (.refl ..) .nil⟩
theorem d_cons (h : E X e ρ (.d v) ρ1) (hr : ED X es ρ1 ds ρ2) (hs : starEach (e :: es) X.env = (false, eval e X.env) :: starEach es X.env := by rfl) : ED X (e :: es) ρ (v :: ds) ρ2 := fun σ HF H S Q q =>
  ⟨_, pa_cons pe_w pa_w hs, h σ HF H S _ fun x HF1 H1 S1 f1 r1 => hr σ HF1 H1 S1 _ fun xs HF2 H2 S2 f2 r2 => q _ HF2 H2 S2 (f1.trans f2) (.cons (dp_mono f2.hf r1) r2)⟩
theorem ed_len {K : PySem.W.Frag} {HF : Hp} {xs : List V} (h : DpAll K HF xs ds) (hz : ds.length ≤ 1000) : xs.length ≤ sizeLine := by
  rw [dpa_len h]
  exact Nat.le_of_lt (small1000 hz)
theorem e_tup {n : Nat} (h : ED X es ρ ds ρ1) (hz : ds.length ≤ 1000 := by exact Nat.le_of_ble_eq_true rfl) : E X (.Tuple es n pos) ρ (.d (.tuple ds)) ρ1 := .of (pe_tup pa_w) fun σ HF H S Q q => h σ HF H S _ fun xs HF1 H1 S1 f1 r1 => by
  refine ⟨ed_len r1 hz, fun p hp => ?_⟩
  obtain ⟨S2, f2⟩ := S1.allocD hp (.tup xs)
  exact q _ _ _ S2 (f1.trans f2) (.tup (.inl (.inl upd_same)) (dpa_mono f2.hf r1))
theorem e_lst (h : ED X es ρ ds ρ1) (hz : ds.length ≤ 1000 := by exact Nat.le_of_ble_eq_true rfl) : E X (.List es pos) ρ (.ml ds) ρ1 := .of (pe_lst pa_w) fun σ HF H S Q q => h σ HF H S _ fun xs HF1 H1 S1 f1 r1 => by
  refine ⟨ed_len r1 hz, fun p hp => ?_⟩
  obtain ⟨S2, f2⟩ := S1.allocO hp (.lst xs)
  exact q _ _ _ S2 (f1.trans f2) ⟨p, _, rfl, f1.fresh hp, S1.hfNone hp, upd_same, r1⟩
theorem e_dictK : E X (.Dict [] [] pos) ρ (.mk []) ρ := .of pe_dnewK fun σ HF H S Q q => fun p hp => by
  obtain ⟨S2, f2⟩ := S.allocO hp (.dK [])
  exact q _ _ _ S2 f2 ⟨p, _, rfl, hp, S.hfNone hp, upd_same, .nil⟩
theorem at_ok {P : Program} {w : World} {H : Hp} {h : Heap} {p : Addr} {o : Obj} (e : h.get? p = some o) : ObjOk P w H h p (AtO p o) := ⟨e, ⟨o, e⟩, fun _ _ e1 k => k _ e1⟩
theorem pe_dnewA : PE X (.Dict [] [] pos) (fun _ H Q => ∀ p o, H p = none → (p == sysModules) = false → TabOf o [] → Q (.ref p) (upd H p (AtO p o))) := ⟨fun pins s σ H Q I h =>
  wpAny_Dict_empty ⟨.ref s.heap.objs.size, _, I.laid (a := s.heap.objs.size) (o := AtO s.heap.objs.size { cls := .type "dict", data := .dict #[] }) (t' := s.toks) (fun _ _ q => Heap.get?_push_of_some _ q) (Nat.le_refl _) (at_ok (Heap.get?_push_size _ rfl)), rfl,
    h _ _ (I.hok.fresh (Nat.le_refl _)) (beq_eq_false_iff_ne.mpr (Ne.symm (Nat.ne_of_lt I.big))) ⟨⟨rfl, rfl, rfl⟩, fun _ z => (nomatch z), List.nodup_nil, X.w, #[], 0, rfl, rfl⟩⟩⟩
theorem e_dictT : E X (.Dict [] [] pos) ρ (.mt []) ρ := .of pe_dnewA fun σ HF H S Q q => fun p o hp hs ht => by
  obtain ⟨S2, f2⟩ := S.allocO hp (AtO p o)
  exact q _ _ _ S2 f2 ⟨p, _, rfl, hp, S.hfNone hp, upd_same, o, [], rfl, hs, ht, .nil⟩

/-! ### items -/
theorem dpa_atI {K : PySem.W.Frag} {HF : Hp} {ys : List V} {i : Int} {d : PyData} (h : DpAll K HF ys ds) (hi : atI ds i = some d) : ∃ y, atI ys i = some y ∧ Dp K HF y d := by
  unfold atI at hi ⊢
  rw [dpa_len h]
  cases hx : ixN ds.length i with
  | none => rw [hx] at hi; cases hi
  | some n =>
    rw [hx] at hi
    exact dpa_get h hi
theorem e_ixL (ha : EO X e1 ρ (.list ds) ρ1 k1) (hb : E X e2 ρ1 (.d (.int i)) ρ2) (hi : atI ds i = some v) (hp : PlainIx e2 := by exact fun _ _ => rfl) (hk : Kp k1 ρ1 ρ2 := by first | exact trivial | exact rfl) : E X (.Subscript e1 e2 pos) ρ (.d v) ρ2 :=
  .of (pe_ix ix_list pe_w pe_w hp) (ev_op2 ha hb.o hk fun HF H x y Q hx hy s q => by
    obtain ⟨p, ys, rfl, h1, h2⟩ := hx
    cases hy
    obtain ⟨y, g1, g2⟩ := dpa_atI h2 hi
    exact ⟨p, ys, i, y, rfl, rfl, h1, g1, q _ g2⟩)
theorem e_ixT (ha : E X e1 ρ (.d (.tuple ds)) ρ1) (hb : E X e2 ρ1 (.d (.int i)) ρ2) (hi : atI ds i = some v) (hp : PlainIx e2 := by exact fun _ _ => rfl) : E X (.Subscript e1 e2 pos) ρ (.d v) ρ2 :=
  .of (pe_ix ix_tup pe_w pe_w hp) (ev_op ha hb fun HF H x y Q hx hy s q => by
    cases hx with
    | tup h1 h2 =>
      cases hy
      obtain ⟨y, g1, g2⟩ := dpa_atI h2 hi
      exact ⟨_, _, i, y, rfl, rfl, same_t s h1, g1, q _ g2⟩)

/-! ### slices -/
def EvP (K : PySem.W.Frag) (t : TO) (ρ : Rho) (o : Option Int) (ρ' : Rho) : Prop := ∀ σ HF H, Sl K ρ σ HF H → ∀ Q : Option Int → Hp → Prop,
  (∀ HF' H', Sl K ρ' σ HF' H' → Fw ρ ρ' σ HF H HF' H' → Q o H') → t σ H Q
def wP (X : Cx) (e : Option Expr) : TO := fun σ H Q => ∃ t, PO X e t ∧ t σ H Q
theorem po_w {e : Option Expr} : PO X e (wP X e) := ⟨fun pins s σ H Q I ⟨_, h, q⟩ => h.run pins s σ H Q I q⟩
abbrev EP (X : Cx) (e : Option Expr) (ρ : Rho) (o : Option Int) (ρ' : Rho) : Prop := EvP X.K (wP X e) ρ o ρ'
theorem p_none : EP X none ρ none ρ := fun σ HF H S Q q => ⟨_, po_none, q HF H S (.refl ..)⟩
theorem p_some (h : E X e ρ (.d (.int i)) ρ1) : EP X (some e) ρ (some i) ρ1 := fun σ HF H S Q q => ⟨_, po_some pe_w, h σ HF H S _ fun x HF1 H1 S1 f1 r1 => by
  cases r1
  exact ⟨i, rfl, q HF1 H1 S1 f1⟩⟩
def cut {α : Type} (xs : List α) (lo hi : Option Int) : List α := (xs.drop (HT.sIx xs.length 0 lo)).take (HT.sIx xs.length xs.length hi - HT.sIx xs.length 0 lo)
theorem dpa_cut {K : PySem.W.Frag} {HF : Hp} {ys : List V} (h : DpAll K HF ys ds) (lo hi : Option Int) : DpAll K HF (cutV ys lo hi) (cut ds lo hi) := by
  unfold cutV cut
  rw [dpa_len h]
  exact dpa_take _ (dpa_drop _ h)
variable {lo hi : Option Expr} {l h : Option Int} {p2 : Pos} {ρ3 : Rho}
theorem e_slL (ha : EO X e ρ (.list ds) ρ1 k1) (hl : EP X lo ρ1 l ρ2) (hh : EP X hi ρ2 h ρ3) (hk : Kp k1 ρ1 ρ3 := by first | exact trivial | exact rfl) : E X (.Subscript e (.Slice lo hi none p2) pos) ρ (.ml (cut ds l h)) ρ3 :=
  .of (pe_slice sl_list pe_w po_w po_w) fun σ HF H S Q q => ha σ HF H S _ fun x HF1 H1 S1 f1 r1 => hl σ HF1 H1 S1 _ fun HF2 H2 S2 f2 => hh σ HF2 H2 S2 _ fun HF3 H3 S3 f3 => by
    obtain ⟨p, ys, rfl, h1, h2⟩ := r1 ρ3 HF3 H3 hk S3 (f2.trans f3)
    refine ⟨p, ys, rfl, h1, fun r hr => ?_⟩
    obtain ⟨S4, f4⟩ := S3.allocO hr (.lst (cutV ys l h))
    have f := (f1.trans (f2.trans f3))
    exact q _ _ _ S4 (f.trans f4) ⟨r, _, rfl, f.fresh hr, S3.hfNone hr, upd_same, dpa_cut h2 l h⟩
theorem cut_whole {α : Type} {xs : List α} {lo hi : Option Int} (h : HT.sIx xs.length 0 lo = 0 ∧ HT.sIx xs.length xs.length hi = xs.length) : cut xs lo hi = xs := by
  unfold cut
  rw [h.1, h.2]
  simp
theorem e_slT (ha : E X e ρ (.d (.tuple ds)) ρ1) (hl : EP X lo ρ1 l ρ2) (hh : EP X hi ρ2 h ρ3) : E X (.Subscript e (.Slice lo hi none p2) pos) ρ (.d (.tuple (cut ds l h))) ρ3 :=
  .of (pe_slice sl_tupA pe_w po_w po_w) fun σ HF H S Q q => ha σ HF H S _ fun x HF1 H1 S1 f1 r1 => hl σ HF1 H1 S1 _ fun HF2 H2 S2 f2 => hh σ HF2 H2 S2 _ fun HF3 H3 S3 f3 => by
    have r3 := dp_mono (f2.trans f3).hf r1
    have f := (f1.trans (f2.trans f3))
    cases r3 with
    | @tup a xs _ h1 h2 =>
      refine ⟨a, xs, rfl, same_t S3.sub h1, fun hw => ?_, fun hw r hr => ?_⟩
      · rw [dpa_len h2] at hw
        rw [cut_whole hw] at q
        exact q _ _ _ S3 f (.tup h1 h2)
      · obtain ⟨S4, f4⟩ := S3.allocD hr (.tup (cutV xs l h))
        exact q _ _ _ S4 (f.trans f4) (.tup (.inl (.inl upd_same)) (dpa_cut (dpa_mono f4.hf h2) l h))
end
end Th

set_option Elab.async false
set_option linter.all false
set_option maxRecDepth 100000
namespace Th
open PySem PySem.Spec PyProof.Rows L2

/-! ### statements: a base (the def's entry) and what is lent -/
structure Bs where
  HF0 : Hp
  H0 : Hp
  L : List (Nat × Addr)
structure Bn (B : Bs) (ρ : Rho) (σ : L2.St) (HF H : Hp) : Prop where
  hf : Same B.HF0 HF
  keep : ∀ b o, (∀ q ∈ B.L, q.2 ≠ b) → B.H0 b = some o → H b = some o
  new : ∀ b o, HF b = some o → B.HF0 b = some o ∨ B.H0 b = none
  pres : ∀ b o, B.H0 b = some o → ∃ o', H b = some o'
  mine : ∀ (i : Nat) (a : A) (p : Addr), ρ[i]? = some a → a.own = true → σ[i]? = some (some (V.ref p)) → (i, p) ∈ B.L ∨ B.H0 p = none
  lent : ∀ q ∈ B.L, σ[q.1]? = some (some (V.ref q.2))
section
variable {B : Bs} {ρ ρ' : Rho} {σ : L2.St} {HF H HF' H' : Hp}
theorem Bn.own (b : Bn B ρ σ HF H) {p : Addr} (h : OwnAt ρ σ p) : (∃ q ∈ B.L, q.2 = p) ∨ B.H0 p = none := by
  obtain ⟨i, a, h1, h2, h3⟩ := h
  rcases b.mine i a p h1 h2 h3 with z | z
  · exact .inl ⟨_, z, rfl⟩
  · exact .inr z
theorem Bn.fw (b : Bn B ρ σ HF H) (f : Fw ρ ρ' σ HF H HF' H') : Bn B ρ' σ HF' H' where
  hf := b.hf.trans f.hf
  keep := fun p o hn h => f.keep p o (b.keep p o hn h) fun z => by
    rcases b.own z with ⟨q, h1, h2⟩ | h1
    · exact hn q h1 h2
    · rw [h] at h1; cases h1
  new := fun p o h => by
    rcases f.new p o h with h | h
    · exact b.new p o h
    · cases q : B.H0 p with
      | none => exact .inr rfl
      | some u =>
        obtain ⟨o', e⟩ := b.pres p u q
        rw [h] at e; cases e
  pres := fun p o h => by
    obtain ⟨o', e⟩ := b.pres p o h
    exact f.pres p o' e
  mine := fun i a p h1 h2 h3 => by
    obtain ⟨a', g1, g2, _⟩ := f.sh.back h1
    exact b.mine i a' p g1 (by rw [← g2]; exact h2) h3
  lent := b.lent
theorem Bn.free (b : Bn B ρ σ HF H) {p : Addr} (h : H p = none) : B.H0 p = none := by
  cases q : B.H0 p with
  | none => rfl
  | some u =>
    obtain ⟨o', e⟩ := b.pres p u q
    rw [h] at e; cases e
end

structure Pst where
  nx : Rho → Prop
  rt : A → Rho → Prop
  bk : Rho → Prop := fun _ => False
  ct : Rho → Prop := fun _ => False
structure Ok (K : PySem.W.Frag) (B : Bs) (HF : Hp) (D : Ends) (P : Pst) : Prop where
  nx : ∀ ρ σ HF' H, P.nx ρ → Sl K ρ σ HF' H → Bn B ρ σ HF' H → Same HF HF' → D.nx σ H
  rt : ∀ a ρ σ HF' H x, P.rt a ρ → Sl K ρ σ HF' H → Bn B ρ σ HF' H → RRel K B.H0 HF' H x a → D.rt x H
  bk : ∀ ρ σ HF' H, P.bk ρ → Sl K ρ σ HF' H → Bn B ρ σ HF' H → Same HF HF' → D.bk σ H
  ct : ∀ ρ σ HF' H, P.ct ρ → Sl K ρ σ HF' H → Bn B ρ σ HF' H → Same HF HF' → D.ct σ H
theorem Ok.up {K : PySem.W.Frag} {B : Bs} {HF HF1 : Hp} {D : Ends} {P : Pst} (o : Ok K B HF D P) (s : Same HF HF1) : Ok K B HF1 D P :=
  ⟨fun ρ σ HF' H p S b e => o.nx ρ σ HF' H p S b (s.trans e), o.rt, fun ρ σ HF' H p S b e => o.bk ρ σ HF' H p S b (s.trans e), fun ρ σ HF' H p S b e => o.ct ρ σ HF' H p S b (s.trans e)⟩
def Ex (K : PySem.W.Frag) (B : Bs) (t : TS) (ρ : Rho) (P : Pst) : Prop := ∀ σ HF H, Sl K ρ σ HF H → Bn B ρ σ HF H → ∀ D, Ok K B HF D P → t D σ H
abbrev S (X : Cx) (B : Bs) (st : Stmt) (ρ : Rho) (P : Pst) : Prop := Ex X.K B (wS X st) ρ P
abbrev Ss (X : Cx) (B : Bs) (st : List Stmt) (ρ : Rho) (P : Pst) : Prop := Ex X.K B (wSs X st) ρ P

section
variable {X : Cx} {B : Bs} {P : Pst} {ρ ρ1 ρ2 ρ3 : Rho} {st : Stmt} {sts : List Stmt} {t : TS} {e e1 e2 : Expr} {pos : Pos} {a : A} {b : Bool} {v w : PyData}
theorem S.of (h : PS X st t) (h2 : Ex X.K B t ρ P) : S X B st ρ P := fun σ HF H Sl b D o => ⟨t, h, h2 σ HF H Sl b D o⟩
theorem ss_nil (h : P.nx ρ) : Ss X B [] ρ P := fun σ HF H Sl b D o => ⟨_, pss_nil, o.nx ρ σ HF H h Sl b (.refl _)⟩
theorem ss_cons (h : S X B st ρ ⟨fun ρ' => Ss X B sts ρ' P, P.rt, P.bk, P.ct⟩) : Ss X B (st :: sts) ρ P := fun σ HF H Sl b D o =>
  ⟨_, pss_cons ps_w pss_w, h σ HF H Sl b _ ⟨fun ρ' σ' HF' H' p S' b' e => p σ' HF' H' S' b' D (o.up e), o.rt, o.bk, o.ct⟩⟩
theorem ss_one (h : S X B st ρ P) : Ss X B [st] ρ P := fun σ HF H Sl b D o => ⟨_, pss_one ps_w, h σ HF H Sl b D o⟩
theorem s_pass (h : P.nx ρ) : S X B (.Pass pos) ρ P := .of ps_pass fun σ HF H Sl b D o => o.nx ρ σ HF H h Sl b (.refl _)
theorem s_break (h : P.bk ρ) : S X B (.Break pos) ρ P := .of ps_break fun σ HF H Sl b D o => o.bk ρ σ HF H h Sl b (.refl _)
theorem s_cont (h : P.ct ρ) : S X B (.Continue pos) ρ P := .of ps_continue fun σ HF H Sl b D o => o.ct ρ σ HF H h Sl b (.refl _)
theorem s_doc {x : Str} {j : Nat} {pos' : Pos} (h : P.nx ρ) : S X B (.Expr (.Constant (.str x) j pos) pos') ρ P := .of ps_doc fun σ HF H Sl b D o => o.nx ρ σ HF H h Sl b (.refl _)
theorem s_expr (he : E X e ρ a ρ1) (h : P.nx ρ1) (hs : swapsWith e none pos.line X.env = pure false := by rfl) : S X B (.Expr e pos) ρ P := .of (ps_expr pe_w hs) fun σ HF H Sl b D o =>
  he σ HF H Sl _ fun x HF1 H1 S1 f1 _ => o.nx ρ1 σ HF1 H1 h S1 (b.fw f1) f1.hf
theorem rrel_base {K : PySem.W.Frag} {σ : L2.St} {HF H HF' H' : Hp} {x : V} (b : Bn B ρ σ HF H) (r : RRel K H HF' H' x a) : RRel K B.H0 HF' H' x a := by
  cases ho : a.own with
  | true =>
    obtain ⟨p, o, q1, q2, q3⟩ := (rrel_own ho).mp r
    exact (rrel_own ho).mpr ⟨p, o, q1, b.free q2, q3⟩
  | false => cases a <;> first | exact r | exact tw_fresh (fun p h => b.free h) r | exact dl_fresh (fun p h => b.free h) r | exact Nw.fresh _ (fun p h => b.free h) r | cases ho
theorem s_ret (he : E X e ρ a ρ1) (h : P.rt a ρ1) : S X B (.Return (some e) pos) ρ P := .of (ps_ret pe_w) fun σ HF H Sl b D o =>
  he σ HF H Sl _ fun x HF1 H1 S1 f1 r1 => o.rt a ρ1 σ HF1 H1 x h S1 (b.fw f1) (rrel_base b r1)
theorem s_retN (h : P.rt (.d .none) ρ) : S X B (.Return none pos) ρ P := .of ps_retN fun σ HF H Sl b D o => o.rt _ ρ σ HF H _ h Sl b (show RRel X.K B.H0 HF H V.non (.d .none) from .non)
/-- an own object is handed back -/
theorem s_retO (i : Nat) {x : Str} (hi : ρ[i]? = some a) (ho : a.own = true) (hl : ∀ q ∈ B.L, q.1 ≠ i) (h : P.rt a ρ) (hN : X.N[i]? = some x := by rfl) (hv : Vis X.env.scope x := by first | exact Or.inl rfl | exact Or.inr (Or.inl rfl) | exact Or.inr (Or.inr rfl))
    (hd : (x == ("__debug__" : Str)) = false := by decide) (hcd : (x == ("__classdict__" : Str)) = false := by decide) {pos'} : S X B (.Return (some (.Name x pos')) pos) ρ P := .of (ps_ret (pe_var hN hv hd hcd)) fun σ HF H Sl b D o => by
  obtain ⟨p, u, e, h1, h2, h3⟩ := Sl.ownAt hi ho
  refine ⟨.ref p, e, o.rt a ρ σ HF H _ h Sl b ((rrel_own ho).mpr ⟨p, u, rfl, ?_, h1, h2, h3⟩)⟩
  rcases b.mine i a p hi ho e with z | z
  · exact (hl _ z rfl).elim
  · exact z
theorem s_if {c : Expr} {s1 s2 : List Stmt} (hc : ET X c ρ b ρ1) (h1 : b = true → Ss X B s1 ρ1 P) (h2 : b = false → Ss X B s2 ρ1 P) : S X B (.If c s1 s2 pos) ρ P := .of (ps_if pt_w pss_w pss_w) fun σ HF H Sl bb D o =>
  hc σ HF H Sl _ fun HF1 H1 S1 f1 => by
    cases b with
    | true => exact h1 rfl σ HF1 H1 S1 (bb.fw f1) D (o.up f1.hf)
    | false => exact h2 rfl σ HF1 H1 S1 (bb.fw f1) D (o.up f1.hf)

/-! ### a name is stored -/
theorem Sl.set {K : PySem.W.Frag} {σ : L2.St} {HF H Hb : Hp} {x : V} {i : Nat} (S1 : Sl K ρ σ HF H) (r : RRel K Hb HF H x a) (hfr : ∀ p, Hb p = none → ¬ OwnAt ρ σ p) : Sl K (ρ.set i a) (σ.set i (some x)) HF H := by
  refine ⟨by rw [List.length_set, List.length_set]; exact S1.len, S1.sub, fun j c h => ?_, fun j k c d p h1 h2 o1 o2 e1 e2 => ?_⟩
  · by_cases hj : i = j
    · subst hj
      have hi : i < ρ.length := by
        have := (List.getElem?_eq_some_iff.mp h).1
        rw [List.length_set] at this
        exact this
      rw [List.getElem?_set_self hi] at h
      cases h
      refine ⟨some x, by rw [List.getElem?_set_self (by rw [S1.len]; exact hi)], ?_⟩
      cases ho : a.own with
      | true =>
        obtain ⟨p, o, q1, q2, q3⟩ := (rrel_own ho).mp r
        exact (arel_own ho).mpr ⟨x, rfl, p, o, q1, q3⟩
      | false => cases a <;> first | exact ⟨x, rfl, r⟩ | exact congrArg some r | trivial | cases ho
    · rw [List.getElem?_set_ne hj] at h
      obtain ⟨s, e, q⟩ := S1.slot j c h
      exact ⟨s, by rw [List.getElem?_set_ne hj]; exact e, q⟩
  · have key : ∀ (m : Nat) (c : A), (ρ.set i a)[m]? = some c → c.own = true → (σ.set i (some x))[m]? = some (some (V.ref p)) → i ≠ m → OwnAt ρ σ p := fun m c g1 g2 g3 hm => by
      rw [List.getElem?_set_ne hm] at g1 g3
      exact ⟨m, c, g1, g2, g3⟩
    have self : ∀ (c : A), (ρ.set i a)[i]? = some c → c.own = true → (σ.set i (some x))[i]? = some (some (V.ref p)) → Hb p = none := fun c g1 g2 g3 => by
      have hi : i < ρ.length := by
        have := (List.getElem?_eq_some_iff.mp g1).1
        rw [List.length_set] at this
        exact this
      rw [List.getElem?_set_self hi] at g1
      rw [List.getElem?_set_self (by rw [S1.len]; exact hi)] at g3
      cases g1
      cases g3
      obtain ⟨p', o, q1, q2, q3⟩ := (rrel_own g2).mp r
      cases q1
      exact q2
    by_cases hj : i = j
    · subst hj
      by_cases hk : i = k
      · exact hk
      · exact (hfr p (self c h1 o1 e1) (key k d h2 o2 e2 hk)).elim
    · by_cases hk : i = k
      · subst hk
        exact (hfr p (self d h2 o2 e2) (key j c h1 o1 e1 hj)).elim
      · rw [List.getElem?_set_ne hj] at h1 e1
        rw [List.getElem?_set_ne hk] at h2 e2
        exact S1.apart j k c d p h1 h2 o1 o2 e1 e2
theorem Bn.set {K : PySem.W.Frag} {σ : L2.St} {HF H : Hp} {x : V} {i : Nat} (b1 : Bn B ρ σ HF H) (S1 : Sl K ρ σ HF H) (r : RRel K B.H0 HF H x a) (hl : ∀ q ∈ B.L, q.1 ≠ i) : Bn B (ρ.set i a) (σ.set i (some x)) HF H := by
  refine ⟨b1.hf, b1.keep, b1.new, b1.pres, fun j c p h1 h2 h3 => ?_, fun q hq => ?_⟩
  · by_cases hj : i = j
    · subst hj
      have hi : i < ρ.length := by
        have := (List.getElem?_eq_some_iff.mp h1).1
        rw [List.length_set] at this
        exact this
      rw [List.getElem?_set_self hi] at h1
      rw [List.getElem?_set_self (by rw [S1.len]; exact hi)] at h3
      cases h1
      cases h3
      obtain ⟨p', o, q1, q2, q3⟩ := (rrel_own h2).mp r
      cases q1
      exact .inr q2
    · rw [List.getElem?_set_ne hj] at h1 h3
      exact b1.mine j c p h1 h2 h3
  · rw [List.getElem?_set_ne (hl q hq).symm]
    exact b1.lent q hq
theorem s_set (i : Nat) {x : Str} {pos' : Pos} (he : E X e ρ a ρ1) (h : P.nx (ρ1.set i a)) (hl : ∀ q ∈ B.L, q.1 ≠ i) (hN : X.N.Nodup) (hi : X.N[i]? = some x := by rfl) (hx : Loc X.env.scope x := by first | exact Or.inl rfl | exact Or.inr rfl)
    (hs : swapsWith e (some (.Name x pos')) pos.line X.env = pure false := by rfl) (hf : X.fn x = true ∨ X.env.scope.names.lookup x = some .local := by first | exact .inl rfl | exact .inr rfl) : S X B (.Assign [.Name x pos'] e pos) ρ P :=
  .of (ps_set hN hi hx pe_w hs hf) fun σ HF H Sl b D o => he σ HF H Sl _ fun y HF1 H1 S1 f1 r1 =>
    o.nx _ _ HF1 H1 h (S1.set r1 fun p hp z => Sl.notOwn hp (f1.sh.own.mp z)) ((b.fw f1).set S1 (rrel_base b r1) hl) f1.hf

/-! ### targets -/
def Ga (K : PySem.W.Frag) (B : Bs) (g : TG) (v : PyData) (ρ ρ' : Rho) : Prop := ∀ x σ HF H, Sl K ρ σ HF H → Dp K HF x v → ∀ Q : L2.St → Hp → Prop, (∀ σ', Sl K ρ' σ' HF H → (Bn B ρ σ HF H → Bn B ρ' σ' HF H) → Q σ' H) → g x σ H Q
def wG (X : Cx) (tg : Expr) : TG := fun x σ H Q => ∃ g, PG X tg g ∧ g x σ H Q
theorem pg_w {tg : Expr} : PG X tg (wG X tg) := ⟨fun pins s σ H v u Q I r ⟨_, h, q⟩ => h.run pins s σ H v u Q I r q⟩
abbrev GT (X : Cx) (B : Bs) (tg : Expr) (v : PyData) (ρ ρ' : Rho) : Prop := Ga X.K B (wG X tg) v ρ ρ'
theorem g_name (i : Nat) {x : Str} (hl : ∀ q ∈ B.L, q.1 ≠ i) (hN : X.N.Nodup) (hi : X.N[i]? = some x := by rfl) (hx : Loc X.env.scope x := by first | exact Or.inl rfl | exact Or.inr rfl) (hf : X.fn x = true ∨ X.env.scope.names.lookup x = some .local := by first | exact .inl rfl | exact .inr rfl) :
    GT X B (.Name x pos) v ρ (ρ.set i (.d v)) := fun y σ HF H Sl r Q q => ⟨_, pg_name hN hi hx hf, by
  have r1 : ∀ Hb, RRel X.K Hb HF H y (.d v) := fun Hb => r
  refine q _ ?_ fun b => b.set Sl (r1 _) hl
  refine Sl.set (Hb := H) (r1 _) fun p hp z => Sl.notOwn hp z⟩
def Gs (K : PySem.W.Frag) (B : Bs) (g : TGs) (vs : List PyData) (ρ ρ' : Rho) : Prop := ∀ xs σ HF H, Sl K ρ σ HF H → DpAll K HF xs vs → ∀ Q : L2.St → Hp → Prop, (∀ σ', Sl K ρ' σ' HF H → (Bn B ρ σ HF H → Bn B ρ' σ' HF H) → Q σ' H) → g xs σ H Q
def wGs (X : Cx) (tg : List Expr) : TGs := fun x σ H Q => ∃ g, PGs X tg g ∧ g x σ H Q
theorem pgs_w {tg : List Expr} : PGs X tg (wGs X tg) := ⟨fun pins s σ H v u Q I r ⟨_, h, q⟩ => h.run pins s σ H v u Q I r q⟩
abbrev GTs (X : Cx) (B : Bs) (tg : List Expr) (vs : List PyData) (ρ ρ' : Rho) : Prop := Gs X.K B (wGs X tg) vs ρ ρ'
theorem gs_nil : GTs X B [] [] ρ ρ := fun xs σ HF H Sl r Q q => by
  cases r
  exact ⟨_, pgs_nil, rfl, q σ Sl fun b => b⟩
theorem gs_cons {tg : Expr} {tgs : List Expr} {vs : List PyData} (h1 : GT X B tg v ρ ρ1) (h2 : GTs X B tgs vs ρ1 ρ2)
    (hs : (assignEach (tg :: tgs) X.env).map (·.2) = assign tg X.env :: (assignEach tgs X.env).map (·.2) := by rfl) : GTs X B (tg :: tgs) (v :: vs) ρ ρ2 := fun xs σ HF H Sl r Q q => by
  cases r with
  | cons r rr =>
    refine ⟨_, pgs_cons pg_w pgs_w hs, _, _, rfl, h1 _ σ HF H Sl r _ fun σ1 S1 b1 => h2 _ σ1 HF H S1 rr Q fun σ2 S2 b2 => q σ2 S2 fun b => b2 (b1 b)⟩
theorem g_tup {es : List Expr} {k : Nat} {vs : List PyData} {n : Nat} (h : GTs X B es vs ρ ρ1) (hz : vs.length = n := by rfl) (hc : X.calm = true := by rfl) (hn : (assignEach es X.env).length = n := by rfl) (hst : (assignEach es X.env).findIdx? (·.1) = none := by rfl) :
    GT X B (.Tuple es k pos) (.tuple vs) ρ ρ1 := fun x σ HF H Sl r Q q => ⟨_, pg_tup hc pgs_w hn hst, by
  cases r with
  | tup h1 h2 => exact ⟨_, _, rfl, same_t Sl.sub h1, (dpa_len h2).trans hz, h _ σ HF H Sl h2 Q q⟩⟩
/-- a, b = e (a tuple) -/
theorem s_asgT {tg : Expr} (he : E X e ρ (.d v) ρ1) (hg : GT X B tg v ρ1 ρ2) (h : P.nx ρ2) (hs : swapsWithSole [tg] e pos.line X.env = pure false := by rfl) (hw : swappedStores [tg] e X.env = pure none := by rfl)
    (h1 : (assignEach [tg] X.env).map (·.2) = [assign tg X.env] := by rfl) : S X B (.Assign [tg] e pos) ρ P := .of (ps_asg pe_w pg_w hs hw h1) fun σ HF H Sl b D o => he σ HF H Sl _ fun y HF1 H1 S1 f1 r1 =>
  hg y σ HF1 H1 S1 r1 _ fun σ2 S2 b2 => o.nx _ _ HF1 H1 h S2 (b2 (b.fw f1)) f1.hf
/-- a, b = e1, e2 -/
theorem s_par (i j : Nat) {x y : Str} {px py pt : Pos} {kt k2 : Nat} {pt2 : Pos} (ha : ED X [e1, e2] ρ [v, w] ρ1) (h : P.nx ((ρ1.set i (.d v)).set j (.d w))) (hli : ∀ q ∈ B.L, q.1 ≠ i) (hlj : ∀ q ∈ B.L, q.1 ≠ j) (hN : X.N.Nodup) (hij : i ≠ j := by decide)
    (hc : X.calm = true := by rfl) (hi : X.N[i]? = some x := by rfl) (hj : X.N[j]? = some y := by rfl) (hx : X.env.scope.names.lookup x = some .local := by rfl) (hy : X.env.scope.names.lookup y = some .local := by rfl)
    (hw : swappedStores [.Tuple [.Name x px, .Name y py] kt pt] (.Tuple [e1, e2] k2 pt2) X.env = pure (some [x, y]) := by rfl)
    (hs : swapsWithSole [.Tuple [.Name x px, .Name y py] kt pt] (.Tuple [e1, e2] k2 pt2) pos.line X.env = pure false := by rfl) : S X B (.Assign [.Tuple [.Name x px, .Name y py] kt pt] (.Tuple [e1, e2] k2 pt2) pos) ρ P :=
  .of (ps_par hc hN hi hj hij hx hy pa_w hw hs) fun σ HF H Sl b D o => ha σ HF H Sl _ fun xs HF1 H1 S1 f1 r1 => by
    cases r1 with
    | cons r1 r2 =>
      cases r2 with
      | cons r2 r3 =>
        cases r3
        refine ⟨_, _, rfl, ?_⟩
        have q1 : ∀ Hb, RRel X.K Hb HF1 H1 _ (.d v) := fun Hb => r1
        have q2 : ∀ Hb, RRel X.K Hb HF1 H1 _ (.d w) := fun Hb => r2
        have b1 := b.fw f1
        have S2 := S1.set (i := i) (q1 H1) fun p hp z => S1.notOwn hp z
        have b2 := b1.set (i := i) S1 (q1 _) hli
        exact o.nx _ _ HF1 H1 h (S2.set (q2 H1) fun p hp z => S2.notOwn hp z) (b2.set S2 (q2 _) hlj) f1.hf

/-! ### less is known -/
inductive Le : Rho → Rho → Prop
  | nil : Le [] []
  | eq {a : A} {r r' : Rho} (h : Le r r') : Le (a :: r) (a :: r')
  | any {a : A} {r r' : Rho} (h : Le r r') : Le (a :: r) (.any :: r')
theorem Le.refl : ∀ ρ : Rho, Le ρ ρ
  | [] => .nil
  | _ :: r => .eq (Le.refl r)
theorem Le.len : ∀ {ρ ρ' : Rho}, Le ρ ρ' → ρ'.length = ρ.length
  | _, _, .nil => rfl
  | _, _, .eq h => congrArg (· + 1) h.len
  | _, _, .any h => congrArg (· + 1) h.len
theorem Le.get : ∀ {ρ ρ' : Rho} {i : Nat} {a : A}, Le ρ ρ' → ρ'[i]? = some a → (ρ[i]? = some a) ∨ (a = .any ∧ ∃ c, ρ[i]? = some c)
  | _, _, _, _, .nil, h => by simp at h
  | _, _, 0, _, .eq _, h => .inl h
  | _, _, 0, _, .any _, h => .inr ⟨(Option.some.inj h).symm, _, rfl⟩
  | _, _, i + 1, _, .eq t, h => Le.get (i := i) t h
  | _, _, i + 1, _, .any t, h => Le.get (i := i) t h
theorem Sl.le {K : PySem.W.Frag} {σ : L2.St} {HF H : Hp} (S1 : Sl K ρ σ HF H) (l : Le ρ ρ1) : Sl K ρ1 σ HF H := by
  refine ⟨S1.len.trans l.len.symm, S1.sub, fun i a h => ?_, fun i j a b p h1 h2 o1 o2 e1 e2 => ?_⟩
  · rcases l.get h with h | ⟨rfl, c, h⟩
    · exact S1.slot i a h
    · obtain ⟨s, e, _⟩ := S1.slot i c h
      exact ⟨s, e, trivial⟩
  · have g1 : ρ[i]? = some a := (l.get h1).elim id fun z => by rw [z.1] at o1; cases o1
    have g2 : ρ[j]? = some b := (l.get h2).elim id fun z => by rw [z.1] at o2; cases o2
    exact S1.apart i j a b p g1 g2 o1 o2 e1 e2
theorem Bn.le {σ : L2.St} {HF H : Hp} (b : Bn B ρ σ HF H) (l : Le ρ ρ1) : Bn B ρ1 σ HF H :=
  ⟨b.hf, b.keep, b.new, b.pres, fun i a p h o e => b.mine i a p ((l.get h).elim id fun z => by rw [z.1] at o; cases o) o e, b.lent⟩
theorem Ex.le {K : PySem.W.Frag} (h : Ex K B t ρ1 P) (l : Le ρ ρ1) : Ex K B t ρ P := fun σ HF H S1 b D o => h σ HF H (S1.le l) (b.le l) D o
/-- an own object becomes data -/
theorem Sl.frzAt {K : PySem.W.Frag} {σ : L2.St} {HF H : Hp} {i : Nat} {xs : List PyData} (S1 : Sl K ρ σ HF H) (b1 : Bn B ρ σ HF H) (hi : ρ[i]? = some (.ml xs)) (hl : ∀ q ∈ B.L, q.1 ≠ i) :
    ∃ HF', Sl K (ρ.set i (.d (.list xs))) σ HF' H ∧ Bn B (ρ.set i (.d (.list xs))) σ HF' H ∧ Same HF HF' := by
  obtain ⟨p, o, e, h1, h2, h3⟩ := S1.ownAt hi rfl
  cases o <;> first | exact h3.elim | skip
  rename_i ys
  have hb : B.H0 p = none := (b1.mine i _ p hi rfl e).elim (fun z => (hl _ z rfl).elim) id
  have hlen : i < ρ.length := (List.getElem?_eq_some_iff.mp hi).1
  have le : Sl K (ρ.set i .any) σ HF H := by
    refine ⟨by rw [List.length_set]; exact S1.len, S1.sub, fun j a h => ?_, fun j k a b q g1 g2 o1 o2 e1 e2 => ?_⟩
    · by_cases hj : i = j
      · subst hj
        rw [List.getElem?_set_self hlen] at h
        cases h
        exact ⟨_, e, trivial⟩
      · rw [List.getElem?_set_ne hj] at h
        exact S1.slot j a h
    · have f : ∀ (j : Nat) (a : A), (ρ.set i .any)[j]? = some a → a.own = true → ρ[j]? = some a := fun j a h o => by
        by_cases hj : i = j
        · subst hj
          rw [List.getElem?_set_self hlen] at h
          cases h
          cases o
        · rw [List.getElem?_set_ne hj] at h
          exact h
      exact S1.apart j k a b q (f j a g1 o1) (f k b g2 o2) o1 o2 e1 e2
  have nw : ¬ OwnAt (ρ.set i .any) σ p := by
    rintro ⟨j, a, g1, g2, g3⟩
    by_cases hj : i = j
    · subst hj
      rw [List.getElem?_set_self hlen] at g1
      cases g1
      cases g2
    · rw [List.getElem?_set_ne hj] at g1
      exact hj (S1.apart i j _ a p hi g1 rfl g2 e g3)
  have S2 := le.frz h2 h1 nw
  have own : ∀ (j : Nat) (a : A), (ρ.set i (.d (.list xs)))[j]? = some a → a.own = true → i ≠ j ∧ ρ[j]? = some a := fun j a h o => by
    by_cases hj : i = j
    · subst hj
      rw [List.getElem?_set_self hlen] at h
      cases h
      cases o
    · rw [List.getElem?_set_ne hj] at h
      exact ⟨hj, h⟩
  refine ⟨_, ⟨by rw [List.length_set]; exact S1.len, S2.sub, fun j a h => ?_, fun j k a b q g1 g2 o1 o2 e1 e2 => S1.apart j k a b q (own j a g1 o1).2 (own k b g2 o2).2 o1 o2 e1 e2⟩,
    ⟨b1.hf.trans (same_upd h1), b1.keep, fun c u h => ?_, b1.pres, fun j a q g o e' => b1.mine j a q (own j a g o).2 o e', b1.lent⟩, same_upd h1⟩
  · by_cases hj : i = j
    · subst hj
      rw [List.getElem?_set_self hlen] at h
      cases h
      exact ⟨_, e, .ref p, rfl, .lst (.inl (.inl upd_same)) (dpa_mono (same_upd h1) h3)⟩
    · rw [List.getElem?_set_ne hj] at h
      exact S2.slot j a (by rw [List.getElem?_set_ne hj]; exact h)
  · by_cases hc : c = p
    · subst hc
      exact .inr hb
    · rw [upd_ne hc] at h
      exact b1.new c u h
theorem Ex.frz {K : PySem.W.Frag} (i : Nat) {xs : List PyData} (hi : ρ[i]? = some (.ml xs)) (hl : ∀ q ∈ B.L, q.1 ≠ i) (h : Ex K B t (ρ.set i (.d (.list xs))) P) : Ex K B t ρ P := fun σ HF H S1 b D o => by
  obtain ⟨HF', S2, b2, s⟩ := S1.frzAt b hi hl
  exact h σ HF' H S2 b2 D (o.up s)

/-! ### loops -/
section
variable {tg iter : Expr} {body : List Stmt} {ds : List PyData}
def bodyP (P : Pst) (I : Rho → Prop) : Pst := ⟨I, P.rt, P.nx, I⟩
theorem ok_body {K : PySem.W.Frag} {HF : Hp} {D : Ends} {I : Rho → Prop} {N : L2.St → Hp → Prop} (o : Ok K B HF D P) (h : ∀ ρ σ HF' H, I ρ → Sl K ρ σ HF' H → Bn B ρ σ HF' H → Same HF HF' → N σ H) : Ok K B HF { D with nx := N, ct := N, bk := D.nx } (bodyP P I) :=
  ⟨h, o.rt, o.nx, h⟩
/-- over data: a list, a tuple -/
theorem s_forD (tup : Bool) (hi : E X iter ρ (.d (if tup then .tuple ds else .list ds)) ρ1) (I : Nat → Rho → Prop) (h0 : I 0 ρ1)
    (hb : ∀ i v ρ', ds[i]? = some v → I i ρ' → ∃ ρ2, GT X B tg v ρ' ρ2 ∧ Ss X B body ρ2 (bodyP P (I (i + 1)))) (hd : ∀ ρ', I ds.length ρ' → P.nx ρ')
    (hp : PassesOwn (model X.prog X.w) X.A X.env X.xe) (hc : X.calm = true := by rfl) (hs : ∀ x, foldedSetIterable iter X.env x = pure x := by intro _; rfl) : S X B (.For tg iter body [] pos) ρ P := by
  have wi : ∃ wi, PI X tg iter wi ∧ Ex X.K B (tFor wi (wG X tg) (wSs X body)) ρ P := by
    cases tup with
    | true =>
      refine ⟨_, pi_tup pe_w, fun σ HF H S1 b D o => hi σ HF H S1 _ fun x HF1 H1 S2 f1 r1 => ?_⟩
      cases (show Dp X.K HF1 x (.tuple ds) from r1) with
      | @tup p ys _ h1 h2 =>
        refine ⟨p, rfl, ⟨ys, same_t S2.sub h1⟩, for_tup (K := X.K) (a := p) (xs := ys) (fun i σ' H' => ∃ ρ' HF', I i ρ' ∧ Sl X.K ρ' σ' HF' H' ∧ Bn B ρ' σ' HF' H' ∧ Same HF1 HF') ⟨ρ1, HF1, h0, S2, b.fw f1, .refl _⟩ ?_ ?_ ?_⟩
        · rintro i σ' H' _ ⟨ρ', HF', _, S', _, s'⟩
          exact same_t S'.sub (same_t s' h1)
        · rintro i x σ' H' hx ⟨ρ', HF', hI, S', b', s'⟩
          obtain ⟨v, e, r⟩ := dpa_get' (dpa_mono s' h2) hx
          obtain ⟨ρ2, hg, hbd⟩ := hb i v ρ' e hI
          refine hg x σ' HF' H' S' r _ fun σ2 S3 b3 => hbd σ2 HF' H' S3 (b3 b') _ ?_
          exact ok_body ((o.up f1.hf).up s') fun ρ3 σ3 HF3 H3 i3 S4 b4 s4 => ⟨ρ3, HF3, i3, S4, b4, s'.trans s4⟩
        · rintro σ' H' ⟨ρ', HF', hI, S', b', s'⟩
          rw [dpa_len h2] at hI
          exact o.nx ρ' σ' HF' H' (hd ρ' hI) S' b' (f1.hf.trans s')
    | false =>
      refine ⟨_, pi_list pe_w, fun σ HF H S1 b D o => hi σ HF H S1 _ fun x HF1 H1 S2 f1 r1 => ?_⟩
      cases (show Dp X.K HF1 x (.list ds) from r1) with
      | @lst p ys _ h1 h2 =>
        refine ⟨p, rfl, ⟨ys, same_l S2.sub h1⟩, for_list (K := X.K) (a := p) (xs := ys) (fun i σ' H' => ∃ ρ' HF', I i ρ' ∧ Sl X.K ρ' σ' HF' H' ∧ Bn B ρ' σ' HF' H' ∧ Same HF1 HF') ⟨ρ1, HF1, h0, S2, b.fw f1, .refl _⟩ ?_ ?_ ?_⟩
        · rintro i σ' H' _ ⟨ρ', HF', _, S', _, s'⟩
          exact same_l S'.sub (same_l s' h1)
        · rintro i x σ' H' hx ⟨ρ', HF', hI, S', b', s'⟩
          obtain ⟨v, e, r⟩ := dpa_get' (dpa_mono s' h2) hx
          obtain ⟨ρ2, hg, hbd⟩ := hb i v ρ' e hI
          refine hg x σ' HF' H' S' r _ fun σ2 S3 b3 => hbd σ2 HF' H' S3 (b3 b') _ ?_
          exact ok_body ((o.up f1.hf).up s') fun ρ3 σ3 HF3 H3 i3 S4 b4 s4 => ⟨ρ3, HF3, i3, S4, b4, s'.trans s4⟩
        · rintro σ' H' ⟨ρ', HF', hI, S', b', s'⟩
          rw [dpa_len h2] at hI
          exact o.nx ρ' σ' HF' H' (hd ρ' hI) S' b' (f1.hf.trans s')
  obtain ⟨wi, h1, h2⟩ := wi
  exact .of (ps_for hp hc h1 pg_w pss_w hs) h2
theorem s_forL (hi : E X iter ρ (.d (.list ds)) ρ1) (I : Nat → Rho → Prop) (h0 : I 0 ρ1)
    (hb : ∀ i v ρ', ds[i]? = some v → I i ρ' → ∃ ρ2, GT X B tg v ρ' ρ2 ∧ Ss X B body ρ2 (bodyP P (I (i + 1)))) (hd : ∀ ρ', I ds.length ρ' → P.nx ρ')
    (hp : PassesOwn (model X.prog X.w) X.A X.env X.xe) (hc : X.calm = true := by rfl) (hs : ∀ x, foldedSetIterable iter X.env x = pure x := by intro _; rfl) : S X B (.For tg iter body [] pos) ρ P := s_forD false hi I h0 hb hd hp hc hs
theorem s_forT (hi : E X iter ρ (.d (.tuple ds)) ρ1) (I : Nat → Rho → Prop) (h0 : I 0 ρ1)
    (hb : ∀ i v ρ', ds[i]? = some v → I i ρ' → ∃ ρ2, GT X B tg v ρ' ρ2 ∧ Ss X B body ρ2 (bodyP P (I (i + 1)))) (hd : ∀ ρ', I ds.length ρ' → P.nx ρ')
    (hp : PassesOwn (model X.prog X.w) X.A X.env X.xe) (hc : X.calm = true := by rfl) (hs : ∀ x, foldedSetIterable iter X.env x = pure x := by intro _; rfl) : S X B (.For tg iter body [] pos) ρ P := s_forD true hi I h0 hb hd hp hc hs
/-- range(a), range(a, b) -/
theorem s_forR1 {px pc : Pos} {n : Int} (hi : E X e ρ (.d (.int n)) ρ1) (hn : n < 2 ^ 62) (hn0 : -(2 ^ 62) ≤ n) (I : Nat → Rho → Prop) (h0 : I 0 ρ1)
    (hb : ∀ (i : Nat) ρ', i < n.toNat → I i ρ' → ∃ ρ2, GT X B tg (.int i) ρ' ρ2 ∧ Ss X B body ρ2 (bodyP P (I (i + 1)))) (hd : ∀ ρ', I n.toNat ρ' → P.nx ρ')
    (hm : X.mg "range" = none) (hp : PassesOwn (model X.prog X.w) X.A X.env X.xe) (hg : Gl X "range" := by rfl) (hc : X.calm = true := by rfl) (hse : starEach [e] X.env = [(false, eval e X.env)] := by rfl) : S X B (.For tg (.Call (.Name "range" px) [e] [] pc) body [] pos) ρ P :=
  .of (ps_for hp hc (pi_range1 hg hm (pa_cons pe_w pa_nil hse) hse) pg_w pss_w) fun σ HF H S1 b D o => hi σ HF H S1 _ fun x HF1 H1 S2 f1 r1 => by
    cases r1
    refine ⟨n, rfl, hn0, hn, for_range (lo := 0) (n := n.toNat) (fun i σ' H' => ∃ ρ' HF', I i ρ' ∧ Sl X.K ρ' σ' HF' H' ∧ Bn B ρ' σ' HF' H' ∧ Same HF1 HF') ⟨ρ1, HF1, h0, S2, b.fw f1, .refl _⟩ ?_ ?_⟩
    · rintro i σ' H' hi ⟨ρ', HF', hI, S', b', s'⟩
      obtain ⟨ρ2, hg, hbd⟩ := hb i ρ' hi hI
      rw [show (0 : Int) + (i : Int) = (i : Int) by omega]
      refine hg _ σ' HF' H' S' (.int _) _ fun σ2 S3 b3 => hbd σ2 HF' H' S3 (b3 b') _ ?_
      exact ok_body ((o.up f1.hf).up s') fun ρ3 σ3 HF3 H3 i3 S4 b4 s4 => ⟨ρ3, HF3, i3, S4, b4, s'.trans s4⟩
    · rintro σ' H' ⟨ρ', HF', hI, S', b', s'⟩
      exact o.nx ρ' σ' HF' H' (hd ρ' hI) S' b' (f1.hf.trans s')
theorem s_forR2 {px pc : Pos} {n m : Int} (hi : E X e1 ρ (.d (.int m)) ρ1) (hi2 : E X e2 ρ1 (.d (.int n)) ρ2) (hn : -(2 ^ 62) ≤ m ∧ m < 2 ^ 62 ∧ -(2 ^ 62) ≤ n ∧ n < 2 ^ 62) (I : Nat → Rho → Prop) (h0 : I 0 ρ2)
    (hb : ∀ (i : Nat) ρ', i < (n - m).toNat → I i ρ' → ∃ ρ2, GT X B tg (.int (m + i)) ρ' ρ2 ∧ Ss X B body ρ2 (bodyP P (I (i + 1)))) (hd : ∀ ρ', I (n - m).toNat ρ' → P.nx ρ')
    (hm : X.mg "range" = none) (hp : PassesOwn (model X.prog X.w) X.A X.env X.xe) (hg : Gl X "range" := by rfl) (hc : X.calm = true := by rfl) (hse : starEach [e1, e2] X.env = [(false, eval e1 X.env), (false, eval e2 X.env)] := by rfl) (hse2 : starEach [e2] X.env = [(false, eval e2 X.env)] := by rfl) : S X B (.For tg (.Call (.Name "range" px) [e1, e2] [] pc) body [] pos) ρ P :=
  .of (ps_for hp hc (pi_range2 hg hm (pa_cons pe_w (pa_cons pe_w pa_nil hse2) (by rw [hse, hse2])) hse hse2) pg_w pss_w) fun σ HF H S1 b D o => hi σ HF H S1 _ fun x HF1 H1 S2 f1 r1 => hi2 σ HF1 H1 S2 _ fun x2 HF2 H2 S3 f2 r2 => by
    cases r1
    cases r2
    refine ⟨m, n, rfl, hn, for_range (lo := m) (n := (n - m).toNat) (fun i σ' H' => ∃ ρ' HF', I i ρ' ∧ Sl X.K ρ' σ' HF' H' ∧ Bn B ρ' σ' HF' H' ∧ Same HF2 HF') ⟨ρ2, HF2, h0, S3, b.fw (f1.trans f2), .refl _⟩ ?_ ?_⟩
    · rintro i σ' H' hi ⟨ρ', HF', hI, S', b', s'⟩
      obtain ⟨ρ2, hg, hbd⟩ := hb i ρ' hi hI
      refine hg _ σ' HF' H' S' (.int _) _ fun σ2 S3 b3 => hbd σ2 HF' H' S3 (b3 b') _ ?_
      exact ok_body ((o.up (f1.trans f2).hf).up s') fun ρ3 σ3 HF3 H3 i3 S4 b4 s4 => ⟨ρ3, HF3, i3, S4, b4, s'.trans s4⟩
    · rintro σ' H' ⟨ρ', HF', hI, S', b', s'⟩
      exact o.nx ρ' σ' HF' H' (hd ρ' hI) S' b' ((f1.trans f2).hf.trans s')
/-- while, by an invariant with its measure -/
theorem s_while {c : Expr} (I : Nat → Rho → Prop) (m0 : Nat) (h0 : I m0 ρ) (hs : ∀ m ρ', I m ρ' → ∃ b ρ1, ET X c ρ' b ρ1 ∧ (b = true → Ss X B body ρ1 (bodyP P fun ρ2 => ∃ m', m' < m ∧ I m' ρ2)) ∧ (b = false → P.nx ρ1))
    (hp : PassesOwn (model X.prog X.w) X.A X.env X.xe) : S X B (.While c body [] pos) ρ P := .of (ps_while hp pt_w pss_w) fun σ HF H S1 b D o => by
  refine ⟨fun m σ' H' => ∃ ρ' HF', I m ρ' ∧ Sl X.K ρ' σ' HF' H' ∧ Bn B ρ' σ' HF' H' ∧ Same HF HF', ⟨m0, ρ, HF, h0, S1, b, .refl _⟩, ?_⟩
  rintro m σ' H' ⟨ρ', HF', hI, S', b', s'⟩
  obtain ⟨bb, ρ1, hc, h1, h2⟩ := hs m ρ' hI
  refine hc σ' HF' H' S' _ fun HF1 H1 S2 f1 => ?_
  cases bb with
  | true =>
    rw [if_pos rfl]
    refine ⟨_, fun _ _ n => n, h1 rfl σ' HF1 H1 S2 (b'.fw f1) _ ?_⟩
    exact ok_body ((o.up s').up f1.hf) fun ρ3 σ3 HF3 H3 ⟨m', hm, i3⟩ S4 b4 s4 => ⟨m', hm, ρ3, HF3, i3, S4, b4, (s'.trans f1.hf).trans s4⟩
  | false =>
    rw [if_neg Bool.false_ne_true]
    exact o.nx ρ1 σ' HF1 H1 (h2 rfl) S2 (b'.fw f1) (s'.trans f1.hf)
end
end
end Th

set_option Elab.async false
set_option linter.all false
set_option maxRecDepth 100000
namespace Th
open PySem PySem.Spec PyProof.Rows L2

/-! ### a def's promise, by what its arguments hold -/
abbrev Fs := List A → A → List A → Prop
def spA (K : PySem.W.Frag) (F : Fs) : Sp := fun vs H Q _ => ∃ HF as r as', Sl K as (vs.map some) HF H ∧ F as r as' ∧ Shape as as' ∧
  ∀ x HF' H', Sl K as' (vs.map some) HF' H' → Fw as as' (vs.map some) HF H HF' H' → RRel K H HF' H' x r → Q x H'
/-- own slots with their addresses -/
def lentOf : Nat → List A → List V → List (Nat × Addr)
  | n, a :: as, .ref p :: vs => if a.own then (n, p) :: lentOf (n + 1) as vs else lentOf (n + 1) as vs
  | n, _ :: as, _ :: vs => lentOf (n + 1) as vs
  | _, _, _ => []
theorem lentOf_mem : ∀ {as : List A} {vs : List V} {n i : Nat} {p : Addr}, (i, p) ∈ lentOf n as vs ↔ ∃ j a, i = n + j ∧ as[j]? = some a ∧ a.own = true ∧ vs[j]? = some (V.ref p)
  | [], vs, n, i, p => by
    constructor
    · intro h; cases vs <;> cases h
    · rintro ⟨j, a, _, e, _⟩; simp at e
  | a :: as, [], n, i, p => by
    constructor
    · intro h; cases h
    · rintro ⟨j, a, _, _, _, e⟩; simp at e
  | a :: as, v :: vs, n, i, p => by
    have ih := @lentOf_mem as vs (n + 1) i p
    have step : (∃ j b, i = n + j ∧ (a :: as)[j]? = some b ∧ b.own = true ∧ (v :: vs)[j]? = some (V.ref p)) ↔ (i = n ∧ a.own = true ∧ v = V.ref p) ∨ (i, p) ∈ lentOf (n + 1) as vs := by
      rw [ih]
      constructor
      · rintro ⟨j, b, e1, e2, e3, e4⟩
        cases j with
        | zero =>
          simp at e2 e4
          subst e2
          exact .inl ⟨e1, e3, e4⟩
        | succ j => exact .inr ⟨j, b, by omega, by simpa using e2, e3, by simpa using e4⟩
      · rintro (⟨e1, e2, e3⟩ | ⟨j, b, e1, e2, e3, e4⟩)
        · exact ⟨0, a, by omega, rfl, e2, by simp [e3]⟩
        · exact ⟨j + 1, b, by omega, by simpa using e2, e3, by simpa using e4⟩
    rw [step]
    cases v with
    | ref q =>
      show (i, p) ∈ (if a.own then (n, q) :: lentOf (n + 1) as vs else lentOf (n + 1) as vs) ↔ _
      cases ho : a.own with
      | true =>
        rw [if_pos rfl, List.mem_cons]
        constructor
        · rintro (e | e)
          · injection e with e1 e2
            exact .inl ⟨e1, rfl, by rw [e2]⟩
          · exact .inr e
        · rintro (⟨e1, _, e2⟩ | e)
          · injection e2 with e2
            exact .inl (by rw [e1, e2])
          · exact .inr e
      | false =>
        rw [if_neg (by simp)]
        constructor
        · exact .inr
        · rintro (⟨_, e, _⟩ | e)
          · cases e
          · exact e
    | _ =>
      show (i, p) ∈ lentOf (n + 1) as vs ↔ _
      constructor
      · exact .inr
      · rintro (⟨_, _, e⟩ | e)
        · cases e
        · exact e
/-- what the end is to be -/
def PR (r : A) (as' : List A) : A → Rho → Prop := fun a ρ => a = r ∧ ∀ (i : Nat) (a' : A), as'[i]? = some a' → a'.own = true → ρ[i]? = some a'
def PF (r : A) (as' : List A) : Pst := ⟨PR r as' (.d .none), PR r as', fun _ => False, fun _ => False⟩
theorem pr_data {r : A} {as : List A} {ρ : Rho} (h : ∀ a ∈ as, a.own = false) : PR r as r ρ := ⟨rfl, fun i a e o => by
  have := h a (List.mem_of_getElem? e)
  rw [o] at this
  cases this⟩
section
variable {P : Program} {w : World} {K : PySem.W.Frag} {mg : Str → Option Value} {base : Heap}
theorem getElem?_app_rep {α : Type} {as : List α} {n i : Nat} {a c : α} (h : (as ++ List.replicate n c)[i]? = some a) : (as[i]? = some a) ∨ (as.length ≤ i ∧ a = c) := by
  by_cases hi : i < as.length
  · rw [List.getElem?_append_left hi] at h
    exact .inl h
  · rw [List.getElem?_append_right (by omega)] at h
    refine .inr ⟨by omega, ?_⟩
    have := List.mem_of_getElem? h
    exact (List.mem_replicate.mp this).2
theorem fn_ok {x qual : Str} {st : Stmt} {f : Addr} {fd : FuncData} {N ps : List Str} {k : Nat} {F : Fs} (G : Fun K x qual st f fd) (S0 : FnScope N ps (defScope st)) (hF : ∀ as r as', F as r as' → as.length = ps.length) (hn : ps.length ≤ N.length) (L : List Nat) (hL : ∀ as r as', F as r as' → ∀ (i : Nat) (a : A), as[i]? = some a → a.own = true → i ∈ L)
    (hbody : ∀ (cdv : Value) (A1 : Around) (outer : List Env) (s : Shared) (H : Hp) (E : XK) (B : Bs) (as : List A) (r : A) (as' : List A), Room k (A1.deeper (envOfC qual (defScope st) s.heap.objs.size f cdv)) → F as r as' → (∀ q ∈ B.L, q.1 ∈ L) →
      Ss (cxOf CX0 P w K mg base N qual (defScope st) f cdv A1 outer s H E).nox B (defBody st) (as ++ List.replicate (N.length - ps.length) .any) (PF r as')) : FnOk P w K mg base CX0 (k + 1) f fd ps (spA K F) := by
  have len : ∀ vs H Q E, spA K F vs H Q E → vs.length = ps.length := fun vs H Q E ⟨HF, as, r, as', S1, h, _⟩ => by
    have := S1.len
    rw [List.length_map] at this
    exact this.trans (hF _ _ _ h)
  refine G.ok S0 len fun cdv A1 outer s H vs Q E hr hsp => ?_
  have hlen := len vs H Q E hsp
  obtain ⟨HF, as, r, as', S1, hf, hsh, q⟩ := hsp
  have hal := hF _ _ _ hf
  let B : Bs := ⟨HF, H, lentOf 0 as vs⟩
  have vmap : ∀ {i : Nat} {v : V}, (vs.map some)[i]? = some (some v) ↔ vs[i]? = some v := fun {i v} => by
    rw [List.getElem?_map]
    cases vs[i]? <;> simp
  have hB : ∀ z ∈ B.L, z.1 ∈ L := fun z hz => by
    obtain ⟨j, a, e1, e2, e3, _⟩ := lentOf_mem.mp (show (z.1, z.2) ∈ lentOf 0 as vs from hz)
    rw [show z.1 = j by omega]
    exact hL _ _ _ hf j a e2 e3
  have Sl0 : Sl K (as ++ List.replicate (N.length - ps.length) .any) (L2.start N vs) HF H := by
    refine ⟨?_, S1.sub, fun i a h => ?_, fun i j a b p h1 h2 o1 o2 e1 e2 => ?_⟩
    · unfold L2.start
      rw [List.length_append, List.length_append, List.length_map, List.length_replicate, List.length_replicate, hlen, hal]
    · unfold L2.start
      rcases getElem?_app_rep h with h | ⟨hi, rfl⟩
      · obtain ⟨u, e, z⟩ := S1.slot i a h
        refine ⟨u, ?_, z⟩
        rw [List.getElem?_append_left (List.getElem?_eq_some_iff.mp e).1]
        exact e
      · have hlt := (List.getElem?_eq_some_iff.mp h).1
        rw [List.length_append, List.length_replicate] at hlt
        refine ⟨none, ?_, trivial⟩
        rw [List.getElem?_append_right (by rw [List.length_map]; omega), List.getElem?_replicate, if_pos (by rw [List.length_map]; omega)]
    · have back : ∀ (i : Nat) (a : A), (as ++ List.replicate (N.length - ps.length) A.any)[i]? = some a → a.own = true → (L2.start N vs)[i]? = some (some (V.ref p)) → as[i]? = some a ∧ (vs.map some)[i]? = some (some (V.ref p)) := fun i a h o e => by
        rcases getElem?_app_rep h with h | ⟨_, rfl⟩
        · refine ⟨h, ?_⟩
          unfold L2.start at e
          rw [List.getElem?_append_left (by rw [List.length_map]; have := (List.getElem?_eq_some_iff.mp h).1; omega)] at e
          exact e
        · cases o
      obtain ⟨g1, g2⟩ := back i a h1 o1 e1
      obtain ⟨g3, g4⟩ := back j b h2 o2 e2
      exact S1.apart i j a b p g1 g3 o1 o2 g2 g4
  have Bn0 : Bn B (as ++ List.replicate (N.length - ps.length) .any) (L2.start N vs) HF H := by
    refine ⟨.refl _, fun b o _ h => h, fun b o h => .inl h, fun b o h => ⟨o, h⟩, fun i a p h o e => ?_, fun z hz => ?_⟩
    · rcases getElem?_app_rep h with h | ⟨_, rfl⟩
      · unfold L2.start at e
        rw [List.getElem?_append_left (by rw [List.length_map]; have := (List.getElem?_eq_some_iff.mp h).1; omega)] at e
        exact .inl (lentOf_mem.mpr ⟨i, a, by omega, h, o, vmap.mp e⟩)
      · cases o
    · obtain ⟨j, a, e1, e2, e3, e4⟩ := lentOf_mem.mp (show (z.1, z.2) ∈ lentOf 0 as vs from hz)
      unfold L2.start
      rw [show z.1 = j by omega, List.getElem?_append_left (by rw [List.length_map]; exact (List.getElem?_eq_some_iff.mp e4).1)]
      exact vmap.mpr e4
  refine ⟨_, pss_w, hbody cdv A1 outer s H E B as r as' hr hf hB _ HF H Sl0 Bn0 _ ?_⟩
  have fin : ∀ a ρ σ HF' H' x, PR r as' a ρ → Sl K ρ σ HF' H' → Bn B ρ σ HF' H' → RRel K B.H0 HF' H' x a → Q x H' := fun a ρ σ HF' H' x pr S2 b2 rr => by
    obtain ⟨rfl, hro⟩ := pr
    have onlyL : ∀ b, OwnAt as (vs.map some) b ↔ ∃ z ∈ B.L, z.2 = b := fun b => by
      constructor
      · rintro ⟨i, c, h1, h2, h3⟩
        exact ⟨(i, b), lentOf_mem.mpr ⟨i, c, by omega, h1, h2, vmap.mp h3⟩, rfl⟩
      · rintro ⟨z, hz, rfl⟩
        obtain ⟨j, c, e1, e2, e3, e4⟩ := lentOf_mem.mp (show (z.1, z.2) ∈ lentOf 0 as vs from hz)
        exact ⟨j, c, e2, e3, vmap.mpr e4⟩
    refine q x HF' H' ⟨?_, S2.sub, fun i c h => ?_, fun i j c d p h1 h2 o1 o2 e1 e2 => ?_⟩ ⟨hsh, b2.hf, fun b o h n => b2.keep b o (fun z hz e => n ((onlyL b).mpr ⟨z, hz, e⟩)) h, b2.new, b2.pres⟩ rr
    · rw [S1.len, hsh.1]
    · obtain ⟨c0, g1, g2, g3⟩ := hsh.back h
      obtain ⟨u, e, z⟩ := S1.slot i c0 g1
      refine ⟨u, e, ?_⟩
      cases ho : c.own with
      | true =>
        obtain ⟨v, rfl, p, o, rfl, _⟩ := (arel_own (g2 ▸ ho)).mp z
        have hm : (i, p) ∈ B.L := lentOf_mem.mpr ⟨i, c0, by omega, g1, g2 ▸ ho, vmap.mp e⟩
        obtain ⟨p2, o2, e2, k1, k2, k3⟩ := S2.ownAt (hro i c h ho) ho
        rw [b2.lent _ hm] at e2
        cases e2
        exact (arel_own ho).mpr ⟨_, rfl, p, o2, rfl, k1, k2, k3⟩
      | false =>
        have := g3 (by rw [← g2]; exact ho)
        subst this
        exact arel_mono z b2.hf fun _ _ _ _ _ o => by rw [ho] at o; cases o
    · obtain ⟨c0, g1, g2, _⟩ := hsh.back h1
      obtain ⟨d0, k1, k2, _⟩ := hsh.back h2
      exact S1.apart i j c0 d0 p g1 k1 (by rw [← g2]; exact o1) (by rw [← k2]; exact o2) e1 e2
  exact ⟨fun ρ σ HF' H' p S2 b2 _ => fin _ ρ σ HF' H' .non p S2 b2 .non, fun a ρ σ HF' H' x p S2 b2 rr => fin a ρ σ HF' H' x p S2 b2 rr, fun _ _ _ _ p => p.elim, fun _ _ _ _ p => p.elim⟩
end

/-! ### a call -/
def toA (ρ : Rho) : Arg → A
  | .dat v => .d v
  | .lent i => ρ.getD i .any
def back : List Arg → List A → Rho → Rho
  | .lent i :: l, a :: as, ρ => back l as (ρ.set i a)
  | _ :: l, _ :: as, ρ => back l as ρ
  | _, _, ρ => ρ
def lents : List Arg → List Nat
  | .lent i :: l => i :: lents l
  | _ :: l => lents l
  | [] => []
abbrev EA (X : Cx) (es : List Expr) (ρ : Rho) (l : List Arg) (ρ' : Rho) : Prop := EvA X.K (wA X es) ρ l ρ'
section
variable {X : Cx} {B : Bs} {P : Pst} {ρ ρ1 ρ2 ρ3 : Rho} {e e1 e2 : Expr} {es : List Expr} {pos : Pos} {a : A} {b : Bool} {u v w z : PyData} {ds : List PyData} {l : List Arg} {k1 : Option Nat}
theorem a_nil : EA X [] ρ [] ρ := fun σ HF H S Q q => ⟨_, pa_nil, ea_nil σ HF H S Q q⟩
theorem a_dat (h : E X e ρ (.d v) ρ1) (hr : EA X es ρ1 l ρ2) (hs : starEach (e :: es) X.env = (false, eval e X.env) :: starEach es X.env := by rfl) : EA X (e :: es) ρ (.dat v :: l) ρ2 := fun σ HF H S Q q => ⟨_, pa_cons pe_w pa_w hs, ea_cons h hr σ HF H S Q q⟩
theorem a_lent (i : Nat) {x : Str} (h : ρ[i]? = some a) (ho : a.own = true) (hr : EA X es ρ l ρ2) (hN : X.N[i]? = some x := by rfl) (hv : Vis X.env.scope x := by first | exact Or.inl rfl | exact Or.inr (Or.inl rfl) | exact Or.inr (Or.inr rfl))
    (hd : (x == ("__debug__" : Str)) = false := by decide) (hcd : (x == ("__classdict__" : Str)) = false := by decide) (hs : starEach (.Name x pos :: es) X.env = (false, eval (.Name x pos) X.env) :: starEach es X.env := by rfl) : EA X (.Name x pos :: es) ρ (.lent i :: l) ρ2 :=
  fun σ HF H S Q q => ⟨_, pa_cons (pe_var hN hv hd hcd) pa_w hs, ea_lent h ho hr σ HF H S Q q⟩

theorem back_get : ∀ {l : List Arg} {as : List A} {ρ : Rho} {j : Nat} {c : A}, (lents l).Nodup → l.length = as.length → (back l as ρ)[j]? = some c →
    (j ∉ lents l ∧ ρ[j]? = some c) ∨ (∃ m : Nat, l[m]? = some (.lent j) ∧ as[m]? = some c ∧ j < ρ.length)
  | [], [], ρ, j, c, _, _, h => .inl ⟨by simp [lents], h⟩
  | [], _ :: _, _, _, _, _, hl, _ => by simp at hl
  | _ :: _, [], _, _, _, _, hl, _ => by simp at hl
  | .dat v :: l, a :: as, ρ, j, c, nd, hl, h => by
    rcases back_get (l := l) (as := as) (ρ := ρ) nd (by simpa using hl) h with h | ⟨m, h1, h2, h3⟩
    · exact .inl h
    · exact .inr ⟨m + 1, by simpa using h1, by simpa using h2, h3⟩
  | .lent i :: l, a :: as, ρ, j, c, nd, hl, h => by
    have nd' := List.nodup_cons.mp nd
    rcases back_get (l := l) (as := as) (ρ := ρ.set i a) nd'.2 (by simpa using hl) h with ⟨h1, h2⟩ | ⟨m, h1, h2, h3⟩
    · by_cases hj : i = j
      · subst hj
        have hlt := (List.getElem?_eq_some_iff.mp h2).1
        rw [List.length_set] at hlt
        rw [List.getElem?_set_self hlt] at h2
        exact .inr ⟨0, rfl, h2, hlt⟩
      · rw [List.getElem?_set_ne hj] at h2
        exact .inl ⟨fun z => (List.mem_cons.mp z).elim (fun e => hj e.symm) h1, h2⟩
    · rw [List.length_set] at h3
      exact .inr ⟨m + 1, by simpa using h1, by simpa using h2, h3⟩
theorem back_len : ∀ {l : List Arg} {as : List A} {ρ : Rho}, (back l as ρ).length = ρ.length
  | [], as, ρ => by unfold back; rfl
  | .dat v :: l, [], ρ => by unfold back; rfl
  | .lent v :: l, [], ρ => by unfold back; rfl
  | .dat v :: l, a :: as, ρ => by unfold back; exact back_len
  | .lent i :: l, a :: as, ρ => by unfold back; rw [back_len, List.length_set]
theorem lents_mem : ∀ {l : List Arg} {j : Nat}, j ∈ lents l ↔ ∃ m : Nat, l[m]? = some (Arg.lent j)
  | [], j => by simp [lents]
  | .dat v :: l, j => by
    have ih := @lents_mem l j
    show j ∈ lents l ↔ _
    rw [ih]
    constructor
    · rintro ⟨m, h⟩
      exact ⟨m + 1, by simpa using h⟩
    · rintro ⟨m, h⟩
      cases m with
      | zero => simp at h
      | succ m => exact ⟨m, by simpa using h⟩
  | .lent i :: l, j => by
    have ih := @lents_mem l j
    show j ∈ i :: lents l ↔ _
    rw [List.mem_cons, ih]
    constructor
    · rintro (rfl | ⟨m, h⟩)
      · exact ⟨0, rfl⟩
      · exact ⟨m + 1, by simpa using h⟩
    · rintro ⟨m, h⟩
      cases m with
      | zero => simp at h; exact .inl h.symm
      | succ m => exact .inr ⟨m, by simpa using h⟩
theorem paired_get? {α β : Type} {G : α → β → Prop} : ∀ {l₁ : List α} {l₂ : List β}, Paired G l₁ l₂ → ∀ {i : Nat} {a : α} {b : β}, l₁[i]? = some a → l₂[i]? = some b → G a b
  | _, _, .nil, _, _, _, h, _ => by simp at h
  | _, _, .cons r _, 0, _, _, h1, h2 => by simp at h1 h2; subst h1; subst h2; exact r
  | _, _, .cons _ t, i + 1, _, _, h1, h2 => paired_get? t (i := i) (by simpa using h1) (by simpa using h2)
theorem lents_nd {l : List Arg} (nd : (lents l).Nodup) : ∀ {m n j : Nat}, l[m]? = some (Arg.lent j) → l[n]? = some (Arg.lent j) → m = n := by
  induction l with
  | nil => intro m n j h; simp at h
  | cons c l ih =>
    intro m n j h1 h2
    cases c with
    | dat v =>
      cases m with
      | zero => simp at h1
      | succ m =>
        cases n with
        | zero => simp at h2
        | succ n => exact congrArg (· + 1) (ih nd (by simpa using h1) (by simpa using h2))
    | lent i =>
      have nd' := List.nodup_cons.mp nd
      cases m with
      | zero =>
        cases n with
        | zero => rfl
        | succ n =>
          simp at h1
          subst h1
          exact (nd'.1 (lents_mem.mpr ⟨n, by simpa using h2⟩)).elim
      | succ m =>
        cases n with
        | zero =>
          simp at h2
          subst h2
          exact (nd'.1 (lents_mem.mpr ⟨m, by simpa using h1⟩)).elim
        | succ n => exact congrArg (· + 1) (ih nd'.2 (by simpa using h1) (by simpa using h2))
/-- the slots around a call -/
theorem args_in {K : PySem.W.Frag} {σ : L2.St} {HF H : Hp} {vs : List V} (S1 : Sl K ρ σ HF H) (nd : (lents l).Nodup) (r : Paired (ArgR K ρ σ HF) vs l) : Sl K (l.map (toA ρ)) (vs.map some) HF H := by
  have hl : vs.length = l.length := Paired.length r
  have vmap : ∀ {i : Nat} {v : V}, (vs.map some)[i]? = some (some v) ↔ vs[i]? = some v := fun {i v} => by
    rw [List.getElem?_map]
    cases vs[i]? <;> simp
  refine ⟨by rw [List.length_map, List.length_map]; exact hl, S1.sub, fun i a h => ?_, fun i j a b p h1 h2 o1 o2 e1 e2 => ?_⟩
  · rw [List.getElem?_map] at h
    cases hc : l[i]? with
    | none => rw [hc] at h; cases h
    | some c =>
      rw [hc] at h
      have h : toA ρ c = a := Option.some.inj h
      have hi : i < vs.length := by rw [hl]; exact (List.getElem?_eq_some_iff.mp hc).1
      have hv := List.getElem?_eq_getElem hi
      have g := paired_get? r hv hc
      refine ⟨_, vmap.mpr hv, ?_⟩
      cases c with
      | dat v => subst h; exact ⟨_, rfl, g⟩
      | lent j =>
        obtain ⟨e, a', e2, ho⟩ := (show σ[j]? = some (some vs[i]) ∧ ∃ a, ρ[j]? = some a ∧ a.own = true from g)
        have : a' = a := by
          have : ρ.getD j .any = a := h
          rw [List.getD_eq_getElem?_getD, e2] at this
          exact this
        subst this
        obtain ⟨s, e3, z⟩ := S1.slot j a' e2
        rw [e] at e3
        cases e3
        exact z
  · have bk : ∀ (i : Nat) (a : A), (l.map (toA ρ))[i]? = some a → a.own = true → (vs.map some)[i]? = some (some (V.ref p)) → ∃ j : Nat, l[i]? = some (Arg.lent j) ∧ σ[j]? = some (some (V.ref p)) ∧ ρ[j]? = some a := fun i a h o e => by
      rw [List.getElem?_map] at h
      cases hc : l[i]? with
      | none => rw [hc] at h; cases h
      | some c =>
        rw [hc] at h
        have h : toA ρ c = a := Option.some.inj h
        cases c with
        | dat v => subst h; cases o
        | lent j =>
          obtain ⟨e1, a', e2, ho⟩ := (show σ[j]? = some (some (V.ref p)) ∧ ∃ a, ρ[j]? = some a ∧ a.own = true from paired_get? r (vmap.mp e) hc)
          have : a' = a := by
            have : ρ.getD j .any = a := h
            rw [List.getD_eq_getElem?_getD, e2] at this
            exact this
          subst this
          exact ⟨j, rfl, e1, e2⟩
    obtain ⟨m, g1, g2, g3⟩ := bk i a h1 o1 e1
    obtain ⟨n, k1, k2, k3⟩ := bk j b h2 o2 e2
    have := S1.apart m n a b p g3 k3 o1 o2 g2 k2
    subst this
    exact lents_nd nd g1 k1
theorem args_out {K : PySem.W.Frag} {σ : L2.St} {HF H HF' H' : Hp} {vs : List V} {as' : List A} (S1 : Sl K ρ σ HF H) (nd : (lents l).Nodup) (r : Paired (ArgR K ρ σ HF) vs l) (S2 : Sl K as' (vs.map some) HF' H') (f : Fw (l.map (toA ρ)) as' (vs.map some) HF H HF' H') :
    Sl K (back l as' ρ) σ HF' H' ∧ Fw ρ (back l as' ρ) σ HF H HF' H' := by
  have hl : vs.length = l.length := Paired.length r
  have hla : l.length = as'.length := by have := f.sh.1; rw [List.length_map] at this; exact this.symm
  have vmap : ∀ {i : Nat} {v : V}, (vs.map some)[i]? = some (some v) ↔ vs[i]? = some v := fun {i v} => by
    rw [List.getElem?_map]
    cases vs[i]? <;> simp
  -- a lent place
  have lent : ∀ (m j : Nat) (c : A), l[m]? = some (Arg.lent j) → as'[m]? = some c → ∃ v a, vs[m]? = some v ∧ σ[j]? = some (some v) ∧ ρ[j]? = some a ∧ a.own = true ∧ c.own = true := fun m j c h1 h2 => by
    have hi : m < vs.length := by rw [hl]; exact (List.getElem?_eq_some_iff.mp h1).1
    have hv := List.getElem?_eq_getElem hi
    obtain ⟨e, a, e2, ho⟩ := paired_get? r hv h1
    obtain ⟨c0, g1, g2, _⟩ := f.sh.back h2
    rw [List.getElem?_map, h1] at g1
    have : ρ.getD j .any = c0 := Option.some.inj g1
    rw [List.getD_eq_getElem?_getD, e2] at this
    have this : a = c0 := this
    subst this
    exact ⟨_, a, hv, e, e2, ho, g2.trans ho⟩
  have ownIn : ∀ p, OwnAt (l.map (toA ρ)) (vs.map some) p → ∃ j, j ∈ lents l ∧ σ[j]? = some (some (V.ref p)) ∧ ∃ a, ρ[j]? = some a ∧ a.own = true := by
    rintro p ⟨i, a, h1, h2, h3⟩
    rw [List.getElem?_map] at h1
    cases hc : l[i]? with
    | none => rw [hc] at h1; cases h1
    | some c =>
      rw [hc] at h1
      have h1 : toA ρ c = a := Option.some.inj h1
      cases c with
      | dat v => subst h1; cases h2
      | lent j =>
        obtain ⟨e, a', e2, ho⟩ := paired_get? r (vmap.mp h3) hc
        exact ⟨j, lents_mem.mpr ⟨i, hc⟩, e, a', e2, ho⟩
  have keep : ∀ b o, H b = some o → ¬ OwnAt ρ σ b → H' b = some o := fun b o h n => f.keep b o h fun z => by
    obtain ⟨j, _, h2, a, h3, h4⟩ := ownIn b z
    exact n ⟨j, a, h3, h4, h2⟩
  have shp : Shape ρ (back l as' ρ) := by
    refine ⟨back_len, fun i a h => ?_⟩
    have hi : i < (back l as' ρ).length := by rw [back_len]; exact (List.getElem?_eq_some_iff.mp h).1
    have e := List.getElem?_eq_getElem hi
    refine ⟨_, e, ?_⟩
    rcases back_get nd hla e with ⟨_, h2⟩ | ⟨m, h2, h3, _⟩
    · rw [h] at h2
      rw [← Option.some.inj h2]
      exact ⟨rfl, fun _ => rfl⟩
    · obtain ⟨v, a2, _, _, g3, g4, g5⟩ := lent m i _ h2 h3
      rw [h] at g3
      cases g3
      exact ⟨g5.trans g4.symm, fun z => by rw [g4] at z; cases z⟩
  refine ⟨⟨by rw [back_len]; exact S1.len, S2.sub, fun j c h => ?_, fun i j c d p h1 h2 o1 o2 e1 e2 => ?_⟩, ⟨shp, f.hf, keep, f.new, f.pres⟩⟩
  · rcases back_get nd hla h with ⟨hn, h2⟩ | ⟨m, h2, h3, _⟩
    · obtain ⟨s, e, z⟩ := S1.slot j c h2
      refine ⟨s, e, arel_mono z f.hf fun p o e1 g1 g2 ho => ?_⟩
      have no : ¬ OwnAt (l.map (toA ρ)) (vs.map some) p := fun z => by
        obtain ⟨i, k1, k2, a, k3, k4⟩ := ownIn p z
        have := S1.apart i j a c p k3 h2 k4 ho k2 (by rw [e, e1])
        subst this
        exact hn k1
      exact ⟨f.hfn g1 g2, f.keep p o g2 no⟩
    · obtain ⟨v, a2, g1, g2, g3, g4, g5⟩ := lent m j c h2 h3
      obtain ⟨s, e, z⟩ := S2.slot m c h3
      rw [vmap.mpr g1] at e
      cases e
      exact ⟨_, g2, z⟩
  · obtain ⟨c0, g1, g2, _⟩ := shp.back h1
    obtain ⟨d0, k1, k2, _⟩ := shp.back h2
    exact S1.apart i j c0 d0 p g1 k1 (by rw [← g2]; exact o1) (by rw [← k2]; exact o2) e1 e2
theorem rrel_fresh {K : PySem.W.Frag} {H H1 HF' H' : Hp} {x : V} (h : ∀ p, H1 p = none → H p = none) (r : RRel K H1 HF' H' x a) : RRel K H HF' H' x a := by
  cases ho : a.own with
  | true =>
    obtain ⟨p, o, q1, q2, q3⟩ := (rrel_own ho).mp r
    exact (rrel_own ho).mpr ⟨p, o, q1, h p q2, q3⟩
  | false => cases a <;> first | exact r | exact tw_fresh h r | exact dl_fresh h r | exact Nw.fresh _ h r | cases ho
theorem e_call {Fx : Fs} {k : Nat} {f : Addr} {fd : FuncData} {ps : List Str} {x : Str} {p : Pos} {r : A} {as' : List A} (G : FnOk X.prog X.w X.K X.mg X.base CX0 k f fd ps (spA X.K Fx)) (hr : Room k X.A) (hm : X.mg x = some (.ref f)) (hk : PySem.W.keepIn X.K (.ref f) = true) (hb : Binds X.K fd ps [])
    (ha : EA X (e :: es) ρ l ρ1) (hF : Fx (l.map (toA ρ1)) r as') (hsh : Shape (l.map (toA ρ1)) as') (nd : (lents l).Nodup) (hx : ∀ v s, (fun _ _ => False) v s → X.xe v s) (hg : Gl X x := by rfl) (hdb : (x == ("__debug__" : Str)) = false := by decide) (he : starEach (e :: es) X.env = (false, eval e X.env) :: starEach es X.env := by rfl) (hpl : (backTo pos (starEach es X.env)).any (·.1) = false := by rfl) :
    E X (.Call (.Name x p) (e :: es) [] pos) ρ r (back l as' ρ1) :=
  .of (pe_call (E := fun _ _ _ => False) G hr hg hm hk hb .nil (fun _ _ _ _ _ _ _ h => h.elim) pa_w hdb he hpl) fun σ HF H S Q q => ha σ HF H S _ fun vs HF1 H1 S1 f1 r1 => by
    rw [List.append_nil]
    refine ⟨HF1, _, r, as', args_in S1 nd r1, hF, hsh, fun y HF2 H2 S2 f2 rr => ?_⟩
    obtain ⟨S3, f3⟩ := args_out S1 nd r1 S2 f2
    exact q y HF2 H2 S3 (f1.trans f3) (rrel_fresh (fun p h => f1.fresh h) rr)
/-- pure: data in -/
def pure_ (F : List PyData → A → Prop) : Fs := fun as r as' => ∃ ds, as = ds.map A.d ∧ as' = as ∧ F ds r
theorem dat_args {K : PySem.W.Frag} {σ : L2.St} {HF : Hp} : ∀ {xs : List V} {ds : List PyData}, DpAll K HF xs ds → Paired (ArgR K ρ σ HF) xs (ds.map Arg.dat)
  | _, _, .nil => .nil
  | _, _, .cons h t => .cons h (dat_args t)
theorem EvD.args {K : PySem.W.Frag} {ta : TA} (h : EvD K ta ρ ds ρ1) : EvA K ta ρ (ds.map Arg.dat) ρ1 := fun σ HF H S Q q => h σ HF H S Q fun xs HF' H' S' f r => q xs HF' H' S' f (dat_args r)
end
end Th

set_option Elab.async false
set_option linter.all false
set_option maxRecDepth 100000
namespace Th
open PySem PySem.Spec PyProof.Rows L2

/-! ### what is walked -/
/-- what a turn yields: data that stands, or a new tuple -/
def Yld (K : PySem.W.Frag) (HF H : Hp) (x : V) (H2 : Hp) (v : PyData) : Prop :=
  (H2 = H ∧ Dp K HF x v) ∨ ∃ T ys vs, H T = none ∧ H2 = upd H T (.tup ys) ∧ x = .ref T ∧ v = .tuple vs ∧ DpAll K HF ys vs
structure SrcAt (K : PySem.W.Frag) (J : It) (ds : List PyData) (HF H : Hp) : Prop where
  go : ∀ i, i < ds.length → J.go i H
  stop : J.stop ds.length H
  yld : ∀ i x H2, i < ds.length → J.yld i H x H2 → ∃ v, ds[i]? = some v ∧ Yld K HF H x H2 v
def Src (X : Cx) (tg iter : Expr) (ρ : Rho) (ds : List PyData) (ρ1 : Rho) (k : Option Nat) : Prop := ∃ wi, PI X tg iter wi ∧ ∀ σ HF H, Sl X.K ρ σ HF H → ∀ R : It → Hp → Prop,
  (∀ J HF1 H1, Sl X.K ρ1 σ HF1 H1 → Fw ρ ρ1 σ HF H HF1 H1 → (∀ σ2 ρ2 HF2 H2, (∀ j, k = some j → σ2[j]? = σ[j]?) → Kp k ρ1 ρ2 → Sl X.K ρ2 σ2 HF2 H2 → Same HF1 HF2 → SrcAt X.K J ds HF2 H2) → R J H1) → wi σ H R
section
variable {X : Cx} {B : Bs} {P : Pst} {ρ ρ1 ρ2 ρ3 : Rho} {tg iter e e1 e2 : Expr} {es : List Expr} {pos : Pos} {a : A} {b : Bool} {u v w z : PyData} {ds : List PyData} {k : Option Nat}
theorem srcAt_l {K : PySem.W.Frag} {HF H : Hp} {p : Addr} {ys : List V} (s : Same HF H) (h1 : SqL K H p ys) (h2 : DpAll K HF ys ds) : SrcAt K (Itl K p) ds HF H := by
  refine ⟨fun i hi => ?_, ⟨ys, h1, by rw [dpa_len h2]; exact Nat.le_refl _⟩, fun i x H2 hi ⟨e, y⟩ => ?_⟩
  · obtain ⟨y, g, _⟩ := dpa_get h2 (List.getElem?_eq_getElem hi)
    exact ⟨ys, y, h1, g⟩
  · obtain ⟨v, g1, g2⟩ := dpa_get' h2 (y ys h1)
    exact ⟨v, g1, .inl ⟨e, g2⟩⟩
theorem srcAt_t {K : PySem.W.Frag} {HF H : Hp} {p : Addr} {ys : List V} (s : Same HF H) (h1 : SqT K H p ys) (h2 : DpAll K HF ys ds) : SrcAt K (Itt K p) ds HF H := by
  refine ⟨fun i hi => ?_, ⟨ys, h1, by rw [dpa_len h2]; exact Nat.le_refl _⟩, fun i x H2 hi ⟨e, y⟩ => ?_⟩
  · obtain ⟨y, g, _⟩ := dpa_get h2 (List.getElem?_eq_getElem hi)
    exact ⟨ys, y, h1, g⟩
  · obtain ⟨v, g1, g2⟩ := dpa_get' h2 (y ys h1)
    exact ⟨v, g1, .inl ⟨e, g2⟩⟩
theorem src_l (h : E X iter ρ (.d (.list ds)) ρ1) : Src X tg iter ρ ds ρ1 none := ⟨_, pi_list pe_w, fun σ HF H S1 R q => h σ HF H S1 _ fun x HF1 H1 S2 f1 r1 => by
  cases (show Dp X.K HF1 x (.list ds) from r1) with
  | @lst p ys _ h1 h2 => exact ⟨p, rfl, ⟨ys, same_l S2.sub h1⟩, q _ HF1 H1 S2 f1 fun σ2 ρ2 HF2 H2 _ _ S3 s3 => srcAt_l S3.sub (same_l S3.sub (same_l s3 h1)) (dpa_mono s3 h2)⟩⟩
theorem src_t (h : E X iter ρ (.d (.tuple ds)) ρ1) : Src X tg iter ρ ds ρ1 none := ⟨_, pi_tup pe_w, fun σ HF H S1 R q => h σ HF H S1 _ fun x HF1 H1 S2 f1 r1 => by
  cases (show Dp X.K HF1 x (.tuple ds) from r1) with
  | @tup p ys _ h1 h2 => exact ⟨p, rfl, ⟨ys, same_t S2.sub h1⟩, q _ HF1 H1 S2 f1 fun σ2 ρ2 HF2 H2 _ _ S3 s3 => srcAt_t S3.sub (same_t S3.sub (same_t s3 h1)) (dpa_mono s3 h2)⟩⟩
/-- over an own list in a slot -/
theorem src_o (i : Nat) {x : Str} (h : ρ[i]? = some (.ml ds)) (hN : X.N[i]? = some x := by rfl) (hv : Vis X.env.scope x := by first | exact Or.inl rfl | exact Or.inr (Or.inl rfl) | exact Or.inr (Or.inr rfl))
    (hd : (x == ("__debug__" : Str)) = false := by decide) (hcd : (x == ("__classdict__" : Str)) = false := by decide) : Src X tg (.Name x pos) ρ ds ρ (some i) := ⟨_, pi_list (pe_var hN hv hd hcd), fun σ HF H S1 R q => by
  obtain ⟨p, o, e, h1, h2, h3⟩ := S1.ownAt h rfl
  cases o <;> first | exact h3.elim | skip
  refine ⟨.ref p, e, p, rfl, ⟨_, .inl (.inl h2)⟩, q _ HF H S1 (.refl ..) fun σ2 ρ2 HF2 H2 hs hk S3 _ => ?_⟩
  obtain ⟨p', o', e', g1, g2, g3⟩ := S3.ownAt ((show ρ2[i]? = ρ[i]? from hk).trans h) rfl
  rw [hs i rfl, e] at e'
  cases e'
  cases o' <;> first | exact g3.elim | skip
  exact srcAt_l S3.sub (.inl (.inl g2)) g3⟩
def rangeD (lo : Int) (n : Nat) : List PyData := (List.range n).map fun i => .int (lo + (i : Nat))
theorem rangeD_len (lo : Int) (n : Nat) : (rangeD lo n).length = n := by unfold rangeD; simp
theorem rangeD_get {lo : Int} {n i : Nat} {v : PyData} (h : (rangeD lo n)[i]? = some v) : i < n ∧ v = .int (lo + (i : Nat)) := by
  have hi : i < n := by
    have := (List.getElem?_eq_some_iff.mp h).1
    rwa [rangeD_len] at this
  unfold rangeD at h
  rw [List.getElem?_map, List.getElem?_range hi] at h
  exact ⟨hi, (Option.some.inj h).symm⟩
theorem srcAt_r {K : PySem.W.Frag} {HF H : Hp} (lo : Int) (n : Nat) : SrcAt K (Itr lo n) (rangeD lo n) HF H := by
  refine ⟨fun i hi => by rw [rangeD_len] at hi; exact hi, by rw [rangeD_len]; exact Nat.le_refl _, fun i x H2 hi ⟨e, y⟩ => ?_⟩
  rw [rangeD_len] at hi
  refine ⟨.int (lo + i), ?_, .inl ⟨e, by rw [y]; exact .int _⟩⟩
  unfold rangeD
  rw [List.getElem?_map, List.getElem?_range hi]
  rfl
theorem src_r1 {px pc : Pos} {n : Int} (h : E X e ρ (.d (.int n)) ρ1) (hm : X.mg "range" = none) (hn : -(2 ^ 62) ≤ n ∧ n < 2 ^ 62) (hg : Gl X "range" := by rfl) (hse : starEach [e] X.env = [(false, eval e X.env)] := by rfl) :
    Src X tg (.Call (.Name "range" px) [e] [] pc) ρ (rangeD 0 n.toNat) ρ1 none := ⟨_, pi_range1 hg hm (pa_cons pe_w pa_nil hse) hse, fun σ HF H S1 R q => h σ HF H S1 _ fun x HF1 H1 S2 f1 r1 => by
  cases r1
  exact ⟨n, rfl, hn.1, hn.2, q _ HF1 H1 S2 f1 fun σ2 ρ2 HF2 H2 _ _ _ _ => srcAt_r 0 _⟩⟩
theorem src_r2 {px pc : Pos} {n m : Int} (h : E X e1 ρ (.d (.int m)) ρ1) (h2 : E X e2 ρ1 (.d (.int n)) ρ2) (hm : X.mg "range" = none) (hn : -(2 ^ 62) ≤ m ∧ m < 2 ^ 62 ∧ -(2 ^ 62) ≤ n ∧ n < 2 ^ 62) (hg : Gl X "range" := by rfl)
    (hse : starEach [e1, e2] X.env = [(false, eval e1 X.env), (false, eval e2 X.env)] := by rfl) (hse2 : starEach [e2] X.env = [(false, eval e2 X.env)] := by rfl) :
    Src X tg (.Call (.Name "range" px) [e1, e2] [] pc) ρ (rangeD m (n - m).toNat) ρ2 none := ⟨_, pi_range2 hg hm (pa_cons pe_w (pa_cons pe_w pa_nil hse2) (by rw [hse, hse2])) hse hse2, fun σ HF H S1 R q => h σ HF H S1 _ fun x HF1 H1 S2 f1 r1 => h2 σ HF1 H1 S2 _ fun y HF2 H2 S3 f2 r2 => by
  cases r1
  cases r2
  exact ⟨m, n, rfl, hn, q _ HF2 H2 S3 (f1.trans f2) fun σ2 ρ2 HF2 H2 _ _ _ _ => srcAt_r m _⟩⟩

/-- what a turn yields stands as data -/
theorem yld_d {K : PySem.W.Frag} {σ : L2.St} {HF H H2 : Hp} {x : V} (S1 : Sl K ρ σ HF H) (y : Yld K HF H x H2 v) : ∃ HF2, Sl K ρ σ HF2 H2 ∧ Fw ρ ρ σ HF H HF2 H2 ∧ Dp K HF2 x v := by
  rcases y with ⟨rfl, h⟩ | ⟨T, ys, vs, h1, rfl, rfl, rfl, h2⟩
  · exact ⟨HF, S1, .refl .., h⟩
  · obtain ⟨S2, f2⟩ := S1.allocD h1 (.tup ys)
    exact ⟨_, S2, f2, .tup (.inl (.inl upd_same)) (dpa_mono f2.hf h2)⟩

/-! ### for -/
theorem s_for {body : List Stmt} (hi : Src X tg iter ρ ds ρ1 none) (I : Nat → Rho → Prop) (h0 : I 0 ρ1)
    (hb : ∀ i v ρ', ds[i]? = some v → I i ρ' → ∃ ρ2, GT X B tg v ρ' ρ2 ∧ Ss X B body ρ2 (bodyP P (I (i + 1)))) (hd : ∀ ρ', I ds.length ρ' → P.nx ρ')
    (hp : PassesOwn (model X.prog X.w) X.A X.env X.xe) (hc : X.calm = true := by rfl) (hs : ∀ x, foldedSetIterable iter X.env x = pure x := by intro _; rfl) : S X B (.For tg iter body [] pos) ρ P := by
  obtain ⟨wi, h1, h2⟩ := hi
  refine .of (ps_for hp hc h1 pg_w pss_w hs) fun σ HF H S1 b D o => h2 σ HF H S1 _ fun J HF1 H1 S2 f1 src => ?_
  refine ⟨fun i m σ' H' => m = ds.length - i ∧ i ≤ ds.length ∧ ∃ ρ' HF', I i ρ' ∧ Sl X.K ρ' σ' HF' H' ∧ Bn B ρ' σ' HF' H' ∧ Same HF1 HF', ⟨ds.length, by simp, Nat.zero_le _, ρ1, HF1, h0, S2, b.fw f1, .refl _⟩, ?_⟩
  rintro i m σ' H' ⟨rfl, hle, ρ', HF', hI, S', b', s'⟩
  have sr := src σ' ρ' HF' H' (fun _ z => nomatch z) trivial S' s'
  by_cases hlt : i < ds.length
  · refine .inr ⟨sr.go i hlt, fun σ3 H3 => i + 1 ≤ ds.length ∧ ∃ ρ3 HF3, I (i + 1) ρ3 ∧ Sl X.K ρ3 σ3 HF3 H3 ∧ Bn B ρ3 σ3 HF3 H3 ∧ Same HF1 HF3, fun σ3 H3 n3 => ⟨ds.length - (i + 1), by omega, rfl, n3.1, n3.2⟩, fun x H2 y => ?_⟩
    obtain ⟨v, e, y⟩ := sr.yld i x H2 hlt y
    obtain ⟨HF2, S2', f2, r2⟩ := yld_d S' y
    obtain ⟨ρ2, hg, hbd⟩ := hb i v ρ' e hI
    refine hg x σ' HF2 H2 S2' r2 _ fun σ2 S3 b3 => hbd σ2 HF2 H2 S3 (b3 (b'.fw f2)) _ ?_
    exact ok_body ((o.up f1.hf).up (s'.trans f2.hf)) fun ρ3 σ3 HF3 H3 i3 S4 b4 s4 => ⟨hlt, ρ3, HF3, i3, S4, b4, (s'.trans f2.hf).trans s4⟩
  · have e : i = ds.length := by omega
    subst e
    exact .inl ⟨sr.stop, o.nx ρ' σ' HF' H' (hd ρ' hI) S' b' (f1.hf.trans s')⟩

/-! ### a list comprehension -/
def wipeR (ρ : Rho) : List Nat → Rho
  | [] => ρ
  | v :: vs => (wipeR ρ vs).set v .any
theorem wipeR_len (ρ : Rho) : ∀ vs : List Nat, (wipeR ρ vs).length = ρ.length
  | [] => rfl
  | v :: vs => by unfold wipeR; rw [List.length_set, wipeR_len ρ vs]
theorem wipeR_get {ρ : Rho} {i : Nat} {a : A} : ∀ {vs : List Nat}, (wipeR ρ vs)[i]? = some a → (i ∉ vs ∧ ρ[i]? = some a) ∨ (i ∈ vs ∧ a = .any ∧ i < ρ.length)
  | [], h => .inl ⟨by simp, h⟩
  | v :: vs, h => by
    unfold wipeR at h
    by_cases hi : v = i
    · subst hi
      have hl := (List.getElem?_eq_some_iff.mp h).1
      rw [List.length_set] at hl
      rw [List.getElem?_set_self hl] at h
      rw [wipeR_len] at hl
      exact .inr ⟨List.mem_cons_self, (Option.some.inj h).symm, hl⟩
    · rw [List.getElem?_set_ne hi] at h
      rcases wipeR_get h with ⟨h1, h2⟩ | ⟨h1, h2⟩
      · exact .inl ⟨fun z => (List.mem_cons.mp z).elim (fun e => hi e.symm) h1, h2⟩
      · exact .inr ⟨List.mem_cons_of_mem _ h1, h2⟩
theorem wipeR_off {ρ : Rho} {i : Nat} : ∀ {vs : List Nat}, i ∉ vs → (wipeR ρ vs)[i]? = ρ[i]?
  | [], _ => rfl
  | v :: vs, h => by
    unfold wipeR
    rw [List.getElem?_set_ne fun e => h (by rw [e]; exact List.mem_cons_self)]
    exact wipeR_off fun z => h (List.mem_cons_of_mem _ z)
theorem wipe_off {σ : L2.St} {i : Nat} : ∀ {vs : List Nat}, i ∉ vs → (wipe σ vs)[i]? = σ[i]?
  | [], _ => rfl
  | v :: vs, h => by
    unfold wipe
    rw [List.getElem?_set_ne fun e => h (by rw [e]; exact List.mem_cons_self)]
    exact wipe_off fun z => h (List.mem_cons_of_mem _ z)
theorem wipe_on {σ : L2.St} {i : Nat} : ∀ {vs : List Nat}, i ∈ vs → i < σ.length → (wipe σ vs)[i]? = some none
  | [], h, _ => nomatch h
  | v :: vs, h, hl => by
    unfold wipe
    by_cases e : v = i
    · subst e
      rw [List.getElem?_set_self (by rw [wipe_length]; exact hl)]
    · rw [List.getElem?_set_ne e]
      exact wipe_on ((List.mem_cons.mp h).resolve_left fun z => e z.symm) hl
theorem wipe_set {σ : L2.St} {i : Nat} {x : Option V} : ∀ {vs : List Nat}, i ∈ vs → wipe (σ.set i x) vs = wipe σ vs := fun {vs} h => by
  apply List.ext_getElem?
  intro j
  by_cases hj : j ∈ vs
  · by_cases hl : j < σ.length
    · rw [wipe_on hj hl, wipe_on hj (by rw [List.length_set]; exact hl)]
    · rw [List.getElem?_eq_none (by rw [wipe_length, List.length_set]; omega), List.getElem?_eq_none (by rw [wipe_length]; omega)]
  · rw [wipe_off hj, wipe_off hj, List.getElem?_set_ne fun e => hj (by rw [← e]; exact h)]
theorem Sl.wipe {K : PySem.W.Frag} {σ : L2.St} {HF H : Hp} (S1 : Sl K ρ σ HF H) (vs : List Nat) : Sl K (wipeR ρ vs) (L2.wipe σ vs) HF H := by
  refine ⟨by rw [wipe_length, wipeR_len]; exact S1.len, S1.sub, fun i a h => ?_, fun i j a b p h1 h2 o1 o2 e1 e2 => ?_⟩
  · rcases wipeR_get h with ⟨h1, h2⟩ | ⟨h1, rfl, h3⟩
    · obtain ⟨s, e, z⟩ := S1.slot i a h2
      exact ⟨s, by rw [wipe_off h1]; exact e, z⟩
    · exact ⟨none, wipe_on h1 (by rw [S1.len]; exact h3), trivial⟩
  · rcases wipeR_get h1 with ⟨g1, g2⟩ | ⟨_, rfl, _⟩
    · rcases wipeR_get h2 with ⟨k1, k2⟩ | ⟨_, rfl, _⟩
      · rw [wipe_off g1] at e1
        rw [wipe_off k1] at e2
        exact S1.apart i j a b p g2 k2 o1 o2 e1 e2
      · cases o2
    · cases o1
/-- the targets of a comprehension: only its own slots are stored, by data -/
def Gc (K : PySem.W.Frag) (vs : List Nat) (g : TG) (v : PyData) (ρ ρ' : Rho) : Prop := (∀ i, i ∉ vs → ρ'[i]? = ρ[i]?) ∧ ρ'.length = ρ.length ∧ (∀ i a, i ∈ vs → ρ[i]? = some a → a.own = false) ∧ (∀ i a, i ∈ vs → ρ'[i]? = some a → a.own = false) ∧
  ∀ x σ HF H, Sl K ρ σ HF H → Dp K HF x v → ∀ Q : L2.St → Hp → Prop, (∀ σ', Sl K ρ' σ' HF H → L2.wipe σ' vs = L2.wipe σ vs → (∀ i, i ∉ vs → σ'[i]? = σ[i]?) → Q σ' H) → g x σ H Q
abbrev GC (X : Cx) (vs : List Nat) (tg : Expr) (v : PyData) (ρ ρ' : Rho) : Prop := Gc X.K vs (wG X tg) v ρ ρ'
theorem gc_name {vs : List Nat} (i : Nat) {x : Str} (ha : ∀ a, ρ[i]? = some a → a.own = false) (hv : ∀ j a, j ∈ vs → ρ[j]? = some a → a.own = false) (hm : i ∈ vs) (hN : X.N.Nodup) (hi : X.N[i]? = some x := by rfl) (hx : Loc X.env.scope x := by first | exact Or.inl rfl | exact Or.inr rfl) (hf : X.fn x = true ∨ X.env.scope.names.lookup x = some .local := by first | exact .inl rfl | exact .inr rfl) :
    GC X vs (.Name x pos) v ρ (ρ.set i (.d v)) := by
  refine ⟨fun j hj => List.getElem?_set_ne fun e => hj (by rw [← e]; exact hm), by rw [List.length_set], hv, fun j a hj e => ?_, fun y σ HF H Sl1 r Q q => ⟨_, pg_name hN hi hx hf, ?_⟩⟩
  · by_cases e2 : i = j
    · subst e2
      have hl := (List.getElem?_eq_some_iff.mp e).1
      rw [List.length_set] at hl
      rw [List.getElem?_set_self hl] at e
      rw [← Option.some.inj e]
      rfl
    · rw [List.getElem?_set_ne e2] at e
      exact hv j a hj e
  · have r1 : RRel X.K H HF H y (.d v) := r
    exact q _ (Sl.set (Hb := H) Sl1 r1 fun p hp z => Sl.notOwn Sl1 hp z) (wipe_set hm) fun j hj => List.getElem?_set_ne fun e => hj (by rw [← e]; exact hm)
def Gcs (K : PySem.W.Frag) (vs : List Nat) (g : TGs) (ws : List PyData) (ρ ρ' : Rho) : Prop := (∀ i, i ∉ vs → ρ'[i]? = ρ[i]?) ∧ ρ'.length = ρ.length ∧ (∀ i a, i ∈ vs → ρ[i]? = some a → a.own = false) ∧ (∀ i a, i ∈ vs → ρ'[i]? = some a → a.own = false) ∧
  ∀ xs σ HF H, Sl K ρ σ HF H → DpAll K HF xs ws → ∀ Q : L2.St → Hp → Prop, (∀ σ', Sl K ρ' σ' HF H → L2.wipe σ' vs = L2.wipe σ vs → (∀ i, i ∉ vs → σ'[i]? = σ[i]?) → Q σ' H) → g xs σ H Q
abbrev GCs (X : Cx) (vs : List Nat) (tgs : List Expr) (ws : List PyData) (ρ ρ' : Rho) : Prop := Gcs X.K vs (wGs X tgs) ws ρ ρ'
theorem gcs_nil {vs : List Nat} (hv : ∀ j a, j ∈ vs → ρ[j]? = some a → a.own = false) : GCs X vs [] [] ρ ρ := ⟨fun _ _ => rfl, rfl, hv, hv, fun xs σ HF H Sl1 r Q q => by
  cases r
  exact ⟨_, pgs_nil, rfl, q σ Sl1 rfl fun _ _ => rfl⟩⟩
theorem gcs_cons {vs : List Nat} {tgs : List Expr} {ws : List PyData} (h1 : GC X vs tg v ρ ρ1) (h2 : GCs X vs tgs ws ρ1 ρ2)
    (hs : (assignEach (tg :: tgs) X.env).map (·.2) = assign tg X.env :: (assignEach tgs X.env).map (·.2) := by rfl) : GCs X vs (tg :: tgs) (v :: ws) ρ ρ2 := by
  obtain ⟨a1, a2, a3, a4, a5⟩ := h1
  obtain ⟨b1, b2, b3, b4, b5⟩ := h2
  refine ⟨fun i hi => (b1 i hi).trans (a1 i hi), b2.trans a2, a3, b4, fun xs σ HF H Sl1 r Q q => ?_⟩
  cases r with
  | cons r rr =>
    exact ⟨_, pgs_cons pg_w pgs_w hs, _, _, rfl, a5 _ σ HF H Sl1 r _ fun σ1 S1 w1 o1 => b5 _ σ1 HF H S1 rr Q fun σ2 S2 w2 o2 => q σ2 S2 (w2.trans w1) fun i hi => (o2 i hi).trans (o1 i hi)⟩
theorem gc_tup {vs : List Nat} {k : Nat} {ws : List PyData} {n : Nat} (h : GCs X vs es ws ρ ρ1) (hz : ws.length = n := by rfl) (hc : X.calm = true := by rfl) (hn : (assignEach es X.env).length = n := by rfl) (hst : (assignEach es X.env).findIdx? (·.1) = none := by rfl) :
    GC X vs (.Tuple es k pos) (.tuple ws) ρ ρ1 := by
  obtain ⟨a1, a2, a3, a4, a5⟩ := h
  refine ⟨a1, a2, a3, a4, fun x σ HF H Sl1 r Q q => ⟨_, pg_tup hc pgs_w hn hst, ?_⟩⟩
  cases r with
  | tup h1 h2 => exact ⟨_, _, rfl, same_t Sl1.sub h1, (dpa_len h2).trans hz, a5 _ σ HF H Sl1 h2 Q q⟩
def wTs (X : Cx) (ifs : List Expr) : TT := fun σ H Q => ∃ t, PTs X ifs t ∧ t σ H Q
theorem pts_w {ifs : List Expr} : PTs X ifs (wTs X ifs) := ⟨fun pins s σ H Q I ⟨_, h, q⟩ => h.run pins s σ H Q I q⟩
abbrev EI (X : Cx) (ifs : List Expr) (ρ : Rho) (b : Bool) (ρ' : Rho) : Prop := EvT X.K (wTs X ifs) ρ b ρ'
theorem i_nil : EI X [] ρ true ρ := fun σ HF H S Q q => ⟨_, pts_nil, q HF H S (.refl ..)⟩
theorem i_one (h : ET X e ρ b ρ1) : EI X [e] ρ b ρ1 := fun σ HF H S Q q => ⟨_, pts_one pt_w, h σ HF H S Q q⟩
/-- the comprehension's own slots as they were, all else as it is behind the turns -/
def Unw (vs : List Nat) (ρ1 ρ' ρo : Rho) : Prop := ρo.length = ρ1.length ∧ (∀ i, i ∉ vs → ρo[i]? = ρ'[i]?) ∧ ∀ i, i ∈ vs → ρo[i]? = ρ1[i]? ∧ ∀ a, ρ1[i]? = some a → a.own = false
theorem unw_id {vs : List Nat} (h : ∀ i a, i ∈ vs → ρ1[i]? = some a → a.own = false) : Unw vs ρ1 (wipeR ρ1 vs) ρ1 := ⟨rfl, fun i hi => (wipeR_off hi).symm, fun i hi => ⟨rfl, fun a e => h i a hi e⟩⟩
/-- a list comprehension: its reading, also as one that is set to a name on its line -/
def ELc (X : Cx) (e : Expr) (ρ : Rho) (a : A) (ρ' : Rho) : Prop := ∀ σ HF H, Sl X.K ρ σ HF H → ∀ Q : VK, (∀ x HF' H', Sl X.K ρ' σ HF' H' → Fw ρ ρ' σ HF H HF' H' → RRel X.K H HF' H' x a → Q x H') →
  ∃ te : TE, PE X e te ∧ (∀ {i : Nat} {y : Str} {py spos : Pos}, X.N[i]? = some y → X.env.scope.names.lookup y = some .local → swapsWith e (some (.Name y py)) spos.line X.env = pure true → PS X (.Assign [.Name y py] e spos) (tAsg te (gName i))) ∧ te σ H Q
theorem e_el {X : Cx} {e : Expr} {ρ ρ' : Rho} {a : A} (h : ELc X e ρ a ρ') : E X e ρ a ρ' := fun σ HF H S1 Q q => by
  obtain ⟨te, h1, _, h2⟩ := h σ HF H S1 Q q
  exact ⟨te, h1, h2⟩
theorem s_setLc (i : Nat) {X : Cx} {B : Bs} {P : Pst} {e : Expr} {ρ ρ1 : Rho} {a : A} {x : Str} {pos pos' : Pos} (he : ELc X e ρ a ρ1) (h : P.nx (ρ1.set i a)) (hl : ∀ q ∈ B.L, q.1 ≠ i) (hi : X.N[i]? = some x := by rfl) (hx : X.env.scope.names.lookup x = some .local := by rfl)
    (hs : swapsWith e (some (.Name x pos')) pos.line X.env = pure true := by first | rfl | exact sw_true rfl rfl rfl (by decide +kernel)) : S X B (.Assign [.Name x pos'] e pos) ρ P := fun σ HF H Sl1 b D o => by
  obtain ⟨te, _, h1, h2⟩ := he σ HF H Sl1 (fun y H1 => gName i y σ H1 D.nx) (fun y HF1 H1 S1 f1 r1 => o.nx _ _ HF1 H1 h (S1.set r1 fun p hp z => Sl1.notOwn hp (f1.sh.own.mp z)) ((b.fw f1).set S1 (rrel_base b r1) hl) f1.hf)
  exact ⟨_, h1 hi hx hs, h2⟩
theorem el_lc {scope : Scope} {own : List (Str × Nat)} {elt : Expr} {ifs : List Expr} {out : List PyData} {ρo : Rho} {D0 : Rho}
    (ht : Src X tg iter ρ ds ρ1 k) (ok : BlkOk X.N X.env.scope scope own) (hN : X.N.Nodup)
    (I : Nat → Rho → List PyData → Prop) (h0 : I 0 (wipeR ρ1 (own.map (·.2))) []) (hk : ∀ i ρ' acc, I i ρ' acc → Kp k ρ1 ρ' ∧ (∀ j, k = some j → j ∉ own.map (·.2)))
    (hb : ∀ i v ρ' acc, ds[i]? = some v → I i ρ' acc → ∃ ρ2 b ρ3, (∀ (s : Shared) (H : Hp) (C : Addr) (cl : List (Str × Addr)) (fp : List Addr), GC (X.blk s H scope (compEnvC scope cl C X.env) fp) (own.map (·.2)) tg v ρ' ρ2) ∧
      (∀ (s : Shared) (H : Hp) (C : Addr) (cl : List (Str × Addr)) (fp : List Addr), EI (X.blk s H scope (compEnvC scope cl C X.env) fp) ifs ρ2 b ρ3) ∧
      (b = true → ∃ w ρ4, (∀ (s : Shared) (H : Hp) (C : Addr) (cl : List (Str × Addr)) (fp : List Addr), E (X.blk s H scope (compEnvC scope cl C X.env) fp) elt ρ3 (.d w) ρ4) ∧ I (i + 1) (wipeR ρ4 (own.map (·.2))) (acc ++ [w])) ∧ (b = false → I (i + 1) (wipeR ρ3 (own.map (·.2))) acc))
    (hd : ∀ ρ' acc, I ds.length ρ' acc → acc = out ∧ Unw (own.map (·.2)) ρ1 ρ' ρo) (hz : ds.length < sizeLine) (hz2 : ∀ i ρ' acc, I i ρ' acc → acc.length ≤ i)
    (hc : X.calm = true := by rfl) (hs : ∀ x, foldedSetIterable iter X.env x = pure x := by intro _; rfl) : ELc X (.ListComp elt [⟨tg, iter, ifs, 0⟩] scope pos) ρ (.ml out) ρo := by
  obtain ⟨wi, h1, h2⟩ := ht
  -- the readings, the same for every block
  let uG : TG := fun x σ H Q => ∀ (s : Shared) (H0 : Hp) (C : Addr) (cl : List (Str × Addr)) (fp : List Addr), wG (X.blk s H0 scope (compEnvC scope cl C X.env) fp) tg x σ H Q
  let uT : TT := fun σ H Q => ∀ (s : Shared) (H0 : Hp) (C : Addr) (cl : List (Str × Addr)) (fp : List Addr), wTs (X.blk s H0 scope (compEnvC scope cl C X.env) fp) ifs σ H Q
  let uE : TE := fun σ H Q => ∀ (s : Shared) (H0 : Hp) (C : Addr) (cl : List (Str × Addr)) (fp : List Addr), wE (X.blk s H0 scope (compEnvC scope cl C X.env) fp) elt σ H Q
  intro σ HF H S1 Q q
  refine ⟨_, pe_lc (g := uG) (tt := uT) (te := uE) hc hN h1 ok (fun s H0 C cl fp => ⟨fun pins s1 σ H v u Q I r h => pg_w.run pins s1 σ H v u Q I r (h s H0 C cl fp)⟩)
    (fun s H0 C cl fp => ⟨fun pins s1 σ H Q I h => pts_w.run pins s1 σ H Q I (h s H0 C cl fp)⟩) (fun s H0 C cl fp => ⟨fun pins s1 σ H Q I h => pe_w.run pins s1 σ H Q I (h s H0 C cl fp)⟩) hs,
    fun hy hyl hsw => ps_setLc (g := uG) (tt := uT) (te := uE) hc hN hy hyl hsw h1 ok (fun s H0 C cl fp => ⟨fun pins s1 σ H v u Q I r h => pg_w.run pins s1 σ H v u Q I r (h s H0 C cl fp)⟩)
    (fun s H0 C cl fp => ⟨fun pins s1 σ H Q I h => pts_w.run pins s1 σ H Q I (h s H0 C cl fp)⟩) (fun s H0 C cl fp => ⟨fun pins s1 σ H Q I h => pe_w.run pins s1 σ H Q I (h s H0 C cl fp)⟩) hs, ?_⟩
  refine h2 σ HF H S1 _ fun J HF1 H1 S2 f1 src => fun D hD => ?_
  have hDf := S2.hfNone hD
  generalize hvs : own.map (·.2) = vs at *
  have S2w := S2.wipe vs
  -- a turn's state
  let St : Nat → Hp → Prop := fun i H' => ∃ ρ' acc HF' ys, I i ρ' acc ∧ Sl X.K ρ' (L2.wipe σ vs) HF' H' ∧ Fw (wipeR ρ1 vs) ρ' (L2.wipe σ vs) HF1 H1 HF' H' ∧ HF' D = none ∧ H' D = some (.lst ys) ∧ DpAll X.K HF' ys acc
  refine ⟨fun i m H' => m = ds.length - i ∧ i ≤ ds.length ∧ St i H', ⟨ds.length, by simp, Nat.zero_le _, _, _, HF1, [], h0, ?_, ?_, hDf, upd_same, .nil⟩, ?_⟩
  · exact (S2w.allocO hD _).1
  · exact (S2w.allocO hD _).2
  rintro i m H' ⟨rfl, hle, ρ', acc, HF', ys, hI, S', f', d1, d2, d3⟩
  have kk := hk i ρ' acc hI
  have sr := src (L2.wipe σ vs) ρ' HF' H' (fun j e => wipe_off (kk.2 j e)) kk.1 S' f'.hf
  by_cases hlt : i < ds.length
  · refine .inr ⟨sr.go i hlt, fun H3 => i + 1 ≤ ds.length ∧ St (i + 1) H3, fun H3 n3 => ⟨ds.length - (i + 1), by omega, rfl, n3.1, n3.2⟩, fun x H2 y => ?_⟩
    obtain ⟨v, e, y⟩ := sr.yld i x H2 hlt y
    obtain ⟨HFy, Sy, fy, ry⟩ := yld_d S' y
    obtain ⟨ρ2, b, ρ3, hg, ht, hyes, hno⟩ := hb i v ρ' acc e hI
    have hD2 : H2 D = some (.lst ys) := fy.keep D _ d2 fun z => by
      have : OwnAt (wipeR ρ1 vs) (L2.wipe σ vs) D := f'.sh.own.mp z
      obtain ⟨_, o, e⟩ := S2w.ownAt' this
      rw [hD] at e
      cases e
    have notD : ¬ OwnAt ρ' (L2.wipe σ vs) D := fun z => by
      obtain ⟨_, o, e⟩ := S2w.ownAt' (f'.sh.own.mp z)
      rw [hD] at e
      cases e
    intro s0 H0 C0 cl0 fp0
    have gall := fun s H C cl fp => hg s H C cl fp
    have g0 := hg s0 H0 C0 cl0 fp0
    obtain ⟨g1, g2, g3, g4, g5⟩ := g0
    refine g5 x (L2.wipe σ vs) HFy H2 Sy ry _ fun σ2 S3 w3 o3 => ?_
    have w3' : L2.wipe σ2 vs = L2.wipe σ vs := by
      rw [w3]
      apply List.ext_getElem?
      intro j
      by_cases hj : j ∈ vs
      · by_cases hl : j < σ.length
        · rw [wipe_on hj (by rw [wipe_length]; exact hl), wipe_on hj hl]
        · rw [List.getElem?_eq_none (by rw [wipe_length, wipe_length]; omega), List.getElem?_eq_none (by rw [wipe_length]; omega)]
      · rw [wipe_off hj]
    refine ⟨w3', ?_⟩
    -- own places are the same ones
    have own23 : ∀ c, OwnAt ρ2 σ2 c ↔ OwnAt ρ' (L2.wipe σ vs) c := fun c => by
      constructor
      · rintro ⟨j, a, k1, k2, k3⟩
        by_cases hj : j ∈ vs
        · have := g4 j a hj k1
          rw [k2] at this
          cases this
        · exact ⟨j, a, by rw [← g1 j hj]; exact k1, k2, by rw [← o3 j hj]; exact k3⟩
      · rintro ⟨j, a, k1, k2, k3⟩
        by_cases hj : j ∈ vs
        · have := g3 j a hj k1
          rw [k2] at this
          cases this
        · exact ⟨j, a, by rw [g1 j hj]; exact k1, k2, by rw [o3 j hj]; exact k3⟩
    -- from the block's slots back to the wiped ones
    have backW : ∀ ρ4 HF4 H4, Sl X.K ρ4 σ2 HF4 H4 → Fw ρ2 ρ4 σ2 HFy H2 HF4 H4 → Sl X.K (wipeR ρ4 vs) (L2.wipe σ vs) HF4 H4 ∧ Fw (wipeR ρ1 vs) (wipeR ρ4 vs) (L2.wipe σ vs) HF1 H1 HF4 H4 := fun ρ4 HF4 H4 S4 f4 => by
      have S5 := S4.wipe vs
      rw [w3'] at S5
      refine ⟨S5, (f'.trans fy).trans ⟨⟨?_, fun j a h => ?_⟩, f4.hf, fun c o h n => f4.keep c o h fun z => n ((own23 c).mp z), f4.new, f4.pres⟩⟩
      · rw [wipeR_len, f4.sh.1, g2]
      · by_cases hj : j ∈ vs
        · have hl : j < ρ4.length := by rw [f4.sh.1, g2]; exact (List.getElem?_eq_some_iff.mp h).1
          have hl2 : j < (wipeR ρ4 vs).length := by rw [wipeR_len]; exact hl
          have e4 := List.getElem?_eq_getElem hl2
          rcases wipeR_get e4 with ⟨z, _⟩ | ⟨_, z, _⟩
          · exact (z hj).elim
          · -- the slot was wiped already
            have h5 : (wipeR ρ1 vs)[j]? = some .any := by
              have hl3 : j < (wipeR ρ1 vs).length := by rw [← f'.sh.1]; exact (List.getElem?_eq_some_iff.mp h).1
              have e5 := List.getElem?_eq_getElem hl3
              rcases wipeR_get e5 with ⟨z, _⟩ | ⟨_, z, _⟩
              · exact (z hj).elim
              · rw [e5, z]
            obtain ⟨a5, k1, k2, k3⟩ := f'.sh.2 j _ h5
            rw [h] at k1
            cases k1
            have k3 := k3 rfl
            subst k3
            exact ⟨.any, by rw [e4, z], rfl, fun _ => rfl⟩
        · obtain ⟨a4, k1, k2, k3⟩ := f4.sh.2 j a (by rw [g1 j hj]; exact h)
          exact ⟨a4, by rw [wipeR_off hj]; exact k1, k2, k3⟩
    have notD2 : ¬ OwnAt ρ2 σ2 D := fun z => notD ((own23 D).mp z)
    intro s1 H01 C1 cl1 fp1
    refine ht s1 H01 C1 cl1 fp1 σ2 HFy H2 S3 _ fun HF4 H4 S4 f4 => ?_
    have k1 : H4 D = some (.lst ys) := f4.keep D _ hD2 notD2
    have k2 : HF4 D = none := f4.hfn (fy.hfn d1 d2) hD2
    cases b with
    | true =>
      rw [if_pos rfl]
      obtain ⟨w, ρ4, he, hI4⟩ := hyes rfl
      intro s2 H02 C2 cl2 fp2
      refine he s2 H02 C2 cl2 fp2 σ2 HF4 H4 S4 _ fun y5 HF5 H5 S5 f5 r5 => ?_
      have f45 := f4.trans f5
      have notD4 : ¬ OwnAt ρ3 σ2 D := fun z => notD2 (f4.sh.own.mp z)
      have m1 : H5 D = some (.lst ys) := f5.keep D _ k1 notD4
      have m2 : HF5 D = none := f5.hfn k2 k1
      have hys : ys.length ≤ i := by
        have := dpa_len d3
        have h2 := hz2 i ρ' acc hI
        omega
      obtain ⟨S6, f6⟩ := backW ρ4 HF5 H5 S5 f45
      refine ⟨ys, m1, by omega, hlt, _, _, HF5, ys ++ [y5], hI4, ?_, ?_, m2, upd_same, dpa_app (dpa_mono (fy.hf.trans f45.hf) d3) (.cons r5 .nil)⟩
      · refine ⟨S6.len, fun c u e => ?_, fun j a h => ?_, S6.apart⟩
        · rw [upd_ne fun z => by rw [z, m2] at e; cases e]
          exact S6.sub c u e
        · obtain ⟨s, e, z⟩ := S6.slot j a h
          refine ⟨s, e, arel_mono z (.refl _) fun p o e1 h1 h2 ho => ⟨h1, ?_⟩⟩
          rw [upd_ne]
          · exact h2
          · intro z2
            exact notD2 (f45.sh.own.mp (by
              by_cases hj : j ∈ vs
              · rcases wipeR_get h with ⟨z3, _⟩ | ⟨_, z3, _⟩
                · exact (z3 hj).elim
                · rw [z3] at ho; cases ho
              · rcases wipeR_get h with ⟨_, z3⟩ | ⟨z3, _⟩
                · exact ⟨j, a, z3, ho, by rw [o3 j hj, e, e1, z2]⟩
                · exact (hj z3).elim))
      · refine ⟨f6.sh, f6.hf, fun c o h n => ?_, f6.new, fun c o h => ?_⟩
        · have := f6.keep c o h n
          rw [upd_ne fun z => by rw [z, hD] at h; cases h]
          exact this
        · obtain ⟨o', e⟩ := f6.pres c o h
          by_cases hcD : c = D
          · subst hcD
            exact ⟨_, upd_same⟩
          · exact ⟨o', by rw [upd_ne hcD]; exact e⟩
    | false =>
      rw [if_neg Bool.false_ne_true]
      obtain ⟨S6, f6⟩ := backW ρ3 HF4 H4 S4 f4
      exact ⟨hlt, _, _, HF4, ys, hno rfl, S6, f6, k2, k1, dpa_mono (fy.hf.trans f4.hf) d3⟩
  · have e : i = ds.length := by omega
    subst e
    obtain ⟨rfl, u1, u2, u3⟩ := hd ρ' acc hI
    refine .inl ⟨sr.stop, ?_⟩
    -- the slots as they were
    have ownO : ∀ c, OwnAt ρ' (L2.wipe σ vs) c ↔ OwnAt ρ1 σ c := fun c => by
      rw [f'.sh.own]
      constructor
      · rintro ⟨j, a, k1, k2, k3⟩
        rcases wipeR_get k1 with ⟨z1, z2⟩ | ⟨_, rfl, _⟩
        · exact ⟨j, a, z2, k2, by rw [← wipe_off z1]; exact k3⟩
        · cases k2
      · rintro ⟨j, a, k1, k2, k3⟩
        by_cases hj : j ∈ vs
        · have := (u3 j hj).2 a k1
          rw [k2] at this
          cases this
        · exact ⟨j, a, by rw [wipeR_off hj]; exact k1, k2, by rw [wipe_off hj]; exact k3⟩
    have fo : Fw ρ1 ρo σ HF1 H1 HF' H' := by
      refine ⟨⟨u1, fun j a h => ?_⟩, f'.hf, fun c o h n => f'.keep c o h fun z => n ((ownO c).mp (f'.sh.own.mpr z)), f'.new, f'.pres⟩
      by_cases hj : j ∈ vs
      · exact ⟨a, by rw [(u3 j hj).1]; exact h, rfl, fun _ => rfl⟩
      · obtain ⟨a', k1, k2, k3⟩ := f'.sh.2 j a (by rw [wipeR_off hj]; exact h)
        exact ⟨a', by rw [u2 j hj]; exact k1, k2, k3⟩
    have So : Sl X.K ρo σ HF' H' := by
      refine ⟨by rw [u1]; exact S2.len, S'.sub, fun j a h => ?_, fun i j a b p h1 h2 o1 o2 e1 e2 => ?_⟩
      · by_cases hj : j ∈ vs
        · rw [(u3 j hj).1] at h
          obtain ⟨s, e, z⟩ := S2.slot j a h
          have no := (u3 j hj).2 a h
          exact ⟨s, e, arel_mono z f'.hf fun _ _ _ _ _ ho => by rw [no] at ho; cases ho⟩
        · rw [u2 j hj] at h
          obtain ⟨s, e, z⟩ := S'.slot j a h
          exact ⟨s, by rw [← wipe_off hj]; exact e, z⟩
      · have off : ∀ (j : Nat) (a : A), ρo[j]? = some a → a.own = true → j ∉ vs := fun j a h o hj => by
          rw [(u3 j hj).1] at h
          have := (u3 j hj).2 a h
          rw [o] at this
          cases this
        have n1 := off i a h1 o1
        have n2 := off j b h2 o2
        rw [u2 i n1] at h1
        rw [u2 j n2] at h2
        exact S'.apart i j a b p h1 h2 o1 o2 (by rw [wipe_off n1]; exact e1) (by rw [wipe_off n2]; exact e2)
    exact q _ HF' H' So (f1.trans fo) ⟨D, _, rfl, f1.fresh hD, d1, d2, d3⟩
theorem ev_lc {scope : Scope} {own : List (Str × Nat)} {elt : Expr} {ifs : List Expr} {out : List PyData} {ρo : Rho} {D0 : Rho}
    (ht : Src X tg iter ρ ds ρ1 k) (ok : BlkOk X.N X.env.scope scope own) (hN : X.N.Nodup)
    (I : Nat → Rho → List PyData → Prop) (h0 : I 0 (wipeR ρ1 (own.map (·.2))) []) (hk : ∀ i ρ' acc, I i ρ' acc → Kp k ρ1 ρ' ∧ (∀ j, k = some j → j ∉ own.map (·.2)))
    (hb : ∀ i v ρ' acc, ds[i]? = some v → I i ρ' acc → ∃ ρ2 b ρ3, (∀ (s : Shared) (H : Hp) (C : Addr) (cl : List (Str × Addr)) (fp : List Addr), GC (X.blk s H scope (compEnvC scope cl C X.env) fp) (own.map (·.2)) tg v ρ' ρ2) ∧
      (∀ (s : Shared) (H : Hp) (C : Addr) (cl : List (Str × Addr)) (fp : List Addr), EI (X.blk s H scope (compEnvC scope cl C X.env) fp) ifs ρ2 b ρ3) ∧
      (b = true → ∃ w ρ4, (∀ (s : Shared) (H : Hp) (C : Addr) (cl : List (Str × Addr)) (fp : List Addr), E (X.blk s H scope (compEnvC scope cl C X.env) fp) elt ρ3 (.d w) ρ4) ∧ I (i + 1) (wipeR ρ4 (own.map (·.2))) (acc ++ [w])) ∧ (b = false → I (i + 1) (wipeR ρ3 (own.map (·.2))) acc))
    (hd : ∀ ρ' acc, I ds.length ρ' acc → acc = out ∧ Unw (own.map (·.2)) ρ1 ρ' ρo) (hz : ds.length < sizeLine) (hz2 : ∀ i ρ' acc, I i ρ' acc → acc.length ≤ i)
    (hc : X.calm = true := by rfl) (hs : ∀ x, foldedSetIterable iter X.env x = pure x := by intro _; rfl) : E X (.ListComp elt [⟨tg, iter, ifs, 0⟩] scope pos) ρ (.ml out) ρo := e_el (el_lc (D0 := D0) ht ok hN I h0 hk hb hd hz hz2 hc hs)
/-- the plain one: the slots stay, an item's value hangs on the item -/
theorem e_lc {scope : Scope} (own : List (Str × Nat)) {elt : Expr} {ifs : List Expr} (p : PyData → Bool) (g : PyData → PyData)
    (ht : Src X tg iter ρ ds ρ1 k) (hN : X.N.Nodup) (hz : ds.length < sizeLine)
    (hb : ∀ (i : Nat) (v : PyData), ds[i]? = some v → ∃ ρ2 : Rho, (∀ (s : Shared) (H : Hp) (C : Addr) (cl : List (Str × Addr)) (fp : List Addr), GC (X.blk s H scope (compEnvC scope cl C X.env) fp) (own.map (·.2)) tg v (wipeR ρ1 (own.map (·.2))) ρ2) ∧
      (∀ (s : Shared) (H : Hp) (C : Addr) (cl : List (Str × Addr)) (fp : List Addr), EI (X.blk s H scope (compEnvC scope cl C X.env) fp) ifs ρ2 (p v) ρ2) ∧
      (p v = true → ∀ (s : Shared) (H : Hp) (C : Addr) (cl : List (Str × Addr)) (fp : List Addr), E (X.blk s H scope (compEnvC scope cl C X.env) fp) elt ρ2 (.d (g v)) ρ2) ∧ wipeR ρ2 (own.map (·.2)) = wipeR ρ1 (own.map (·.2)))
    (hv : ∀ (i : Nat) (a : A), i ∈ own.map (·.2) → ρ1[i]? = some a → a.own = false) (hkk : ∀ j, k = some j → j ∉ own.map (·.2)) (ok : BlkOk X.N X.env.scope scope own)
    (hc : X.calm = true := by rfl) (hs : ∀ x, foldedSetIterable iter X.env x = pure x := by intro _; rfl) : E X (.ListComp elt [⟨tg, iter, ifs, 0⟩] scope pos) ρ (.ml ((ds.filter p).map g)) ρ1 := by
  refine ev_lc (out := (ds.filter p).map g) (D0 := []) ht ok hN (fun i ρ' acc => ρ' = wipeR ρ1 (own.map (·.2)) ∧ acc = ((ds.take i).filter p).map g) ⟨rfl, rfl⟩ (fun i ρ' acc ⟨e, _⟩ => ⟨?_, hkk⟩) (fun i v ρ' acc hi ⟨e1, e2⟩ => ?_) (fun ρ' acc ⟨e1, e2⟩ => ?_) hz (fun i ρ' acc ⟨_, e⟩ => ?_) hc hs
  · subst e
    cases k with
    | none => trivial
    | some j => exact wipeR_off (hkk j rfl)
  · subst e1
    obtain ⟨ρ2, h1, h2, h3, h4⟩ := hb i v hi
    have tk : ds.take (i + 1) = ds.take i ++ [v] := by rw [List.take_add_one, hi]; rfl
    refine ⟨ρ2, p v, ρ2, h1, h2, fun z => ⟨g v, ρ2, h3 z, h4, ?_⟩, fun z => ⟨h4, ?_⟩⟩
    · rw [e2, tk, List.filter_append, List.map_append]
      simp [z]
    · rw [e2, tk, List.filter_append, List.map_append]
      simp [z]
  · subst e1
    rw [List.take_length] at e2
    exact ⟨e2, unw_id hv⟩
  · rw [e, List.length_map]
    refine Nat.le_trans (List.length_filter_le _ _) ?_
    rw [List.length_take]
    exact Nat.min_le_left _ _
end
end Th

set_option Elab.async false
set_option linter.all false
set_option maxRecDepth 100000
namespace Th
open PySem PySem.Spec PyProof.Rows L2

/-! ### own objects change -/
section
variable {K : PySem.W.Frag} {ρ : Rho} {σ : L2.St} {HF H : Hp} {a a' : A} {i : Nat} {p : Addr} {o o' : HO}
theorem Sl.put (S1 : Sl K ρ σ HF H) (hi : ρ[i]? = some a) (ho : a.own = true) (hs : σ[i]? = some (some (V.ref p))) (hr : HRel K HF p o' a') : Sl K (ρ.set i a') σ HF (upd H p o') ∧ Fw ρ (ρ.set i a') σ HF H HF (upd H p o') := by
  have hlen : i < ρ.length := (List.getElem?_eq_some_iff.mp hi).1
  obtain ⟨p2, o2, e, h1, h2, h3⟩ := S1.ownAt hi ho
  rw [hs] at e
  cases e
  have ho' := hrel_own hr
  refine ⟨⟨by rw [List.length_set]; exact S1.len, fun b u hb => ?_, fun j c h => ?_, fun j k c d q g1 g2 o1 o2 e1 e2 => ?_⟩, ⟨⟨by rw [List.length_set], fun j c h => ?_⟩, .refl _, fun b u hb n => ?_, fun b u h => .inl h, fun b u h => ?_⟩⟩
  · rw [upd_ne fun z => by rw [z, h1] at hb; cases hb]
    exact S1.sub b u hb
  · by_cases hj : i = j
    · subst hj
      rw [List.getElem?_set_self hlen] at h
      cases h
      exact ⟨_, hs, (arel_own ho').mpr ⟨_, rfl, p, o', rfl, h1, upd_same, hr⟩⟩
    · rw [List.getElem?_set_ne hj] at h
      obtain ⟨s, e, q⟩ := S1.slot j c h
      refine ⟨s, e, arel_mono q (.refl _) fun b u e1 k1 k2 oc => ⟨k1, ?_⟩⟩
      rw [upd_ne fun z => hj (S1.apart i j a c p hi h ho oc hs (by rw [e, e1, z]))]
      exact k2
  · have f : ∀ (j : Nat) (c : A), (ρ.set i a')[j]? = some c → c.own = true → ∃ c', ρ[j]? = some c' ∧ c'.own = true := fun j c h oc => by
      by_cases hj : i = j
      · subst hj
        exact ⟨a, hi, ho⟩
      · rw [List.getElem?_set_ne hj] at h
        exact ⟨c, h, oc⟩
    obtain ⟨c', k1, k2⟩ := f j c g1 o1
    obtain ⟨d', k3, k4⟩ := f k d g2 o2
    exact S1.apart j k c' d' q k1 k3 k2 k4 e1 e2
  · by_cases hj : i = j
    · subst hj
      rw [hi] at h
      cases h
      exact ⟨a', List.getElem?_set_self hlen, ho'.trans ho.symm, fun z => by rw [ho] at z; cases z⟩
    · exact ⟨c, by rw [List.getElem?_set_ne hj]; exact h, rfl, fun _ => rfl⟩
  · rw [upd_ne fun z => n ⟨i, a, hi, ho, by rw [hs, z]⟩]
    exact hb
  · by_cases hb : b = p
    · subst hb
      exact ⟨_, upd_same⟩
    · exact ⟨u, by rw [upd_ne hb]; exact h⟩
end

/-! ### dicts as lists of pairs -/
section
variable {κ : Type} [DecidableEq κ]
def getK (kvs : List (κ × PyData)) (k : κ) : Option PyData := (kvs.find? fun kv => decide (kv.1 = k)).map (·.2)
def setK (kvs : List (κ × PyData)) (k : κ) (v : PyData) : List (κ × PyData) :=
  if (kvs.any fun kv => decide (kv.1 = k)) = true then kvs.map (fun kv => if kv.1 = k then (kv.1, v) else kv) else kvs ++ [(k, v)]
def delK (kvs : List (κ × PyData)) (k : κ) : List (κ × PyData) := kvs.filter fun kv => decide (kv.1 ≠ k)
variable {K : PySem.W.Frag} {HF : Hp}
theorem dpkv_len : ∀ {l : List (κ × V)} {m : List (κ × PyData)}, DpKV K HF l m → l.length = m.length
  | _, _, .nil => rfl
  | _, _, .cons _ t => congrArg (· + 1) (dpkv_len t)
theorem dpkv_keys : ∀ {l : List (κ × V)} {m : List (κ × PyData)}, DpKV K HF l m → l.map (·.1) = m.map (·.1)
  | _, _, .nil => rfl
  | _, _, .cons h t => by rw [List.map_cons, List.map_cons, dpkv_keys t, h.1]
theorem dpkv_val : ∀ {l : List (κ × V)} {m : List (κ × PyData)} (k : κ), DpKV K HF l m → (valV l k = none ∧ getK m k = none) ∨ ∃ v d, valV l k = some v ∧ getK m k = some d ∧ Dp K HF v d
  | _, _, k, .nil => .inl ⟨rfl, rfl⟩
  | p :: l, q :: m, k, .cons h t => by
    by_cases e : p.1 = k
    · refine .inr ⟨p.2, q.2, valV_pos e, ?_, h.2⟩
      unfold getK
      rw [List.find?_cons]
      have : decide (q.1 = k) = true := decide_eq_true (by rw [← h.1]; exact e)
      simp [this]
    · have e2 : getK (q :: m) k = getK m k := by
        unfold getK
        rw [List.find?_cons]
        have : decide (q.1 = k) = false := decide_eq_false (by rw [← h.1]; exact e)
        simp [this]
      rw [valV_neg e, e2]
      exact dpkv_val k t
theorem dpkv_any : ∀ {l : List (κ × V)} {m : List (κ × PyData)} (k : κ), DpKV K HF l m → (l.any fun kv => decide (kv.1 = k)) = (m.any fun kv => decide (kv.1 = k))
  | _, _, k, .nil => rfl
  | p :: l, q :: m, k, .cons h t => by rw [List.any_cons, List.any_cons, dpkv_any k t, h.1]
theorem dpkv_app : ∀ {l l' : List (κ × V)} {m m' : List (κ × PyData)}, DpKV K HF l m → DpKV K HF l' m' → DpKV K HF (l ++ l') (m ++ m')
  | _, _, _, _, .nil, h => h
  | _, _, _, _, .cons a t, h => .cons a (dpkv_app t h)
theorem dpkv_map {k : κ} {v : V} {d : PyData} (hv : Dp K HF v d) : ∀ {l : List (κ × V)} {m : List (κ × PyData)}, DpKV K HF l m → DpKV K HF (l.map fun kv => if kv.1 = k then (kv.1, v) else kv) (m.map fun kv => if kv.1 = k then (kv.1, d) else kv)
  | _, _, .nil => .nil
  | p :: l, q :: m, .cons h t => by
    refine .cons ?_ (dpkv_map hv t)
    dsimp only
    by_cases e : p.1 = k
    · rw [if_pos e, if_pos (by rw [← h.1]; exact e)]
      exact ⟨h.1, hv⟩
    · rw [if_neg e, if_neg (by rw [← h.1]; exact e)]
      exact h
theorem dpkv_put {l : List (κ × V)} {m : List (κ × PyData)} {k : κ} {v : V} {d : PyData} (h : DpKV K HF l m) (hv : Dp K HF v d) : DpKV K HF (putK l k v) (setK m k d) := by
  unfold putK setK
  rw [dpkv_any k h]
  split
  · exact dpkv_map hv h
  · exact dpkv_app h (.cons ⟨rfl, hv⟩ .nil)
theorem dpkv_drop (k : κ) : ∀ {l : List (κ × V)} {m : List (κ × PyData)}, DpKV K HF l m → DpKV K HF (dropK l k) (delK m k)
  | _, _, .nil => .nil
  | p :: l, q :: m, .cons h t => by
    unfold dropK delK
    rw [List.filter_cons, List.filter_cons, h.1]
    split
    · exact .cons h (dpkv_drop k t)
    · exact dpkv_drop k t
end
def kD : Key → PyData
  | .inl i => .int i
  | .inr x => .str x
theorem dp_key {K : PySem.W.Frag} {HF : Hp} {k : Key} {x : V} (h : Dp K HF x (kD k)) : x = kV k := by
  cases k <;> cases h <;> rfl

section
variable {X : Cx} {B : Bs} {P : Pst} {ρ ρ1 ρ2 ρ3 : Rho} {e e1 e2 : Expr} {es : List Expr} {pos pos' : Pos} {a : A} {b : Bool} {u v w z d : PyData} {ds xs : List PyData} {k : Option Nat} {kvs : List (Key × PyData)} {y : Key} {x : Str} {ta tb te : TE}

/-! ### dicts in a slot -/
theorem e_dget (i : Nat) (he : E X e ρ (.d (kD y)) ρ1) (hi0 : ∃ k0, ρ[i]? = some (.mk k0)) (hi : ρ1[i]? = some (.mk kvs)) (hg : getK kvs y = some d) (hu : X.A.units + 1 < cLine) (hs : NoSl e := by exact fun _ _ => rfl) (hN : X.N[i]? = some x := by rfl)
    (hv : Vis X.env.scope x := by first | exact Or.inl rfl | exact Or.inr (Or.inl rfl) | exact Or.inr (Or.inr rfl)) (hd : (x == ("__debug__" : Str)) = false := by decide) (hcd : (x == ("__classdict__" : Str)) = false := by decide) :
    E X (.Subscript (.Name x pos') e pos) ρ (.d d) ρ1 := .of (pe_dget hu (pe_var hN hv hd hcd) pe_w hs) fun σ HF H S1 Q q => by
  obtain ⟨k0, hk0⟩ := hi0
  obtain ⟨p, o, e0, _⟩ := S1.ownAt hk0 rfl
  refine ⟨.ref p, e0, he σ HF H S1 _ fun x1 HF1 H1 S2 f1 r1 => ?_⟩
  obtain ⟨p2, o2, e3, h1, h2, h3⟩ := S2.ownAt hi rfl
  rw [e0] at e3
  cases e3
  cases o2 <;> first | exact h3.elim | skip
  rename_i kws
  rcases dpkv_val y h3 with ⟨_, g⟩ | ⟨v1, d1, g1, g2, g3⟩
  · rw [hg] at g; cases g
  · rw [hg] at g2
    cases g2
    have hx := dp_key r1
    subst hx
    refine ⟨p, v1, rfl, ?_, q _ HF1 H1 S2 f1 g3⟩
    rw [← g1]
    exact .k h2
theorem e_dget2 (i : Nat) {apos : Pos} (he : E X e1 ρ (.d (kD y)) ρ1) (he2 : E X e2 ρ1 (.d w) ρ2) (hi0 : ∃ k0, ρ[i]? = some (.mk k0)) (hi : ρ2[i]? = some (.mk kvs)) (hu : X.A.units + 1 < cLine) (m : M2 X (.Name x pos') "get" apos e1 e2 pos := by exact ⟨rfl, rfl, rfl, rfl⟩) (hN : X.N[i]? = some x := by rfl)
    (hv : Vis X.env.scope x := by first | exact Or.inl rfl | exact Or.inr (Or.inl rfl) | exact Or.inr (Or.inr rfl)) (hd : (x == ("__debug__" : Str)) = false := by decide) (hcd : (x == ("__classdict__" : Str)) = false := by decide) :
    E X (.Call (.Attribute (.Name x pos') "get" apos) [e1, e2] [] pos) ρ (.d ((getK kvs y).getD w)) ρ2 := .of (pe_dget2 hu (pe_var hN hv hd hcd) pe_w pe_w m) fun σ HF H S1 Q q => by
  obtain ⟨k0, hk0⟩ := hi0
  obtain ⟨p, o, e0, _, k2, k3⟩ := S1.ownAt hk0 rfl
  cases o <;> first | exact k3.elim | skip
  refine ⟨.ref p, e0, p, rfl, .inl ⟨_, .inl k2⟩, he σ HF H S1 _ fun x1 HF1 H1 S2 f1 r1 => he2 σ HF1 H1 S2 _ fun x2 HF2 H2 S3 f2 r2 => ?_⟩
  obtain ⟨p2, o2, e3, h1, h2, h3⟩ := S3.ownAt hi rfl
  rw [e0] at e3
  cases e3
  cases o2 <;> first | exact h3.elim | skip
  have hx := dp_key r1
  subst hx
  refine ⟨_, .k h2, ?_⟩
  rcases dpkv_val y h3 with ⟨g1, g2⟩ | ⟨v1, d1, g1, g2, g3⟩
  · rw [g1]
    rw [g2] at q
    exact q _ HF2 H2 S3 (f1.trans f2) r2
  · rw [g1]
    rw [g2] at q
    exact q _ HF2 H2 S3 (f1.trans f2) g3
theorem e_din (i : Nat) (he : E X e ρ (.d (kD y)) ρ1) (hi : ρ1[i]? = some (.mk kvs)) (hu : X.A.units + 1 < cLine) (hN : X.N[i]? = some x := by rfl)
    (hv : Vis X.env.scope x := by first | exact Or.inl rfl | exact Or.inr (Or.inl rfl) | exact Or.inr (Or.inr rfl)) (hd : (x == ("__debug__" : Str)) = false := by decide) (hcd : (x == ("__classdict__" : Str)) = false := by decide)
    (hb : behindInMarks .In (.Name x pos') = false := by rfl) : E X (.Compare e [.In] [.Name x pos'] pos) ρ (.d (.bool (getK kvs y).isSome)) ρ1 := .of (pe_cmp (pc_din hu pe_w (pe_var hN hv hd hcd)) hb) fun σ HF H S1 Q q => he σ HF H S1 _ fun x1 HF1 H1 S2 f1 r1 => by
  obtain ⟨p2, o2, e3, h1, h2, h3⟩ := S2.ownAt hi rfl
  cases o2 <;> first | exact h3.elim | skip
  have hx := dp_key r1
  subst hx
  refine ⟨.ref p2, e3, p2, _, rfl, .k h2, ?_⟩
  rcases dpkv_val y h3 with ⟨g1, g2⟩ | ⟨v1, d1, g1, g2, g3⟩
  · rw [g1]; rw [g2] at q
    exact q _ HF1 H1 S2 f1 (.bl _)
  · rw [g1]; rw [g2] at q
    exact q _ HF1 H1 S2 f1 (.bl _)
theorem e_dnin (i : Nat) (he : E X e ρ (.d (kD y)) ρ1) (hi : ρ1[i]? = some (.mk kvs)) (hu : X.A.units + 1 < cLine) (hN : X.N[i]? = some x := by rfl)
    (hv : Vis X.env.scope x := by first | exact Or.inl rfl | exact Or.inr (Or.inl rfl) | exact Or.inr (Or.inr rfl)) (hd : (x == ("__debug__" : Str)) = false := by decide) (hcd : (x == ("__classdict__" : Str)) = false := by decide)
    (hb : behindInMarks .NotIn (.Name x pos') = false := by rfl) : E X (.Compare e [.NotIn] [.Name x pos'] pos) ρ (.d (.bool (!(getK kvs y).isSome))) ρ1 := .of (pe_cmp (pc_dnotin hu pe_w (pe_var hN hv hd hcd)) hb) fun σ HF H S1 Q q => he σ HF H S1 _ fun x1 HF1 H1 S2 f1 r1 => by
  obtain ⟨p2, o2, e3, h1, h2, h3⟩ := S2.ownAt hi rfl
  cases o2 <;> first | exact h3.elim | skip
  have hx := dp_key r1
  subst hx
  refine ⟨.ref p2, e3, p2, _, rfl, .k h2, ?_⟩
  rcases dpkv_val y h3 with ⟨g1, g2⟩ | ⟨v1, d1, g1, g2, g3⟩
  · rw [g1]; rw [g2] at q
    exact q _ HF1 H1 S2 f1 (.bl _)
  · rw [g1]; rw [g2] at q
    exact q _ HF1 H1 S2 f1 (.bl _)
theorem s_dput (i : Nat) {ev : Expr} {p0 : Pos} (hv : E X ev ρ (.d v) ρ1) (hk : E X e ρ1 (.d (kD y)) ρ2) (hi0 : ∃ k0, ρ1[i]? = some (.mk k0)) (hi : ρ2[i]? = some (.mk kvs)) (hz : kvs.length < 100000) (h : P.nx (ρ2.set i (.mk (setK kvs y v)))) (hu : X.A.units + 1 < cLine)
    (hs : swapsWith ev (some (.Subscript (.Name x p0) e pos')) pos.line X.env = pure false := by rfl) (hN : X.N[i]? = some x := by rfl)
    (hvs : Vis X.env.scope x := by first | exact Or.inl rfl | exact Or.inr (Or.inl rfl) | exact Or.inr (Or.inr rfl)) (hd : (x == ("__debug__" : Str)) = false := by decide) (hcd : (x == ("__classdict__" : Str)) = false := by decide) :
    S X B (.Assign [.Subscript (.Name x p0) e pos'] ev pos) ρ P := .of (ps_dput hu (pe_var hN hvs hd hcd) pe_w pe_w hs) fun σ HF H S1 bn D o => hv σ HF H S1 _ fun x1 HF1 H1 S2 f1 r1 => by
  obtain ⟨k0, hk0⟩ := hi0
  obtain ⟨p, o0, e0, _⟩ := S2.ownAt hk0 rfl
  refine ⟨.ref p, e0, hk σ HF1 H1 S2 _ fun x2 HF2 H2 S3 f2 r2 => ?_⟩
  obtain ⟨p2, o2, e3, h1, h2, h3⟩ := S3.ownAt hi rfl
  rw [e0] at e3
  cases e3
  cases o2 <;> first | exact h3.elim | skip
  have hx := dp_key r2
  subst hx
  have hl := dpkv_len h3
  obtain ⟨S4, f4⟩ := S3.put hi rfl e0 (o' := .dK (putK _ y x1)) (a' := .mk (setK kvs y v)) (dpkv_put h3 (dp_mono f2.hf r1))
  have f := (f1.trans f2).trans f4
  exact ⟨p, _, rfl, .k h2 (Nat.lt_of_lt_of_le (by rw [hl]; exact hz) (by decide)), o.nx _ _ _ _ h S4 (bn.fw f) f.hf⟩
theorem e_dlen (i : Nat) {pn : Pos} (hi : ρ[i]? = some (.mk kvs)) (hm : X.mg "len" = none) (hg : Gl X "len" := by rfl) (hN : X.N[i]? = some x := by rfl) (hv : Vis X.env.scope x := by first | exact Or.inl rfl | exact Or.inr (Or.inl rfl) | exact Or.inr (Or.inr rfl)) (hd : (x == ("__debug__" : Str)) = false := by decide) (hcd : (x == ("__classdict__" : Str)) = false := by decide)
    (he : starEach [.Name x pos'] X.env = (false, eval (.Name x pos') X.env) :: starEach [] X.env := by rfl) : E X (.Call (.Name "len" pn) [.Name x pos'] [] pos) ρ (.d (.int kvs.length)) ρ :=
  .of (pe_callB call_lenD hg hm PySem.boot_len (pa_cons (pe_var hN hv hd hcd) pa_nil he) (he := he)) fun σ HF H S1 Q q => by
    obtain ⟨p2, o2, e3, h1, h2, h3⟩ := S1.ownAt hi rfl
    cases o2 <;> first | exact h3.elim | skip
    refine ⟨.ref p2, e3, p2, _, rfl, h2, ?_⟩
    rw [dpkv_len h3]
    exact q _ HF H S1 (.refl ..) (.int _)
/-- sorted(d), its keys ints -/
def isort (ns : List Int) : List Int := ns.mergeSort (fun a b => decide (a ≤ b))
theorem isort_perm (ns : List Int) : (isort ns).Perm ns := List.mergeSort_perm _ _
theorem isort_pw (ns : List Int) : (isort ns).Pairwise (· ≤ ·) := by
  have h := List.pairwise_mergeSort (le := fun (a b : Int) => decide (a ≤ b)) (fun a b c h1 h2 => by simp at *; omega) (fun a b => by simp; omega) ns
  exact h.imp fun h => by simpa using h
theorem isort_eq {ns ms : List Int} (hp : ms.Perm ns) (hs : ms.Pairwise (· ≤ ·)) : ms = isort ns := PySem.W.ksm_same (hp.trans (isort_perm ns).symm) hs (isort_pw ns)
theorem dpa_ints {K : PySem.W.Frag} {HF : Hp} : ∀ (ns : List Int), DpAll K HF (ns.map V.int) (ns.map PyData.int)
  | [] => .nil
  | n :: ns => .cons (.int n) (dpa_ints ns)
theorem ints_dpa {K : PySem.W.Frag} {HF : Hp} : ∀ {ns : List Int} {ys : List V}, DpAll K HF ys (ns.map PyData.int) → ys = ns.map V.int
  | [], _, .nil => rfl
  | n :: ns, _, .cons h t => by
    cases h
    rw [List.map_cons, ints_dpa t]
theorem e_dsorted (i : Nat) {pn : Pos} {ks : List Int} (hi : ρ[i]? = some (.mk kvs)) (hks : kvs.map (·.1) = ks.map Sum.inl) (hz : ks.length < 64) (hm : X.mg "sorted" = none) (hg : Gl X "sorted" := by rfl) (hc : X.calm = true := by rfl) (hN : X.N[i]? = some x := by rfl)
    (hv : Vis X.env.scope x := by first | exact Or.inl rfl | exact Or.inr (Or.inl rfl) | exact Or.inr (Or.inr rfl)) (hd : (x == ("__debug__" : Str)) = false := by decide) (hcd : (x == ("__classdict__" : Str)) = false := by decide)
    (he : starEach [.Name x pos'] X.env = (false, eval (.Name x pos') X.env) :: starEach [] X.env := by rfl) : E X (.Call (.Name "sorted" pn) [.Name x pos'] [] pos) ρ (.ml ((isort ks).map .int)) ρ :=
  .of (pe_callB (call_sortedDI hc) hg hm (by decide +kernel) (pa_cons (pe_var hN hv hd hcd) pa_nil he) (he := he)) fun σ HF H S1 Q q => by
    obtain ⟨p2, o2, e3, h1, h2, h3⟩ := S1.ownAt hi rfl
    cases o2 <;> first | exact h3.elim | skip
    refine ⟨.ref p2, e3, p2, _, ks, rfl, .inl h2, (dpkv_keys h3).trans hks, hz, fun ys p hp hs hn => ?_⟩
    obtain ⟨S2, f2⟩ := S1.allocO hn (.lst (ys.map V.int))
    rw [← isort_eq hp hs] at q
    exact q _ _ _ S2 f2 ⟨p, _, rfl, hn, S1.hfNone hn, upd_same, dpa_ints ys⟩

/-! ### own lists change -/
theorem e_app (i : Nat) {apos : Pos} (he : E X e ρ (.d v) ρ1) (hi0 : ∃ x0, ρ[i]? = some (.ml x0)) (hi : ρ1[i]? = some (.ml xs)) (hz : xs.length < 100000) (hN : X.N[i]? = some x := by rfl)
    (hv : Vis X.env.scope x := by first | exact Or.inl rfl | exact Or.inr (Or.inl rfl) | exact Or.inr (Or.inr rfl)) (hd : (x == ("__debug__" : Str)) = false := by decide) (hcd : (x == ("__classdict__" : Str)) = false := by decide)
    (hbase : attributeBase (.Name x pos') "append" X.env (eval (.Name x pos') X.env) = eval (.Name x pos') X.env := by rfl)
    (hfew : ((backTo pos (starEach [e] X.env)).all (fun x => !x.1) && (backToKw pos (keywordEach [] X.env)).all (fun x => x.1.isSome) && decide (([e] : List Expr).length + ([] : List Keyword).length + (if ([] : List Keyword).isEmpty then 0 else 1) < 30)) = true := by rfl)
    (hline : (apos.endLine == pos.line) = true := by rfl) (hs : starEach [e] X.env = (false, eval e X.env) :: starEach [] X.env := by rfl) :
    E X (.Call (.Attribute (.Name x pos') "append" apos) [e] [] pos) ρ (.d .none) (ρ1.set i (.ml (xs ++ [v]))) :=
  .of (pe_bm PySem.F.plainAttrs_list PySem.F.slot_list_append PySem.F.type_list_append mt_append (pe_var hN hv hd hcd) (pa_cons pe_w pa_nil hs) hbase hfew hline hs) fun σ HF H S1 Q q => by
    obtain ⟨k0, hk0⟩ := hi0
    obtain ⟨p, o0, e0, _, k2, k3⟩ := S1.ownAt hk0 rfl
    cases o0 <;> first | exact k3.elim | skip
    refine ⟨.ref p, e0, .inl ⟨rfl, _, .inl (.inl k2)⟩, he σ HF H S1 _ fun x1 HF1 H1 S2 f1 r1 => ?_⟩
    obtain ⟨p2, o2, e3, h1, h2, h3⟩ := S2.ownAt hi rfl
    rw [e0] at e3
    cases e3
    cases o2 <;> first | exact h3.elim | skip
    rename_i ys
    have hl := dpa_len h3
    obtain ⟨S4, f4⟩ := S2.put hi rfl e0 (o' := .lst (ys ++ [x1])) (a' := .ml (xs ++ [v])) (dpa_app h3 (.cons r1 .nil))
    exact ⟨p, ys, x1, rfl, rfl, h2, Nat.lt_of_lt_of_le (by rw [hl]; exact hz) (by decide), q _ _ _ S4 (f1.trans f4) .non⟩
theorem ixN_map {α β : Type} {xs : List α} {ys : List β} (h : xs.length = ys.length) (i : Int) : ixN xs.length i = ixN ys.length i := by rw [h]
/-- xs[k] = e -/
theorem s_setL (i : Nat) {ev : Expr} {p0 : Pos} {n : Int} {j : Nat} (hv : E X ev ρ (.d v) ρ1) (hk : E X e ρ1 (.d (.int n)) ρ2) (hi0 : ∃ k0, ρ1[i]? = some (.ml k0)) (hi : ρ2[i]? = some (.ml xs)) (hj : ixN xs.length n = some j) (h : P.nx (ρ2.set i (.ml (xs.set j v))))
    (hN : X.N[i]? = some x := by rfl) (hvs : Vis X.env.scope x := by first | exact Or.inl rfl | exact Or.inr (Or.inl rfl) | exact Or.inr (Or.inr rfl)) (hd : (x == ("__debug__" : Str)) = false := by decide) (hcd : (x == ("__classdict__" : Str)) = false := by decide)
    (ha : ∀ v, assign (.Subscript (.Name x p0) e pos') X.env v = (do
      let ov ← holding [v] (eval (.Name x p0) X.env)
      let iv ← holding [v, ov] (eval e X.env)
      standAt pos'
      holding [v, ov, iv] (setItem ov iv v)
      release [v, ov, iv] []) := by intro _; rfl)
    (hs : swapsWithSole [.Subscript (.Name x p0) e pos'] ev pos.line X.env = pure false := by rfl) (hw : swappedStores [.Subscript (.Name x p0) e pos'] ev X.env = pure none := by rfl)
    (h1 : (assignEach [.Subscript (.Name x p0) e pos'] X.env).map (·.2) = [assign (.Subscript (.Name x p0) e pos') X.env] := by rfl) :
    S X B (.Assign [.Subscript (.Name x p0) e pos'] ev pos) ρ P := .of (ps_asg pe_w (pg_sub (pe_var hN hvs hd hcd) pe_w set_list ha) hs hw h1) fun σ HF H S1 bn D o => hv σ HF H S1 _ fun x1 HF1 H1 S2 f1 r1 => by
  obtain ⟨k0, hk0⟩ := hi0
  obtain ⟨p, o0, e0, _⟩ := S2.ownAt hk0 rfl
  refine ⟨.ref p, e0, hk σ HF1 H1 S2 _ fun x2 HF2 H2 S3 f2 r2 => ?_⟩
  obtain ⟨p2, o2, e3, h1, h2, h3⟩ := S3.ownAt hi rfl
  rw [e0] at e3
  cases e3
  cases o2 <;> first | exact h3.elim | skip
  rename_i ys
  cases r2
  have hl := dpa_len h3
  obtain ⟨S4, f4⟩ := S3.put hi rfl e0 (o' := .lst (ys.set j x1)) (a' := .ml (xs.set j v)) (dpa_set h3 (dp_mono f2.hf r1))
  have f := (f1.trans f2).trans f4
  exact ⟨p, ys, n, j, rfl, rfl, h2, by rw [hl]; exact hj, o.nx _ _ _ _ h S4 (bn.fw f) f.hf⟩
/-- xs[k] op= e, whole numbers -/
theorem get_list : PGet X (rIxL X.K) := by
  intro pins s σ H o i ov iv Q I ro ri h
  obtain ⟨p, xs, i, z, rfl, rfl, hq, he, q⟩ := h
  cases ro
  obtain ⟨t, rfl⟩ := ri
  obtain ⟨its, r, pl, hz⟩ := I.list hq
  obtain ⟨j, h1, h2, h3, h4, h5⟩ := atI_get he
  obtain ⟨w, ew, rw'⟩ := r.get h2
  have hl := r.length
  have hn := line63
  have fin : L2.EP X pins σ Q w s := ⟨z, H, I, rw', q⟩
  by_cases h0 : 0 ≤ i
  · have hj : i.toNat = j := by
      rw [seqIndex_of h0 h5] at h1
      exact Option.some.inj h1
    exact wpAny_getItem_list pl.isList h0 (by omega) (by rw [hj]; simpa using ew) fin
  · have hj : (i + (its.toArray.size : Int)).toNat = j := by
      rw [seqIndex_neg (by omega) h4] at h1
      rw [List.size_toArray, ← hl]
      exact Option.some.inj h1
    exact wpAny_getItem_list_neg pl.isList (by omega) (by rw [List.size_toArray] <;> omega) (by omega) (by rw [hj]; simpa using ew) fin
theorem s_augL (i : Nat) {ev : Expr} {op : Operator} {g : Int → Int → Int} {p0 : Pos} {n m m2 : Int} {j : Nat} (ho : PIp X op (ipI g)) (hk : E X e ρ (.d (.int n)) ρ1) (hv : E X ev ρ1 (.d (.int m2)) ρ2) (hi0 : ∃ k0, ρ[i]? = some (.ml k0)) (hi1 : ρ1[i]? = some (.ml xs)) (hi : ρ2[i]? = some (.ml xs)) (hj : ixN xs.length n = some j) (hx : xs[j]? = some (.int m)) (h : P.nx (ρ2.set i (.ml (xs.set j (.int (g m m2))))))
    (hN : X.N[i]? = some x := by rfl) (hvs : Vis X.env.scope x := by first | exact Or.inl rfl | exact Or.inr (Or.inl rfl) | exact Or.inr (Or.inr rfl)) (hd : (x == ("__debug__" : Str)) = false := by decide) (hcd : (x == ("__classdict__" : Str)) = false := by decide)
    (ha : ∀ ov iv new, augStore e ov iv new = (do holding [new, ov, iv] (setItem ov iv new); release [new, ov, iv] []; pure .next) := by intros; rfl) :
    S X B (.AugAssign (.Subscript (.Name x p0) e pos') op ev pos) ρ P := .of (ps_augS (pe_var hN hvs hd hcd) pe_w get_list pe_w ho set_list ha) fun σ HF H S1 bn D o => by
  obtain ⟨k0, hk0⟩ := hi0
  obtain ⟨p, o0, e0, _⟩ := S1.ownAt hk0 rfl
  refine ⟨.ref p, e0, hk σ HF H S1 _ fun x1 HF1 H1 S2 f1 r1 => ?_⟩
  cases r1
  obtain ⟨p1, o1, e1, g1, g2, g3⟩ := S2.ownAt hi1 rfl
  rw [e0] at e1
  cases e1
  cases o1 <;> first | exact g3.elim | skip
  rename_i ys
  have hl := dpa_len g3
  obtain ⟨y, ey, ry⟩ := dpa_get g3 hx
  cases ry
  refine ⟨p, ys, n, .int m, rfl, rfl, .inl (.inl g2), ?_, hv σ HF1 H1 S2 _ fun x2 HF2 H2 S3 f2 r2 => ?_⟩
  · unfold atI
    rw [hl, hj]
    exact ey
  cases r2
  obtain ⟨p2, o2, e3, h1, h2, h3⟩ := S3.ownAt hi rfl
  rw [e0] at e3
  cases e3
  cases o2 <;> first | exact h3.elim | skip
  rename_i ys2
  have hl2 := dpa_len h3
  obtain ⟨S4, f4⟩ := S3.put hi rfl e0 (o' := .lst (ys2.set j (.int (g m m2)))) (a' := .ml (xs.set j (.int (g m m2)))) (dpa_set h3 (.int _))
  have f := (f1.trans f2).trans f4
  exact ⟨m, m2, rfl, rfl, p, ys2, n, j, rfl, rfl, h2, by rw [hl2]; exact hj, o.nx _ _ _ _ h S4 (bn.fw f) f.hf⟩
/-- name op= e -/
theorem s_aug (i : Nat) {op : Operator} {g : Int → Int → Int} {m m2 : Int} (ho : PIp X op (ipI g)) (hi0 : ρ[i]? = some (.d (.int m))) (he : E X e ρ (.d (.int m2)) ρ1) (h : P.nx (ρ1.set i (.d (.int (g m m2))))) (hl : ∀ q ∈ B.L, q.1 ≠ i) (hN : X.N.Nodup) (hi : X.N[i]? = some x := by rfl) (hx : Loc X.env.scope x := by first | exact Or.inl rfl | exact Or.inr rfl) (hf : X.fn x = true ∨ X.env.scope.names.lookup x = some .local := by first | exact .inl rfl | exact .inr rfl) :
    S X B (.AugAssign (.Name x pos') op e pos) ρ P := .of (ps_aug hN hi hx pe_w ho hf) fun σ HF H S1 bn D o => by
  obtain ⟨y, e0, r0⟩ := S1.at hi0
  cases r0
  refine ⟨_, e0, he σ HF H S1 _ fun x1 HF1 H1 S2 f1 r1 => ?_⟩
  cases r1
  refine ⟨m, m2, rfl, rfl, ?_⟩
  have q1 : ∀ Hb, RRel X.K Hb HF1 H1 (V.int (g m m2)) (.d (.int (g m m2))) := fun Hb => Dp.int _
  exact o.nx _ _ HF1 H1 h (S2.set (q1 H1) fun p hp z => S2.notOwn hp z) ((bn.fw f1).set S2 (q1 _) hl) f1.hf

/-! ### built-ins by name -/
theorem ev_cb {K : PySem.W.Frag} {r : List V → Hp → VK → Prop} (ha : Op K ta ρ v ρ1 k) (hr : ∀ HF H x Q, ORel K HF H x v → Same HF H → (∀ y, Dp K HF y z → Q y H) → r [x] H Q) : Ev K (tCB r (tCons ta tNil)) ρ (.d z) ρ1 := fun σ HF H S1 Q q =>
  ha σ HF H S1 _ fun x HF1 H1 S2 f1 r1 => hr HF1 H1 x Q (r1 ρ1 HF1 H1 .refl S2 (.refl ..)) S2.sub fun y hy => q y HF1 H1 S2 f1 hy
theorem ev_cbN {K : PySem.W.Frag} {r : List V → Hp → VK → Prop} (ha : Op K ta ρ v ρ1 k) (hr : ∀ HF H x Q, ORel K HF H x v → Same HF H → (∀ p o, H p = none → HRel K HF p o a → Q (.ref p) (upd H p o)) → r [x] H Q) : Ev K (tCB r (tCons ta tNil)) ρ a ρ1 := fun σ HF H S1 Q q =>
  ha σ HF H S1 _ fun x HF1 H1 S2 f1 r1 => hr HF1 H1 x Q (r1 ρ1 HF1 H1 .refl S2 (.refl ..)) S2.sub fun p o hp ho => by
    obtain ⟨S3, f3⟩ := S2.allocO hp o
    exact q _ HF1 _ S3 (f1.trans f3) ((rrel_own (hrel_own ho)).mpr ⟨p, o, rfl, f1.fresh hp, S2.hfNone hp, upd_same, ho⟩)
theorem ev_cbT {K : PySem.W.Frag} {r : List V → Hp → VK → Prop} (ha : Op K ta ρ v ρ1 k) (hr : ∀ HF H x Q, ORel K HF H x v → Same HF H → (∀ y, Dp K HF y (.tuple ds) → Q y H) → (∀ p ys, H p = none → DpAll K HF ys ds → Q (.ref p) (upd H p (.tup ys))) → r [x] H Q) : Ev K (tCB r (tCons ta tNil)) ρ (.d (.tuple ds)) ρ1 := fun σ HF H S1 Q q =>
  ha σ HF H S1 _ fun x HF1 H1 S2 f1 r1 => hr HF1 H1 x Q (r1 ρ1 HF1 H1 .refl S2 (.refl ..)) S2.sub (fun y hy => q y HF1 H1 S2 f1 hy) fun p ys hp ho => by
    obtain ⟨S3, f3⟩ := S2.allocD hp (.tup ys)
    exact q _ _ _ S3 (f1.trans f3) (.tup (.inl (.inl upd_same)) (dpa_mono f3.hf ho))
variable {pn : Pos} {i j : Int}
section
variable (he : starEach [e] X.env = (false, eval e X.env) :: starEach [] X.env := by rfl)
theorem e_lenL (h : EO X e ρ (.list ds) ρ1 k) (hm : X.mg "len" = none) (hg : Gl X "len" := by rfl) (he : starEach [e] X.env = (false, eval e X.env) :: starEach [] X.env := by rfl) : E X (.Call (.Name "len" pn) [e] [] pos) ρ (.d (.int ds.length)) ρ1 :=
  .of (pe_callB call_len_seq hg hm PySem.boot_len (pa_cons pe_w pa_nil he) (he := he)) (ev_cb h fun HF H x Q r s q => by
    obtain ⟨p, ys, rfl, h1, h2⟩ := r
    exact ⟨p, ys, rfl, .inl h1, by rw [dpa_len h2]; exact q _ (.int _)⟩)
theorem e_lenT (h : E X e ρ (.d (.tuple ds)) ρ1) (hm : X.mg "len" = none) (hg : Gl X "len" := by rfl) (he : starEach [e] X.env = (false, eval e X.env) :: starEach [] X.env := by rfl) : E X (.Call (.Name "len" pn) [e] [] pos) ρ (.d (.int ds.length)) ρ1 :=
  .of (pe_callB call_len_seq hg hm PySem.boot_len (pa_cons pe_w pa_nil he) (he := he)) (ev_cb h.o fun HF H x Q r s q => by
    cases (show Dp X.K HF x (.tuple ds) from r) with
    | tup h1 h2 => exact ⟨_, _, rfl, .inr (same_t s h1), by rw [dpa_len h2]; exact q _ (.int _)⟩)
theorem e_tupL (h : EO X e ρ (.list ds) ρ1 k) (hm : X.mg "tuple" = none) (hg : Gl X "tuple" := by rfl) (he : starEach [e] X.env = (false, eval e X.env) :: starEach [] X.env := by rfl) : E X (.Call (.Name "tuple" pn) [e] [] pos) ρ (.d (.tuple ds)) ρ1 :=
  .of (pe_callTy call_tuple_of hg hm (by decide +kernel) (pa_cons pe_w pa_nil he) (he := he)) (ev_cbT h fun HF H x Q r s _ q => by
    obtain ⟨p, ys, rfl, h1, h2⟩ := r
    exact ⟨p, ys, rfl, .inl ⟨h1, fun l hl => q l ys hl h2⟩⟩)
theorem e_tupT (h : E X e ρ (.d (.tuple ds)) ρ1) (hm : X.mg "tuple" = none) (hg : Gl X "tuple" := by rfl) (he : starEach [e] X.env = (false, eval e X.env) :: starEach [] X.env := by rfl) : E X (.Call (.Name "tuple" pn) [e] [] pos) ρ (.d (.tuple ds)) ρ1 :=
  .of (pe_callTy call_tuple_of hg hm (by decide +kernel) (pa_cons pe_w pa_nil he) (he := he)) (ev_cbT h.o fun HF H x Q r s q _ => by
    have r : Dp X.K HF x (.tuple ds) := r
    cases r with
    | tup h1 h2 => exact ⟨_, _, rfl, .inr ⟨same_t s h1, q _ (.tup h1 h2)⟩⟩)
theorem e_lstL (h : EO X e ρ (.list ds) ρ1 k) (hm : X.mg "list" = none) (hg : Gl X "list" := by rfl) (he : starEach [e] X.env = (false, eval e X.env) :: starEach [] X.env := by rfl) : E X (.Call (.Name "list" pn) [e] [] pos) ρ (.ml ds) ρ1 :=
  .of (pe_callTy call_list_of hg hm (by decide +kernel) (pa_cons pe_w pa_nil he) (he := he)) (ev_cbN h fun HF H x Q r s q => by
    obtain ⟨p, ys, rfl, h1, h2⟩ := r
    exact ⟨p, ys, rfl, .inl h1, fun l hl => q l (.lst ys) hl h2⟩)
theorem e_lstT (h : E X e ρ (.d (.tuple ds)) ρ1) (hm : X.mg "list" = none) (hg : Gl X "list" := by rfl) (he : starEach [e] X.env = (false, eval e X.env) :: starEach [] X.env := by rfl) : E X (.Call (.Name "list" pn) [e] [] pos) ρ (.ml ds) ρ1 :=
  .of (pe_callTy call_list_of hg hm (by decide +kernel) (pa_cons pe_w pa_nil he) (he := he)) (ev_cbN h.o fun HF H x Q r s q => by
    cases (show Dp X.K HF x (.tuple ds) from r) with
    | tup h1 h2 => exact ⟨_, _, rfl, .inr (same_t s h1), fun l hl => q l (.lst _) hl h2⟩)
theorem e_sum {ns : List Int} (h : EO X e ρ (.list (ns.map .int)) ρ1 k) (hm : X.mg "sum" = none) (hg : Gl X "sum" := by rfl) (hc : X.calm = true := by rfl) (he : starEach [e] X.env = (false, eval e X.env) :: starEach [] X.env := by rfl) : E X (.Call (.Name "sum" pn) [e] [] pos) ρ (.d (.int ns.sum)) ρ1 :=
  .of (pe_callB (cr_sum hc) hg hm (by decide +kernel) (pa_cons pe_w pa_nil he) (he := he)) (ev_cb h fun HF H x Q r s q => by
    obtain ⟨p, ys, rfl, h1, h2⟩ := r
    have := ints_dpa h2
    subst this
    exact ⟨p, ns, rfl, h1, q _ (.int _)⟩)
theorem e_sorted {ns : List Int} (h : EO X e ρ (.list (ns.map .int)) ρ1 k) (hm : X.mg "sorted" = none) (hg : Gl X "sorted" := by rfl) (he : starEach [e] X.env = (false, eval e X.env) :: starEach [] X.env := by rfl) : E X (.Call (.Name "sorted" pn) [e] [] pos) ρ (.ml ((isort ns).map .int)) ρ1 :=
  .of (pe_callB cr_sortedI hg hm (by decide +kernel) (pa_cons pe_w pa_nil he) (he := he)) (ev_cbN h fun HF H x Q r s q => by
    obtain ⟨p, ys, rfl, h1, h2⟩ := r
    have := ints_dpa h2
    subst this
    refine ⟨p, ns, rfl, h1, fun ys l hp hs hl => ?_⟩
    rw [← isort_eq hp hs] at q
    exact q l (.lst _) hl (dpa_ints ys))
theorem e_abs (h : E X e ρ (.d (.int i)) ρ1) (hm : X.mg "abs" = none) (hg : Gl X "abs" := by rfl) (he : starEach [e] X.env = (false, eval e X.env) :: starEach [] X.env := by rfl) : E X (.Call (.Name "abs" pn) [e] [] pos) ρ (.d (.int (i.natAbs : Int))) ρ1 :=
  .of (pe_callB call_abs hg hm (by decide +kernel) (pa_cons pe_w pa_nil he) (he := he)) (ev_cb h.o fun HF H x Q r s q => by
    cases (show Dp X.K HF x (.int i) from r)
    exact ⟨i, rfl, by rw [show (if i < 0 then -i else i) = (i.natAbs : Int) by split <;> omega]; exact q _ (.int _)⟩)
theorem e_intI (h : E X e ρ (.d (.int i)) ρ1) (hm : X.mg "int" = none) (hg : Gl X "int" := by rfl) (he : starEach [e] X.env = (false, eval e X.env) :: starEach [] X.env := by rfl) : E X (.Call (.Name "int" pn) [e] [] pos) ρ (.d (.int i)) ρ1 :=
  .of (pe_callTy call_int1 hg hm (by decide +kernel) (pa_cons pe_w pa_nil he) (he := he)) (ev_cb h.o fun HF H x Q r s q => by
    cases (show Dp X.K HF x (.int i) from r)
    exact .inl ⟨i, rfl, q _ (.int _)⟩)
theorem e_intB {c : Bool} (h : E X e ρ (.d (.bool c)) ρ1) (hm : X.mg "int" = none) (hg : Gl X "int" := by rfl) (he : starEach [e] X.env = (false, eval e X.env) :: starEach [] X.env := by rfl) : E X (.Call (.Name "int" pn) [e] [] pos) ρ (.d (.int (if c then 1 else 0))) ρ1 :=
  .of (pe_callTy call_int1 hg hm (by decide +kernel) (pa_cons pe_w pa_nil he) (he := he)) (ev_cb h.o fun HF H x Q r s q => by
    cases (show Dp X.K HF x (.bool c) from r)
    exact .inr ⟨c, rfl, q _ (.int _)⟩)
def tyD : PyData → String
  | .none => "NoneType"
  | .bool _ => "bool"
  | .int _ => "int"
  | .str _ => "str"
  | .list _ => "list"
  | .tuple _ => "tuple"
  | .dict _ => "dict"
theorem tyX_of {K : PySem.W.Frag} {HF H : Hp} {x : V} (s : Same HF H) (r : ORel K HF H x v) : TyX K H x (.type (tyD v)) := by
  have hl : ∀ {p ys}, SqL K H p ys → TyX K H (.ref p) (.type "list") := fun {p ys} h => by
    rcases h with (h | ⟨o, h⟩) | ⟨o, _, _, h1, h2, _⟩
    · exact .base (.lst h)
    · exact .base (.frz h)
    · exact .kList h1 h2
  have ht : ∀ {p ys}, SqT K H p ys → TyX K H (.ref p) (.type "tuple") := fun {p ys} h => by
    rcases h with (h | ⟨o, h⟩) | ⟨o, _, _, h1, h2, _⟩
    · exact .base (.tup h)
    · exact .fTuple h
    · exact .kTuple h1 h2
  cases v with
  | list xs => obtain ⟨p, ys, rfl, h1, _⟩ := r; exact hl h1
  | none => cases (show Dp K HF x .none from r); exact .base .non
  | bool b => cases (show Dp K HF x (.bool b) from r); exact .base (.bl b)
  | int b => cases (show Dp K HF x (.int b) from r); exact .base (.int b)
  | str b => cases (show Dp K HF x (.str b) from r); exact .base (.str b)
  | tuple b => cases (show Dp K HF x (.tuple b) from r) with | tup h1 h2 => exact ht (same_t s h1)
  | dict b => cases (show Dp K HF x (.dict b) from r)
theorem e_isi {T : String} {tn : Str} {pt : Pos} (h : EO X e ρ v ρ1 k) (hk : kitB (tyD v) T = some b) (ht : bootBuiltins tn = some (.type T)) (hm : X.mg "isinstance" = none) (hmt : X.mg tn = none) (hg : Gl X "isinstance" := by rfl) (hgt : Gl X tn := by rfl) (hn : tn ≠ "__name__" := by decide) (hd : (tn == ("__debug__" : Str)) = false := by decide)
    (he : starEach [e, .Name tn pt] X.env = (false, eval e X.env) :: starEach [.Name tn pt] X.env := by rfl) (he2 : starEach [.Name tn pt] X.env = (false, eval (.Name tn pt) X.env) :: starEach [] X.env := by rfl) (hpl : (backTo pos (starEach [.Name tn pt] X.env)).any (·.1) = false := by rfl) : E X (.Call (.Name "isinstance" pn) [e, .Name tn pt] [] pos) ρ (.d (.bool b)) ρ1 :=
  .of (pe_callB call_isi hg hm (by decide +kernel) (pa_cons pe_w (pa_cons (pe_bltn (v := .ty T) hgt hmt ht rfl hn hd) pa_nil he2) he) (by decide) (by decide) he hpl) fun σ HF H S1 Q q => h σ HF H S1 _ fun x HF1 H1 S2 f1 r1 =>
    ⟨x, .ty T, _, _, b, rfl, .ty T, tyX_of S2.sub (r1 ρ1 HF1 H1 .refl S2 (.refl ..)), kit_ty hk, q _ HF1 H1 S2 f1 (.bl b)⟩
end
theorem op_catP {K : PySem.W.Frag} : True := trivial
/-- xs + ys of lists one has made oneself -/
def PlainL (X : Cx) (e : Expr) (ρ : Rho) (ds : List PyData) (ρ1 : Rho) (k : Option Nat) : Prop := ∀ σ HF H, Sl X.K ρ σ HF H → ∀ Q : VK,
  (∀ x HF' H', Sl X.K ρ1 σ HF' H' → Fw ρ ρ1 σ HF H HF' H' → (∀ ρ2 HF2 H2, Kp k ρ1 ρ2 → Sl X.K ρ2 σ HF2 H2 → Fw ρ1 ρ2 σ HF' H' HF2 H2 → ∃ p ys, x = .ref p ∧ H2 p = some (.lst ys) ∧ DpAll X.K HF2 ys ds) → Q x H') → wE X e σ H Q
theorem E.pl (h : E X e ρ (.ml ds) ρ1) : PlainL X e ρ ds ρ1 none := fun σ HF H S1 Q q => h σ HF H S1 Q fun x HF1 H1 S2 f1 r1 => by
  obtain ⟨p, o, rfl, h0, h1, h2, h3⟩ := r1
  refine q _ HF1 H1 S2 f1 fun ρ2 HF2 H2 _ S3 f2 => ?_
  cases o <;> first | exact h3.elim | skip
  exact ⟨p, _, rfl, f2.keep p _ h2 fun z => S1.notOwn h0 (f1.sh.own.mp z), dpa_mono f2.hf h3⟩
theorem pl_slot (i : Nat) (h : ρ[i]? = some (.ml ds)) (hN : X.N[i]? = some x := by rfl) (hv : Vis X.env.scope x := by first | exact Or.inl rfl | exact Or.inr (Or.inl rfl) | exact Or.inr (Or.inr rfl))
    (hd : (x == ("__debug__" : Str)) = false := by decide) (hcd : (x == ("__classdict__" : Str)) = false := by decide) : PlainL X (.Name x pos) ρ ds ρ (some i) := fun σ HF H S1 Q q => ⟨_, pe_var hN hv hd hcd, by
  obtain ⟨p, o, e, _⟩ := S1.ownAt h rfl
  refine ⟨.ref p, e, q _ HF H S1 (.refl ..) fun ρ2 HF2 H2 hk S2 f2 => ?_⟩
  obtain ⟨p2, o2, e2, h1, h2, h3⟩ := S2.ownAt ((show ρ2[i]? = ρ[i]? from hk).trans h) rfl
  rw [e] at e2
  cases e2
  cases o2 <;> first | exact h3.elim | skip
  exact ⟨p, _, rfl, h2, h3⟩⟩
theorem e_cat {es1 es2 : List PyData} {k1 k2 : Option Nat} (ha : PlainL X e1 ρ es1 ρ1 k1) (hb : PlainL X e2 ρ1 es2 ρ2 k2) (hz : es1.length + es2.length ≤ 100000) (hk : Kp k1 ρ1 ρ2 := by first | exact trivial | exact rfl) : E X (.BinOp e1 .Add e2 pos) ρ (.ml (es1 ++ es2)) ρ2 :=
  .of (pe_op op_cat pe_w pe_w) fun σ HF H S1 Q q => ha σ HF H S1 _ fun x HF1 H1 S2 f1 r1 => hb σ HF1 H1 S2 _ fun y HF2 H2 S3 f2 r2 => by
    obtain ⟨p, ys, rfl, g1, g2⟩ := r1 ρ2 HF2 H2 hk S3 f2
    obtain ⟨p', ys', rfl, g1', g2'⟩ := r2 ρ2 HF2 H2 .refl S3 (.refl ..)
    have l1 := dpa_len g2
    have l2 := dpa_len g2'
    refine ⟨p, p', ys, ys', rfl, rfl, g1, g1', Nat.le_trans (by omega) (show 100000 ≤ sizeLine by decide), fun r hr => ?_⟩
    obtain ⟨S4, f4⟩ := S3.allocO hr (.lst (ys ++ ys'))
    have f := f1.trans f2
    exact q _ _ _ S4 (f.trans f4) ⟨r, _, rfl, f.fresh hr, S3.hfNone hr, upd_same, dpa_app g2 g2'⟩
end
end Th

set_option Elab.async false
set_option linter.all false
set_option maxRecDepth 100000
namespace Th
open PySem PySem.Spec PyProof.Rows L2

theorem nl {B : Bs} {L : List Nat} {i : Nat} (hB : ∀ q ∈ B.L, q.1 ∈ L) (h : i ∉ L := by decide) : ∀ q ∈ B.L, q.1 ≠ i := fun q hq e => h (e ▸ hB q hq)
theorem Le.e {a b : A} {r r' : Rho} (h : a = b) (t : Le r r') : Le (a :: r) (b :: r') := h ▸ .eq t
theorem Le.dd {v w : PyData} {r r' : Rho} (h : v = w) (t : Le r r') : Le (.d v :: r) (.d w :: r') := h ▸ .eq t
theorem Le.ll {v w : List PyData} {r r' : Rho} (h : v = w) (t : Le r r') : Le (.ml v :: r) (.ml w :: r') := h ▸ .eq t
theorem Le.kk {v w : List (Key × PyData)} {r r' : Rho} (h : v = w) (t : Le r r') : Le (.mk v :: r) (.mk w :: r') := h ▸ .eq t
theorem Le.trans {a b c : Rho} (h : Le a b) (g : Le b c) : Le a c := by
  induction g generalizing a with
  | nil => exact h
  | eq g ih =>
    cases h with
    | eq h => exact .eq (ih h)
    | any h => exact .any (ih h)
  | any g ih =>
    cases h with
    | eq h => exact .any (ih h)
    | any h => exact .any (ih h)
section
variable {X : Cx} {B : Bs} {P : Pst} {ρ ρ1 ρ2 ρ3 : Rho} {tg iter e e1 e2 : Expr} {es : List Expr} {pos : Pos} {ds : List PyData} {t : TS}
theorem Ex.leP {K : PySem.W.Frag} {I I' : Rho → Prop} (h : Ex K B t ρ (bodyP P I)) (hi : ∀ ρ, I ρ → ∃ ρ', Le ρ ρ' ∧ I' ρ') : Ex K B t ρ (bodyP P I') := fun σ HF H S b D o => h σ HF H S b D
  ⟨fun ρ σ HF' H i S b s => by
    obtain ⟨ρ', l, i'⟩ := hi ρ i
    exact o.nx ρ' σ HF' H i' (S.le l) (b.le l) s, o.rt, o.bk, fun ρ σ HF' H i S b s => by
    obtain ⟨ρ', l, i'⟩ := hi ρ i
    exact o.ct ρ' σ HF' H i' (S.le l) (b.le l) s⟩
theorem Ex.toLe {K : PySem.W.Frag} (h : Ex K B t ρ1 P) (l : Le ρ ρ1) : Ex K B t ρ P := h.le l
/-- a for whose slots are told turn by turn -/
theorem s_forR {body : List Stmt} (hi : Src X tg iter ρ ds ρ1 none) (R : Nat → Rho) (h0 : Le ρ1 (R 0)) (hb : ∀ i v, ds[i]? = some v → ∃ ρ2, GT X B tg v (R i) ρ2 ∧ Ss X B body ρ2 (bodyP P fun ρ => Le ρ (R (i + 1)))) (hd : ∀ ρ', Le ρ' (R ds.length) → P.nx ρ')
    (hp : PassesOwn (model X.prog X.w) X.A X.env X.xe := by exact PassesOwn.never) (hc : X.calm = true := by rfl) (hs : ∀ x, foldedSetIterable iter X.env x = pure x := by intro _; rfl) : S X B (.For tg iter body [] pos) ρ P := by
  refine s_for hi (fun i ρ => Le ρ (R i)) h0 (fun i v ρ' hv hI => ?_) hd hp hc hs
  obtain ⟨ρ2, g, h⟩ := hb i v hv
  refine ⟨_, (show GT X B tg v ρ' ρ2 from fun x σ HF H S1 r Q q => g x σ HF H (S1.le hI) r Q fun σ' S' b' => q σ' S' fun b => b' (b.le hI)), h⟩
/-- a for that folds -/
theorem s_forF {body : List Stmt} {α T : Type} {xs : List α} (enc : α → PyData) (hi : Src X tg iter ρ (xs.map enc) ρ1 none) (t0 : T) (step : T → α → T) (emb : T → Rho) (J : T → Nat → Prop) (hJ : J t0 0) (h0 : Le ρ1 (emb t0))
    (hb : ∀ t (i : Nat) x, xs[i]? = some x → J t i → J (step t x) (i + 1) ∧ ∃ ρ2, GT X B tg (enc x) (emb t) ρ2 ∧ Ss X B body ρ2 (bodyP P fun ρ => Le ρ (emb (step t x)))) (hd : ∀ ρ', J (xs.foldl step t0) xs.length → Le ρ' (emb (xs.foldl step t0)) → P.nx ρ')
    (hp : PassesOwn (model X.prog X.w) X.A X.env X.xe := by exact PassesOwn.never) (hc : X.calm = true := by rfl) (hs : ∀ x, foldedSetIterable iter X.env x = pure x := by intro _; rfl) : S X B (.For tg iter body [] pos) ρ P := by
  have hJall : ∀ i, i ≤ xs.length → J ((xs.take i).foldl step t0) i := fun i => by
    induction i with
    | zero => intro _; exact hJ
    | succ i ih =>
      intro hi
      have e := List.getElem?_eq_getElem (show i < xs.length by omega)
      rw [List.take_add_one, e, List.foldl_append]
      exact (hb _ i _ e (ih (by omega))).1
  refine s_forR hi (fun i => emb ((xs.take i).foldl step t0)) h0 (fun i v hv => ?_) (fun ρ' l => ?_) hp hc hs
  · rw [List.getElem?_map] at hv
    cases q : xs[i]? with
    | none => rw [q] at hv; cases hv
    | some x =>
      rw [q] at hv
      cases hv
      have hlt := (List.getElem?_eq_some_iff.mp q).1
      obtain ⟨_, ρ2, g, h⟩ := hb _ i x q (hJall i (by omega))
      refine ⟨ρ2, g, ?_⟩
      have e2 : (xs.take (i + 1)).foldl step t0 = step ((xs.take i).foldl step t0) x := by rw [List.take_add_one, q, List.foldl_append]; rfl
      rw [e2]
      exact h
  · rw [List.length_map, List.take_length] at l
    exact hd ρ' (by have := hJall xs.length (Nat.le_refl _); rwa [List.take_length] at this) l
/-- a while by a state -/
theorem s_whileR {c : Expr} {body : List Stmt} {T : Type} (emb : T → Rho) (μ : T → Nat) (J : T → Prop) (t0 : T) (hJ : J t0) (h0 : Le ρ (emb t0)) (hs : ∀ t, J t → ∃ b ρ1, ET X c (emb t) b ρ1 ∧ (b = true → Ss X B body ρ1 (bodyP P fun ρ2 => ∃ t', J t' ∧ μ t' < μ t ∧ Le ρ2 (emb t'))) ∧ (b = false → ∀ ρ', Le ρ' ρ1 → P.nx ρ'))
    (hp : PassesOwn (model X.prog X.w) X.A X.env X.xe := by exact PassesOwn.never) : S X B (.While c body [] pos) ρ P := by
  refine s_while (fun m ρ => ∃ t, J t ∧ μ t = m ∧ ρ = emb t) (μ t0) ⟨t0, hJ, rfl, rfl⟩ ?_ hp |> fun h => Ex.toLe h h0
  rintro m ρ' ⟨t, hj, rfl, rfl⟩
  obtain ⟨b, ρ1, h1, h2, h3⟩ := hs t hj
  refine ⟨b, ρ1, h1, fun hb => (h2 hb).leP fun ρ ⟨t', j', m', l⟩ => ⟨emb t', l, μ t', m', t', j', rfl, rfl⟩, fun hb => h3 hb ρ1 (.refl _)⟩
end
theorem map_get {α β : Type} {f : α → β} {xs : List α} {i : Nat} {y : β} (h : (xs.map f)[i]? = some y) : ∃ x, xs[i]? = some x ∧ y = f x := by
  rw [List.getElem?_map] at h
  cases q : xs[i]? with
  | none => rw [q] at h; cases h
  | some x => rw [q] at h; exact ⟨x, rfl, (Option.some.inj h).symm⟩
theorem getD_of {xs : List Int} {i : Nat} (h : i < xs.length) : xs[i]? = some (xs.getD i 0) := by
  rw [List.getD_eq_getElem?_getD, List.getElem?_eq_getElem h]
  rfl
theorem ints_at {xs : List Int} {i : Nat} (h : i < xs.length) : (xs.map PyData.int)[i]? = some (.int (xs.getD i 0)) := by
  rw [List.getElem?_map, getD_of h]
  rfl
theorem ints_set (xs : List Int) (i : Nat) (v : Int) : (xs.map PyData.int).set i (.int v) = (xs.set i v).map PyData.int := by rw [List.map_set]

/-! dicts from ints -/
section
variable {α : Type} (f : α → PyData)
def getI (m : List (Int × α)) (k : Int) : Option α := (m.find? fun kv => decide (kv.1 = k)).map (·.2)
def setI (m : List (Int × α)) (k : Int) (v : α) : List (Int × α) := if (m.any fun kv => decide (kv.1 = k)) = true then m.map (fun kv => if kv.1 = k then (kv.1, v) else kv) else m ++ [(k, v)]
def delI (m : List (Int × α)) (k : Int) : List (Int × α) := m.filter fun kv => decide (kv.1 ≠ k)
def encD (m : List (Int × α)) : List (Key × PyData) := m.map fun p => (Sum.inl p.1, f p.2)
theorem getK_enc (m : List (Int × α)) (k : Int) : getK (encD f m) (Sum.inl k) = (getI m k).map f := by
  unfold getK getI encD
  induction m with
  | nil => rfl
  | cons p m ih =>
    rw [List.map_cons, List.find?_cons, List.find?_cons]
    by_cases e : p.1 = k
    · simp [e]
    · have h1 : decide ((Sum.inl p.1 : Key) = Sum.inl k) = false := by simp [e]
      have h2 : decide (p.1 = k) = false := by simp [e]
      simp only [h1, h2]
      exact ih
theorem any_enc (m : List (Int × α)) (k : Int) : ((encD f m).any fun kv => decide (kv.1 = (Sum.inl k : Key))) = (m.any fun kv => decide (kv.1 = k)) := by
  unfold encD
  induction m with
  | nil => rfl
  | cons p m ih =>
    rw [List.map_cons, List.any_cons, List.any_cons, ih]
    congr 1
    simp
theorem setK_enc (m : List (Int × α)) (k : Int) (v : α) : setK (encD f m) (Sum.inl k) (f v) = encD f (setI m k v) := by
  unfold setK setI
  rw [any_enc]
  split
  · unfold encD
    rw [List.map_map, List.map_map]
    apply List.map_congr_left
    intro p _
    simp only [Function.comp]
    by_cases e : p.1 = k
    · simp [e]
    · simp [e]
  · unfold encD
    rw [List.map_append]
    rfl
theorem delK_enc (m : List (Int × α)) (k : Int) : delK (encD f m) (Sum.inl k) = encD f (delI m k) := by
  unfold delK delI encD
  rw [List.filter_map]
  congr 1
  apply List.filter_congr
  intro p _
  simp
theorem keys_enc (m : List (Int × α)) : (encD f m).map (·.1) = (m.map (·.1)).map Sum.inl := by
  unfold encD
  rw [List.map_map, List.map_map]
  rfl
theorem len_enc (m : List (Int × α)) : (encD f m).length = m.length := by unfold encD; rw [List.length_map]
variable {f}
theorem setI_len (m : List (Int × α)) (k : Int) (v : α) : (setI m k v).length ≤ m.length + 1 := by
  unfold setI
  split
  · rw [List.length_map]; omega
  · rw [List.length_append]; simp
theorem getI_some {m : List (Int × α)} {k : Int} (h : k ∈ m.map (·.1)) : ∃ v, getI m k = some v := by
  unfold getI
  induction m with
  | nil => cases h
  | cons p m ih =>
    rw [List.find?_cons]
    by_cases e : p.1 = k
    · exact ⟨p.2, by simp [e]⟩
    · have h2 : decide (p.1 = k) = false := by simp [e]
      rw [h2]
      rw [List.map_cons, List.mem_cons] at h
      exact ih (h.resolve_left fun z => e z.symm)
theorem getI_mem {m : List (Int × α)} {k : Int} {v : α} (h : getI m k = some v) : (k, v) ∈ m := by
  unfold getI at h
  cases q : m.find? fun kv => decide (kv.1 = k) with
  | none => rw [q] at h; cases h
  | some p =>
    rw [q] at h
    have h1 := List.mem_of_find?_eq_some q
    have h2 := List.find?_some q
    simp at h2
    have h3 : p.2 = v := Option.some.inj h
    rw [← h2, ← h3]
    exact h1
end
/-- items by place -/
theorem atI_nat' {α : Type} {xs : List α} {i : Int} (h0 : 0 ≤ i) : atI xs i = xs[i.toNat]? := by
  unfold atI ixN
  rw [if_pos h0]
  by_cases h : i < xs.length
  · rw [if_pos h]; rfl
  · rw [if_neg h]
    exact (List.getElem?_eq_none (by omega)).symm
theorem ixN_nat {n : Nat} {i : Int} (h0 : 0 ≤ i) (h : i < n) : ixN n i = some i.toNat := by
  unfold ixN
  rw [if_pos h0, if_pos h]
theorem take_cut {α : Type} (xs : List α) (k : Nat) : cut xs none (some (k : Int)) = xs.take k := by
  unfold cut
  rw [HT.sIx_none, HT.sIx_nat]
  simp
theorem drop_cut {α : Type} (xs : List α) (k : Nat) : cut xs (some (k : Int)) none = xs.drop k := by
  unfold cut
  rw [HT.sIx_none, HT.sIx_nat]
  by_cases h : k ≤ xs.length
  · rw [Nat.min_eq_left h]
    exact List.take_of_length_le (by simp)
  · rw [Nat.min_eq_right (by omega)]
    simp
    omega
theorem cut_mid {α : Type} (xs : List α) (a b : Nat) : cut xs (some (a : Int)) (some (b : Int)) = (xs.take b).drop a := by
  unfold cut
  rw [HT.sIx_nat, HT.sIx_nat]
  apply List.ext_getElem?
  intro i
  rw [List.getElem?_drop, List.getElem?_take, List.getElem?_take, List.getElem?_drop]
  by_cases h : a ≤ xs.length
  · rw [Nat.min_eq_left h]
    by_cases h2 : b ≤ xs.length
    · rw [Nat.min_eq_left h2]
      by_cases h3 : i < b - a
      · rw [if_pos h3, if_pos (by omega)]
      · rw [if_neg h3, if_neg (by omega)]
    · rw [Nat.min_eq_right (show xs.length ≤ b by omega)]
      by_cases h3 : i < xs.length - a
      · rw [if_pos h3, if_pos (by omega)]
      · rw [if_neg h3]
        split
        · exact (List.getElem?_eq_none (by omega)).symm
        · rfl
  · rw [Nat.min_eq_right (show xs.length ≤ a by omega)]
    rw [List.getElem?_eq_none (show xs.length ≤ xs.length + i by omega), List.getElem?_eq_none (show xs.length ≤ a + i by omega)]
    split <;> split <;> rfl
end Th

set_option Elab.async false
set_option linter.all false
set_option maxRecDepth 100000
namespace Th
open PySem PySem.Spec PyProof.Rows L2

/-! data that can be compared -/
def Fit (n : Nat) (d : PyData) : Prop := d.canLay0 = true ∧ d.depth ≤ n
theorem Fit.shaped {n : Nat} {d : PyData} (h : Fit n d) (hn : n ≤ 64 := by decide) : SeqAt.shaped d = true := by
  unfold SeqAt.shaped
  rw [h.1, decide_eq_true (Nat.le_trans h.2 hn)]
  rfl
theorem fit_int {n : Nat} (i : Int) : Fit n (.int i) := ⟨rfl, Nat.zero_le _⟩
theorem fit_bool {n : Nat} (i : Bool) : Fit n (.bool i) := ⟨rfl, Nat.zero_le _⟩
theorem fit_none {n : Nat} : Fit n .none := ⟨rfl, Nat.zero_le _⟩
theorem fit_str {n : Nat} {x : Str} (h : PyData.strOk x = true) : Fit n (.str x) := ⟨h, Nat.zero_le _⟩
theorem fitAll {n : Nat} : ∀ {xs : List PyData}, (∀ x ∈ xs, Fit n x) → PyData.canLayAll0 xs = true ∧ PyData.depthAll xs ≤ n
  | [], _ => ⟨rfl, Nat.zero_le _⟩
  | x :: xs, h => by
    have h1 := h x List.mem_cons_self
    have h2 := fitAll (xs := xs) fun y hy => h y (List.mem_cons_of_mem _ hy)
    refine ⟨?_, ?_⟩
    · unfold PyData.canLayAll0
      rw [h1.1, h2.1]
      rfl
    · unfold PyData.depthAll
      exact Nat.max_le.mpr ⟨h1.2, h2.2⟩
theorem fit_list {n : Nat} {xs : List PyData} (h : ∀ x ∈ xs, Fit n x) : Fit (n + 1) (.list xs) := by
  have := fitAll h
  refine ⟨?_, ?_⟩
  · unfold PyData.canLay0; exact this.1
  · unfold PyData.depth; omega
theorem fit_tuple {n : Nat} {xs : List PyData} (h : ∀ x ∈ xs, Fit n x) : Fit (n + 1) (.tuple xs) := by
  have := fitAll h
  refine ⟨?_, ?_⟩
  · unfold PyData.canLay0; exact this.1
  · unfold PyData.depth; omega
theorem fit_mono {n m : Nat} {d : PyData} (h : Fit n d) (hm : n ≤ m) : Fit m d := ⟨h.1, Nat.le_trans h.2 hm⟩
theorem fit_lm {n : Nat} {α : Type} {f : α → PyData} {xs : List α} (h : ∀ x ∈ xs, Fit n (f x)) : Fit (n + 1) (.list (xs.map f)) := fit_list fun y hy => by
  obtain ⟨x, hx, rfl⟩ := List.mem_map.mp hy
  exact h x hx
theorem fit_tm {n : Nat} {α : Type} {f : α → PyData} {xs : List α} (h : ∀ x ∈ xs, Fit n (f x)) : Fit (n + 1) (.tuple (xs.map f)) := fit_tuple fun y hy => by
  obtain ⟨x, hx, rfl⟩ := List.mem_map.mp hy
  exact h x hx
theorem fit_t2 {n : Nat} {a b : PyData} (h1 : Fit n a) (h2 : Fit n b) : Fit (n + 1) (.tuple [a, b]) := fit_tuple fun y hy => by
  rcases List.mem_cons.mp hy with rfl | hy
  · exact h1
  · rcases List.mem_cons.mp hy with rfl | hy
    · exact h2
    · cases hy
/-- == tells the same as = -/
def EqE {α : Type} [DecidableEq α] (f : α → PyData) : Prop := ∀ a b, PyData.eqv (f a) (f b) = decide (a = b)
theorem eqE_int : EqE PyData.int := fun a b => by
  unfold PyData.eqv
  by_cases h : a = b <;> simp [h]
theorem eqE_str : EqE PyData.str := fun a b => by
  unfold PyData.eqv
  by_cases h : a = b <;> simp [h]
theorem eqE_all {α : Type} [DecidableEq α] {f : α → PyData} (h : EqE f) : ∀ xs ys : List α, PyData.eqvAll (xs.map f) (ys.map f) = decide (xs = ys)
  | [], [] => rfl
  | [], _ :: _ => rfl
  | _ :: _, [] => rfl
  | x :: xs, y :: ys => by
    rw [List.map_cons, List.map_cons]
    unfold PyData.eqvAll
    rw [h x y, eqE_all h xs ys]
    by_cases e : x = y <;> by_cases e2 : xs = ys <;> simp [e, e2]
theorem eqE_list {α : Type} [DecidableEq α] {f : α → PyData} (h : EqE f) : EqE fun xs : List α => PyData.list (xs.map f) := fun xs ys => by
  show PyData.eqv (.list _) (.list _) = _
  unfold PyData.eqv
  exact eqE_all h xs ys
theorem eqE_tuple {α : Type} [DecidableEq α] {f : α → PyData} (h : EqE f) : EqE fun xs : List α => PyData.tuple (xs.map f) := fun xs ys => by
  show PyData.eqv (.tuple _) (.tuple _) = _
  unfold PyData.eqv
  exact eqE_all h xs ys
theorem eqE_pair {α β : Type} [DecidableEq α] [DecidableEq β] {f : α → PyData} {g : β → PyData} (h1 : EqE f) (h2 : EqE g) : EqE fun p : α × β => PyData.tuple [f p.1, g p.2] := fun p q => by
  obtain ⟨a, b⟩ := p
  obtain ⟨c, d⟩ := q
  show PyData.eqv (.tuple _) (.tuple _) = _
  unfold PyData.eqv PyData.eqvAll PyData.eqvAll PyData.eqvAll
  simp only [h1 a c, h2 b d]
  by_cases e : a = c <;> by_cases e2 : b = d <;> simp [e, e2]
theorem eqE_triple {α β γ : Type} [DecidableEq α] [DecidableEq β] [DecidableEq γ] {f : α → PyData} {g : β → PyData} {k : γ → PyData} (h1 : EqE f) (h2 : EqE g) (h3 : EqE k) : EqE fun p : α × β × γ => PyData.tuple [f p.1, g p.2.1, k p.2.2] := fun p q => by
  obtain ⟨a, b, x⟩ := p
  obtain ⟨c, d, y⟩ := q
  show PyData.eqv (.tuple _) (.tuple _) = _
  unfold PyData.eqv PyData.eqvAll PyData.eqvAll PyData.eqvAll PyData.eqvAll
  simp only [h1 a c, h2 b d, h3 x y]
  by_cases e : a = c <;> by_cases e2 : b = d <;> by_cases e3 : x = y <;> simp [e, e2, e3]

/-! items of written lists -/
theorem at_ints {xs : List Int} {i : Int} (h0 : 0 ≤ i) (h : i < xs.length) : atI (xs.map PyData.int) i = some (.int (xs.getD i.toNat 0)) := by
  rw [atI_nat' h0]
  exact ints_at (by omega)
theorem at_i2 {a b i : Int} (h0 : 0 ≤ i) (h : i < 2) : atI [PyData.int a, .int b] i = some (.int ([a, b].getD i.toNat 0)) := at_ints (xs := [a, b]) h0 h
theorem at_i3 {a b c i : Int} (h0 : 0 ≤ i) (h : i < 3) : atI [PyData.int a, .int b, .int c] i = some (.int ([a, b, c].getD i.toNat 0)) := at_ints (xs := [a, b, c]) h0 h
theorem at_i4 {a b c d i : Int} (h0 : 0 ≤ i) (h : i < 4) : atI [PyData.int a, .int b, .int c, .int d] i = some (.int ([a, b, c, d].getD i.toNat 0)) := at_ints (xs := [a, b, c, d]) h0 h
theorem at_get {xs : List PyData} {i : Int} {v : PyData} (h0 : 0 ≤ i) (h : xs[i.toNat]? = some v) : atI xs i = some v := (atI_nat' h0).trans h
theorem emod_lo {a b : Int} (h : 0 < b := by decide) : 0 ≤ a % b := Int.emod_nonneg _ (by omega)
theorem emod_hi {a b : Int} (h : 0 < b := by decide) : a % b < b := Int.emod_lt_of_pos _ h

/-! isinstance -/
inductive Ty where
  | bool | int | str | list | tuple | dict
def Ty.nm : Ty → String
  | .bool => "bool"
  | .int => "int"
  | .str => "str"
  | .list => "list"
  | .tuple => "tuple"
  | .dict => "dict"
def isi : PyData → Ty → Bool
  | .bool _, .bool => true
  | .bool _, .int => true
  | .int _, .int => true
  | .str _, .str => true
  | .list _, .list => true
  | .tuple _, .tuple => true
  | .dict _, .dict => true
  | _, _ => false
theorem kit_isi (v : PyData) (T : Ty) : kitB (tyD v) T.nm = some (isi v T) := by
  have h : ∀ s ∈ ["NoneType", "bool", "int", "str", "list", "tuple", "dict"], ∀ t ∈ ["bool", "int", "str", "list", "tuple", "dict"], kitB s t = some (s == t || (s == "bool" && t == "int")) := by decide +kernel
  have hv : tyD v ∈ ["NoneType", "bool", "int", "str", "list", "tuple", "dict"] := by cases v <;> simp [tyD]
  have hT : T.nm ∈ ["bool", "int", "str", "list", "tuple", "dict"] := by cases T <;> simp [Ty.nm]
  rw [h _ hv _ hT]
  cases v <;> cases T <;> rfl
theorem boot_ty (T : Ty) : bootBuiltins (Str.ofString T.nm) = some (.type T.nm) := by
  cases T <;> decide +kernel
/-! slots that hold no own object -/
def noOwn (ρ : Rho) (vs : List Nat) : Bool := vs.all fun i => match ρ[i]? with
  | some a => !a.own
  | none => true
theorem no_own {ρ : Rho} {vs : List Nat} (h : noOwn ρ vs = true) : ∀ (j : Nat) (a : A), j ∈ vs → ρ[j]? = some a → a.own = false := fun j a hj e => by
  unfold noOwn at h
  have := List.all_eq_true.mp h j hj
  rw [e] at this
  simpa using this
section
variable {X : Cx} {B : Bs} {P : Pst} {ρ ρ1 ρ2 ρ3 : Rho} {tg iter e e1 e2 : Expr} {es : List Expr} {pos : Pos} {ds : List PyData} {k : Option Nat} {i j : Int}
theorem e_mulS (ha : E X e1 ρ (.d (.int i)) ρ1) (hb : E X e2 ρ1 (.d (.int j)) ρ2) (hc : CMul i j) : E X (.BinOp e1 .Mult e2 pos) ρ (.d (.int (i * j))) ρ2 := .of (pe_op op_mul pe_w pe_w) (ev_op ha hb (rv_I hc fun _ => .int _))
theorem e_is (T : Ty) {v : PyData} {pt pn : Pos} (h : EO X e ρ v ρ1 k) (hm : X.mg "isinstance" = none) (hmt : X.mg (Str.ofString T.nm) = none) (hg : Gl X "isinstance" := by rfl) (hgt : Gl X (Str.ofString T.nm) := by rfl) (hn : (Str.ofString T.nm) ≠ "__name__" := by decide) (hd : ((Str.ofString T.nm) == ("__debug__" : Str)) = false := by decide)
    (he : starEach [e, .Name (Str.ofString T.nm) pt] X.env = (false, eval e X.env) :: starEach [.Name (Str.ofString T.nm) pt] X.env := by rfl) (he2 : starEach [.Name (Str.ofString T.nm) pt] X.env = (false, eval (.Name (Str.ofString T.nm) pt) X.env) :: starEach [] X.env := by rfl) (hpl : (backTo pos (starEach [.Name (Str.ofString T.nm) pt] X.env)).any (·.1) = false := by rfl) : E X (.Call (.Name "isinstance" pn) [e, .Name (Str.ofString T.nm) pt] [] pos) ρ (.d (.bool (isi v T))) ρ1 :=
  e_isi (T := T.nm) h (kit_isi v T) (boot_ty T) hm hmt hg hgt hn hd he he2 hpl
/-- a comprehension over typed items -/
theorem e_lcF {α : Type} {xs : List α} {scope : Scope} (own : List (Str × Nat)) {elt : Expr} {ifs : List Expr} (enc : α → PyData) (p : α → Bool) (g : α → PyData)
    (ht : Src X tg iter ρ (xs.map enc) ρ1 k) (hN : X.N.Nodup) (hz : xs.length < 100000)
    (hb : ∀ (i : Nat) (x : α), xs[i]? = some x → ∃ ρ2 : Rho, (∀ (s : Shared) (H : Hp) (C : Addr) (cl : List (Str × Addr)) (fp : List Addr), GC (X.blk s H scope (compEnvC scope cl C X.env) fp) (own.map (·.2)) tg (enc x) (wipeR ρ1 (own.map (·.2))) ρ2) ∧
      (∀ (s : Shared) (H : Hp) (C : Addr) (cl : List (Str × Addr)) (fp : List Addr), EI (X.blk s H scope (compEnvC scope cl C X.env) fp) ifs ρ2 (p x) ρ2) ∧
      (p x = true → ∀ (s : Shared) (H : Hp) (C : Addr) (cl : List (Str × Addr)) (fp : List Addr), E (X.blk s H scope (compEnvC scope cl C X.env) fp) elt ρ2 (.d (g x)) ρ2) ∧ wipeR ρ2 (own.map (·.2)) = wipeR ρ1 (own.map (·.2)))
    (hv : noOwn ρ1 (own.map (·.2)) = true) (hkk : ∀ j, k = some j → j ∉ own.map (·.2)) (ok : BlkOk X.N X.env.scope scope own)
    (hc : X.calm = true := by rfl) (hs : ∀ x, foldedSetIterable iter X.env x = pure x := by intro _; rfl) : E X (.ListComp elt [⟨tg, iter, ifs, 0⟩] scope pos) ρ (.ml ((xs.filter p).map g)) ρ1 := by
  refine ev_lc (out := (xs.filter p).map g) (D0 := []) ht ok hN (fun i ρ' acc => ρ' = wipeR ρ1 (own.map (·.2)) ∧ acc = ((xs.take i).filter p).map g) ⟨rfl, rfl⟩ (fun i ρ' acc ⟨e, _⟩ => ⟨?_, hkk⟩) (fun i v ρ' acc hi ⟨e1, e2⟩ => ?_) (fun ρ' acc ⟨e1, e2⟩ => ?_) (by rw [List.length_map]; exact Nat.lt_of_lt_of_le hz (by decide)) (fun i ρ' acc ⟨_, e⟩ => ?_) hc hs
  · subst e
    cases k with
    | none => trivial
    | some j => exact wipeR_off (hkk j rfl)
  · subst e1
    obtain ⟨x, hx, rfl⟩ := map_get hi
    obtain ⟨ρ2, h1, h2, h3, h4⟩ := hb i x hx
    have tk : xs.take (i + 1) = xs.take i ++ [x] := by rw [List.take_add_one, hx]; rfl
    refine ⟨ρ2, p x, ρ2, h1, h2, fun z => ⟨g x, ρ2, h3 z, h4, ?_⟩, fun z => ⟨h4, ?_⟩⟩
    · rw [e2, tk, List.filter_append, List.map_append]
      simp [z]
    · rw [e2, tk, List.filter_append, List.map_append]
      simp [z]
  · subst e1
    rw [List.length_map, List.take_length] at e2
    exact ⟨e2, unw_id (no_own hv)⟩
  · rw [e, List.length_map]
    refine Nat.le_trans (List.length_filter_le _ _) ?_
    rw [List.length_take]
    exact Nat.min_le_left _ _
/-- .. without a test -/
theorem e_lcM {α : Type} {xs : List α} {scope : Scope} (own : List (Str × Nat)) {elt : Expr} (enc : α → PyData) (g : α → PyData)
    (ht : Src X tg iter ρ (xs.map enc) ρ1 k) (hN : X.N.Nodup) (hz : xs.length < 100000)
    (hb : ∀ (i : Nat) (x : α), xs[i]? = some x → ∃ ρ2 : Rho, (∀ (s : Shared) (H : Hp) (C : Addr) (cl : List (Str × Addr)) (fp : List Addr), GC (X.blk s H scope (compEnvC scope cl C X.env) fp) (own.map (·.2)) tg (enc x) (wipeR ρ1 (own.map (·.2))) ρ2) ∧
      (∀ (s : Shared) (H : Hp) (C : Addr) (cl : List (Str × Addr)) (fp : List Addr), E (X.blk s H scope (compEnvC scope cl C X.env) fp) elt ρ2 (.d (g x)) ρ2) ∧ wipeR ρ2 (own.map (·.2)) = wipeR ρ1 (own.map (·.2)))
    (hv : noOwn ρ1 (own.map (·.2)) = true) (hkk : ∀ j, k = some j → j ∉ own.map (·.2)) (ok : BlkOk X.N X.env.scope scope own)
    (hc : X.calm = true := by rfl) (hs : ∀ x, foldedSetIterable iter X.env x = pure x := by intro _; rfl) : E X (.ListComp elt [⟨tg, iter, [], 0⟩] scope pos) ρ (.ml (xs.map g)) ρ1 := by
  have h := e_lcF (pos := pos) (elt := elt) (ifs := []) own enc (fun _ => true) g ht hN hz (fun i x hx => by
    obtain ⟨ρ2, h1, h2, h3⟩ := hb i x hx
    exact ⟨ρ2, h1, fun s H C cl fp => i_nil, fun _ => h2, h3⟩) hv hkk ok hc hs
  rwa [List.filter_eq_self.mpr fun _ _ => rfl] at h
theorem gcn {vs : List Nat} (i : Nat) {x : Str} {v : PyData} (hv : noOwn ρ vs = true) (hm : i ∈ vs) (hN : X.N.Nodup) (hi : X.N[i]? = some x := by rfl) (hx : Loc X.env.scope x := by first | exact Or.inl rfl | exact Or.inr rfl) (hf : X.fn x = true ∨ X.env.scope.names.lookup x = some .local := by first | exact .inl rfl | exact .inr rfl) :
    GC X vs (.Name x pos) v ρ (ρ.set i (.d v)) := gc_name i (fun a h => no_own hv i a hm h) (no_own hv) hm hN hi hx hf
theorem gcsn {vs : List Nat} (hv : noOwn ρ vs = true) : GCs X vs [] [] ρ ρ := gcs_nil (no_own hv)
end
end Th

set_option Elab.async false
set_option linter.all false
set_option maxRecDepth 100000
namespace Th
open PySem PySem.Spec PyProof.Rows L2

theorem own_map {ds : List PyData} : ∀ a ∈ ds.map A.d, a.own = false := fun a h => by
  obtain ⟨d, _, rfl⟩ := List.mem_map.mp h
  rfl
theorem pr_pure {r : A} {ds : List PyData} {ρ : Rho} : PR r (ds.map A.d) r ρ := pr_data own_map
theorem pr_is {r a : A} {ds : List PyData} {ρ : Rho} (h : a = r) : PR r (ds.map A.d) a ρ := h ▸ pr_pure
section
variable {P : Program} {w : World} {K : PySem.W.Frag} {mg : Str → Option Value} {base : Heap}
/-- a def that takes data and changes nothing -/
theorem fn_pure {x qual : Str} {st : Stmt} {f : Addr} {fd : FuncData} {N ps : List Str} {k : Nat} {F : List PyData → A → Prop} (G : Fun K x qual st f fd) (S0 : FnScope N ps (defScope st)) (hn : ps.length ≤ N.length) (hF : ∀ ds r, F ds r → ds.length = ps.length)
    (hbody : ∀ (cdv : Value) (A1 : Around) (outer : List Env) (s : Shared) (H : Hp) (W : XK) (B : Bs) (ds : List PyData) (r : A), Room k (A1.deeper (envOfC qual (defScope st) s.heap.objs.size f cdv)) → F ds r → (∀ q ∈ B.L, q.1 ∈ ([] : List Nat)) →
      Ss (cxOf CX0 P w K mg base N qual (defScope st) f cdv A1 outer s H W).nox B (defBody st) (ds.map A.d ++ List.replicate (N.length - ps.length) .any) (PF r (ds.map A.d))) : FnOk P w K mg base CX0 (k + 1) f fd ps (spA K (pure_ F)) :=
  fn_ok G S0 (fun as r as' ⟨ds, e, _, h⟩ => by rw [e, List.length_map]; exact hF ds r h) hn [] (fun as r as' ⟨ds, e, _, h⟩ i a e2 o => by
    rw [e] at e2
    have := own_map a (List.mem_of_getElem? e2)
    rw [o] at this
    cases this) fun cdv A1 outer s H W B as r as' hr ⟨ds, e1, e2, h⟩ hB => by
    subst e1
    subst e2
    exact hbody cdv A1 outer s H W B ds r hr h hB
end
section
variable {X : Cx} {B : Bs} {P : Pst} {ρ ρ1 ρ2 ρ3 : Rho} {tg iter e e1 e2 : Expr} {es : List Expr} {pos : Pos} {ds es1 es2 : List PyData} {k : Option Nat} {i j : Int} {b : Bool} {v w : PyData}
theorem toA_dat (ρ : Rho) : ∀ ds : List PyData, (ds.map Arg.dat).map (toA ρ) = ds.map A.d
  | [] => rfl
  | d :: ds => congrArg (A.d d :: ·) (toA_dat ρ ds)
theorem back_dat (ρ : Rho) : ∀ ds : List PyData, back (ds.map Arg.dat) (ds.map A.d) ρ = ρ
  | [] => by simp [back]
  | d :: ds => back_dat ρ ds
theorem lents_dat : ∀ ds : List PyData, lents (ds.map Arg.dat) = []
  | [] => rfl
  | d :: ds => lents_dat ds
theorem e_callP {F : List PyData → A → Prop} {n : Nat} {f : Addr} {fd : FuncData} {ps : List Str} {x : Str} {p : Pos} {r : A} (G : FnOk X.prog X.w X.K X.mg X.base CX0 n f fd ps (spA X.K (pure_ F))) (hr : Room n X.A) (hm : X.mg x = some (.ref f)) (hk : PySem.W.keepIn X.K (.ref f) = true) (hb : Binds X.K fd ps [])
    (ha : ED X (e :: es) ρ ds ρ1) (hF : F ds r) (hg : Gl X x := by rfl) (hdb : (x == ("__debug__" : Str)) = false := by decide) (he : starEach (e :: es) X.env = (false, eval e X.env) :: starEach es X.env := by rfl) (hpl : (backTo pos (starEach es X.env)).any (·.1) = false := by rfl) :
    E X (.Call (.Name x p) (e :: es) [] pos) ρ r ρ1 := by
  have h := e_call (r := r) (as' := ds.map A.d) (pos := pos) (p := p) G hr hm hk hb ha.args ⟨ds, toA_dat _ ds, (toA_dat _ ds).symm, hF⟩ (by rw [toA_dat]; exact .refl _) (by rw [lents_dat]; exact List.nodup_nil) (fun _ _ z => z.elim) hg hdb he hpl
  rwa [back_dat] at h
/-- an if whose ways meet -/
theorem s_ifR (ρm : Rho) {c : Expr} {s1 s2 : List Stmt} (hc : ET X c ρ b ρ1) (h1 : b = true → Ss X B s1 ρ1 ⟨fun ρ' => Le ρ' ρm, P.rt, P.bk, P.ct⟩) (h2 : b = false → Ss X B s2 ρ1 ⟨fun ρ' => Le ρ' ρm, P.rt, P.bk, P.ct⟩) (hd : ∀ ρ', Le ρ' ρm → P.nx ρ') : S X B (.If c s1 s2 pos) ρ P := by
  have key : ∀ {s : List Stmt}, Ss X B s ρ1 ⟨fun ρ' => Le ρ' ρm, P.rt, P.bk, P.ct⟩ → Ss X B s ρ1 P := fun h σ HF H S1 bn D o => h σ HF H S1 bn D ⟨fun ρ' σ' HF' H' l S' b' s => o.nx ρ' σ' HF' H' (hd ρ' l) S' b' s, o.rt, o.bk, o.ct⟩
  exact s_if hc (fun h => key (h1 h)) fun h => key (h2 h)
/-- the same for a block: what follows is read once -/
theorem E.toA (h : E X e ρ (.ml ds) ρ1) (q : ds = es1) : E X e ρ (.ml es1) ρ1 := q ▸ h
theorem e_min2 {pn : Pos} (ha : ED X [e1, e2] ρ [.int i, .int j] ρ1) (hm : X.mg "min" = none) (hg : Gl X "min" := by rfl) (hc : X.calm = true := by rfl) (he : starEach [e1, e2] X.env = (false, eval e1 X.env) :: starEach [e2] X.env := by rfl) (hpl : (backTo pos (starEach [e2] X.env)).any (·.1) = false := by rfl) :
    E X (.Call (.Name "min" pn) [e1, e2] [] pos) ρ (.d (.int (min i j))) ρ1 := .of (pe_callB (call_min2 hc) hg hm (by decide +kernel) pa_w (by decide) (by decide) he hpl) fun σ HF H S1 Q q => ha σ HF H S1 _ fun xs HF1 H1 S2 f1 r1 => by
  cases r1 with
  | cons r1 r2 =>
    cases r2 with
    | cons r2 r3 =>
      cases r3; cases r1; cases r2
      exact ⟨i, j, rfl, by rw [show (if j < i then j else i) = min i j by split <;> omega]; exact q _ HF1 H1 S2 f1 (.int _)⟩
theorem e_max2 {pn : Pos} (ha : ED X [e1, e2] ρ [.int i, .int j] ρ1) (hm : X.mg "max" = none) (hg : Gl X "max" := by rfl) (hc : X.calm = true := by rfl) (he : starEach [e1, e2] X.env = (false, eval e1 X.env) :: starEach [e2] X.env := by rfl) (hpl : (backTo pos (starEach [e2] X.env)).any (·.1) = false := by rfl) :
    E X (.Call (.Name "max" pn) [e1, e2] [] pos) ρ (.d (.int (max i j))) ρ1 := .of (pe_callB (call_max2 hc) hg hm (by decide +kernel) pa_w (by decide) (by decide) he hpl) fun σ HF H S1 Q q => ha σ HF H S1 _ fun xs HF1 H1 S2 f1 r1 => by
  cases r1 with
  | cons r1 r2 =>
    cases r2 with
    | cons r2 r3 =>
      cases r3; cases r1; cases r2
      exact ⟨i, j, rfl, by rw [show (if j > i then j else i) = max i j by split <;> omega]; exact q _ HF1 H1 S2 f1 (.int _)⟩
theorem e_modN (ha : E X e1 ρ (.d (.int i)) ρ1) (hb : E X e2 ρ1 (.d (.int j)) ρ2) (hc : j ≠ 0) : E X (.BinOp e1 .Mod e2 pos) ρ (.d (.int (i.fmod j))) ρ2 := .of (pe_op op_modN pe_w pe_w) (ev_op ha hb (rv_I (C := fun _ j => j ≠ 0) hc fun _ => .int _))
theorem e_divN (ha : E X e1 ρ (.d (.int i)) ρ1) (hb : E X e2 ρ1 (.d (.int j)) ρ2) (hc : CDivN i j) : E X (.BinOp e1 .FloorDiv e2 pos) ρ (.d (.int (i.fdiv j))) ρ2 := .of (pe_op op_fdivN pe_w pe_w) (ev_op ha hb (rv_I hc fun _ => .int _))
/-- t + u of tuples -/
theorem e_catT (ha : E X e1 ρ (.d (.tuple es1)) ρ1) (hb : E X e2 ρ1 (.d (.tuple es2)) ρ2) (hz : es1.length + es2.length ≤ 100000) : E X (.BinOp e1 .Add e2 pos) ρ (.d (.tuple (es1 ++ es2))) ρ2 :=
  .of (pe_op op_catA pe_w pe_w) fun σ HF H S1 Q q => ha σ HF H S1 _ fun x HF1 H1 S2 f1 r1 => hb σ HF1 H1 S2 _ fun y HF2 H2 S3 f2 r2 => by
    have r1' := dp_mono f2.hf r1
    have f := f1.trans f2
    cases r1' with
    | @tup a xs _ h1 h2 =>
      cases r2 with
      | @tup b ys _ g1 g2 =>
        have l1 := dpa_len h2
        have l2 := dpa_len g2
        refine ⟨a, b, xs, ys, rfl, rfl, same_t S3.sub h1, same_t S3.sub g1, Nat.le_trans (by omega) (show 100000 ≤ sizeLine by decide), fun e => ?_, fun _ e => ?_, fun _ _ p hp => ?_⟩
        · subst e
          cases h2
          exact q _ HF2 H2 S3 f (.tup g1 g2)
        · subst e
          cases g2
          rw [List.append_nil] at q
          exact q _ HF2 H2 S3 f (.tup h1 h2)
        · obtain ⟨S4, f4⟩ := S3.allocD hp (.tup (xs ++ ys))
          exact q _ _ _ S4 (f.trans f4) (.tup (.inl (.inl upd_same)) (dpa_mono f4.hf (dpa_app h2 g2)))
end
/-- the script -/
theorem law_in {K : PySem.W.Frag} {F : List PyData → A → Prop} {H : Hp} {a : Addr} {ms : List Int} (hF : ∃ ns : List Int, ns.length ≤ 63 ∧ ms = ns ∧ [PyData.list (ms.map .int)] = [PyData.list (ns.map .int)] ∧ (A.d (.bool true)) = .d (.bool true)) (hS : SqL K H a (ms.map V.int)) {E : XK}
    (hf : F [.list (ms.map .int)] (.d (.bool true)) := by assumption) : spA K (pure_ F) [.ref a] H (fun v _ => v = .bl true) E := by
  refine ⟨H, [.d (.list (ms.map .int))], .d (.bool true), [.d (.list (ms.map .int))], ⟨rfl, .refl _, fun i a h => ?_, fun i j a b p h1 h2 o1 o2 e1 e2 => ?_⟩, ⟨_, rfl, rfl, hf⟩, .refl _, fun x HF' H' _ _ r => ?_⟩
  · have hi : i = 0 := by
      have := (List.getElem?_eq_some_iff.mp h).1
      simp at this
      exact this
    subst hi
    cases h
    exact ⟨_, rfl, _, rfl, .lst hS (dpa_ints ms)⟩
  · have := List.mem_of_getElem? h1
    rw [List.mem_singleton] at this
    subst this
    cases o1
  · cases (show Dp K HF' x (.bool true) from r)
    rfl
/-- every law: a script of at most 63 ints, and True -/
def lawF : List PyData → A → Prop := fun ds r => ∃ ns : List Int, ns.length ≤ 63 ∧ ds = [.list (ns.map .int)] ∧ r = .d (.bool true)
theorem law_go {K : PySem.W.Frag} {H : Hp} {a : Addr} {ns : List Int} (hl : ns.length ≤ 63) (hS : SqL K H a (ns.map V.int)) {E : XK} : spA K (pure_ lawF) [.ref a] H (fun v _ => v = .bl true) E :=
  law_in ⟨ns, hl, rfl, rfl, rfl⟩ hS ⟨ns, hl, rfl, rfl⟩
end Th

set_option Elab.async false
set_option linter.all false
set_option maxRecDepth 100000
namespace Th
open PySem PySem.Spec PyProof.Rows L2

/-! own lists handed over to be read -/
mutual
def noL : PyData → Bool
  | .list _ => false
  | .tuple xs => noLs xs
  | .dict _ => false
  | _ => true
def noLs : List PyData → Bool
  | [] => true
  | x :: xs => noL x && noLs xs
end
def noA : A → Bool
  | .d v => noL v
  | .ml xs => noLs xs
  | .tw l => l.all fun z => match z with | .inl zs => noLs zs | .inr v => noL v
  | _ => false
section
variable {K : PySem.W.Frag} {HF HF2 : Hp}
mutual
theorem dp_noL (h : ∀ b o, HF b = some o → (∀ ys, o ≠ .lst ys) → HF2 b = some o) : ∀ {v : V} {d : PyData}, noL d = true → Dp K HF v d → Dp K HF2 v d
  | _, _, _, .non => .non
  | _, _, _, .bl b => .bl b
  | _, _, _, .int i => .int i
  | _, _, _, .str x => .str x
  | _, _, e, .lst _ _ => by cases e
  | _, _, e, .tup a b => by
    refine .tup ?_ (dpa_noL h (by unfold noL at e; exact e) b)
    rcases a with (a | ⟨o, a⟩) | a
    · exact .inl (.inl (h _ _ a fun _ z => nomatch z))
    · exact .inl (.inr ⟨o, h _ _ a fun _ z => nomatch z⟩)
    · exact .inr a
theorem dpa_noL (h : ∀ b o, HF b = some o → (∀ ys, o ≠ .lst ys) → HF2 b = some o) : ∀ {vs : List V} {ds : List PyData}, noLs ds = true → DpAll K HF vs ds → DpAll K HF2 vs ds
  | _, _, _, .nil => .nil
  | _, _, e, .cons a b => by
    unfold noLs at e
    rw [Bool.and_eq_true] at e
    exact .cons (dp_noL h e.1 a) (dpa_noL h e.2 b)
end
end
inductive Pk : List A → List PyData → Prop
  | nil : Pk [] []
  | d {v : PyData} {as : List A} {ds : List PyData} (h : Pk as ds) : Pk (.d v :: as) (v :: ds)
  | ml {xs : List PyData} {as : List A} {ds : List PyData} (h : Pk as ds) : Pk (.ml xs :: as) (.list xs :: ds)
theorem Pk.len : ∀ {as : List A} {ds : List PyData}, Pk as ds → as.length = ds.length
  | _, _, .nil => rfl
  | _, _, .d h => congrArg (· + 1) h.len
  | _, _, .ml h => congrArg (· + 1) h.len
theorem Pk.get : ∀ {as : List A} {ds : List PyData} {i : Nat} {d : PyData}, Pk as ds → ds[i]? = some d → as[i]? = some (.d d) ∨ ∃ xs, as[i]? = some (.ml xs) ∧ d = .list xs
  | _, _, _, _, .nil, h => by simp at h
  | _, _, 0, _, .d _, h => .inl (by simp at h; subst h; rfl)
  | _, _, 0, _, .ml _, h => .inr ⟨_, rfl, by simp at h; exact h.symm⟩
  | _, _, i + 1, _, .d t, h => Pk.get (i := i) t (by simpa using h)
  | _, _, i + 1, _, .ml t, h => Pk.get (i := i) t (by simpa using h)
theorem Pk.own : ∀ {as : List A} {ds : List PyData} {i : Nat} {a : A}, Pk as ds → as[i]? = some a → a.own = true → ∃ xs, a = .ml xs ∧ ds[i]? = some (.list xs)
  | _, _, _, _, .nil, h, _ => by simp at h
  | _, _, 0, _, .d _, h, o => by simp at h; subst h; cases o
  | _, _, 0, _, .ml _, h, o => by simp at h; subst h; exact ⟨_, rfl, rfl⟩
  | _, _, i + 1, _, .d t, h, o => Pk.own (i := i) t (by simpa using h) o
  | _, _, i + 1, _, .ml t, h, o => Pk.own (i := i) t (by simpa using h) o
def peek (F : List PyData → A → Prop) : Fs := fun as r as' => ∃ ds, as' = as ∧ Pk as ds ∧ F ds r ∧ noA r = true
open Classical in
theorem peek_pure {K : PySem.W.Frag} {F : List PyData → A → Prop} (vs : List V) (H : Hp) (Q : VK) (E : XK) (h : spA K (peek F) vs H Q E) : spA K (pure_ F) vs H Q E := by
  obtain ⟨HF, as0, r, as, S1, ⟨ds, rfl, pk, hF, hn⟩, hsh, q⟩ := h
  let O : Addr → Prop := fun b => OwnAt as (vs.map some) b
  let HF1 : Hp := fun b => if O b then H b else HF b
  have hs1 : Same HF HF1 := fun b o e => by
    show (if O b then H b else HF b) = some o
    split
    · exact S1.sub b o e
    · exact e
  have olst : ∀ b, O b → ∃ ys, H b = some (.lst ys) := fun b ⟨i, a, h1, h2, h3⟩ => by
    obtain ⟨xs, rfl, _⟩ := pk.own h1 h2
    obtain ⟨p, o, e, _, g2, g3⟩ := S1.ownAt h1 h2
    rw [h3] at e
    cases e
    cases o <;> first | exact g3.elim | skip
    exact ⟨_, g2⟩
  have onone : ∀ b, O b → HF b = none := fun b z => (S1.ownAt' (show OwnAt as (vs.map some) b from z)).1
  have Sp : Sl K (ds.map A.d) (vs.map some) HF1 H := by
    refine ⟨by rw [S1.len, List.length_map]; exact pk.len, fun b o e => ?_, fun i a h => ?_, fun i j a b p h1 _ o1 _ _ _ => ?_⟩
    · have e : (if O b then H b else HF b) = some o := e
      split at e
      · exact e
      · exact S1.sub b o e
    · rw [List.getElem?_map] at h
      cases hd : ds[i]? with
      | none => rw [hd] at h; cases h
      | some d =>
        rw [hd] at h
        cases h
        rcases pk.get hd with h1 | ⟨xs, h1, rfl⟩
        · obtain ⟨s, e, x, rfl, g⟩ := S1.slot i _ h1
          exact ⟨_, e, x, rfl, dp_mono hs1 g⟩
        · obtain ⟨p, o, e, g1, g2, g3⟩ := S1.ownAt h1 rfl
          cases o <;> first | exact g3.elim | skip
          rename_i ys
          refine ⟨_, e, .ref p, rfl, .lst (.inl (.inl ?_)) (dpa_mono hs1 g3)⟩
          show (if O p then H p else HF p) = _
          rw [if_pos (show O p from ⟨i, .ml xs, h1, rfl, e⟩)]
          exact g2
    · have := own_map a (List.mem_of_getElem? h1)
      rw [o1] at this
      cases this
  refine ⟨HF1, ds.map A.d, r, ds.map A.d, Sp, ⟨ds, rfl, rfl, hF⟩, .refl _, fun x HF' H' S2 f2 rr => ?_⟩
  let HF2 : Hp := fun b => if O b then none else HF' b
  have noO : ∀ b, ¬ OwnAt (ds.map A.d) (vs.map some) b := fun b ⟨i, a, h1, h2, _⟩ => by
    have := own_map a (List.mem_of_getElem? h1)
    rw [h2] at this
    cases this
  have keepH : ∀ b o, H b = some o → H' b = some o := fun b o e => f2.keep b o e (noO b)
  have ho' : ∀ b, O b → ∃ ys, HF' b = some (.lst ys) := fun b z => by
    obtain ⟨ys, e⟩ := olst b z
    refine ⟨ys, f2.hf b _ ?_⟩
    show (if O b then H b else HF b) = _
    rw [if_pos z]
    exact e
  have lift : ∀ b o, HF' b = some o → (∀ ys, o ≠ .lst ys) → HF2 b = some o := fun b o e n => by
    show (if O b then none else HF' b) = some o
    rw [if_neg]
    · exact e
    · intro z
      obtain ⟨ys, e2⟩ := ho' b z
      rw [e2] at e
      exact n ys (Option.some.inj e).symm
  have hs2 : Same HF HF2 := fun b o e => by
    show (if O b then none else HF' b) = some o
    rw [if_neg fun z => by rw [onone b z] at e; cases e]
    exact f2.hf b o (hs1 b o e)
  refine q x HF2 H' ⟨S1.len, fun b o e => ?_, fun i a h => ?_, S1.apart⟩ ⟨.refl _, hs2, fun b o e _ => keepH b o e, fun b o e => ?_, fun b o e => ⟨o, keepH b o e⟩⟩ ?_
  · have e : (if O b then none else HF' b) = some o := e
    split at e
    · cases e
    · exact S2.sub b o e
  · obtain ⟨s, e, z⟩ := S1.slot i a h
    refine ⟨s, e, arel_mono z hs2 fun p o e1 g1 g2 oa => ⟨?_, keepH p o g2⟩⟩
    show (if O p then none else HF' p) = none
    rw [if_pos (show O p from ⟨i, a, h, oa, by rw [e, e1]⟩)]
  · have e : (if O b then none else HF' b) = some o := e
    split at e
    · cases e
    · rename_i hb
      rcases f2.new b o e with z | z
      · left
        have z : (if O b then H b else HF b) = some o := z
        rw [if_neg hb] at z
        exact z
      · exact .inr z
  · cases r with
    | d v => exact dp_noL lift hn rr
    | ml xs =>
      obtain ⟨p, o, e1, e2, e3, e4, e5⟩ := rr
      cases o <;> first | exact e5.elim | skip
      refine ⟨p, _, e1, e2, ?_, e4, dpa_noL lift hn e5⟩
      show (if O p then none else HF' p) = none
      split
      · rfl
      · exact e3
    | mk _ => cases hn
    | mt _ => cases hn
    | fk _ => cases hn
    | ft _ => cases hn
    | gn _ => cases hn
    | go _ => cases hn
    | any => cases hn
    | pin _ => cases hn
    | dl _ => cases hn
    | nw _ => cases hn
    | rk _ => cases hn
    | tw l =>
      have nn : ∀ b, HF' b = none → HF2 b = none := fun b e => by
        show (if O b then none else HF' b) = none
        split
        · rfl
        · exact e
      obtain ⟨t, ys, e1, e2, e3, e4, e5⟩ := rr
      have key : ∀ {ys : List V} {l : List (List PyData ⊕ PyData)}, Paired (TwR K H HF' H') ys l → (∀ z ∈ l, (match z with | .inl zs => noLs zs | .inr v => noL v) = true) → Paired (TwR K H HF2 H') ys l := fun {ys l} hp => by
        induction hp with
        | nil => intro _; exact .nil
        | @cons y a ys l z _ ih =>
          intro hall
          refine .cons ?_ (ih fun b hb => hall b (List.mem_cons_of_mem _ hb))
          have h0 := hall a List.mem_cons_self
          cases a with
          | inl zs => obtain ⟨q, us, g1, g2, g3, g4, g5⟩ := z; exact ⟨q, us, g1, g2, nn q g3, g4, dpa_noL lift h0 g5⟩
          | inr v => exact dp_noL lift h0 z
      exact ⟨t, ys, e1, e2, nn t e3, e4, key e5 (List.all_eq_true.mp hn)⟩
theorem fn_peek {P : Program} {w : World} {K : PySem.W.Frag} {mg : Str → Option Value} {base : Heap} {CX : CXT} {k : Nat} {f : Addr} {fd : FuncData} {ps : List Str} {F : List PyData → A → Prop} (G : FnOk P w K mg base CX k f fd ps (spA K (pure_ F))) : FnOk P w K mg base CX k f fd ps (spA K (peek F)) := G.imp peek_pure
theorem noLs_ints : ∀ ns : List Int, noLs (ns.map .int) = true
  | [] => rfl
  | _ :: ns => noLs_ints ns
section
variable {X : Cx} {B : Bs} {P : Pst} {ρ ρ1 ρ2 ρ3 : Rho} {e e1 e2 : Expr} {es : List Expr} {pos : Pos} {ds : List PyData} {k : Option Nat}
/-- xs[::-1] -/
theorem e_revL {j : Nat} {p1 p2 p3 : Pos} (h : EO X e ρ (.list ds) ρ1 k) : E X (.Subscript e (.Slice none none (some (.UnaryOp .USub (.Constant (.int 1) j p1) p2)) p3) pos) ρ (.ml ds.reverse) ρ1 := .of (pe_revL pe_w) fun σ HF H S1 Q q => h σ HF H S1 _ fun x HF1 H1 S2 f1 r1 => by
  obtain ⟨p, ys, rfl, h1, h2⟩ := r1 ρ1 HF1 H1 .refl S2 (.refl ..)
  refine ⟨p, ys, rfl, h1, fun r hr => ?_⟩
  obtain ⟨S4, f4⟩ := S2.allocO hr (.lst ys.reverse)
  exact q _ _ _ S4 (f1.trans f4) ⟨r, _, rfl, f1.fresh hr, S2.hfNone hr, upd_same, dpa_rev h2⟩
/-- a call that reads own lists -/
theorem e_peek {F : List PyData → A → Prop} {n : Nat} {f : Addr} {fd : FuncData} {ps : List Str} {x : Str} {p : Pos} {r : A} {l : List Arg} (G : FnOk X.prog X.w X.K X.mg X.base CX0 n f fd ps (spA X.K (pure_ F))) (hr : Room n X.A) (hm : X.mg x = some (.ref f)) (hk : PySem.W.keepIn X.K (.ref f) = true) (hb : Binds X.K fd ps [])
    (ha : EA X (e :: es) ρ l ρ1) (pk : Pk (l.map (toA ρ1)) ds) (hF : F ds r) (hn : noA r = true) (nd : (lents l).Nodup) (hg : Gl X x := by rfl) (hdb : (x == ("__debug__" : Str)) = false := by decide) (he : starEach (e :: es) X.env = (false, eval e X.env) :: starEach es X.env := by rfl) (hpl : (backTo pos (starEach es X.env)).any (·.1) = false := by rfl) :
    E X (.Call (.Name x p) (e :: es) [] pos) ρ r (back l (l.map (toA ρ1)) ρ1) :=
  e_call (fn_peek G) hr hm hk hb ha ⟨ds, rfl, pk, hF, hn⟩ (.refl _) nd (fun _ _ z => z.elim) hg hdb he hpl
end
theorem cut_dropLast {α : Type} (xs : List α) : cut xs none (some (-1)) = xs.dropLast := by
  have h : HT.sIx xs.length xs.length (some (-1)) = xs.length - 1 := by
    unfold HT.sIx
    simp
    omega
  unfold cut
  rw [h, HT.sIx_none, List.dropLast_eq_take]
  simp
end Th

set_option Elab.async false
set_option linter.all false
set_option maxRecDepth 100000
namespace Th
open PySem PySem.Spec PyProof.Rows L2

/-! dicts are frozen -/
section
variable {X : Cx}
theorem pe_frz {e : Expr} {te : TE} (h : PE X e te) : PE X e (fun σ H Q => te σ H fun x H1 => ∃ d u, x = .ref d ∧ H1 d = some u ∧ Mut (some u) ∧ ∀ od, Q x (upd H1 d (.frz od u))) := by
  refine ⟨fun pins s σ H Q I hw => ?_⟩
  refine thn (h.run pins s σ H _ I hw) fun v s1 ⟨x, H1, I1, r1, d, u, e1, hd, mu, q⟩ => ?_
  obtain ⟨od, I2⟩ := I1.lock hd mu
  exact ⟨x, _, I2, r1, q od⟩
theorem pss_frz {st : List Stmt} {t : TS} (h : PSs X st t) : PSs X st (fun D σ H => ∃ d u, H d = some u ∧ Mut (some u) ∧ ∀ od, t D σ (upd H d (.frz od u))) := by
  refine ⟨fun pins s σ H D I hw => ?_⟩
  obtain ⟨d, u, hd, mu, q⟩ := hw
  obtain ⟨od, I2⟩ := I.lock hd mu
  exact h.run pins s σ _ D I2 (q od)
end
section
variable {K : PySem.W.Frag} {ρ : Rho} {σ : L2.St} {HF H : Hp} {p : Addr} {o : HO}
/-- an object in no slot is locked for good -/
theorem Sl.lockN (S : Sl K ρ σ HF H) (hp : H p = some o) (hn : HF p = none) (hw : ¬ OwnAt ρ σ p) (u : HO) : Sl K ρ σ (upd HF p u) (upd H p u) := by
  refine ⟨S.len, fun b v e => ?_, fun i a h => ?_, S.apart⟩
  · by_cases hb : b = p
    · subst hb
      rw [upd_same] at e ⊢
      exact e
    · rw [upd_ne hb] at e ⊢
      exact S.sub b v e
  · obtain ⟨s, e, q⟩ := S.slot i a h
    refine ⟨s, e, arel_mono q (same_upd hn) fun b v e1 h1 h2 ho => ?_⟩
    have hb : b ≠ p := fun z => hw ⟨i, a, h, ho, by rw [← z, e, e1]⟩
    rw [upd_ne hb, upd_ne hb]
    exact ⟨h1, h2⟩
end
section
variable {X : Cx} {B : Bs} {P : Pst} {ρ ρ1 ρ2 ρ3 : Rho} {tg iter e e1 e2 : Expr} {es : List Expr} {pos pos' : Pos} {ds xs : List PyData} {k : Option Nat} {i j : Int} {b : Bool} {v w d : PyData} {a : A} {kvs : List (Key × PyData)} {kts : List (NestedKey × PyData)} {y : Key} {x : Str}
theorem e_frzK (h : E X e ρ (.mk kvs) ρ1) : E X e ρ (.fk kvs) ρ1 := .of (pe_frz pe_w) fun σ HF H S1 Q q => h σ HF H S1 _ fun x HF1 H1 S2 f1 r1 => by
  obtain ⟨p, o, rfl, h0, h1, h2, h3⟩ := r1
  have nw : ¬ OwnAt ρ1 σ p := fun z => S1.notOwn h0 (f1.sh.own.mp z)
  cases o <;> first | exact h3.elim | skip
  rename_i kws
  refine ⟨p, _, rfl, h2, trivial, fun od => q _ (upd HF1 p (.frz od (.dK kws))) _ (S2.lockN h2 h1 nw _) ⟨f1.sh, f1.hf.trans (same_upd h1), fun b u e n => ?_, fun b u e => ?_, fun b u e => ?_⟩ ⟨p, kws, od, rfl, upd_same, dpkv_mono (same_upd h1) h3⟩⟩
  · rw [upd_ne fun z => by rw [z, h0] at e; cases e]
    exact f1.keep b u e n
  · by_cases hb : b = p
    · subst hb
      exact .inr h0
    · rw [upd_ne hb] at e
      exact f1.new b u e
  · by_cases hb : b = p
    · subst hb
      exact ⟨_, upd_same⟩
    · rw [upd_ne hb]
      exact f1.pres b u e
theorem e_frzT (h : E X e ρ (.mt kts) ρ1) : E X e ρ (.ft kts) ρ1 := fun σ HF H S1 Q q => h σ HF H S1 _ fun x HF1 H1 S2 f1 r1 => by
  obtain ⟨p, o, rfl, h0, h1, h2, h3⟩ := r1
  have nw : ¬ OwnAt ρ1 σ p := fun z => S1.notOwn h0 (f1.sh.own.mp z)
  cases o <;> first | exact h3.elim | skip
  refine q _ (upd HF1 p (.ext _)) H1 (S2.frz h2 h1 nw) ⟨f1.sh, f1.hf.trans (same_upd h1), f1.keep, fun b u e => ?_, f1.pres⟩ ⟨p, _, rfl, upd_same, trel_mono (same_upd h1) h3⟩
  by_cases hb : b = p
  · subst hb
    exact .inr h0
  · rw [upd_ne hb] at e
    exact f1.new b u e
/-- an own dict in a slot becomes one that stays -/
theorem ss_frzK (i : Nat) {sts : List Stmt} (hi : ρ[i]? = some (.mk kvs)) (hl : ∀ q ∈ B.L, q.1 ≠ i) (h : Ss X B sts (ρ.set i (.fk kvs)) P) : Ss X B sts ρ P := fun σ HF H S1 b1 D o => by
  obtain ⟨p, u, e, h1, h2, h3⟩ := S1.ownAt hi rfl
  cases u <;> first | exact h3.elim | skip
  rename_i kws
  have hb : B.H0 p = none := (b1.mine i _ p hi rfl e).elim (fun z => (hl _ z rfl).elim) id
  have hlen : i < ρ.length := (List.getElem?_eq_some_iff.mp hi).1
  refine ⟨_, pss_frz pss_w, p, _, h2, trivial, fun od => ?_⟩
  have own : ∀ (j : Nat) (a : A), (ρ.set i (.fk kvs))[j]? = some a → a.own = true → i ≠ j ∧ ρ[j]? = some a := fun j a h o => by
    by_cases hj : i = j
    · subst hj
      rw [List.getElem?_set_self hlen] at h
      cases h
      cases o
    · rw [List.getElem?_set_ne hj] at h
      exact ⟨hj, h⟩
  have apart' : ∀ (j : Nat) (a : A) (q : Addr), i ≠ j → ρ[j]? = some a → a.own = true → σ[j]? = some (some (V.ref q)) → q ≠ p := fun j a q hj h oa e' z => hj (S1.apart i j _ a p hi h rfl oa e (by rw [e', z]))
  have S2 : Sl X.K (ρ.set i (.fk kvs)) σ (upd HF p (.frz od (.dK kws))) (upd H p (.frz od (.dK kws))) := by
    refine ⟨by rw [List.length_set]; exact S1.len, fun b v e => ?_, fun j a h => ?_, fun j k a b q g1 g2 o1 o2 e1 e2 => S1.apart j k a b q (own j a g1 o1).2 (own k b g2 o2).2 o1 o2 e1 e2⟩
    · by_cases hb : b = p
      · subst hb
        rw [upd_same] at e ⊢
        exact e
      · rw [upd_ne hb] at e ⊢
        exact S1.sub b v e
    · by_cases hj : i = j
      · subst hj
        rw [List.getElem?_set_self hlen] at h
        cases h
        exact ⟨_, e, _, rfl, p, kws, od, rfl, upd_same, dpkv_mono (same_upd h1) h3⟩
      · rw [List.getElem?_set_ne hj] at h
        obtain ⟨s, e', q⟩ := S1.slot j a h
        refine ⟨s, e', arel_mono q (same_upd h1) fun b v e1 g1 g2 oa => ?_⟩
        have hb := apart' j a b hj h oa (by rw [e', e1])
        rw [upd_ne hb, upd_ne hb]
        exact ⟨g1, g2⟩
  refine h σ _ _ S2 ⟨b1.hf.trans (same_upd h1), fun b v hn e => ?_, fun b v e => ?_, fun b v e => ?_, fun j a q g oa e' => b1.mine j a q (own j a g oa).2 oa e', b1.lent⟩ D (o.up (same_upd h1))
  · rw [upd_ne fun z => by rw [z, hb] at e; cases e]
    exact b1.keep b v hn e
  · by_cases hc : b = p
    · subst hc
      exact .inr hb
    · rw [upd_ne hc] at e
      exact b1.new b v e
  · by_cases hc : b = p
    · subst hc
      exact ⟨_, upd_same⟩
    · rw [upd_ne hc]
      exact b1.pres b v e
/-- a slot that holds what stays -/
theorem e_varF (i : Nat) (h : ρ[i]? = some (.fk kvs)) (hN : X.N[i]? = some x := by rfl) (hv : Vis X.env.scope x := by first | exact Or.inl rfl | exact Or.inr (Or.inl rfl) | exact Or.inr (Or.inr rfl))
    (hd : (x == ("__debug__" : Str)) = false := by decide) (hcd : (x == ("__classdict__" : Str)) = false := by decide) : E X (.Name x pos) ρ (.fk kvs) ρ := .of (pe_var hN hv hd hcd) fun σ HF H S1 Q q => by
  obtain ⟨s, e, y, rfl, r⟩ := S1.slot i _ h
  exact ⟨y, e, q y HF H S1 (.refl ..) r⟩
theorem e_varFt (i : Nat) (h : ρ[i]? = some (.ft kts)) (hN : X.N[i]? = some x := by rfl) (hv : Vis X.env.scope x := by first | exact Or.inl rfl | exact Or.inr (Or.inl rfl) | exact Or.inr (Or.inr rfl))
    (hd : (x == ("__debug__" : Str)) = false := by decide) (hcd : (x == ("__classdict__" : Str)) = false := by decide) : E X (.Name x pos) ρ (.ft kts) ρ := .of (pe_var hN hv hd hcd) fun σ HF H S1 Q q => by
  obtain ⟨s, e, y, rfl, r⟩ := S1.slot i _ h
  exact ⟨y, e, q y HF H S1 (.refl ..) r⟩
theorem fk_get {K : PySem.W.Frag} {HF H : Hp} {z : V} (s : Same HF H) (r : FkRel K HF z kvs) (y : Key) : ∃ p o, z = .ref p ∧ DGet H p (kV y) o ∧ ((o = none ∧ getK kvs y = none) ∨ ∃ v1 d1, o = some v1 ∧ getK kvs y = some d1 ∧ Dp K HF v1 d1) := by
  obtain ⟨p, kws, od, rfl, h1, h2⟩ := r
  refine ⟨p, valV kws y, rfl, .inl ⟨kws, y, .inr ⟨od, s _ _ h1⟩, rfl, rfl⟩, ?_⟩
  rcases dpkv_val y h2 with ⟨g1, g2⟩ | ⟨v1, d1, g1, g2, g3⟩
  · exact .inl ⟨g1, g2⟩
  · exact .inr ⟨v1, d1, g1, g2, g3⟩
/-- d[k] of such a one -/
theorem e_dgetF (hd : E X e1 ρ (.fk kvs) ρ1) (he : E X e2 ρ1 (.d (kD y)) ρ2) (hg : getK kvs y = some d) (hu : X.A.units + 1 < cLine) (hs : NoSl e2 := by exact fun _ _ => rfl) : E X (.Subscript e1 e2 pos) ρ (.d d) ρ2 := .of (pe_dget hu pe_w pe_w hs) fun σ HF H S1 Q q => hd σ HF H S1 _ fun z HF1 H1 S2 f1 r1 => he σ HF1 H1 S2 _ fun x2 HF2 H2 S3 f2 r2 => by
  have hx := dp_key r2
  subst hx
  obtain ⟨p, o, rfl, g1, g2⟩ := fk_get S3.sub (fk_mono f2.hf r1) y
  rcases g2 with ⟨_, g⟩ | ⟨v1, d1, rfl, g, g3⟩
  · rw [hg] at g; cases g
  · rw [hg] at g
    cases g
    exact ⟨p, v1, rfl, g1, q _ HF2 H2 S3 (f1.trans f2) g3⟩
theorem e_dinF (he : E X e1 ρ (.d (kD y)) ρ1) (hd : E X e2 ρ1 (.fk kvs) ρ2) (hu : X.A.units + 1 < cLine) (hb : behindInMarks .In e2 = false := by rfl) : E X (.Compare e1 [.In] [e2] pos) ρ (.d (.bool (getK kvs y).isSome)) ρ2 := .of (pe_cmp (pc_din hu pe_w pe_w) hb) fun σ HF H S1 Q q => he σ HF H S1 _ fun z HF1 H1 S2 f1 r1 => hd σ HF1 H1 S2 _ fun x2 HF2 H2 S3 f2 r2 => by
  have hx := dp_key r1
  subst hx
  obtain ⟨p, o, rfl, g1, g2⟩ := fk_get S3.sub r2 y
  refine ⟨p, o, rfl, g1, ?_⟩
  rcases g2 with ⟨rfl, g⟩ | ⟨v1, d1, rfl, g, g3⟩
  · rw [g] at q; exact q _ HF2 H2 S3 (f1.trans f2) (.bl _)
  · rw [g] at q; exact q _ HF2 H2 S3 (f1.trans f2) (.bl _)
theorem e_dget2F {apos : Pos} {e3 : Expr} (hd : E X e1 ρ (.fk kvs) ρ1) (he : E X e2 ρ1 (.d (kD y)) ρ2) (he3 : E X e3 ρ2 (.d w) ρ3) (hu : X.A.units + 1 < cLine) (m : M2 X e1 "get" apos e2 e3 pos := by exact ⟨rfl, rfl, rfl, rfl⟩) : E X (.Call (.Attribute e1 "get" apos) [e2, e3] [] pos) ρ (.d ((getK kvs y).getD w)) ρ3 := .of (pe_dget2 hu pe_w pe_w pe_w m) fun σ HF H S1 Q q => hd σ HF H S1 _ fun z HF1 H1 S2 f1 r1 => by
  obtain ⟨p, kws, od, rfl, h1, h2⟩ := id r1
  refine ⟨p, rfl, .inl ⟨kws, .inr ⟨od, S2.sub _ _ h1⟩⟩, he σ HF1 H1 S2 _ fun x2 HF2 H2 S3 f2 r2 => he3 σ HF2 H2 S3 _ fun x3 HF3 H3 S4 f3 r3 => ?_⟩
  have hx := dp_key r2
  subst hx
  obtain ⟨p', o, e', g1, g2⟩ := fk_get S4.sub (fk_mono (f2.hf.trans f3.hf) r1) y
  cases e'
  refine ⟨o, g1, ?_⟩
  rcases g2 with ⟨rfl, g⟩ | ⟨v1, d1, rfl, g, g3⟩
  · rw [g] at q; exact q _ HF3 H3 S4 ((f1.trans f2).trans f3) r3
  · rw [g] at q; exact q _ HF3 H3 S4 ((f1.trans f2).trans f3) g3
/-- walked: keys, items, values -/
theorem dpkv_get : ∀ {κ : Type} {K : PySem.W.Frag} {HF : Hp} {l : List (κ × V)} {m : List (κ × PyData)} {i : Nat} {k : κ} {v : V}, DpKV K HF l m → l[i]? = some (k, v) → ∃ d, m[i]? = some (k, d) ∧ Dp K HF v d
  | _, _, _, _, _, _, _, _, .nil, h => by simp at h
  | _, _, _, _, _, 0, _, _, .cons (a := p) (b := q) r _, h => by
    simp at h
    subst h
    exact ⟨q.2, by rw [List.getElem?_cons_zero]; exact congrArg some (Prod.ext r.1.symm rfl), r.2⟩
  | _, _, _, _, _, i + 1, _, _, .cons _ t, h => by
    obtain ⟨d, h1, h2⟩ := dpkv_get (i := i) t (by simpa using h)
    exact ⟨d, by simpa using h1, h2⟩
theorem dp_kD {K : PySem.W.Frag} {HF : Hp} (k : Key) : Dp K HF (kV k) (kD k) := by cases k; exact .int _; exact .str _
theorem src_keys (h : E X iter ρ (.fk kvs) ρ1) : Src X tg iter ρ (kvs.map fun kv => kD kv.1) ρ1 none := ⟨_, pi_keys pe_w, fun σ HF H S1 R q => h σ HF H S1 _ fun x HF1 H1 S2 f1 r1 => by
  obtain ⟨p, kws, od, rfl, h1, h2⟩ := r1
  refine ⟨p, od, rfl, .inl ⟨kws, S2.sub _ _ h1, q _ HF1 H1 S2 f1 fun σ2 ρ2 HF2 H2 _ _ S3 s3 => ⟨fun i hi => ⟨S3.sub _ _ (s3 _ _ h1), ?_⟩, ⟨S3.sub _ _ (s3 _ _ h1), ?_⟩, fun i x H3 hi ⟨e, k, v, e2, e3⟩ => ?_⟩⟩⟩
  · rw [List.length_map] at hi
    rw [dpkv_len h2]
    exact hi
  · rw [List.length_map, dpkv_len h2]
    exact Nat.le_refl _
  · obtain ⟨d, g1, _⟩ := dpkv_get h2 e2
    refine ⟨kD k, by rw [List.getElem?_map, g1]; rfl, .inl ⟨e, by rw [e3]; exact dp_kD k⟩⟩⟩
theorem src_items {apos cpos : Pos} {elts : List Expr} {kk : Nat} {tpos : Pos} (h : E X e ρ (.fk kvs) ρ1) (hbase : attributeBase e "items" X.env (eval e X.env) = eval e X.env := by rfl) (hline : (apos.endLine == cpos.line) = true := by rfl) :
    Src X (.Tuple elts kk tpos) (.Call (.Attribute e "items" apos) [] [] cpos) ρ (kvs.map fun kv => .tuple [kD kv.1, kv.2]) ρ1 none := ⟨_, pi_items pe_w hbase hline, fun σ HF H S1 R q => h σ HF H S1 _ fun x HF1 H1 S2 f1 r1 => by
  obtain ⟨p, kws, od, rfl, h1, h2⟩ := r1
  refine ⟨p, od, kws, rfl, S2.sub _ _ h1, q _ HF1 H1 S2 f1 fun σ2 ρ2 HF2 H2 _ _ S3 s3 => ⟨fun i hi => ⟨S3.sub _ _ (s3 _ _ h1), ?_⟩, ⟨S3.sub _ _ (s3 _ _ h1), ?_⟩, fun i x H3 hi ⟨T, k, v, e2, e3, e4, e5⟩ => ?_⟩⟩
  · rw [List.length_map] at hi
    rw [dpkv_len h2]
    exact hi
  · rw [List.length_map, dpkv_len h2]
    exact Nat.le_refl _
  · obtain ⟨d, g1, g2⟩ := dpkv_get h2 e2
    exact ⟨.tuple [kD k, d], by rw [List.getElem?_map, g1]; rfl, .inr ⟨T, _, _, e4, e5, e3, rfl, .cons (dp_kD k) (.cons (dp_mono s3 g2) .nil)⟩⟩⟩
theorem src_values {apos cpos : Pos} (h : E X e ρ (.fk kvs) ρ1) (hbase : attributeBase e "values" X.env (eval e X.env) = eval e X.env := by rfl) (hline : (apos.endLine == cpos.line) = true := by rfl) :
    Src X tg (.Call (.Attribute e "values" apos) [] [] cpos) ρ (kvs.map fun kv => kv.2) ρ1 none := ⟨_, pi_values pe_w hbase hline, fun σ HF H S1 R q => h σ HF H S1 _ fun x HF1 H1 S2 f1 r1 => by
  obtain ⟨p, kws, od, rfl, h1, h2⟩ := r1
  refine ⟨p, od, kws, rfl, S2.sub _ _ h1, q _ HF1 H1 S2 f1 fun σ2 ρ2 HF2 H2 _ _ S3 s3 => ⟨fun i hi => ⟨S3.sub _ _ (s3 _ _ h1), ?_⟩, ⟨S3.sub _ _ (s3 _ _ h1), ?_⟩, fun i x H3 hi ⟨e, k, e2⟩ => ?_⟩⟩
  · rw [List.length_map] at hi
    rw [dpkv_len h2]
    exact hi
  · rw [List.length_map, dpkv_len h2]
    exact Nat.le_refl _
  · obtain ⟨d, g1, g2⟩ := dpkv_get h2 e2
    exact ⟨d, by rw [List.getElem?_map, g1]; rfl, .inl ⟨e, dp_mono s3 g2⟩⟩⟩

/-! a dict of one written entry; lists repeated, extended -/
theorem e_disp1 (hk : E X e1 ρ (.d (kD y)) ρ1) (hv : E X e2 ρ1 (.d v) ρ2) : E X (.Dict [some e1] [e2] pos) ρ (.mk [(y, v)]) ρ2 := .of (pe_disp (pps_cons pe_w pe_w pps_nil) rfl rfl (fun z => by cases z) (show 1 ≤ 15 by decide)) fun σ HF H S1 Q q => fun p hp => by
  obtain ⟨S0, f0⟩ := S1.allocO hp (.dK [])
  refine hk σ HF _ S0 _ fun x HF1 H1 S2 f1 r1 => hv σ HF1 H1 S2 _ fun z HF2 H2 S3 f2 r2 => ?_
  have hx := dp_key r1
  subst hx
  have f12 := f1.trans f2
  have nw : ¬ OwnAt ρ σ p := fun z => S1.notOwn hp z
  have hpn : HF p = none := S1.hfNone hp
  have e2 : H2 p = some (.dK []) := f12.keep p _ upd_same nw
  have e3 : HF2 p = none := f12.hfn hpn upd_same
  show H2 p = some (.dK []) ∧ _
  refine ⟨e2, [(y, z)], rfl, (show 1 ≤ 15 by decide), ?_⟩
  have nw2 : ¬ OwnAt ρ2 σ p := fun w => nw (f12.sh.own.mp w)
  refine q _ HF2 _ ⟨S3.len, fun b u e => ?_, fun i a h => ?_, S3.apart⟩ ⟨f12.sh, f12.hf, fun b u e n => ?_, fun b u e => ?_, fun b u e => ?_⟩ ⟨p, _, rfl, hp, e3, upd_same, ?_⟩
  · rw [upd_ne fun w => by rw [w, e3] at e; cases e]
    exact S3.sub b u e
  · obtain ⟨s, e, g⟩ := S3.slot i a h
    refine ⟨s, e, arel_mono g (.refl _) fun b u e1 h1 h2 ho => ⟨h1, ?_⟩⟩
    rw [upd_ne fun w => nw2 ⟨i, a, h, ho, by rw [e, e1, w]⟩]
    exact h2
  · have hb : b ≠ p := fun w => by rw [w, hp] at e; cases e
    rw [upd_ne hb]
    exact f12.keep b u (by rw [upd_ne hb]; exact e) n
  · rcases f12.new b u e with w | w
    · exact .inl w
    · by_cases hb : b = p
      · subst hb
        exact .inr hp
      · rw [upd_ne hb] at w
        exact .inr w
  · by_cases hb : b = p
    · subst hb
      exact ⟨_, upd_same⟩
    · rw [upd_ne hb]
      exact f12.pres b u (by rw [upd_ne hb]; exact e)
  · exact .cons ⟨rfl, r2⟩ .nil
theorem dpa_rep {K : PySem.W.Frag} {HF : Hp} {ys : List V} (h : DpAll K HF ys ds) : ∀ n : Nat, DpAll K HF (List.replicate n ys).flatten (List.replicate n ds).flatten
  | 0 => .nil
  | n + 1 => by
    rw [List.replicate_succ, List.replicate_succ, List.flatten_cons, List.flatten_cons]
    exact dpa_app h (dpa_rep h n)
theorem e_rep (ha : PlainL X e1 ρ ds ρ1 k) (hb : E X e2 ρ1 (.d (.int i)) ρ2) (h0 : -100000 ≤ i ∧ i ≤ 100000) (hz : ds.length * i.toNat ≤ 100000) (hk : Kp k ρ1 ρ2 := by first | exact trivial | exact rfl) : E X (.BinOp e1 .Mult e2 pos) ρ (.ml (List.replicate i.toNat ds).flatten) ρ2 :=
  .of (pe_op op_rep pe_w pe_w) fun σ HF H S1 Q q => ha σ HF H S1 _ fun x HF1 H1 S2 f1 r1 => hb σ HF1 H1 S2 _ fun z HF2 H2 S3 f2 r2 => by
    obtain ⟨p, ys, rfl, g1, g2⟩ := r1 ρ2 HF2 H2 hk S3 f2
    cases r2
    have l1 := dpa_len g2
    refine ⟨p, i, ys, rfl, rfl, g1, by omega, by omega, Nat.le_trans (by rw [l1]; exact hz) (show 100000 ≤ sizeLine by decide), fun r hr => ?_⟩
    obtain ⟨S4, f4⟩ := S3.allocO hr (.lst (List.replicate i.toNat ys).flatten)
    have f := f1.trans f2
    exact q _ _ _ S4 (f.trans f4) ⟨r, _, rfl, f.fresh hr, S3.hfNone hr, upd_same, dpa_rep g2 _⟩
theorem e_ext (i : Nat) {apos : Pos} (he : E X e ρ (.ml ds) ρ1) (hi0 : ∃ x0, ρ[i]? = some (.ml x0)) (hi : ρ1[i]? = some (.ml xs)) (hz : xs.length + ds.length ≤ 100000) (hN : X.N[i]? = some x := by rfl)
    (hv : Vis X.env.scope x := by first | exact Or.inl rfl | exact Or.inr (Or.inl rfl) | exact Or.inr (Or.inr rfl)) (hd : (x == ("__debug__" : Str)) = false := by decide) (hcd : (x == ("__classdict__" : Str)) = false := by decide)
    (hbase : attributeBase (.Name x pos') "extend" X.env (eval (.Name x pos') X.env) = eval (.Name x pos') X.env := by rfl)
    (hfew : ((backTo pos (starEach [e] X.env)).all (fun x => !x.1) && (backToKw pos (keywordEach [] X.env)).all (fun x => x.1.isSome) && decide (([e] : List Expr).length + ([] : List Keyword).length + (if ([] : List Keyword).isEmpty then 0 else 1) < 30)) = true := by rfl)
    (hline : (apos.endLine == pos.line) = true := by rfl) (hs : starEach [e] X.env = (false, eval e X.env) :: starEach [] X.env := by rfl) :
    E X (.Call (.Attribute (.Name x pos') "extend" apos) [e] [] pos) ρ (.d .none) (ρ1.set i (.ml (xs ++ ds))) :=
  .of (pe_bm PySem.F.plainAttrs_list PySem.F.slot_list_extend PySem.F.type_list_extend mt_extend (pe_var hN hv hd hcd) (pa_cons pe_w pa_nil hs) hbase hfew hline hs) fun σ HF H S1 Q q => by
    obtain ⟨k0, hk0⟩ := hi0
    obtain ⟨p, o0, e0, _, k2, k3⟩ := S1.ownAt hk0 rfl
    cases o0 <;> first | exact k3.elim | skip
    refine ⟨.ref p, e0, .inl ⟨rfl, _, .inl (.inl k2)⟩, he σ HF H S1 _ fun x1 HF1 H1 S2 f1 r1 => ?_⟩
    obtain ⟨p2, o2, e3, h1, h2, h3⟩ := S2.ownAt hi rfl
    rw [e0] at e3
    cases e3
    cases o2 <;> first | exact h3.elim | skip
    rename_i ys
    obtain ⟨r, o, rfl, g0, g1, g2, g3⟩ := r1
    cases o <;> first | exact g3.elim | skip
    rename_i zs
    have hl := dpa_len h3
    have hl2 := dpa_len g3
    obtain ⟨S4, f4⟩ := S2.put hi rfl e0 (o' := .lst (ys ++ zs)) (a' := .ml (xs ++ ds)) (dpa_app h3 g3)
    exact ⟨p, r, ys, zs, rfl, rfl, h2, g2, Nat.le_trans (by omega) (show 100000 ≤ sizeLine by decide), q _ _ _ S4 (f1.trans f4) .non⟩
/-- a comprehension that carries a state along -/
theorem e_lcS {α T : Type} {xs : List α} {scope : Scope} (own : List (Str × Nat)) {elt : Expr} (enc : α → PyData) (t0 : T) (step : T → α → T) (g : T → α → PyData) (emb : T → Rho) (J : T → Nat → Prop) (hJ : J t0 0)
    (ht : Src X tg iter ρ (xs.map enc) (emb t0) none) (hN : X.N.Nodup) (hz : xs.length < 100000)
    (hb : ∀ t (i : Nat) (x : α), xs[i]? = some x → J t i → J (step t x) (i + 1) ∧ ∃ ρ2 ρ4 : Rho, (∀ (s : Shared) (H : Hp) (C : Addr) (cl : List (Str × Addr)) (fp : List Addr), GC (X.blk s H scope (compEnvC scope cl C X.env) fp) (own.map (·.2)) tg (enc x) (wipeR (emb t) (own.map (·.2))) ρ2) ∧
      (∀ (s : Shared) (H : Hp) (C : Addr) (cl : List (Str × Addr)) (fp : List Addr), E (X.blk s H scope (compEnvC scope cl C X.env) fp) elt ρ2 (.d (g t x)) ρ4) ∧ wipeR ρ4 (own.map (·.2)) = wipeR (emb (step t x)) (own.map (·.2)))
    (hv : ∀ t, noOwn (emb t) (own.map (·.2)) = true) (hem : ∀ t t', (emb t).length = (emb t').length ∧ ∀ i, i ∈ own.map (·.2) → (emb t)[i]? = (emb t')[i]?) (ok : BlkOk X.N X.env.scope scope own)
    (hc : X.calm = true := by rfl) (hs : ∀ x, foldedSetIterable iter X.env x = pure x := by intro _; rfl) :
    E X (.ListComp elt [⟨tg, iter, [], 0⟩] scope pos) ρ (.ml ((xs.foldl (fun (p : T × List PyData) x => (step p.1 x, p.2 ++ [g p.1 x])) (t0, [])).2)) (emb (xs.foldl step t0)) := by
  have hfst : ∀ (ys : List α) (t : T) (acc : List PyData), (ys.foldl (fun (p : T × List PyData) x => (step p.1 x, p.2 ++ [g p.1 x])) (t, acc)).1 = ys.foldl step t := fun ys => by
    induction ys with
    | nil => intro t acc; rfl
    | cons y ys ih => intro t acc; rw [List.foldl_cons, List.foldl_cons]; exact ih _ _
  have hlen : ∀ (ys : List α) (t : T) (acc : List PyData), (ys.foldl (fun (p : T × List PyData) x => (step p.1 x, p.2 ++ [g p.1 x])) (t, acc)).2.length = acc.length + ys.length := fun ys => by
    induction ys with
    | nil => intro t acc; rfl
    | cons y ys ih => intro t acc; rw [List.foldl_cons, ih]; simp; omega
  have hJall : ∀ i, i ≤ xs.length → J ((xs.take i).foldl step t0) i := fun i => by
    induction i with
    | zero => intro _; exact hJ
    | succ i ih =>
      intro hi
      have e := List.getElem?_eq_getElem (show i < xs.length by omega)
      rw [List.take_add_one, e, List.foldl_append]
      exact (hb _ i _ e (ih (by omega))).1
  refine ev_lc (D0 := []) (k := none) ht ok hN (fun i ρ' acc => ρ' = wipeR (emb ((xs.take i).foldl step t0)) (own.map (·.2)) ∧ acc = ((xs.take i).foldl (fun (p : T × List PyData) x => (step p.1 x, p.2 ++ [g p.1 x])) (t0, [])).2) ⟨rfl, rfl⟩ (fun _ _ _ _ => ⟨trivial, fun _ z => nomatch z⟩) (fun i v ρ' acc hi ⟨e1, e2⟩ => ?_) (fun ρ' acc ⟨e1, e2⟩ => ?_) (by rw [List.length_map]; exact Nat.lt_of_lt_of_le hz (by decide)) (fun i ρ' acc ⟨_, e⟩ => ?_) hc hs
  · subst e1
    obtain ⟨x, hx, rfl⟩ := map_get hi
    have hlt := (List.getElem?_eq_some_iff.mp hx).1
    obtain ⟨_, ρ2, ρ4, h1, h2, h3⟩ := hb _ i x hx (hJall i (by omega))
    have tk : xs.take (i + 1) = xs.take i ++ [x] := by rw [List.take_add_one, hx]; rfl
    refine ⟨ρ2, true, ρ2, h1, fun s H C cl fp => i_nil, fun _ => ⟨_, ρ4, h2, ?_, ?_⟩, fun z => nomatch z⟩
    · rw [h3, tk, List.foldl_append]
      rfl
    · rw [e2, tk, List.foldl_append]
      show _ = _ ++ [g _ x]
      rw [hfst]
  · subst e1
    rw [List.length_map, List.take_length] at *
    refine ⟨e2, (hem _ _).1, fun i hi => (wipeR_off hi).symm, fun i hi => ⟨(hem _ _).2 i hi, fun a e => no_own (hv t0) i a hi e⟩⟩
  · rw [e, hlen]
    simp
    exact Nat.min_le_left _ _
end
end Th

set_option Elab.async false
set_option linter.all false
set_option maxRecDepth 100000
namespace Th
open PySem PySem.Spec PyProof.Rows L2

/-! sorted(d), int keys, any number of them -/
section
variable {X : Cx}
theorem call_sortedDA (hcalm : X.calm = true) : CallR X (.builtin "sorted") (fun xs H Q => ∃ (a : Addr) (kvs : List (Key × V)) (ks : List Int), xs = [.ref a] ∧ Rd H a (.dK kvs) ∧ kvs.map (·.1) = ks.map Sum.inl ∧
    ∀ (ys : List Int) (p : Addr), ys.Perm ks → ys.Pairwise (· ≤ ·) → H p = none → Q (.ref p) (upd H p (.lst (ys.map V.int)))) := by
  intro pins s σ H xs us Q I r q
  obtain ⟨a, kvs, ks, ex, hd, hks, q⟩ := q
  subst ex
  obtain ⟨u, eu, rx⟩ := vals1 r
  subst eu
  cases rx
  obtain ⟨z, lo, vs, rel, dd⟩ := dk_rd I.hok hd
  obtain ⟨ep, hat⟩ := dd.dictAt
  have hkeys : vs.map (·.1) = ks.map Sum.inl := rel.keys.symm.trans hks
  have hl : vs.length = ks.length := by
    have e := congrArg List.length hkeys
    rwa [List.length_map, List.length_map] at e
  have h16 : vs.length ≤ sizeLine := by
    have e := congrArg List.length rel.keys
    rw [List.length_map, List.length_map] at e
    omega
  refine Calls.call_function_entry PyProof.Rows.kind_sorted PyProof.Rows.plain_sorted PyProof.Rows.entry_sorted (PyProof.Rows.args_sorted1 _) ?_
  unfold Builtin.«sorted»
  refine wpAny_bind (m := checkCount "sorted" 1 1 _) (wpAny_pure ?_)
  refine wpAny_bind (PySem.W.kdu_collect (A := X.A.in1) (PySem.W.kdl_dict (knd := mixKind X.prog X.w) (kvs := vs) (ep := ep) lo) (I.ok.hd hcalm) hat h16 fun h' tk acc hk hacc => ?_)
  have hal : acc.toList.length = ks.length := by rw [Array.length_toList, hacc.1, hl]
  have hS : IntsAre acc.toList ks := ints_each hal fun j v e => by
    obtain ⟨k, x, e1, e2⟩ := hacc.2 j v (by rw [← Array.getElem?_toList]; exact e)
    have e3 : (vs.map (·.1))[j]? = some k := by rw [List.getElem?_map, e1]; rfl
    rw [hkeys, List.getElem?_map] at e3
    cases e4 : ks[j]? with
    | none => rw [e4] at e3; cases e3
    | some y =>
      rw [e4] at e3
      have e5 : Sum.inl y = k := Option.some.inj e3
      subst e5
      rcases keyIs_shape (show keyIs (Sum.inl y) v = true from e2) with ⟨i, t, ek, ev⟩ | ⟨z, t, ek, ev⟩
      · cases ek
        exact ⟨y, t, rfl, ev⟩
      · cases ek
  have I1 : Inv X pins σ H { s with heap := h', toks := tk } := I.kept hk
  have hz : acc.toList.length ≤ sizeLine := by omega
  refine wpAny_bind (wpAny_newList ?_ hz)
  have hoL : (h'.push (seqObj "list" acc.toList.toArray 0)).get? h'.objs.size = some (seqObj "list" acc.toList.toArray 0) := Heap.get?_push_size _ rfl
  show wpAny _ _ _ _ _ { s with heap := h'.push (seqObj "list" acc.toList.toArray 0), toks := tk }
  refine wpAny_bind (wpAny_holding (wpAny_call_entry PyProof.Rows.slot_list_sort ⟨_, hoL, rfl⟩ PyProof.Rows.entry_list_sort
    (SrtO.list_sort_ord (s := { s with heap := h'.push (seqObj "list" acc.toList.toArray 0), toks := tk }) SrtO.swo_int hoL hz (fun h2 => SrtO.ints_sortable hS h2) fun out h1 h2 => ⟨_, rfl, ?_⟩) (PyProof.Rows.args_list_sort _)))
  obtain ⟨g1, g2, g3⟩ := SrtO.ints_out hS h1 h2
  obtain ⟨e', he'⟩ := PyProof.Rows.sortedHeap_at (vs := acc.toList) (out := out.toArray) hoL
  have hlen : ((out.map SrtO.iv).map V.int).length ≤ sizeLine := by
    rw [List.length_map, g2.length_eq]
    omega
  refine wpAny_pure ⟨_, rfl, .ref h'.objs.size, upd H h'.objs.size (.lst ((out.map SrtO.iv).map V.int)), I1.laid (t' := tk) (fun b u e => ?_) (Nat.le_refl _)
    (show ObjOk X.prog X.w _ _ _ (.lst ((out.map SrtO.iv).map V.int)) from ⟨hlen, out, e', vals_of_ints g1, he'⟩), rfl, q _ _ g2 g3 (I1.hok.fresh (Nat.le_refl _))⟩
  have hb : b < h'.objs.size := Heap.lt_size e
  rw [PyProof.Rows.sortedHeap_old (Nat.ne_of_lt hb) (by rw [size_push']; exact Nat.lt_succ_of_lt hb)]
  exact Heap.get?_push_of_some _ e
end
section
variable {X : Cx} {ρ ρ1 : Rho} {e : Expr} {es : List Expr} {pos pos' : Pos} {kvs : List (Key × PyData)} {x : Str}
theorem e_dsortA (i : Nat) {pn : Pos} {ks : List Int} (hi : ρ[i]? = some (.mk kvs)) (hks : kvs.map (·.1) = ks.map Sum.inl) (hm : X.mg "sorted" = none) (hg : Gl X "sorted" := by rfl) (hc : X.calm = true := by rfl) (hN : X.N[i]? = some x := by rfl)
    (hv : Vis X.env.scope x := by first | exact Or.inl rfl | exact Or.inr (Or.inl rfl) | exact Or.inr (Or.inr rfl)) (hd : (x == ("__debug__" : Str)) = false := by decide) (hcd : (x == ("__classdict__" : Str)) = false := by decide)
    (he : starEach [.Name x pos'] X.env = (false, eval (.Name x pos') X.env) :: starEach [] X.env := by rfl) : E X (.Call (.Name "sorted" pn) [.Name x pos'] [] pos) ρ (.ml ((isort ks).map .int)) ρ :=
  .of (pe_callB (call_sortedDA hc) hg hm (by decide +kernel) (pa_cons (pe_var hN hv hd hcd) pa_nil he) (he := he)) fun σ HF H S1 Q q => by
    obtain ⟨p2, o2, e3, h1, h2, h3⟩ := S1.ownAt hi rfl
    cases o2 <;> first | exact h3.elim | skip
    refine ⟨.ref p2, e3, p2, _, ks, rfl, .inl h2, (dpkv_keys h3).trans hks, fun ys p hp hs hn => ?_⟩
    obtain ⟨S2, f2⟩ := S1.allocO hn (.lst (ys.map V.int))
    rw [← isort_eq hp hs] at q
    exact q _ _ _ S2 f2 ⟨p, _, rfl, hn, S1.hfNone hn, upd_same, dpa_ints ys⟩

/-! sum of a tuple -/
theorem cr_sumT (hc : X.calm = true) : CallR X (.builtin "sum") (fun vs H Q => ∃ (a : Addr) (ns : List Int), vs = [V.ref a] ∧ SqT X.K H a (ns.map V.int) ∧ Q (.int ns.sum) H) := by
  intro pins s σ H vs us Q I r h
  obtain ⟨a, ns, rfl, hs, q⟩ := h
  obtain ⟨its, rv, hl, _⟩ := I.tuple hs
  rw [Vals.ref1 r]
  obtain ⟨xs, e⟩ := rv.ints.allInts.items
  have hn : numsOf (intItems xs).toList = ns := by rw [← e]; exact rv.ints.numsOf
  rw [nums_intItems] at hn
  rw [e] at hl
  have hlt : a < s.heap.objs.size := by obtain ⟨_, e, _⟩ := hl; exact Heap.lt_size e
  have hT : s.heap.IsTuple a (intItems xs) := hl
  refine PySem.call_sum_walkG (PySem.wpAny_pyIter_tuple hT ?_)
  refine ⟨_, _, _, _, _, _, numAt xs, rfl, PySem.Walks.tuple (A := X.A.in1) (I.ok.hd hc) _ a (Nat.ne_of_lt hlt) (intItems xs), ⟨⟨_, Heap.get?_push_size _ rfl, rfl, rfl⟩, ?_⟩, fun b hb => ?_, fun _ _ => intItems_at, fun h' tk t' hk => ?_⟩
  · obtain ⟨o, e1, e2⟩ := hT
    exact ⟨o, Heap.get?_push_of_some _ e1, e2⟩
  · show b < (s.heap.push _).objs.size
    rw [Heap.size_push]
    rcases List.mem_cons.mp hb with rfl | hb
    · exact Nat.lt_succ_self _
    · rcases List.mem_cons.mp hb with rfl | hb
      · exact Nat.lt_succ_of_lt hlt
      · cases hb
  · have hk2 : ∀ b o, s.heap.get? b = some o → h'.get? b = some o := fun b o e => by
      refine hk b o (fun hm => ?_) (Heap.get?_push_of_some _ e)
      exact absurd (Heap.lt_size e) ((List.mem_singleton.mp hm) ▸ Nat.lt_irrefl _)
    refine ⟨.int ns.sum, H, I.kept hk2, ⟨t', ?_⟩, q⟩
    rw [preSum_eq, List.take_of_length_le (by simp [intItems]), hn]
theorem e_sumT {pn : Pos} {ns : List Int} (h : E X e ρ (.d (.tuple (ns.map .int))) ρ1) (hm : X.mg "sum" = none) (hg : Gl X "sum" := by rfl) (hc : X.calm = true := by rfl) (he : starEach [e] X.env = (false, eval e X.env) :: starEach [] X.env := by rfl) : E X (.Call (.Name "sum" pn) [e] [] pos) ρ (.d (.int ns.sum)) ρ1 :=
  .of (pe_callB (cr_sumT hc) hg hm (by decide +kernel) (pa_cons pe_w pa_nil he) (he := he)) (ev_cb h.o fun HF H x Q r s q => by
    have r : Dp X.K HF x (.tuple (ns.map .int)) := r
    cases r with
    | tup h1 h2 =>
      have := ints_dpa h2
      subst this
      exact ⟨_, ns, rfl, same_t s h1, q _ (.int _)⟩)

/-! constants of the module -/
def KD (K : PySem.W.Frag) (u : Value) (d : PyData) : Prop := ∃ x, RelV x u ∧ ∀ HF, Dp K HF x d
inductive KDs (K : PySem.W.Frag) : List Value → List PyData → Prop
  | nil : KDs K [] []
  | cons {u : Value} {us : List Value} {d : PyData} {ds : List PyData} (h : KD K u d) (t : KDs K us ds) : KDs K (u :: us) (d :: ds)
theorem KDs.vals {K : PySem.W.Frag} : ∀ {us : List Value} {ds : List PyData}, KDs K us ds → ∃ xs, Vals xs us ∧ ∀ HF, DpAll K HF xs ds
  | _, _, .nil => ⟨[], .nil, fun _ => .nil⟩
  | _, _, .cons ⟨x, r, h⟩ t => by
    obtain ⟨xs, rs, hs⟩ := t.vals
    exact ⟨x :: xs, .cons r rs, fun HF => .cons (h HF) (hs HF)⟩
theorem kd_int {K : PySem.W.Frag} {i : Int} {t : Tok} : KD K (.int i t) (.int i) := ⟨.int i, ⟨t, rfl⟩, fun _ => .int i⟩
theorem kd_str {K : PySem.W.Frag} {i : Str} {t : Tok} : KD K (.str i t) (.str i) := ⟨.str i, ⟨t, rfl⟩, fun _ => .str i⟩
theorem kd_tup {K : PySem.W.Frag} {a : Addr} {od : Option Addr} {its : Array Value} {n : Nat} {sl : Array (Option Value)} {ds : List PyData} (hl : K.lookup a = some ⟨.type "tuple", od, .seq its n, sl⟩) (h : KDs K its.toList ds) (hz : ds.length < 1000) : KD K (.ref a) (.tuple ds) := by
  obtain ⟨xs, rs, hs⟩ := h.vals
  refine ⟨.ref a, rfl, fun HF => .tup (.inr ⟨_, its, n, hl, rfl, rfl, ?_, rs⟩) (hs HF)⟩
  have e1 : xs.length = its.size := rs.length.trans Array.length_toList
  rw [← e1, dpa_len (hs HF)]
  exact Nat.le_trans (Nat.le_of_lt hz) (show 1000 ≤ sizeLine by decide)
def GCst (K : PySem.W.Frag) (mg : Str → Option Value) (n : Str) (d : PyData) : Prop := ∃ u, mg n = some u ∧ KD K u d
theorem e_glob {d : PyData} (h : GCst X.K X.mg x d) (hg : Gl X x := by rfl) (hd : (x == ("__debug__" : Str)) = false := by decide) : E X (.Name x pos) ρ (.d d) ρ := by
  obtain ⟨u, hm, y, r, h⟩ := h
  exact .of (pe_glob hg hm r hd) (ev_c h)
end
end Th

set_option Elab.async false
set_option linter.all false
set_option maxRecDepth 100000
namespace Th
open PySem PySem.Spec PyProof.Rows L2

/-! ### drawing from a cell -/
def tkU (s : Int × Int) : Int := (s.1 * 48271 + 7919 * (s.2 + 1) * (s.2 + 1) + 11) % 2147483629
def tkW (s : Int × Int) : Int := (tkU s * tkU s + 69621 * (s.2 + 1) + 7) % 2147483587
def tkV (s : Int × Int) (b : Int) : Int := if 10 ^ 18 < s.1 then (s.1 - 10 ^ 18) % b else tkW s / 5 % b
def tkC (s : Int × Int) (b : Int) : Int := if 10 ^ 18 < s.1 then 10 ^ 18 + (s.1 - 10 ^ 18) / b else s.1
def tkS (s : Int × Int) (b : Int) : Int × Int := (tkC s b, s.2 + 1)
theorem tkS_n (s : Int × Int) (b : Int) : (tkS s b).2 = s.2 + 1 := rfl
theorem tkV_lo {s : Int × Int} {b : Int} (h : 0 < b) : 0 ≤ tkV s b := by
  unfold tkV
  split
  · exact emod_lo h
  · exact emod_lo h
theorem tkV_hi {s : Int × Int} {b : Int} (h : 0 < b) : tkV s b < b := by
  unfold tkV
  split
  · exact emod_hi h
  · exact emod_hi h
abbrev rowA (s : Int × Int) : A := .ml [.int s.1, .int s.2]
def fTake : Fs := fun as r as' => ∃ (s : Int × Int) (b : Int), (0 ≤ s.2 ∧ s.2 ≤ 1000000) ∧ (0 < b ∧ b.natAbs < 2 ^ 250) ∧ as = [rowA s, .d (.int b)] ∧ r = .d (.int (tkV s b)) ∧ as' = [rowA (tkS s b), .d (.int b)]
theorem tkU_lo (s : Int × Int) : 0 ≤ tkU s := emod_lo (by decide)
theorem tkU_hi (s : Int × Int) : tkU s < 2147483629 := emod_hi (by decide)

/-! ### dicts by whole numbers -/
section
variable {α : Type} {m : List (Int × α)} {k q : Int} {v : α}
theorem getI_nil : getI ([] : List (Int × α)) k = none := rfl
theorem getI_cons {p : Int × α} : getI (p :: m) k = if p.1 = k then some p.2 else getI m k := by
  unfold getI
  rw [List.find?_cons]
  by_cases h : p.1 = k
  · rw [if_pos h, show decide (p.1 = k) = true from decide_eq_true h]
    rfl
  · rw [if_neg h, show decide (p.1 = k) = false from decide_eq_false h]
theorem getI_none (h : k ∉ m.map (·.1)) : getI m k = none := by
  induction m with
  | nil => rfl
  | cons p m ih =>
    rw [getI_cons, if_neg fun z => h (by rw [List.map_cons, ← z]; exact List.mem_cons_self), ih fun z => h (by rw [List.map_cons]; exact List.mem_cons_of_mem _ z)]
theorem getI_app {l : List (Int × α)} : getI (m ++ l) k = (getI m k).or (getI l k) := by
  induction m with
  | nil => rfl
  | cons p m ih =>
    rw [List.cons_append, getI_cons, getI_cons]
    split
    · rfl
    · exact ih
theorem any_iff : (m.any fun kv => decide (kv.1 = k)) = true ↔ k ∈ m.map (·.1) := by
  rw [List.any_eq_true, List.mem_map]
  constructor
  · rintro ⟨x, h, e⟩
    exact ⟨x, h, of_decide_eq_true e⟩
  · rintro ⟨x, h, e⟩
    exact ⟨x, h, decide_eq_true e⟩
theorem getI_map : ∀ (m : List (Int × α)), k ∈ m.map (·.1) → getI (m.map fun kv => if kv.1 = k then (kv.1, v) else kv) k = some v
  | [], h => nomatch h
  | p :: m, h => by
    rw [List.map_cons, getI_cons]
    by_cases g : p.1 = k
    · rw [if_pos g]
      dsimp only
      rw [if_pos g]
    · rw [if_neg g, if_neg g]
      refine getI_map m ?_
      rw [List.map_cons] at h
      rcases List.mem_cons.mp h with z | z
      · exact absurd z.symm g
      · exact z
theorem getI_map2 (e : k ≠ q) : ∀ (m : List (Int × α)), getI (m.map fun kv => if kv.1 = k then (kv.1, v) else kv) q = getI m q
  | [] => rfl
  | p :: m => by
    rw [List.map_cons, getI_cons, getI_cons, getI_map2 e m]
    by_cases g : p.1 = k
    · rw [if_pos g]
      dsimp only
      rw [if_neg (by rw [g]; exact e), if_neg (by rw [g]; exact e)]
    · rw [if_neg g]
theorem getI_set : getI (setI m k v) q = if k = q then some v else getI m q := by
  unfold setI
  split
  · rename_i h
    have h := any_iff.mp h
    by_cases e : k = q
    · subst e
      rw [if_pos rfl, getI_map m h]
    · rw [if_neg e, getI_map2 e m]
  · rename_i h
    have h : k ∉ m.map (·.1) := fun z => h (any_iff.mpr z)
    rw [getI_app]
    by_cases e : k = q
    · subst e
      rw [if_pos rfl, getI_none h, getI_cons, if_pos rfl]
      rfl
    · rw [if_neg e, getI_cons, if_neg e, getI_nil]
      cases getI m q <;> rfl
theorem keys_set : (setI m k v).map (·.1) = if k ∈ m.map (·.1) then m.map (·.1) else m.map (·.1) ++ [k] := by
  unfold setI
  by_cases h : k ∈ m.map (·.1)
  · rw [if_pos (any_iff.mpr h), if_pos h, List.map_map]
    refine List.map_congr_left fun p _ => ?_
    show (if p.1 = k then (p.1, v) else p).1 = p.1
    split <;> rfl
  · rw [if_neg fun z => h (any_iff.mp z), if_neg h, List.map_append]
    rfl
theorem nodup_set (h : (m.map (·.1)).Nodup) : ((setI m k v).map (·.1)).Nodup := by
  rw [keys_set]
  split
  · exact h
  · rename_i g
    rw [List.nodup_append]
    refine ⟨h, List.nodup_cons.mpr ⟨List.not_mem_nil, List.nodup_nil⟩, fun a ha b hb z => ?_⟩
    rw [List.mem_singleton] at hb
    exact g (by rw [← hb, ← z]; exact ha)
theorem mem_keys_set : q ∈ (setI m k v).map (·.1) ↔ q = k ∨ q ∈ m.map (·.1) := by
  rw [keys_set]
  split
  · rename_i g
    exact ⟨.inr, fun z => z.elim (fun e => e ▸ g) id⟩
  · rw [List.mem_append, List.mem_singleton]
    exact Or.comm
end
/-! ### polynomials: lists of terms -/
abbrev Tm := Int × Int
def cf : List Tm → Int → Int
  | [], _ => 0
  | t :: ts, p => (if t.1 = p then t.2 else 0) + cf ts p
def Can (ts : List Tm) : Prop := (ts.map (·.1)).Pairwise (· < ·) ∧ ∀ t ∈ ts, t.2 ≠ 0
theorem cf_app (a b : List Tm) (p : Int) : cf (a ++ b) p = cf a p + cf b p := by
  induction a with
  | nil => rw [List.nil_append, cf]; omega
  | cons t a ih => rw [List.cons_append, cf, cf, ih]; omega
theorem cf_off {a : List Tm} {p : Int} (h : p ∉ a.map (·.1)) : cf a p = 0 := by
  induction a with
  | nil => rfl
  | cons t a ih =>
    rw [List.map_cons, List.mem_cons, not_or] at h
    rw [cf, if_neg fun z => h.1 z.symm, ih h.2]
    rfl
theorem cf_mem {a : List Tm} (hn : (a.map (·.1)).Nodup) {t : Tm} (h : t ∈ a) : cf a t.1 = t.2 := by
  induction a with
  | nil => cases h
  | cons u a ih =>
    rw [List.map_cons, List.nodup_cons] at hn
    rw [cf]
    rcases List.mem_cons.mp h with e | h
    · subst e
      rw [if_pos rfl, cf_off hn.1]
      omega
    · have hm : t.1 ∈ a.map (·.1) := List.mem_map_of_mem h
      rw [if_neg (fun z => hn.1 (by rw [z]; exact hm)), ih hn.2 h]
      omega
theorem pw_nodup {xs : List Int} (h : xs.Pairwise (· < ·)) : xs.Nodup := h.imp fun h => by omega
theorem Can.nodup {a : List Tm} (h : Can a) : (a.map (·.1)).Nodup := pw_nodup h.1
theorem can_ext : ∀ {a b : List Tm}, Can a → Can b → (∀ p, cf a p = cf b p) → a = b
  | [], [], _, _, _ => rfl
  | [], y :: b, _, hb, h => by
    have := h y.1
    rw [cf_mem hb.nodup List.mem_cons_self] at this
    exact absurd this.symm (hb.2 y List.mem_cons_self)
  | x :: a, [], ha, _, h => by
    have := h x.1
    rw [cf_mem ha.nodup List.mem_cons_self] at this
    exact absurd this (ha.2 x List.mem_cons_self)
  | x :: a, y :: b, ha, hb, h => by
    have ha1 := List.pairwise_cons.mp (show (x.1 :: a.map (·.1)).Pairwise (· < ·) from ha.1)
    have hb1 := List.pairwise_cons.mp (show (y.1 :: b.map (·.1)).Pairwise (· < ·) from hb.1)
    have e1 := h x.1
    have e2 := h y.1
    rw [cf_mem ha.nodup List.mem_cons_self] at e1
    rw [cf_mem hb.nodup List.mem_cons_self] at e2
    have hx : x.1 = y.1 := by
      rcases Int.lt_trichotomy x.1 y.1 with g | g | g
      · rw [cf_off] at e1
        · exact absurd e1 (ha.2 x List.mem_cons_self)
        · rw [List.map_cons, List.mem_cons]
          rintro (z | z)
          · omega
          · have := hb1.1 _ z; omega
      · exact g
      · rw [cf_off] at e2
        · exact absurd e2.symm (hb.2 y List.mem_cons_self)
        · rw [List.map_cons, List.mem_cons]
          rintro (z | z)
          · omega
          · have := ha1.1 _ z; omega
    have hxy : x = y := by
      rw [hx, cf_mem hb.nodup List.mem_cons_self] at e1
      exact Prod.ext hx e1
    subst hxy
    refine congrArg _ (can_ext ⟨ha1.2, fun t ht => ha.2 t (List.mem_cons_of_mem _ ht)⟩ ⟨hb1.2, fun t ht => hb.2 t (List.mem_cons_of_mem _ ht)⟩ fun p => ?_)
    have := h p
    rw [cf, cf] at this
    omega
/-- the terms of a dict, in order -/
abbrev keysI (d : List Tm) : List Int := d.map (·.1)
def valI (d : List Tm) (p : Int) : Int := (getI d p).getD 0
def canD (d : List Tm) : List Tm := ((isort (d.map (·.1))).filter fun p => !decide (valI d p = 0)).map fun p => (p, valI d p)
theorem isort_lt {ns : List Int} (h : ns.Nodup) : (isort ns).Pairwise (· < ·) := by
  have h2 : (isort ns).Nodup := (isort_perm ns).nodup_iff.mpr h
  exact ((isort_pw ns).and h2).imp fun ⟨a, b⟩ => by omega
theorem canD_keys (d : List Tm) : (canD d).map (·.1) = (isort (d.map (·.1))).filter fun p => !decide (valI d p = 0) := by
  unfold canD
  rw [List.map_map]
  exact List.map_id _
theorem canD_can {d : List Tm} (h : (d.map (·.1)).Nodup) : Can (canD d) := by
  refine ⟨?_, fun t ht => ?_⟩
  · rw [canD_keys]
    exact (isort_lt h).filter _
  · unfold canD at ht
    obtain ⟨p, hp, rfl⟩ := List.mem_map.mp ht
    have := (List.mem_filter.mp hp).2
    simpa using this
theorem canD_cf {d : List Tm} (h : (d.map (·.1)).Nodup) (p : Int) : cf (canD d) p = valI d p := by
  by_cases hp : p ∈ (canD d).map (·.1)
  · obtain ⟨t, ht, rfl⟩ := List.mem_map.mp hp
    rw [cf_mem (canD_can h).nodup ht]
    unfold canD at ht
    obtain ⟨q, _, rfl⟩ := List.mem_map.mp ht
    rfl
  · rw [cf_off hp]
    rw [canD_keys, List.mem_filter] at hp
    by_cases hz : valI d p = 0
    · exact hz.symm
    · have : p ∉ d.map (·.1) := fun z => hp ⟨(isort_perm _).mem_iff.mpr z, by simpa using hz⟩
      exact (show valI d p = 0 by unfold valI; rw [getI_none this]; rfl).symm
theorem canD_pow {d : List Tm} {t : Tm} (h : t ∈ canD d) : t.1 ∈ d.map (·.1) := by
  have : t.1 ∈ (canD d).map (·.1) := List.mem_map_of_mem h
  rw [canD_keys, List.mem_filter] at this
  exact (isort_perm _).mem_iff.mp this.1
theorem canD_len (d : List Tm) : (canD d).length ≤ d.length := by
  have e : (canD d).length = ((canD d).map (·.1)).length := (List.length_map _).symm
  rw [e, canD_keys]
  refine Nat.le_trans (List.length_filter_le _ _) ?_
  rw [(isort_perm _).length_eq, List.length_map]
  exact Nat.le_refl _
theorem valI_set {d : List Tm} {k q n : Int} : valI (setI d k n) q = if k = q then n else valI d q := by
  unfold valI
  rw [getI_set]
  split <;> rfl
/-- a number put in -/
def addI (d : List Tm) (t : Tm) : List Tm := setI d t.1 (valI d t.1 + t.2)
def gatD (ts : List Tm) : List Tm := ts.foldl addI []
theorem addI_val (d : List Tm) (t : Tm) (p : Int) : valI (addI d t) p = valI d p + (if t.1 = p then t.2 else 0) := by
  unfold addI
  rw [valI_set]
  split
  · rename_i h; rw [h]
  · omega
theorem addI_nodup {d : List Tm} {t : Tm} (h : (d.map (·.1)).Nodup) : ((addI d t).map (·.1)).Nodup := nodup_set h
theorem addI_len (d : List Tm) (t : Tm) : (addI d t).length ≤ d.length + 1 := setI_len _ _ _
theorem fold_val (ts : List Tm) : ∀ (d : List Tm) (p : Int), valI (ts.foldl addI d) p = valI d p + cf ts p := by
  induction ts with
  | nil => intro d p; show _ = _ + 0; rw [Int.add_zero]; rfl
  | cons t ts ih =>
    intro d p
    rw [List.foldl_cons, ih, addI_val, cf]
    omega
theorem fold_nodup (ts : List Tm) : ∀ {d : List Tm}, (d.map (·.1)).Nodup → ((ts.foldl addI d).map (·.1)).Nodup := by
  induction ts with
  | nil => intro d h; exact h
  | cons t ts ih => intro d h; exact ih (addI_nodup h)
theorem fold_keys (ts : List Tm) : ∀ {d : List Tm} {p : Int}, p ∈ (ts.foldl addI d).map (·.1) ↔ p ∈ d.map (·.1) ∨ p ∈ ts.map (·.1) := by
  induction ts with
  | nil => intro d p; simp
  | cons t ts ih =>
    intro d p
    rw [List.foldl_cons, ih, List.map_cons, List.mem_cons]
    unfold addI
    rw [mem_keys_set]
    constructor
    · rintro ((h | h) | h)
      · exact .inr (.inl h)
      · exact .inl h
      · exact .inr (.inr h)
    · rintro (h | h | h)
      · exact .inl (.inr h)
      · exact .inl (.inl h)
      · exact .inr h
theorem gatD_val (ts : List Tm) (p : Int) : valI (gatD ts) p = cf ts p := by
  unfold gatD
  rw [fold_val]
  show 0 + _ = _
  omega
theorem gatD_nodup (ts : List Tm) : ((gatD ts).map (·.1)).Nodup := fold_nodup ts List.nodup_nil
theorem gatD_keys {ts : List Tm} {p : Int} : p ∈ (gatD ts).map (·.1) ↔ p ∈ ts.map (·.1) := by
  unfold gatD
  rw [fold_keys]
  simp
theorem fold_len (ts : List Tm) : ∀ (d : List Tm), (ts.foldl addI d).length ≤ d.length + ts.length := by
  induction ts with
  | nil => intro d; exact Nat.le_refl _
  | cons t ts ih =>
    intro d
    have h1 := ih (addI d t)
    have h2 := addI_len d t
    rw [List.foldl_cons, List.length_cons]
    omega
def gat (ts : List Tm) : List Tm := canD (gatD ts)
theorem gat_can (ts : List Tm) : Can (gat ts) := canD_can (gatD_nodup ts)
theorem gat_cf (ts : List Tm) (p : Int) : cf (gat ts) p = cf ts p := by
  unfold gat
  rw [canD_cf (gatD_nodup ts), gatD_val]
theorem gat_pow {ts : List Tm} {t : Tm} (h : t ∈ gat ts) : t.1 ∈ ts.map (·.1) := gatD_keys.mp (canD_pow h)
theorem gat_len (ts : List Tm) : (gat ts).length ≤ ts.length := by
  refine Nat.le_trans (canD_len _) ?_
  have := fold_len ts []
  unfold gatD
  simpa using this
theorem gat_val {ts : List Tm} {t : Tm} (h : t ∈ gat ts) : t.2 = cf ts t.1 := by rw [← gat_cf, cf_mem (gat_can ts).nodup h]
theorem gat_is {ts a : List Tm} (ha : Can a) (h : ∀ p, cf ts p = cf a p) : gat ts = a := can_ext (gat_can ts) ha fun p => (gat_cf ts p).trans (h p)
theorem gat_id {a : List Tm} (ha : Can a) : gat a = a := gat_is ha fun _ => rfl
theorem gat_congr {a b : List Tm} (h : ∀ p, cf a p = cf b p) : gat a = gat b := gat_is (gat_can b) fun p => (h p).trans (gat_cf b p).symm

/-! products -/
def liftT (k : Int) (a : List Tm) : List Tm := a.map fun t => (t.1 + k, t.2)
def rowT (t : Tm) (b : List Tm) : List Tm := b.map fun u => (t.1 + u.1, t.2 * u.2)
def prodT (a b : List Tm) : List Tm := (a.map fun t => rowT t b).flatten
theorem prodT_cons (t : Tm) (a b : List Tm) : prodT (t :: a) b = rowT t b ++ prodT a b := by
  unfold prodT
  rw [List.map_cons, List.flatten_cons]
theorem prodT_len (a b : List Tm) : (prodT a b).length = a.length * b.length := by
  induction a with
  | nil => rw [List.length_nil, Nat.zero_mul]; rfl
  | cons t a ih =>
    rw [prodT_cons, List.length_append, ih, List.length_cons, Nat.succ_mul]
    unfold rowT
    rw [List.length_map]
    omega
theorem cf_row (t : Tm) (b : List Tm) (p : Int) : cf (rowT t b) p = t.2 * cf b (p - t.1) := by
  induction b with
  | nil => show 0 = t.2 * 0; rw [Int.mul_zero]
  | cons u b ih =>
    show (if t.1 + u.1 = p then t.2 * u.2 else 0) + cf (rowT t b) p = _
    rw [cf, Int.mul_add, ih]
    by_cases h : t.1 + u.1 = p
    · rw [if_pos h, if_pos (by omega)]
    · rw [if_neg h, if_neg (by omega), Int.mul_zero]
theorem cf_prod_cons (t : Tm) (a b : List Tm) (p : Int) : cf (prodT (t :: a) b) p = t.2 * cf b (p - t.1) + cf (prodT a b) p := by rw [prodT_cons, cf_app, cf_row]
theorem cf_lift (k : Int) (a : List Tm) (p : Int) : cf (liftT k a) p = cf a (p - k) := by
  induction a with
  | nil => rfl
  | cons t a ih =>
    show (if t.1 + k = p then t.2 else 0) + cf (liftT k a) p = _
    rw [cf, ih]
    by_cases h : t.1 + k = p
    · rw [if_pos h, if_pos (by omega)]
    · rw [if_neg h, if_neg (by omega)]
theorem lift_can {k : Int} {a : List Tm} (h : Can a) : Can (liftT k a) := by
  refine ⟨?_, fun t ht => ?_⟩
  · unfold liftT
    rw [List.map_map, List.pairwise_map]
    exact (List.pairwise_map.mp h.1).imp fun {a b} (h : a.1 < b.1) => (show a.1 + k < b.1 + k by omega)
  · obtain ⟨u, hu, rfl⟩ := List.mem_map.mp ht
    exact h.2 u hu
/-- how many terms lie between two powers -/
theorem pw_len : ∀ {xs : List Int} {lo hi : Int}, xs.Pairwise (· < ·) → (∀ x ∈ xs, lo ≤ x ∧ x ≤ hi) → (xs.length : Int) ≤ max 0 (hi - lo + 1)
  | [], _, _, _, _ => by simp; omega
  | x :: xs, lo, hi, h, hb => by
    have h1 := List.pairwise_cons.mp h
    have h2 := hb x List.mem_cons_self
    have := pw_len (lo := x + 1) (hi := hi) h1.2 fun y hy => ⟨h1.1 y hy, (hb y (List.mem_cons_of_mem _ hy)).2⟩
    rw [List.length_cons]
    omega
theorem nodup_len {xs : List Int} {lo hi : Int} (h : xs.Nodup) (hb : ∀ x ∈ xs, lo ≤ x ∧ x ≤ hi) : (xs.length : Int) ≤ max 0 (hi - lo + 1) := by
  rw [← (isort_perm xs).length_eq]
  exact pw_len (isort_lt h) fun x hx => hb x ((isort_perm xs).mem_iff.mp hx)
/-! as data -/
abbrev encT (t : Tm) : PyData := .tuple [.int t.1, .int t.2]
abbrev encP (ts : List Tm) : PyData := .tuple (ts.map encT)
theorem eqE_T : EqE encT := eqE_pair eqE_int eqE_int
theorem eqE_P : EqE encP := eqE_tuple eqE_T
theorem fit_T {n : Nat} (t : Tm) : Fit (n + 1) (encT t) := fit_t2 (fit_int _) (fit_int _)
theorem fit_P {n : Nat} (a : List Tm) : Fit (n + 2) (encP a) := fit_tm fun t _ => fit_T t
abbrev encDI (d : List Tm) : List (Key × PyData) := encD PyData.int d
theorem getK_val (d : List Tm) (p : Int) : (getK (encDI d) (Sum.inl p)).getD (.int 0) = .int (valI d p) := by
  rw [getK_enc]
  unfold valI
  cases getI d p <;> rfl
theorem getK_in {d : List Tm} {p : Int} (h : p ∈ d.map (·.1)) : getK (encDI d) (Sum.inl p) = some (.int (valI d p)) := by
  obtain ⟨v, e⟩ := getI_some h
  rw [getK_enc]
  unfold valI
  rw [e]
  rfl
theorem encDI_set (d : List Tm) (p n : Int) : setK (encDI d) (Sum.inl p) (.int n) = encDI (setI d p n) := setK_enc (f := PyData.int) d p n
theorem encDI_keys (d : List Tm) : (encDI d).map (·.1) = (keysI d).map Sum.inl := keys_enc (f := PyData.int) d
end Th
namespace Th
open PySem PySem.Spec PyProof.Rows L2
/-- a def that changes its first argument -/
theorem pr_1 {r a x : A} {ds : List PyData} {ρ : Rho} (h : a = r) (h2 : ρ[0]? = some x) : PR r (x :: ds.map A.d) a ρ := ⟨h, fun i a' e o => by
  cases i with
  | zero => rw [List.getElem?_cons_zero] at e; cases e; exact h2
  | succ i =>
    rw [List.getElem?_cons_succ] at e
    have := own_map a' (List.mem_of_getElem? e)
    rw [o] at this
    cases this⟩
theorem own_1 {x : A} {ds : List PyData} {i : Nat} {a : A} (e : (x :: ds.map A.d)[i]? = some a) (o : a.own = true) : i ∈ [0] := by
  cases i with
  | zero => exact List.mem_singleton.mpr rfl
  | succ i =>
    rw [List.getElem?_cons_succ] at e
    have := own_map a (List.mem_of_getElem? e)
    rw [o] at this
    cases this
end Th
namespace Th
open PySem PySem.Spec PyProof.Rows L2
def fGathered : List PyData → A → Prop := fun ds r => ∃ (tup : Bool) (ts : List Tm), ts.length < 100000 ∧ ds = [if tup then encP ts else .list (ts.map encT)] ∧ r = .d (encP (gat ts))
def fTimes : List PyData → A → Prop := fun ds r => ∃ a b : List Tm, a.length * b.length < 100000 ∧ a.length < 100000 ∧ b.length < 100000 ∧ (∀ t ∈ a, ∀ u ∈ b, CMulW t.2 u.2) ∧ ds = [encP a, encP b] ∧ r = .d (encP (gat (prodT a b)))
def fLifted : List PyData → A → Prop := fun ds r => ∃ (a : List Tm) (k : Int), a.length < 100000 ∧ ds = [encP a, .int k] ∧ r = .d (encP (liftT k a))
def fTold : List PyData → A → Prop := fun ds r => ∃ a : List Tm, ds = [encP a] ∧ r = .d (.bool true)
def fPolyD : Fs := fun as r as' => ∃ d : List Tm, d.length < 100000 ∧ as = [.mk (encDI d)] ∧ r = .d (encP (canD d)) ∧ as' = as
theorem prodT_take {a b : List Tm} {i : Nat} {t : Tm} (h : a[i]? = some t) : prodT (a.take (i + 1)) b = prodT (a.take i) b ++ rowT t b := by
  unfold prodT
  rw [List.take_add_one, h, List.map_append, List.flatten_append]
  simp
end Th
namespace Th
open PySem PySem.Spec PyProof.Rows L2
theorem shape_1 {x y : A} {l : List A} (hx : x.own = true := by rfl) (hy : y.own = true := by rfl) : Shape (x :: l) (y :: l) := ⟨rfl, fun i a e => by
  cases i with
  | zero => rw [List.getElem?_cons_zero] at e; cases e; exact ⟨y, rfl, by rw [hx, hy], fun z => by rw [hx] at z; cases z⟩
  | succ i => exact ⟨a, e, rfl, fun _ => rfl⟩⟩
theorem e_take (i : Nat) {X : Cx} {ρ ρ1 : Rho} {k : Nat} {f : Addr} {fd : FuncData} {ps : List Str} {x y : Str} {p py pos : Pos} {eb : Expr} {s : Int × Int} {b : Int} (G : FnOk X.prog X.w X.K X.mg X.base CX0 k f fd ps (spA X.K fTake)) (hr : Room k X.A) (hm : X.mg x = some (.ref f)) (hk : PySem.W.keepIn X.K (.ref f) = true) (hb : Binds X.K fd ps [])
    (he : E X eb ρ (.d (.int b)) ρ1) (hi0 : ∃ a, ρ[i]? = some a ∧ a.own = true) (hi : ρ1[i]? = some (rowA s)) (hs : 0 ≤ s.2 ∧ s.2 ≤ 1000000 := by (refine ⟨?_, ?_⟩ <;> (try simp only [tkS_n]) <;> omega)) (h0 : 0 < b ∧ b.natAbs < 2 ^ 250 := by exact ⟨by decide, by decide⟩) (hN : X.N[i]? = some y := by rfl) (hv : Vis X.env.scope y := by first | exact Or.inl rfl | exact Or.inr (Or.inl rfl) | exact Or.inr (Or.inr rfl))
    (hd : (y == ("__debug__" : Str)) = false := by decide) (hcd : (y == ("__classdict__" : Str)) = false := by decide) (hs2 : starEach (.Name y py :: [eb]) X.env = (false, eval (.Name y py) X.env) :: starEach [eb] X.env := by rfl) (hs3 : starEach (eb :: []) X.env = (false, eval eb X.env) :: starEach [] X.env := by rfl) (hg : Gl X x := by rfl) (hdb : (x == ("__debug__" : Str)) = false := by decide) (hpl : (backTo pos (starEach [eb] X.env)).any (·.1) = false := by rfl) :
    E X (.Call (.Name x p) [.Name y py, eb] [] pos) ρ (.d (.int (tkV s b))) (ρ1.set i (rowA (tkS s b))) := by
  obtain ⟨a, h1, h2⟩ := hi0
  have e : ρ1.getD i .any = rowA s := by rw [List.getD_eq_getElem?_getD, hi]; rfl
  have h := e_call (r := .d (.int (tkV s b))) (as' := [rowA (tkS s b), .d (.int b)]) (pos := pos) (p := p) G hr hm hk hb (a_lent (pos := py) i h1 h2 (a_dat he a_nil hs3) hN hv hd hcd hs2) ⟨s, b, hs, h0, by simp only [List.map_cons, List.map_nil, toA, e], rfl, rfl⟩ (by simp only [List.map_cons, List.map_nil, toA, e]; exact shape_1) (by simp [lents]) (fun _ _ z => z.elim) hg hdb hs2 hpl
  exact h
theorem src_keysI {X : Cx} {ρ ρ1 : Rho} {tg iter : Expr} {d : List Tm} (h : E X iter ρ (.fk (encDI d)) ρ1) : Src X tg iter ρ (d.map fun t => .int t.1) ρ1 none := by
  have g := src_keys (tg := tg) h
  have : (encDI d).map (fun kv => kD kv.1) = d.map fun t => PyData.int t.1 := by
    unfold encDI encD
    rw [List.map_map]
    rfl
  rwa [this] at g
end Th
namespace Th
open PySem PySem.Spec PyProof.Rows L2
/-! draws: one of two; rows of them -/
def pick2 (s : Int × Int) (a b c : Int) : Int := if decide (tkV (tkS (tkS s a) b) c = 1) = true then tkV (tkS s a) b else tkV s a
theorem at_b2 {a b : PyData} {c : Bool} : atI [a, b] (if c = true then 1 else 0) = some (if c = true then b else a) := by cases c <;> rfl
theorem at_b2i {a b : Int} {c : Bool} : atI [PyData.int a, .int b] (if c = true then 1 else 0) = some (.int (if c = true then b else a)) := by cases c <;> rfl
theorem pick2_bd {s : Int × Int} {a b c m : Int} (ha : 0 < a) (hb : 0 < b) (h1 : a ≤ m) (h2 : b ≤ m) : 0 ≤ pick2 s a b c ∧ pick2 s a b c < m := by
  unfold pick2
  have := tkV_lo (s := s) ha
  have := tkV_hi (s := s) ha
  have := tkV_lo (s := tkS s a) hb
  have := tkV_hi (s := tkS s a) hb
  split <;> omega
def drawL (b : Int) : Nat → Int × Int → List Int
  | 0, _ => []
  | n + 1, s => tkV s b :: drawL b n (tkS s b)
theorem drawL_len (b : Int) : ∀ (n : Nat) (s : Int × Int), (drawL b n s).length = n
  | 0, _ => rfl
  | n + 1, s => congrArg (· + 1) (drawL_len b n _)
theorem drawL_bd {b : Int} (hb : 0 < b) : ∀ (n : Nat) (s : Int × Int), ∀ x ∈ drawL b n s, 0 ≤ x ∧ x < b
  | 0, _, x, h => nomatch h
  | n + 1, s, x, h => by
    rcases List.mem_cons.mp h with rfl | h
    · exact ⟨tkV_lo hb, tkV_hi hb⟩
    · exact drawL_bd hb n _ x h
theorem fold_draw {α : Type} (b : Int) : ∀ (xs : List α) (t : Int × Int) (acc : List PyData), (xs.foldl (fun (p : (Int × Int) × List PyData) (_ : α) => (tkS p.1 b, p.2 ++ [PyData.int (tkV p.1 b)])) (t, acc)).2 = acc ++ (drawL b xs.length t).map .int
  | [], t, acc => by show acc = acc ++ []; rw [List.append_nil]
  | x :: xs, t, acc => by
    rw [List.foldl_cons, fold_draw b xs]
    show (acc ++ [_]) ++ _ = acc ++ (_ :: _)
    rw [List.append_assoc]
    rfl
theorem fold_drawS {α : Type} (b : Int) : ∀ (xs : List α) (t : Int × Int), (xs.foldl (fun (p : Int × Int) (_ : α) => tkS p b) t).2 = t.2 + xs.length
  | [], t => by show t.2 = t.2 + 0; omega
  | x :: xs, t => by
    rw [List.foldl_cons, fold_drawS b xs, tkS_n, List.length_cons]
    omega
theorem rep_one {α : Type} (x : α) : ∀ n : Nat, (List.replicate n [x]).flatten = List.replicate n x
  | 0 => rfl
  | n + 1 => by rw [List.replicate_succ, List.flatten_cons, rep_one x n]; rfl
end Th
namespace Th
open PySem PySem.Spec PyProof.Rows L2
abbrev encN (i : Nat) : PyData := .int (i : Int)
theorem src_rN {X : Cx} {ρ ρ1 : Rho} {tg e : Expr} {px pc : Pos} {n : Nat} (h : E X e ρ (.d (.int n)) ρ1) (hm : X.mg "range" = none) (hn : n < 2 ^ 62) (hg : Gl X "range" := by rfl) (hse : starEach [e] X.env = [(false, eval e X.env)] := by rfl) :
    Src X tg (.Call (.Name "range" px) [e] [] pc) ρ ((List.range n).map encN) ρ1 none := by
  have g := src_r1 (tg := tg) (px := px) (pc := pc) h hm ⟨by omega, by omega⟩ hg hse
  have : rangeD 0 (n : Int).toNat = (List.range n).map encN := by
    unfold rangeD
    rw [Int.toNat_natCast]
    refine List.map_congr_left fun i _ => ?_
    rw [Int.zero_add]
  rwa [this] at g
theorem range_get {n i x : Nat} (h : (List.range n)[i]? = some x) : i < n ∧ x = i := by
  have := (List.getElem?_eq_some_iff.mp h)
  obtain ⟨h1, h2⟩ := this
  rw [List.length_range] at h1
  rw [List.getElem_range] at h2
  exact ⟨h1, h2.symm⟩
end Th
namespace Th
open PySem PySem.Spec PyProof.Rows L2
section
variable {X : Cx} {B : Bs} {P : Pst} {ρ ρ1 ρ2 ρ3 : Rho} {tg iter e e1 e2 : Expr} {es : List Expr} {pos pos' : Pos} {ds : List PyData} {k : Option Nat}
theorem l_lcF {α : Type} {xs : List α} {scope : Scope} (own : List (Str × Nat)) {elt : Expr} {ifs : List Expr} (enc : α → PyData) (p : α → Bool) (g : α → PyData)
    (ht : Src X tg iter ρ (xs.map enc) ρ1 k) (hN : X.N.Nodup) (hz : xs.length < 100000)
    (hb : ∀ (i : Nat) (x : α), xs[i]? = some x → ∃ ρ2 : Rho, (∀ (s : Shared) (H : Hp) (C : Addr) (cl : List (Str × Addr)) (fp : List Addr), GC (X.blk s H scope (compEnvC scope cl C X.env) fp) (own.map (·.2)) tg (enc x) (wipeR ρ1 (own.map (·.2))) ρ2) ∧
      (∀ (s : Shared) (H : Hp) (C : Addr) (cl : List (Str × Addr)) (fp : List Addr), EI (X.blk s H scope (compEnvC scope cl C X.env) fp) ifs ρ2 (p x) ρ2) ∧
      (p x = true → ∀ (s : Shared) (H : Hp) (C : Addr) (cl : List (Str × Addr)) (fp : List Addr), E (X.blk s H scope (compEnvC scope cl C X.env) fp) elt ρ2 (.d (g x)) ρ2) ∧ wipeR ρ2 (own.map (·.2)) = wipeR ρ1 (own.map (·.2)))
    (hv : noOwn ρ1 (own.map (·.2)) = true) (hkk : ∀ j, k = some j → j ∉ own.map (·.2)) (ok : BlkOk X.N X.env.scope scope own)
    (hc : X.calm = true := by rfl) (hs : ∀ x, foldedSetIterable iter X.env x = pure x := by intro _; rfl) : ELc X (.ListComp elt [⟨tg, iter, ifs, 0⟩] scope pos) ρ (.ml ((xs.filter p).map g)) ρ1 := by
  refine el_lc (out := (xs.filter p).map g) (D0 := []) ht ok hN (fun i ρ' acc => ρ' = wipeR ρ1 (own.map (·.2)) ∧ acc = ((xs.take i).filter p).map g) ⟨rfl, rfl⟩ (fun i ρ' acc ⟨e, _⟩ => ⟨?_, hkk⟩) (fun i v ρ' acc hi ⟨e1, e2⟩ => ?_) (fun ρ' acc ⟨e1, e2⟩ => ?_) (by rw [List.length_map]; exact Nat.lt_of_lt_of_le hz (by decide)) (fun i ρ' acc ⟨_, e⟩ => ?_) hc hs
  · subst e
    cases k with
    | none => trivial
    | some j => exact wipeR_off (hkk j rfl)
  · subst e1
    obtain ⟨x, hx, rfl⟩ := map_get hi
    obtain ⟨ρ2, h1, h2, h3, h4⟩ := hb i x hx
    have tk : xs.take (i + 1) = xs.take i ++ [x] := by rw [List.take_add_one, hx]; rfl
    refine ⟨ρ2, p x, ρ2, h1, h2, fun z => ⟨g x, ρ2, h3 z, h4, ?_⟩, fun z => ⟨h4, ?_⟩⟩
    · rw [e2, tk, List.filter_append, List.map_append]
      simp [z]
    · rw [e2, tk, List.filter_append, List.map_append]
      simp [z]
  · subst e1
    rw [List.length_map, List.take_length] at e2
    exact ⟨e2, unw_id (no_own hv)⟩
  · rw [e, List.length_map]
    refine Nat.le_trans (List.length_filter_le _ _) ?_
    rw [List.length_take]
    exact Nat.min_le_left _ _
theorem l_lcM {α : Type} {xs : List α} {scope : Scope} (own : List (Str × Nat)) {elt : Expr} (enc : α → PyData) (g : α → PyData)
    (ht : Src X tg iter ρ (xs.map enc) ρ1 k) (hN : X.N.Nodup) (hz : xs.length < 100000)
    (hb : ∀ (i : Nat) (x : α), xs[i]? = some x → ∃ ρ2 : Rho, (∀ (s : Shared) (H : Hp) (C : Addr) (cl : List (Str × Addr)) (fp : List Addr), GC (X.blk s H scope (compEnvC scope cl C X.env) fp) (own.map (·.2)) tg (enc x) (wipeR ρ1 (own.map (·.2))) ρ2) ∧
      (∀ (s : Shared) (H : Hp) (C : Addr) (cl : List (Str × Addr)) (fp : List Addr), E (X.blk s H scope (compEnvC scope cl C X.env) fp) elt ρ2 (.d (g x)) ρ2) ∧ wipeR ρ2 (own.map (·.2)) = wipeR ρ1 (own.map (·.2)))
    (hv : noOwn ρ1 (own.map (·.2)) = true) (hkk : ∀ j, k = some j → j ∉ own.map (·.2)) (ok : BlkOk X.N X.env.scope scope own)
    (hc : X.calm = true := by rfl) (hs : ∀ x, foldedSetIterable iter X.env x = pure x := by intro _; rfl) : ELc X (.ListComp elt [⟨tg, iter, [], 0⟩] scope pos) ρ (.ml (xs.map g)) ρ1 := by
  have h := l_lcF (pos := pos) (elt := elt) (ifs := []) own enc (fun _ => true) g ht hN hz (fun i x hx => by
    obtain ⟨ρ2, h1, h2, h3⟩ := hb i x hx
    exact ⟨ρ2, h1, fun s H C cl fp => i_nil, fun _ => h2, h3⟩) hv hkk ok hc hs
  rwa [List.filter_eq_self.mpr fun _ _ => rfl] at h
theorem l_lcS {α T : Type} {xs : List α} {scope : Scope} (own : List (Str × Nat)) {elt : Expr} (enc : α → PyData) (t0 : T) (step : T → α → T) (g : T → α → PyData) (emb : T → Rho) (J : T → Nat → Prop) (hJ : J t0 0)
    (ht : Src X tg iter ρ (xs.map enc) (emb t0) none) (hN : X.N.Nodup) (hz : xs.length < 100000)
    (hb : ∀ t (i : Nat) (x : α), xs[i]? = some x → J t i → J (step t x) (i + 1) ∧ ∃ ρ2 ρ4 : Rho, (∀ (s : Shared) (H : Hp) (C : Addr) (cl : List (Str × Addr)) (fp : List Addr), GC (X.blk s H scope (compEnvC scope cl C X.env) fp) (own.map (·.2)) tg (enc x) (wipeR (emb t) (own.map (·.2))) ρ2) ∧
      (∀ (s : Shared) (H : Hp) (C : Addr) (cl : List (Str × Addr)) (fp : List Addr), E (X.blk s H scope (compEnvC scope cl C X.env) fp) elt ρ2 (.d (g t x)) ρ4) ∧ wipeR ρ4 (own.map (·.2)) = wipeR (emb (step t x)) (own.map (·.2)))
    (hv : ∀ t, noOwn (emb t) (own.map (·.2)) = true) (hem : ∀ t t', (emb t).length = (emb t').length ∧ ∀ i, i ∈ own.map (·.2) → (emb t)[i]? = (emb t')[i]?) (ok : BlkOk X.N X.env.scope scope own)
    (hc : X.calm = true := by rfl) (hs : ∀ x, foldedSetIterable iter X.env x = pure x := by intro _; rfl) :
    ELc X (.ListComp elt [⟨tg, iter, [], 0⟩] scope pos) ρ (.ml ((xs.foldl (fun (p : T × List PyData) x => (step p.1 x, p.2 ++ [g p.1 x])) (t0, [])).2)) (emb (xs.foldl step t0)) := by
  have hfst : ∀ (ys : List α) (t : T) (acc : List PyData), (ys.foldl (fun (p : T × List PyData) x => (step p.1 x, p.2 ++ [g p.1 x])) (t, acc)).1 = ys.foldl step t := fun ys => by
    induction ys with
    | nil => intro t acc; rfl
    | cons y ys ih => intro t acc; rw [List.foldl_cons, List.foldl_cons]; exact ih _ _
  have hlen : ∀ (ys : List α) (t : T) (acc : List PyData), (ys.foldl (fun (p : T × List PyData) x => (step p.1 x, p.2 ++ [g p.1 x])) (t, acc)).2.length = acc.length + ys.length := fun ys => by
    induction ys with
    | nil => intro t acc; rfl
    | cons y ys ih => intro t acc; rw [List.foldl_cons, ih]; simp; omega
  have hJall : ∀ i, i ≤ xs.length → J ((xs.take i).foldl step t0) i := fun i => by
    induction i with
    | zero => intro _; exact hJ
    | succ i ih =>
      intro hi
      have e := List.getElem?_eq_getElem (show i < xs.length by omega)
      rw [List.take_add_one, e, List.foldl_append]
      exact (hb _ i _ e (ih (by omega))).1
  refine el_lc (D0 := []) (k := none) ht ok hN (fun i ρ' acc => ρ' = wipeR (emb ((xs.take i).foldl step t0)) (own.map (·.2)) ∧ acc = ((xs.take i).foldl (fun (p : T × List PyData) x => (step p.1 x, p.2 ++ [g p.1 x])) (t0, [])).2) ⟨rfl, rfl⟩ (fun _ _ _ _ => ⟨trivial, fun _ z => nomatch z⟩) (fun i v ρ' acc hi ⟨e1, e2⟩ => ?_) (fun ρ' acc ⟨e1, e2⟩ => ?_) (by rw [List.length_map]; exact Nat.lt_of_lt_of_le hz (by decide)) (fun i ρ' acc ⟨_, e⟩ => ?_) hc hs
  · subst e1
    obtain ⟨x, hx, rfl⟩ := map_get hi
    have hlt := (List.getElem?_eq_some_iff.mp hx).1
    obtain ⟨_, ρ2, ρ4, h1, h2, h3⟩ := hb _ i x hx (hJall i (by omega))
    have tk : xs.take (i + 1) = xs.take i ++ [x] := by rw [List.take_add_one, hx]; rfl
    refine ⟨ρ2, true, ρ2, h1, fun s H C cl fp => i_nil, fun _ => ⟨_, ρ4, h2, ?_, ?_⟩, fun z => nomatch z⟩
    · rw [h3, tk, List.foldl_append]
      rfl
    · rw [e2, tk, List.foldl_append]
      show _ = _ ++ [g _ x]
      rw [hfst]
  · subst e1
    rw [List.length_map, List.take_length] at *
    refine ⟨e2, (hem _ _).1, fun i hi => (wipeR_off hi).symm, fun i hi => ⟨(hem _ _).2 i hi, fun a e => no_own (hv t0) i a hi e⟩⟩
  · rw [e, hlen]
    simp
    exact Nat.min_le_left _ _
end
end Th

set_option Elab.async false
set_option linter.all false
set_option maxRecDepth 100000
namespace Th
open PySem PySem.Spec PyProof.Rows L2

/-! ### drawn numbers and polynomials -/
def nmStep (t : Int × (Int × Int)) : Int × (Int × Int) := (t.1 * 10 ^ 9 + tkV t.2 (10 ^ 9), tkS t.2 (10 ^ 9))
def nm7 (s : Int × Int) : Int × (Int × Int) := (List.range 7).foldl (fun t _ => nmStep t) (0, tkS s 3)
def nmDiv (i : Int) : Int := [1, 10 ^ 9, 10 ^ 30].getD i.toNat 0
def nmQ (s : Int × Int) (m : Int) : Int := (nm7 s).1 % (m + 1) / nmDiv (tkV (nm7 s).2 3)
def numV (s : Int × Int) (m : Int) : Int := if 0 < tkV s 3 then tkV (tkS s 3) 9 - 4 else [nmQ s m, 0 - nmQ s m].getD (tkV (tkS (nm7 s).2 3) 2).toNat 0
def numS (s : Int × Int) (m : Int) : Int × Int := if 0 < tkV s 3 then tkS (tkS s 3) 9 else tkS (tkS (nm7 s).2 3) 2
theorem nm7_n (s : Int × Int) : (nm7 s).2.2 = s.2 + 8 := by
  show s.2 + 1 + 1 + 1 + 1 + 1 + 1 + 1 + 1 = s.2 + 8
  omega
theorem numS_n (s : Int × Int) (m : Int) : s.2 ≤ (numS s m).2 ∧ (numS s m).2 ≤ s.2 + 10 := by
  unfold numS
  split
  · simp only [tkS_n]; omega
  · simp only [tkS_n, nm7_n]; omega
theorem nmDiv_pos {i : Int} (h0 : 0 ≤ i) (h : i < 3) : 1 ≤ nmDiv i ∧ (nmDiv i).natAbs < 2 ^ 110 := by
  have : i = 0 ∨ i = 1 ∨ i = 2 := by omega
  rcases this with rfl | rfl | rfl <;> exact ⟨by decide, by decide⟩
theorem numV_bd {s : Int × Int} {m : Int} (hm : 0 ≤ m) : -(m + 4) ≤ numV s m ∧ numV s m ≤ m + 4 := by
  unfold numV
  split
  · have := tkV_lo (s := tkS s 3) (b := 9) (by decide)
    have := tkV_hi (s := tkS s 3) (b := 9) (by decide)
    omega
  · have h1 := emod_lo (a := (nm7 s).1) (b := m + 1) (by omega)
    have h2 := emod_hi (a := (nm7 s).1) (b := m + 1) (by omega)
    have hd := (nmDiv_pos (tkV_lo (s := (nm7 s).2) (b := 3) (by decide)) (tkV_hi (by decide))).1
    have h3 : 0 ≤ nmQ s m := Int.ediv_nonneg h1 (by omega)
    have h4 : nmQ s m ≤ m := by
      unfold nmQ
      refine Int.le_trans (Int.ediv_le_self _ h1) (by omega)
    have hi0 := tkV_lo (s := tkS (nm7 s).2 3) (b := 2) (by decide)
    have hi1 := tkV_hi (s := tkS (nm7 s).2 3) (b := 2) (by decide)
    generalize tkV (tkS (nm7 s).2 3) 2 = i at *
    have : i = 0 ∨ i = 1 := by omega
    rcases this with rfl | rfl
    · show -(m + 4) ≤ nmQ s m ∧ nmQ s m ≤ m + 4
      omega
    · show -(m + 4) ≤ 0 - nmQ s m ∧ 0 - nmQ s m ≤ m + 4
      omega
def mostOk (m : Int) : Prop := 0 ≤ m ∧ m < 10 ^ 61
def fNumber : Fs := fun as r as' => ∃ (s : Int × Int) (m : Int), (0 ≤ s.2 ∧ s.2 ≤ 900000) ∧ mostOk m ∧ as = [rowA s, .d (.int m)] ∧ r = .d (.int (numV s m)) ∧ as' = [rowA (numS s m), .d (.int m)]
/-- a polynomial's terms as drawn -/
structure PSt where
  acc : List (Int × Int)
  p : Int
  s : Int × Int
def gapS (s : Int × Int) (m : Int) : Int × Int := tkS (tkS (tkS s 4) (1 + m / 1000)) 4
def gapV (s : Int × Int) (m : Int) : Int := [0, 1, tkV s 4, tkV (tkS s 4) (1 + m / 1000)].getD (tkV (tkS (tkS s 4) (1 + m / 1000)) 4).toNat 0
def polyStep (m : Int) (t : PSt) : PSt := ⟨if numV t.s m = 0 then t.acc else t.acc ++ [(t.p, numV t.s m)], t.p + 1 + gapV (numS t.s m) m, gapS (numS t.s m) m⟩
def poly0 (s : Int × Int) (m t : Int) : PSt := ⟨[], numV s (m / 1000), tkS (numS s (m / 1000)) (t + 1)⟩
def polyN (s : Int × Int) (m t : Int) : Nat := (tkV (numS s (m / 1000)) (t + 1)).toNat
def polyR (s : Int × Int) (m t : Int) : PSt := (List.range (polyN s m t)).foldl (fun u _ => polyStep m u) (poly0 s m t)
theorem gapV_lo {s : Int × Int} {m : Int} (hm : 0 ≤ m) : 0 ≤ gapV s m := by
  unfold gapV
  have h1 := tkV_lo (s := s) (b := 4) (by decide)
  have h2 := tkV_lo (s := tkS s 4) (b := 1 + m / 1000) (by omega)
  have h3 := tkV_lo (s := tkS (tkS s 4) (1 + m / 1000)) (b := 4) (by decide)
  have h4 := tkV_hi (s := tkS (tkS s 4) (1 + m / 1000)) (b := 4) (by decide)
  generalize tkV (tkS (tkS s 4) (1 + m / 1000)) 4 = i at *
  have : i = 0 ∨ i = 1 ∨ i = 2 ∨ i = 3 := by omega
  rcases this with rfl | rfl | rfl | rfl
  · exact Int.le_refl _
  · exact show (0 : Int) ≤ 1 by decide
  · exact h1
  · exact h2
theorem gapS_n (s : Int × Int) (m : Int) : (gapS s m).2 = s.2 + 3 := by
  unfold gapS
  simp only [tkS_n]
  omega
structure POk (m s0 : Int) (i : Nat) (t : PSt) : Prop where
  can : Can t.acc
  below : ∀ u ∈ t.acc, u.1 < t.p
  small : ∀ u ∈ t.acc, -(m + 4) ≤ u.2 ∧ u.2 ≤ m + 4
  len : t.acc.length ≤ i
  sn : s0 ≤ t.s.2 ∧ t.s.2 ≤ s0 + 13 * i
theorem can_snoc {a : List (Int × Int)} {u : Int × Int} (h : Can a) (h2 : ∀ v ∈ a, v.1 < u.1) (h3 : u.2 ≠ 0) : Can (a ++ [u]) := by
  refine ⟨?_, fun v hv => ?_⟩
  · rw [List.map_append, List.pairwise_append]
    refine ⟨h.1, List.pairwise_singleton _ _, fun x hx y hy => ?_⟩
    obtain ⟨v, hv, rfl⟩ := List.mem_map.mp hx
    rw [List.mem_singleton.mp hy]
    exact h2 v hv
  · rcases List.mem_append.mp hv with hv | hv
    · exact h.2 v hv
    · rw [List.mem_singleton.mp hv]
      exact h3
theorem pok_step {m s0 : Int} {i : Nat} {t : PSt} (hm : 0 ≤ m) (h : POk m s0 i t) : POk m s0 (i + 1) (polyStep m t) := by
  have hg := gapV_lo (s := numS t.s m) hm
  have hn := numS_n t.s m
  have hs := h.sn
  have hv := numV_bd (s := t.s) hm
  have hgn := gapS_n (numS t.s m) m
  refine ⟨?_, ?_, ?_, ?_, ?_⟩
  · show Can (if numV t.s m = 0 then _ else _)
    split
    · exact h.can
    · rename_i g; exact can_snoc h.can h.below g
  · show ∀ u ∈ (if numV t.s m = 0 then t.acc else _), u.1 < t.p + 1 + gapV (numS t.s m) m
    split
    · intro u hu
      have := h.below u hu
      omega
    · intro u hu
      rcases List.mem_append.mp hu with hu | hu
      · have := h.below u hu
        omega
      · rw [List.mem_singleton.mp hu]
        dsimp only
        omega
  · show ∀ u ∈ (if numV t.s m = 0 then t.acc else _), _
    split
    · exact h.small
    · intro u hu
      rcases List.mem_append.mp hu with hu | hu
      · exact h.small u hu
      · rw [List.mem_singleton.mp hu]
        exact hv
  · show (if numV t.s m = 0 then t.acc else _).length ≤ i + 1
    have := h.len
    split
    · omega
    · rw [List.length_append, List.length_singleton]; omega
  · show s0 ≤ (gapS (numS t.s m) m).2 ∧ _
    constructor
    · omega
    · show (gapS (numS t.s m) m).2 ≤ _
      push_cast
      omega
theorem pok_fold {m s0 : Int} (hm : 0 ≤ m) {t0 : PSt} (h : POk m s0 0 t0) : ∀ n : Nat, POk m s0 n ((List.range n).foldl (fun u _ => polyStep m u) t0)
  | 0 => h
  | n + 1 => by
    rw [List.range_succ, List.foldl_append]
    exact pok_step hm (pok_fold hm h n)
theorem pok_poly0 (s : Int × Int) (m t : Int) : POk m ((numS s (m / 1000)).2 + 1) 0 (poly0 s m t) :=
  ⟨⟨List.Pairwise.nil, (fun _ z => nomatch z)⟩, (fun _ z => nomatch z), (fun _ z => nomatch z), Nat.le_refl _, by
    show _ ≤ (numS s (m / 1000)).2 + 1 ∧ (numS s (m / 1000)).2 + 1 ≤ _
    push_cast
    omega⟩
theorem polyN_le {s : Int × Int} {m t : Int} (ht : 0 ≤ t) : (polyN s m t : Int) ≤ t := by
  have h1 := tkV_lo (s := numS s (m / 1000)) (b := t + 1) (by omega)
  have h2 := tkV_hi (s := numS s (m / 1000)) (b := t + 1) (by omega)
  unfold polyN
  omega
def polyL (s : Int × Int) (m t : Int) : List (Int × Int) := (polyR s m t).acc
def polyS (s : Int × Int) (m t : Int) : Int × Int := (polyR s m t).s
structure DrawnP (a : List (Int × Int)) (n : Nat) : Prop where
  can : Can a
  len : a.length ≤ n
  small : ∀ u ∈ a, u.2.natAbs < 2 ^ 210
theorem small_of {m : Int} (hm : mostOk m) {x : Int} (h : -(m + 4) ≤ x ∧ x ≤ m + 4) : x.natAbs < 2 ^ 210 := by
  have := hm.2
  have h0 : (10 : Int) ^ 61 + 4 < 2 ^ 210 := by decide
  have h1 : ((x.natAbs : Nat) : Int) < 2 ^ 210 := by omega
  have h2 : ((2 ^ 210 : Nat) : Int) = 2 ^ 210 := by decide
  omega
theorem polyL_ok {s : Int × Int} {m t : Int} (hm : mostOk m) (ht : 0 ≤ t) : DrawnP (polyL s m t) t.toNat := by
  have h := pok_fold hm.1 (pok_poly0 s m t) (polyN s m t)
  have hn := polyN_le (s := s) (m := m) ht
  have hl := h.len
  exact ⟨h.can, by show (polyR s m t).acc.length ≤ _; unfold polyR; omega, fun u hu => small_of hm (h.small u hu)⟩
theorem polyS_n {s : Int × Int} {m t : Int} (hm : 0 ≤ m) (ht : 0 ≤ t) : s.2 ≤ (polyS s m t).2 ∧ (polyS s m t).2 ≤ s.2 + 11 + 13 * t := by
  have h := (pok_fold hm (pok_poly0 s m t) (polyN s m t)).sn
  have hn := polyN_le (s := s) (m := m) ht
  have h2 := numS_n s (m / 1000)
  unfold polyS polyR
  omega
def fPolynomial : Fs := fun as r as' => ∃ (s : Int × Int) (m t : Int), (0 ≤ s.2 ∧ s.2 ≤ 800000) ∧ mostOk m ∧ (0 ≤ t ∧ t ≤ 100) ∧ as = [rowA s, .d (.int m), .d (.int t)] ∧ r = .d (encP (polyL s m t)) ∧ as' = [rowA (polyS s m t), .d (.int m), .d (.int t)]
def fCellAt : List PyData → A → Prop := fun ds r => ∃ (ns : List Int) (k : Nat), ds = [.list (ns.map .int), .int k] ∧ r = .d (.int (ns.getD k 0))
end Th

set_option Elab.async false
set_option linter.all false
set_option maxRecDepth 100000
namespace Th
open PySem PySem.Spec PyProof.Rows L2 RT RZ
section
variable {X : Cx} {ρ ρ1 ρ2 : Rho} {tg iter e e1 e2 : Expr} {es : List Expr} {pos : Pos} {ds xs ys : List PyData} {k : Option Nat}
/-- reversed(t) of a tuple -/
theorem srcAt_rt {K : PySem.W.Frag} {HF H : Hp} {p : Addr} {ys : List V} (s : Same HF H) (h1 : SqT K H p ys) (h2 : DpAll K HF ys ds) : SrcAt K (ItvT K p ys.length) ds.reverse HF H := by
  have hl := dpa_len h2
  refine ⟨fun i hi => ?_, ?_, fun i x H2 hi ⟨e, y⟩ => ?_⟩
  · rw [List.length_reverse] at hi
    obtain ⟨y, g, _⟩ := dpa_get h2 (List.getElem?_eq_getElem (show ds.length - 1 - i < ds.length by omega))
    rw [← hl] at g
    exact ⟨by omega, ys, y, h1, g⟩
  · show ys.length ≤ ds.reverse.length
    rw [List.length_reverse, hl]
    exact Nat.le_refl _
  · rw [List.length_reverse] at hi
    obtain ⟨v, g1, g2⟩ := dpa_get' h2 (y ys h1)
    refine ⟨v, ?_, .inl ⟨e, g2⟩⟩
    rw [List.getElem?_reverse hi, ← hl]
    exact g1
theorem src_revT {p : Pos} (h : E X e ρ (.d (.tuple ds)) ρ1) (hm : X.mg "reversed" = none) (hg : Gl X "reversed" := by rfl) (hs : starEach [e] X.env = (false, eval e X.env) :: starEach [] X.env := by rfl) : Src X tg (.Call (.Name "reversed" p) [e] [] pos) ρ ds.reverse ρ1 none :=
  ⟨_, pi_revA hg hm pe_w hs, fun σ HF H S1 R q => h σ HF H S1 _ fun x HF1 H1 S2 f1 r1 => by
  cases (show Dp X.K HF1 x (.tuple ds) from r1) with
  | @tup p ys _ h1 h2 => exact ⟨p, ys, rfl, .inr ⟨same_t S2.sub h1, q _ HF1 H1 S2 f1 fun σ2 ρ2 HF2 H2 _ _ S3 s3 => srcAt_rt S3.sub (same_t S3.sub (same_t s3 h1)) (dpa_mono s3 h2)⟩⟩⟩
/-- zip of two tuples -/
def zipD (xs ys : List PyData) : List PyData := (xs.zip ys).map fun p => .tuple [p.1, p.2]
theorem zipD_len : (zipD xs ys).length = min xs.length ys.length := by unfold zipD; rw [List.length_map, List.length_zip]
theorem zipD_get {i : Nat} {x y : PyData} (h1 : xs[i]? = some x) (h2 : ys[i]? = some y) : (zipD xs ys)[i]? = some (.tuple [x, y]) := by
  unfold zipD
  rw [List.getElem?_map, show (xs.zip ys)[i]? = some (x, y) from List.getElem?_zip_eq_some.mpr ⟨h1, h2⟩]
  rfl
theorem srcAt_zt {K : PySem.W.Frag} {HF H : Hp} {p q : Addr} {vs ws : List V} (s : Same HF H) (h1 : SqT K H p vs) (g1 : SqT K H q ws) (h2 : DpAll K HF vs xs) (g2 : DpAll K HF ws ys) : SrcAt K (ItzT K p q) (zipD xs ys) HF H := by
  have l1 := dpa_len h2
  have l2 := dpa_len g2
  refine ⟨fun i hi => ?_, ⟨vs, ws, h1, g1, ?_⟩, fun i x H2 hi ⟨T, v, w, e1, e2, e3, y1, y2⟩ => ?_⟩
  · rw [zipD_len] at hi
    obtain ⟨v, e1, _⟩ := dpa_get h2 (List.getElem?_eq_getElem (show i < xs.length by omega))
    obtain ⟨w, e2, _⟩ := dpa_get g2 (List.getElem?_eq_getElem (show i < ys.length by omega))
    exact ⟨vs, ws, v, w, h1, g1, e1, e2⟩
  · rw [zipD_len]
    omega
  · obtain ⟨a, a1, a2⟩ := dpa_get' h2 (y1 vs h1)
    obtain ⟨b, b1, b2⟩ := dpa_get' g2 (y2 ws g1)
    exact ⟨_, zipD_get a1 b1, .inr ⟨T, _, _, e2, e3, e1, rfl, .cons a2 (.cons b2 .nil)⟩⟩
theorem src_zipT {p : Pos} {elts : List Expr} {kk : Nat} {tpos : Pos} (h : E X e1 ρ (.d (.tuple xs)) ρ1) (h2 : E X e2 ρ1 (.d (.tuple ys)) ρ2) (hm : X.mg "zip" = none) (hg : Gl X "zip" := by rfl) (hs : starEach [e1, e2] X.env = (false, eval e1 X.env) :: starEach [e2] X.env := by rfl)
    (hs2 : starEach [e2] X.env = (false, eval e2 X.env) :: starEach [] X.env := by rfl) (hpl : (backTo pos (starEach [e2] X.env)).any (·.1) = false := by rfl) : Src X (.Tuple elts kk tpos) (.Call (.Name "zip" p) [e1, e2] [] pos) ρ (zipD xs ys) ρ2 none :=
  ⟨_, pi_zipA hg hm (pa_cons pe_w (pa_cons pe_w pa_nil hs2) hs) hs hpl, fun σ HF H S1 R q => h σ HF H S1 _ fun x HF1 H1 S2 f1 r1 => h2 σ HF1 H1 S2 _ fun y HF2 H2 S3 f2 r2 => by
  cases (show Dp X.K HF1 x (.tuple xs) from r1) with
  | @tup p vs _ a1 a2 =>
    cases (show Dp X.K HF2 y (.tuple ys) from r2) with
    | @tup p2 ws _ b1 b2 =>
      exact ⟨p, p2, vs, ws, rfl, .inr ⟨same_t S3.sub (same_t f2.hf a1), same_t S3.sub b1, q _ HF2 H2 S3 (f1.trans f2) fun σ2 ρ2 HF3 H3 _ _ S4 s4 =>
        srcAt_zt S4.sub (same_t S4.sub (same_t s4 (same_t f2.hf a1))) (same_t S4.sub (same_t s4 b1)) (dpa_mono s4 (dpa_mono f2.hf a2)) (dpa_mono s4 b2)⟩⟩⟩
/-- range(a, b, c) -/
theorem src_r3 {e3 : Expr} {ρ3 : Rho} {px : Pos} {a b c : Int} {n : Nat} (h : E X e1 ρ (.d (.int a)) ρ1) (h2 : E X e2 ρ1 (.d (.int b)) ρ2) (h3 : E X e3 ρ2 (.d (.int c)) ρ3) (hm : X.mg "range" = none) (hn : RgC a b c n) (hg : Gl X "range" := by rfl)
    (hs : starEach [e1, e2, e3] X.env = (false, eval e1 X.env) :: starEach [e2, e3] X.env := by rfl) (hs2 : starEach [e2, e3] X.env = (false, eval e2 X.env) :: starEach [e3] X.env := by rfl) (hs3 : starEach [e3] X.env = (false, eval e3 X.env) :: starEach [] X.env := by rfl) (hpl : (backTo pos (starEach [e2, e3] X.env)).any (·.1) = false := by rfl) :
    Src X tg (.Call (.Name "range" px) [e1, e2, e3] [] pos) ρ ((List.range n).map fun i : Nat => .int (a + (i : Int) * c)) ρ3 none :=
  ⟨_, pi_range3 hg hm (pa_cons pe_w (pa_cons pe_w (pa_cons pe_w pa_nil hs3) hs2) hs) hs hpl, fun σ HF H S1 R q => h σ HF H S1 _ fun x HF1 H1 S2 f1 r1 => h2 σ HF1 H1 S2 _ fun y HF2 H2 S3 f2 r2 => h3 σ HF2 H2 S3 _ fun z HF3 H3 S4 f3 r3 => by
  cases r1
  cases r2
  cases r3
  refine ⟨a, b, c, n, rfl, hn, q _ HF3 H3 S4 ((f1.trans f2).trans f3) fun σ2 ρ2 HF2 H2 _ _ _ _ => ⟨fun i hi => ?_, ?_, fun i x H2 hi ⟨e, y⟩ => ?_⟩⟩
  · rw [List.length_map, List.length_range] at hi
    exact hi
  · rw [List.length_map, List.length_range]
    exact Nat.le_refl _
  · rw [List.length_map, List.length_range] at hi
    refine ⟨_, by rw [List.getElem?_map, List.getElem?_range hi]; rfl, .inl ⟨e, by rw [y]; exact .int _⟩⟩⟩
end
/-! terms of a polynomial, turned -/
def negT (a : List (Int × Int)) : List (Int × Int) := a.map fun t => (t.1, 0 - t.2)
def turnT (a : List (Int × Int)) : List (Int × Int) := a.reverse.map fun t => (0 - t.1, t.2)
def fPlus : List PyData → A → Prop := fun ds r => ∃ a b : List (Int × Int), a.length + b.length < 100000 ∧ ds = [encP a, encP b] ∧ r = .d (encP (gat (a ++ b)))
def fMinus : List PyData → A → Prop := fun ds r => ∃ a b : List (Int × Int), a.length + b.length < 100000 ∧ ds = [encP a, encP b] ∧ r = .d (encP (gat (a ++ negT b)))
def fTurned : List PyData → A → Prop := fun ds r => ∃ a : List (Int × Int), a.length < 100000 ∧ ds = [encP a] ∧ r = .d (encP (turnT a))
theorem cf_neg (a : List (Int × Int)) (p : Int) : cf (negT a) p = -cf a p := by
  induction a with
  | nil => rfl
  | cons t a ih =>
    show (if t.1 = p then 0 - t.2 else 0) + cf (negT a) p = _
    rw [cf, ih]
    split <;> omega
theorem cf_rev (a : List (Int × Int)) (p : Int) : cf a.reverse p = cf a p := by
  induction a with
  | nil => rfl
  | cons t a ih =>
    rw [List.reverse_cons, cf_app, ih]
    show cf a p + ((if t.1 = p then t.2 else 0) + 0) = (if t.1 = p then t.2 else 0) + cf a p
    omega
def flipT (a : List (Int × Int)) : List (Int × Int) := a.map fun t => (0 - t.1, t.2)
theorem cf_flip (a : List (Int × Int)) (p : Int) : cf (flipT a) p = cf a (-p) := by
  induction a with
  | nil => rfl
  | cons t a ih =>
    show (if 0 - t.1 = p then t.2 else 0) + cf (flipT a) p = _
    rw [cf, ih]
    by_cases h : t.1 = -p
    · rw [if_pos (by omega), if_pos h]
    · rw [if_neg (by omega), if_neg h]
theorem cf_turn (a : List (Int × Int)) (p : Int) : cf (turnT a) p = cf a (-p) := (cf_flip a.reverse p).trans (cf_rev a (-p))
theorem turn_can {a : List (Int × Int)} (h : Can a) : Can (turnT a) := by
  refine ⟨?_, fun t ht => ?_⟩
  · unfold turnT
    rw [List.map_map, List.map_reverse, List.pairwise_reverse, List.pairwise_map]
    exact (List.pairwise_map.mp h.1).imp fun {a b} (h : a.1 < b.1) => (show (0 : Int) - b.1 < 0 - a.1 by omega)
  · obtain ⟨u, hu, rfl⟩ := List.mem_map.mp ht
    exact h.2 u (List.mem_reverse.mp hu)
end Th
namespace Th
open PySem PySem.Spec PyProof.Rows L2
def fProduct : List PyData → A → Prop := fun ds r => ∃ a b : List (Int × Int), a.length * b.length < 100000 ∧ a.length < 100000 ∧ b.length < 100000 ∧ (∀ t ∈ a, ∀ u ∈ b, CMulW t.2 u.2) ∧ ds = [encP a, encP b] ∧ r = .ml ((prodT a b).map encT)
/-! long ones -/
def longV (s : Int × Int) : Int := [1, -1].getD (tkV s 2).toNat 0 * (1 + tkV (tkS s 2) 9)
def longStep (t : PSt) : PSt := ⟨t.acc ++ [(t.p, longV t.s)], t.p + 1 + tkV (tkS (tkS t.s 2) 9) 3, tkS (tkS (tkS t.s 2) 9) 3⟩
def long0 (s : Int × Int) (a b : Int) : PSt := ⟨[], numV s (10 ^ 9), tkS (numS s (10 ^ 9)) (b - a + 1)⟩
def longN (s : Int × Int) (a b : Int) : Nat := (a + tkV (numS s (10 ^ 9)) (b - a + 1)).toNat
def longR (s : Int × Int) (a b : Int) : PSt := (List.range (longN s a b)).foldl (fun u _ => longStep u) (long0 s a b)
theorem longV_bd (s : Int × Int) : longV s ≠ 0 ∧ -9 ≤ longV s ∧ longV s ≤ 9 := by
  unfold longV
  have h0 := tkV_lo (s := s) (b := 2) (by decide)
  have h1 := tkV_hi (s := s) (b := 2) (by decide)
  have g0 := tkV_lo (s := tkS s 2) (b := 9) (by decide)
  have g1 := tkV_hi (s := tkS s 2) (b := 9) (by decide)
  generalize tkV (tkS s 2) 9 = x at *
  generalize tkV s 2 = i at *
  have : i = 0 ∨ i = 1 := by omega
  rcases this with rfl | rfl
  · show (1 : Int) * (1 + x) ≠ 0 ∧ -9 ≤ (1 : Int) * (1 + x) ∧ (1 : Int) * (1 + x) ≤ 9
    omega
  · show (-1 : Int) * (1 + x) ≠ 0 ∧ -9 ≤ (-1 : Int) * (1 + x) ∧ (-1 : Int) * (1 + x) ≤ 9
    omega
theorem pok_long {s0 : Int} {i : Nat} {t : PSt} (h : POk 5 s0 i t) : POk 5 s0 (i + 1) (longStep t) := by
  have hs := h.sn
  obtain ⟨h1, h2, h3⟩ := longV_bd t.s
  have hg := tkV_lo (s := tkS (tkS t.s 2) 9) (b := 3) (by decide)
  refine ⟨can_snoc h.can h.below h1, fun u hu => ?_, fun u hu => ?_, ?_, ?_⟩
  · show u.1 < t.p + 1 + tkV (tkS (tkS t.s 2) 9) 3
    rcases List.mem_append.mp hu with hu | hu
    · have := h.below u hu
      omega
    · rw [List.mem_singleton.mp hu]
      dsimp only
      omega
  · rcases List.mem_append.mp hu with hu | hu
    · exact h.small u hu
    · rw [List.mem_singleton.mp hu]
      dsimp only
      omega
  · have := h.len
    show (t.acc ++ _).length ≤ _
    rw [List.length_append, List.length_singleton]
    omega
  · show s0 ≤ (tkS (tkS (tkS t.s 2) 9) 3).2 ∧ (tkS (tkS (tkS t.s 2) 9) 3).2 ≤ _
    simp only [tkS_n]
    push_cast
    omega
theorem pok_long0 (s : Int × Int) (a b : Int) : POk 5 ((numS s (10 ^ 9)).2 + 1) 0 (long0 s a b) :=
  ⟨⟨List.Pairwise.nil, (fun _ z => nomatch z)⟩, (fun _ z => nomatch z), (fun _ z => nomatch z), Nat.le_refl _, by
    show _ ≤ (numS s (10 ^ 9)).2 + 1 ∧ (numS s (10 ^ 9)).2 + 1 ≤ _
    push_cast
    omega⟩
theorem pok_longF {s0 : Int} {t0 : PSt} (h : POk 5 s0 0 t0) : ∀ n : Nat, POk 5 s0 n ((List.range n).foldl (fun u _ => longStep u) t0)
  | 0 => h
  | n + 1 => by
    rw [List.range_succ, List.foldl_append]
    exact pok_long (pok_longF h n)
theorem longN_le {s : Int × Int} {a b : Int} (h : 0 ≤ a ∧ a ≤ b) : (longN s a b : Int) ≤ b := by
  have h1 := tkV_lo (s := numS s (10 ^ 9)) (b := b - a + 1) (by omega)
  have h2 := tkV_hi (s := numS s (10 ^ 9)) (b := b - a + 1) (by omega)
  unfold longN
  omega
def longL (s : Int × Int) (a b : Int) : List (Int × Int) := (longR s a b).acc
def longS (s : Int × Int) (a b : Int) : Int × Int := (longR s a b).s
theorem longL_ok {s : Int × Int} {a b : Int} (h : 0 ≤ a ∧ a ≤ b) : DrawnP (longL s a b) b.toNat := by
  have g := pok_longF (pok_long0 s a b) (longN s a b)
  have hn := longN_le (s := s) h
  have hl := g.len
  exact ⟨g.can, by show (longR s a b).acc.length ≤ _; unfold longR; omega, fun u hu => small_of (m := 5) ⟨by decide, by decide⟩ (g.small u hu)⟩
theorem longS_n {s : Int × Int} {a b : Int} (h : 0 ≤ a ∧ a ≤ b) : s.2 ≤ (longS s a b).2 ∧ (longS s a b).2 ≤ s.2 + 11 + 13 * b := by
  have g := (pok_longF (pok_long0 s a b) (longN s a b)).sn
  have hn := longN_le (s := s) h
  have h2 := numS_n s (10 ^ 9)
  unfold longS longR
  omega
def fLong : Fs := fun as r as' => ∃ (s : Int × Int) (a b : Int), (0 ≤ s.2 ∧ s.2 ≤ 800000) ∧ (0 ≤ a ∧ a ≤ b ∧ b ≤ 200) ∧ as = [rowA s, .d (.int a), .d (.int b)] ∧ r = .d (encP (longL s a b)) ∧ as' = [rowA (longS s a b), .d (.int a), .d (.int b)]
/-! the second one -/
def signT (g : Int) (a : List (Int × Int)) : List (Int × Int) := a.map fun t => (t.1, g * t.2)
def secL (s : Int × Int) (a : List (Int × Int)) : List (Int × Int) := if 0 < tkV s 3 then polyL (tkS s 3) (10 ^ 60 - 1) 8 else signT (1 - 2 * tkV (tkS s 3) 2) (a.drop (tkV (tkS (tkS s 3) 2) 3).toNat)
def secS (s : Int × Int) : Int × Int := if 0 < tkV s 3 then polyS (tkS s 3) (10 ^ 60 - 1) 8 else tkS (tkS (tkS s 3) 2) 3
def fSecond : Fs := fun as r as' => ∃ (s : Int × Int) (a : List (Int × Int)), (0 ≤ s.2 ∧ s.2 ≤ 700000) ∧ a.length < 100000 ∧ as = [rowA s, .d (encP a)] ∧ r = .d (encP (secL s a)) ∧ as' = [rowA (secS s), .d (encP a)]
theorem secS_n {s : Int × Int} : s.2 ≤ (secS s).2 ∧ (secS s).2 ≤ s.2 + 200 := by
  unfold secS
  split
  · have := polyS_n (s := tkS s 3) (m := 10 ^ 60 - 1) (t := 8) (by decide) (by decide)
    rw [tkS_n] at this
    omega
  · simp only [tkS_n]; omega
theorem secL_small {s : Int × Int} {a : List (Int × Int)} {n : Nat} (h : DrawnP a n) : ∀ u ∈ secL s a, u.2.natAbs < 2 ^ 211 := by
  unfold secL
  split
  · intro u hu
    exact Nat.lt_trans ((polyL_ok (m := 10 ^ 60 - 1) (t := 8) ⟨by decide, by decide⟩ (by decide)).small u hu) (by decide)
  · intro u hu
    obtain ⟨v, hv, rfl⟩ := List.mem_map.mp hu
    have h1 := h.small v (List.mem_of_mem_drop hv)
    have h0 := tkV_lo (s := tkS s 3) (b := 2) (by decide)
    have h2 := tkV_hi (s := tkS s 3) (b := 2) (by decide)
    generalize tkV (tkS s 3) 2 = i at *
    have : i = 0 ∨ i = 1 := by omega
    have e : 2 ^ 211 = 2 * 2 ^ 210 := by decide
    rcases this with rfl | rfl
    · show ((1 : Int) - 2 * 0) * v.2 |>.natAbs |> (· < 2 ^ 211)
      omega
    · show ((1 : Int) - 2 * 1) * v.2 |>.natAbs |> (· < 2 ^ 211)
      omega
end Th
namespace Th
open PySem PySem.Spec PyProof.Rows L2
theorem cf_prod_nilR (a : List (Int × Int)) (p : Int) : cf (prodT a []) p = 0 := by
  induction a with
  | nil => rfl
  | cons t a ih =>
    rw [cf_prod_cons, ih]
    show t.2 * 0 + 0 = 0
    omega
theorem cf_prod_consR (u : Int × Int) (a b : List (Int × Int)) (p : Int) : cf (prodT a (u :: b)) p = u.2 * cf a (p - u.1) + cf (prodT a b) p := by
  induction a with
  | nil => show (0 : Int) = u.2 * 0 + 0; omega
  | cons t a ih =>
    rw [cf_prod_cons, cf_prod_cons, ih, cf, cf, Int.mul_add, Int.mul_add]
    by_cases h : u.1 = p - t.1
    · rw [if_pos h, if_pos (by omega), Int.mul_comm t.2 u.2]
      omega
    · rw [if_neg h, if_neg (by omega), Int.mul_zero, Int.mul_zero]
      omega
theorem cf_prod_comm (a b : List (Int × Int)) (p : Int) : cf (prodT a b) p = cf (prodT b a) p := by
  induction a with
  | nil => rw [cf_prod_nilR]; rfl
  | cons t a ih => rw [cf_prod_cons, cf_prod_consR, ih]
end Th

set_option Elab.async false
set_option linter.all false
set_option maxRecDepth 100000
namespace Th
open PySem PySem.Spec PyProof.Rows L2 RT RZ

/-! ### an own object made for a call and lent to it -/
section
variable {X : Cx} {ρ ρ1 ρ2 : Rho} {e e1 : Expr} {es : List Expr} {pos : Pos} {a r : A} {ds : List PyData} {as' : List A}
theorem e_callT {Fx : Fs} {k : Nat} {f : Addr} {fd : FuncData} {ps : List Str} {x : Str} {p : Pos} (G : FnOk X.prog X.w X.K X.mg X.base CX0 k f fd ps (spA X.K Fx)) (hr : Room k X.A) (hm : X.mg x = some (.ref f)) (hk : PySem.W.keepIn X.K (.ref f) = true) (hb : Binds X.K fd ps [])
    (h1 : E X e ρ a ρ1) (ho : a.own = true) (hD : ED X es ρ1 ds ρ2) (hF : Fx (a :: ds.map A.d) r as') (hsh : Shape (a :: ds.map A.d) as') (hs : starEach (e :: es) X.env = (false, eval e X.env) :: starEach es X.env := by rfl) (hg : Gl X x := by rfl) (hdb : (x == ("__debug__" : Str)) = false := by decide) (hpl : (backTo pos (starEach es X.env)).any (·.1) = false := by rfl) :
    E X (.Call (.Name x p) (e :: es) [] pos) ρ r ρ2 :=
  .of (pe_call (E := fun _ _ _ => False) G hr hg hm hk hb .nil (fun _ _ _ _ _ _ _ h => h.elim) pa_w hdb hs hpl) fun σ HF H S0 Q q => ⟨_, pa_cons pe_w pa_w hs, h1 σ HF H S0 _ fun x1 HF1 H1 S1 f1 r1 => hD σ HF1 H1 S1 _ fun ys HF2 H2 S2 f2 r2 => by
    show spA X.K Fx ((x1 :: ys) ++ []) H2 Q _
    rw [List.append_nil]
    obtain ⟨p, o, rfl, h0, hf1, hh1, hrel⟩ := (rrel_own ho).mp r1
    have nw1 : ¬ OwnAt ρ1 σ p := fun z => S0.notOwn h0 (f1.sh.own.mp z)
    have nw2 : ¬ OwnAt ρ2 σ p := fun z => nw1 (f2.sh.own.mp z)
    have hh2 : H2 p = some o := f2.keep p o hh1 nw1
    have hf2 : HF2 p = none := f2.hfn hf1 hh1
    have hrel2 : HRel X.K HF2 _ o a := hrel_mono f2.hf hrel
    have onlyP : ∀ b, OwnAt (a :: ds.map A.d) ((V.ref p :: ys).map some) b → b = p := by
      rintro b ⟨i, c, e1, e2, e3⟩
      cases i with
      | zero =>
        have : some (some (V.ref p)) = some (some (V.ref b)) := e3
        cases this
        rfl
      | succ i =>
        have := own_map c (List.mem_of_getElem? (show (ds.map A.d)[i]? = some c from e1))
        rw [e2] at this
        cases this
    have hl := dpa_len r2
    have SA : Sl X.K (a :: ds.map A.d) ((V.ref p :: ys).map some) HF2 H2 := by
      refine ⟨by simp [hl], S2.sub, fun i c e1 => ?_, fun i j c d b e1 e2 o1 o2 e3 e4 => ?_⟩
      · cases i with
        | zero =>
          have e1 : some a = some c := e1
          cases e1
          exact ⟨_, rfl, (arel_own ho).mpr ⟨_, rfl, p, o, rfl, hf2, hh2, hrel2⟩⟩
        | succ i =>
          have e1 : (ds.map A.d)[i]? = some c := e1
          rw [List.getElem?_map] at e1
          cases hd : ds[i]? with
          | none => rw [hd] at e1; cases e1
          | some d =>
            rw [hd] at e1
            cases e1
            obtain ⟨y, g1, g2⟩ := dpa_get r2 hd
            refine ⟨some y, ?_, y, rfl, g2⟩
            show (ys.map some)[i]? = _
            rw [List.getElem?_map, g1]
            rfl
      · have z : ∀ (i : Nat) (c : A), (a :: ds.map A.d)[i]? = some c → c.own = true → i = 0 := fun i c e o => by
          cases i with
          | zero => rfl
          | succ i =>
            have := own_map c (List.mem_of_getElem? (show (ds.map A.d)[i]? = some c from e))
            rw [o] at this
            cases this
        rw [z i c e1 o1, z j d e2 o2]
    refine ⟨HF2, _, r, as', SA, hF, hsh, fun y HF3 H3 S3 f3 rr => ?_⟩
    have f12 := f1.trans f2
    have keep3 : ∀ b o', H2 b = some o' → b ≠ p → H3 b = some o' := fun b o' e n => f3.keep b o' e fun z => n (onlyP b z)
    refine q y HF3 H3 ⟨S2.len, S3.sub, fun i c e => ?_, S2.apart⟩ ⟨f12.sh, f12.hf.trans f3.hf, fun b o' e n => ?_, fun b o' e => ?_, fun b o' e => ?_⟩ (rrel_fresh (fun b e => f12.fresh e) rr)
    · obtain ⟨s, e2, g⟩ := S2.slot i c e
      refine ⟨s, e2, arel_mono g f3.hf fun b o' e3 g1 g2 oc => ⟨f3.hfn g1 g2, keep3 b o' g2 fun z => ?_⟩⟩
      subst z
      exact nw2 ⟨i, c, e, oc, by rw [e2, e3]⟩
    · exact keep3 b o' (f12.keep b o' e n) fun z => by rw [z, h0] at e; cases e
    · rcases f3.new b o' e with z | z
      · exact f12.new b o' z
      · exact .inr (f12.fresh z)
    · obtain ⟨o2, e2⟩ := f12.pres b o' e
      exact f3.pres b o2 e2⟩
/-- all(list) -/
theorem e_all {bs : List Bool} {k : Option Nat} {pn : Pos} (h : EO X e ρ (.list (bs.map .bool)) ρ1 k) (hm : X.mg "all" = none) (hg : Gl X "all" := by rfl) (hc : X.calm = true := by rfl) (he : starEach [e] X.env = (false, eval e X.env) :: starEach [] X.env := by rfl) : E X (.Call (.Name "all" pn) [e] [] pos) ρ (.d (.bool (bs.all id))) ρ1 :=
  .of (pe_callB (cr_all hc) hg hm (by decide +kernel) (pa_cons pe_w pa_nil he) (he := he)) (ev_cb h fun HF H x Q r s q => by
    obtain ⟨p, ys, rfl, h1, h2⟩ := r
    have : ∀ {bs : List Bool} {ys : List V}, DpAll X.K HF ys (bs.map .bool) → ys = bs.map V.bl := fun {bs} => by
      induction bs with
      | nil => intro ys h; cases h; rfl
      | cons b bs ih =>
        intro ys h
        cases h with
        | cons h t => cases h; rw [ih t]; rfl
    have := this h2
    subst this
    exact ⟨p, bs, rfl, h1, q _ (.bl _)⟩)
end
/-! ### what a polynomial is -/
def isWholeD : PyData → Bool
  | .int _ => true
  | _ => false
def isTermD : PyData → Bool
  | .tuple [.int _, .int b] => !decide (b = 0)
  | _ => false
def powD : PyData → Int
  | .tuple [.int a, _] => a
  | _ => 0
def riseD (ds : List PyData) : Bool := (ds.zip (ds.drop 1)).all fun p => decide (powD p.1 < powD p.2)
def isPolyD : PyData → Bool
  | .tuple ds => ds.all isTermD && riseD ds
  | _ => false
def fIsWhole : List PyData → A → Prop := fun ds r => ∃ v, ds = [v] ∧ r = .d (.bool (isWholeD v))
def fIsTerm : List PyData → A → Prop := fun ds r => ∃ v, ds = [v] ∧ r = .d (.bool (isTermD v))
def fIsPoly : List PyData → A → Prop := fun ds r => ∃ v, (∀ xs, v = .tuple xs → xs.length < 100000) ∧ ds = [v] ∧ r = .d (.bool (isPolyD v))
theorem isWhole_eq (v : PyData) : (isi v .int && !isi v .bool) = isWholeD v := by cases v <;> rfl
theorem isTerm_of {v : PyData} (h : isTermD v = true) : ∃ a b : Int, v = .tuple [.int a, .int b] ∧ b ≠ 0 := by
  unfold isTermD at h
  split at h
  · rename_i a b
    exact ⟨a, b, rfl, by simpa using h⟩
  · cases h
theorem rise_can : ∀ {a : List (Int × Int)}, (a.map (·.1)).Pairwise (· < ·) → riseD (a.map encT) = true
  | [], _ => rfl
  | [_], _ => rfl
  | x :: y :: a, h => by
    have h1 := List.pairwise_cons.mp (show (x.1 :: y.1 :: a.map (·.1)).Pairwise (· < ·) from h)
    have ih := rise_can (a := y :: a) h1.2
    have e : riseD ((x :: y :: a).map encT) = (decide (x.1 < y.1) && riseD ((y :: a).map encT)) := rfl
    rw [e, ih, decide_eq_true (h1.1 y.1 List.mem_cons_self)]
    rfl
theorem isPoly_can {a : List (Int × Int)} (h : Can a) : isPolyD (encP a) = true := by
  show ((a.map encT).all isTermD && riseD (a.map encT)) = true
  rw [rise_can h.1, Bool.and_true, List.all_eq_true]
  intro x hx
  obtain ⟨t, ht, rfl⟩ := List.mem_map.mp hx
  have := h.2 t ht
  show (!decide (t.2 = 0)) = true
  simpa using this
/-! ### sizes -/
structure Sm (a : List (Int × Int)) (n k : Nat) : Prop where
  len : a.length ≤ n
  small : ∀ u ∈ a, u.2.natAbs ≤ 2 ^ k
theorem DrawnP.sm {a : List (Int × Int)} {n : Nat} (h : DrawnP a n) : Sm a n 210 := ⟨h.len, fun u hu => Nat.le_of_lt (h.small u hu)⟩
theorem cf_bd {a : List (Int × Int)} {M : Nat} (h : ∀ u ∈ a, u.2.natAbs ≤ M) (p : Int) : (cf a p).natAbs ≤ a.length * M := by
  induction a with
  | nil => exact Nat.zero_le _
  | cons t a ih =>
    have ih := ih fun u hu => h u (List.mem_cons_of_mem _ hu)
    have ht := h t List.mem_cons_self
    rw [cf, List.length_cons, Nat.succ_mul]
    split <;> omega
theorem sm_gat {a : List (Int × Int)} {n k : Nat} (h : Sm a n k) (hn : n ≤ 1024 := by decide) : Sm (gat a) n (k + 10) := by
  refine ⟨Nat.le_trans (gat_len a) h.len, fun u hu => ?_⟩
  rw [gat_val hu]
  refine Nat.le_trans (cf_bd h.small _) ?_
  rw [Nat.pow_add, Nat.mul_comm (2 ^ k)]
  exact Nat.mul_le_mul_right _ (Nat.le_trans h.len hn)
theorem sm_app {a b : List (Int × Int)} {n m k : Nat} (h : Sm a n k) (g : Sm b m k) : Sm (a ++ b) (n + m) k := by
  refine ⟨by rw [List.length_append]; have := h.len; have := g.len; omega, fun u hu => ?_⟩
  rcases List.mem_append.mp hu with hu | hu
  · exact h.small u hu
  · exact g.small u hu
theorem Sm.up {a : List (Int × Int)} {n k : Nat} (h : Sm a n k) {l : Nat} (hl : k ≤ l := by decide) : Sm a n l := ⟨h.len, fun u hu => Nat.le_trans (h.small u hu) (Nat.pow_le_pow_right (by decide) hl)⟩
theorem sm_prod {a b : List (Int × Int)} {n m k l : Nat} (h : Sm a n k) (g : Sm b m l) : Sm (prodT a b) (n * m) (k + l) := by
  refine ⟨by rw [prodT_len]; exact Nat.mul_le_mul h.len g.len, fun u hu => ?_⟩
  unfold prodT at hu
  obtain ⟨r, hr, hu⟩ := List.mem_flatten.mp hu
  obtain ⟨t, ht, rfl⟩ := List.mem_map.mp hr
  obtain ⟨v, hv, rfl⟩ := List.mem_map.mp hu
  show (t.2 * v.2).natAbs ≤ _
  rw [Int.natAbs_mul, Nat.pow_add]
  exact Nat.mul_le_mul (h.small t ht) (g.small v hv)
theorem sm_neg {a : List (Int × Int)} {n k : Nat} (h : Sm a n k) : Sm (negT a) n k := by
  refine ⟨by unfold negT; rw [List.length_map]; exact h.len, fun u hu => ?_⟩
  obtain ⟨v, hv, rfl⟩ := List.mem_map.mp hu
  have := h.small v hv
  show (0 - v.2).natAbs ≤ _
  omega
theorem sm_turn {a : List (Int × Int)} {n k : Nat} (h : Sm a n k) : Sm (turnT a) n k := by
  refine ⟨by unfold turnT; rw [List.length_map, List.length_reverse]; exact h.len, fun u hu => ?_⟩
  obtain ⟨v, hv, rfl⟩ := List.mem_map.mp hu
  exact h.small v (List.mem_reverse.mp hv)
theorem sm_lift {m : Int} {a : List (Int × Int)} {n k : Nat} (h : Sm a n k) : Sm (liftT m a) n k := by
  refine ⟨by unfold liftT; rw [List.length_map]; exact h.len, fun u hu => ?_⟩
  obtain ⟨v, hv, rfl⟩ := List.mem_map.mp hu
  exact h.small v hv
theorem times_sp {a b : List (Int × Int)} {n m k l : Nat} (h : Sm a n k) (g : Sm b m l) (hk : k + l ≤ 9000 := by decide) (hn : n * m < 100000 := by decide) (hn1 : n < 100000 := by decide) (hm1 : m < 100000 := by decide) : fTimes [encP a, encP b] (.d (encP (gat (prodT a b)))) :=
  ⟨a, b, Nat.lt_of_le_of_lt (Nat.mul_le_mul h.len g.len) hn, Nat.lt_of_le_of_lt h.len hn1, Nat.lt_of_le_of_lt g.len hm1, fun t ht u hu => wide_mul (a := k + 1) (b := l + 1) (Nat.lt_of_le_of_lt (h.small t ht) (Nat.pow_lt_pow_right (by decide) (Nat.lt_succ_self k))) (Nat.lt_of_le_of_lt (g.small u hu) (Nat.pow_lt_pow_right (by decide) (Nat.lt_succ_self l))) (by omega) (by omega) (by omega), rfl, rfl⟩
theorem plus_sp {a b : List (Int × Int)} {n m k l : Nat} (h : Sm a n k) (g : Sm b m l) (hn : n + m < 100000 := by decide) : fPlus [encP a, encP b] (.d (encP (gat (a ++ b)))) := ⟨a, b, by have := h.len; have := g.len; omega, rfl, rfl⟩
theorem minus_sp {a b : List (Int × Int)} {n m k l : Nat} (h : Sm a n k) (g : Sm b m l) (hn : n + m < 100000 := by decide) : fMinus [encP a, encP b] (.d (encP (gat (a ++ negT b)))) := ⟨a, b, by have := h.len; have := g.len; omega, rfl, rfl⟩
theorem lift_sp {a : List (Int × Int)} {n k : Nat} {m : Int} (h : Sm a n k) (hn : n < 100000 := by decide) : fLifted [encP a, .int m] (.d (encP (liftT m a))) := ⟨a, m, by have := h.len; omega, rfl, rfl⟩
theorem turn_sp {a : List (Int × Int)} {n k : Nat} (h : Sm a n k) (hn : n < 100000 := by decide) : fTurned [encP a] (.d (encP (turnT a))) := ⟨a, by have := h.len; omega, rfl, rfl⟩
end Th
namespace Th
open PySem PySem.Spec PyProof.Rows L2 RT RZ
/-! ### the rules of reckoning -/
abbrev Pl := List (Int × Int)
theorem cf_prod_congrR (a : Pl) {b b' : Pl} (h : ∀ p, cf b p = cf b' p) (p : Int) : cf (prodT a b) p = cf (prodT a b') p := by
  induction a with
  | nil => rfl
  | cons t a ih => rw [cf_prod_cons, cf_prod_cons, ih, h]
theorem cf_prod_congrL {a a' : Pl} (b : Pl) (h : ∀ p, cf a p = cf a' p) (p : Int) : cf (prodT a b) p = cf (prodT a' b) p := by
  rw [cf_prod_comm, cf_prod_congrR b h, cf_prod_comm]
theorem cf_prod_appL (a a' b : Pl) (p : Int) : cf (prodT (a ++ a') b) p = cf (prodT a b) p + cf (prodT a' b) p := by
  induction a with
  | nil => show _ = 0 + _; rw [Int.zero_add]; rfl
  | cons t a ih => rw [List.cons_append, cf_prod_cons, cf_prod_cons, ih]; omega
theorem cf_prod_appR (a b b' : Pl) (p : Int) : cf (prodT a (b ++ b')) p = cf (prodT a b) p + cf (prodT a b') p := by
  rw [cf_prod_comm, cf_prod_appL, cf_prod_comm b, cf_prod_comm b']
theorem cf_prod_row (t : Int × Int) (b c : Pl) (p : Int) : cf (prodT (rowT t b) c) p = t.2 * cf (prodT b c) (p - t.1) := by
  induction b with
  | nil => show (0 : Int) = t.2 * 0; omega
  | cons u b ih =>
    show cf (prodT ((t.1 + u.1, t.2 * u.2) :: rowT t b) c) p = _
    rw [cf_prod_cons, cf_prod_cons, ih, Int.mul_add, ← Int.mul_assoc]
    dsimp only
    rw [show p - (t.1 + u.1) = p - t.1 - u.1 by omega]
theorem cf_prod_assoc (a b c : Pl) (p : Int) : cf (prodT (prodT a b) c) p = cf (prodT a (prodT b c)) p := by
  induction a generalizing p with
  | nil => rfl
  | cons t a ih => rw [prodT_cons, cf_prod_appL, cf_prod_row, ih, cf_prod_cons]
theorem cf_one (a : Pl) (m p : Int) : cf (prodT a [(m, 1)]) p = cf a (p - m) := by
  rw [cf_prod_consR, cf_prod_nilR]
  show 1 * cf a (p - m) + 0 = _
  omega
theorem cf_prod_flip (a b : Pl) (p : Int) : cf (prodT (flipT a) (flipT b)) p = cf (prodT a b) (-p) := by
  induction a with
  | nil => rfl
  | cons t a ih =>
    show cf (prodT ((0 - t.1, t.2) :: flipT a) (flipT b)) p = _
    rw [cf_prod_cons, cf_prod_cons, ih, cf_flip]
    dsimp only
    rw [show -(p - (0 - t.1)) = -p - t.1 by omega]
section
variable {a b c : Pl} {m : Int}
theorem r_dist : gat (prodT a (gat (b ++ c))) = gat (gat (prodT a b) ++ gat (prodT a c)) := gat_congr fun p => by
  rw [cf_prod_congrR a (gat_cf (b ++ c)), cf_prod_appR, cf_app, gat_cf, gat_cf]
theorem r_plus : gat (a ++ b) = gat (b ++ a) := gat_congr fun p => by rw [cf_app, cf_app]; omega
theorem r_times : gat (prodT a b) = gat (prodT b a) := gat_congr (cf_prod_comm a b)
theorem r_tassoc : gat (prodT (gat (prodT a b)) c) = gat (prodT a (gat (prodT b c))) := gat_congr fun p => by
  rw [cf_prod_congrL c (gat_cf (prodT a b)), cf_prod_assoc, cf_prod_congrR a (gat_cf (prodT b c))]
theorem r_passoc : gat (gat (a ++ b) ++ c) = gat (a ++ gat (b ++ c)) := gat_congr fun p => by
  rw [cf_app, cf_app, gat_cf, gat_cf, cf_app, cf_app]; omega
theorem r_back (ha : Can a) : gat (gat (a ++ b) ++ negT b) = a := gat_is ha fun p => by
  rw [cf_app, gat_cf, cf_app, cf_neg]; omega
theorem can_nil : Can [] := ⟨List.Pairwise.nil, (fun _ z => nomatch z)⟩
theorem r_self : gat (a ++ negT a) = [] := gat_is can_nil fun p => by
  rw [cf_app, cf_neg]
  show _ = (0 : Int)
  omega
theorem r_one (ha : Can a) : gat (prodT a [(0, 1)]) = a := gat_is ha fun p => by rw [cf_one, Int.sub_zero]
theorem r_nil (ha : Can a) : gat (a ++ []) = a := by rw [List.append_nil]; exact gat_id ha
theorem r_nought : gat (prodT a []) = [] := gat_is can_nil fun p => cf_prod_nilR a p
theorem r_lift (ha : Can a) : liftT m a = gat (prodT a [(m, 1)]) := (gat_is (lift_can ha) fun p => by rw [cf_one, cf_lift]).symm
theorem r_lift2 : liftT (0 - m) (liftT m a) = a := by
  unfold liftT
  rw [List.map_map]
  refine (List.map_congr_left fun t _ => ?_).trans (List.map_id a)
  show (t.1 + m + (0 - m), t.2) = t
  rw [show t.1 + m + (0 - m) = t.1 by omega]
theorem r_turn2 : turnT (turnT a) = a := by
  unfold turnT
  rw [← List.map_reverse, List.map_map, List.reverse_reverse]
  refine (List.map_congr_left fun t _ => ?_).trans (List.map_id a)
  show (0 - (0 - t.1), t.2) = t
  rw [show 0 - (0 - t.1) = t.1 by omega]
theorem r_turnL : turnT (liftT m a) = liftT (0 - m) (turnT a) := by
  unfold turnT liftT
  rw [← List.map_reverse, List.map_map, List.map_map]
  refine List.map_congr_left fun t _ => ?_
  show (0 - (t.1 + m), t.2) = (0 - t.1 + (0 - m), t.2)
  rw [show 0 - (t.1 + m) = 0 - t.1 + (0 - m) by omega]
theorem r_turnT : turnT (gat (prodT a b)) = gat (prodT (turnT a) (turnT b)) := can_ext (turn_can (gat_can _)) (gat_can _) fun p => by
  rw [cf_turn, gat_cf, gat_cf, cf_prod_congrL (turnT b) (fun q => (cf_turn a q).trans (cf_flip a q).symm), cf_prod_congrR (flipT a) (fun q => (cf_turn b q).trans (cf_flip b q).symm), cf_prod_flip]
end
end Th
namespace Th
open PySem PySem.Spec PyProof.Rows L2 RT RZ
/-- a for that may return early: the state behind a turn is chosen at its end -/
theorem s_forS {X : Cx} {B : Bs} {P : Pst} {ρ ρ1 : Rho} {tg iter : Expr} {pos : Pos} {body : List Stmt} {α T : Type} {xs : List α} (enc : α → PyData) (hi : Src X tg iter ρ (xs.map enc) ρ1 none) (t0 : T) (emb : T → Rho) (J : T → Nat → Prop) (hJ : J t0 0) (h0 : Le ρ1 (emb t0))
    (hb : ∀ t (i : Nat) x, xs[i]? = some x → J t i → ∃ ρ2, GT X B tg (enc x) (emb t) ρ2 ∧ Ss X B body ρ2 (bodyP P fun ρ => ∃ t', J t' (i + 1) ∧ Le ρ (emb t'))) (hd : ∀ t ρ', J t xs.length → Le ρ' (emb t) → P.nx ρ')
    (hp : PassesOwn (model X.prog X.w) X.A X.env X.xe := by exact PassesOwn.never) (hc : X.calm = true := by rfl) (hs : ∀ x, foldedSetIterable iter X.env x = pure x := by intro _; rfl) : S X B (.For tg iter body [] pos) ρ P := by
  refine s_for hi (fun i ρ => ∃ t, J t i ∧ Le ρ (emb t)) ⟨t0, hJ, h0⟩ (fun i v ρ' hv ⟨t, hj, hI⟩ => ?_) (fun ρ' ⟨t, hj, l⟩ => ?_) hp hc hs
  · obtain ⟨x, hx, rfl⟩ := map_get hv
    obtain ⟨ρ2, g, h⟩ := hb t i x hx hj
    exact ⟨_, (show GT X B tg (enc x) ρ' ρ2 from fun x σ HF H S1 r Q q => g x σ HF H (S1.le hI) r Q fun σ' S' b' => q σ' S' fun b => b' (b.le hI)), h⟩
  · rw [List.length_map] at hj
    exact hd t ρ' hj l
end Th
namespace Th
open PySem PySem.Spec PyProof.Rows L2 RT RZ
theorem EO.tol {X : Cx} {e : Expr} {ρ ρ1 : Rho} {k : Option Nat} {xs ys : List PyData} (h : EO X e ρ (.list xs) ρ1 k) (q : xs = ys) : EO X e ρ (.list ys) ρ1 k := q ▸ h
end Th

set_option Elab.async false
set_option linter.all false
set_option maxRecDepth 100000
namespace Th
open PySem PySem.Spec PyProof.Rows L2 RT RZ
section
variable {X : Cx} {ρ ρ1 ρ2 : Rho} {e e1 e2 : Expr} {es : List Expr} {pos pos' : Pos} {a r : A} {ds : List PyData} {as : List A} {v : PyData} {i : Int} {x : Str} {kvs : List (Key × PyData)}
/-! ### one of a written list, its items of any kind -/
theorem RRel.later {K : PySem.W.Frag} {σ : L2.St} {HF H HF1 H1 HF2 H2 : Hp} {x : V} (S0 : Sl K ρ σ HF H) (f1 : Fw ρ ρ1 σ HF H HF1 H1) (f2 : Fw ρ1 ρ2 σ HF1 H1 HF2 H2) (r : RRel K H HF1 H1 x a) : RRel K H HF2 H2 x a := by
  cases ho : a.own with
  | true =>
    obtain ⟨p, o, e, h0, h1, h2, h3⟩ := (rrel_own ho).mp r
    refine (rrel_own ho).mpr ⟨p, o, e, h0, f2.hfn h1 h2, f2.keep p o h2 fun z => S0.notOwn h0 (f1.sh.own.mp z), hrel_mono f2.hf h3⟩
  | false =>
    cases a with
    | d v => exact dp_mono f2.hf r
    | any => trivial
    | tw l =>
      obtain ⟨t, ys, e, h0, h1, h2, h3⟩ := r
      refine ⟨t, ys, e, h0, f2.hfn h1 h2, f2.keep t _ h2 fun z => S0.notOwn h0 (f1.sh.own.mp z), Paired.mapP h3 fun y a z => ?_⟩
      cases a with
      | inl zs => obtain ⟨q, us, g1, g2, g3, g4, g5⟩ := z; exact ⟨q, us, g1, g2, f2.hfn g3 g4, f2.keep q _ g4 fun w => S0.notOwn g2 (f1.sh.own.mp w), dpa_mono f2.hf g5⟩
      | inr v => exact dp_mono f2.hf z
    | pin _ => exact r
    | rk v => exact rk_mono f2.hf r
    | dl m =>
      obtain ⟨p, kws, e, g⟩ := r
      have kp : ∀ b o, H1 b = some o → H b = none → H2 b = some o := fun b o q n => f2.keep b o q fun z => S0.notOwn n (f1.sh.own.mp z)
      exact ⟨p, kws, e, kp _ _ g.at_ g.base, g.base, f2.hfn g.fr g.at_, Paired.mapP g.its fun w kv z => by
        obtain ⟨z1, q, us, z2, z3, z4, z5, z6⟩ := z
        exact ⟨z1, q, us, z2, z3, f2.hfn z4 z5, kp _ _ z5 z3, dpa_mono f2.hf z6⟩, g.nk, g.na⟩
    | nw g => exact g.later f2.hf (fun b o e n => ⟨f2.keep b o e fun z => S0.notOwn n (f1.sh.own.mp z), fun h => f2.hfn h e⟩) r
    | fk v => exact fk_mono f2.hf r
    | ft v => exact ft_mono f2.hf r
    | gn g => exact g.mono f2.hf r
    | go _ => cases ho
    | ml _ => cases ho
    | mk _ => cases ho
    | mt _ => cases ho
def EM (X : Cx) (es : List Expr) (ρ : Rho) (as : List A) (ρ' : Rho) : Prop := ∀ σ HF H, Sl X.K ρ σ HF H → ∀ Q : List V → Hp → Prop,
  (∀ xs HF' H', Sl X.K ρ' σ HF' H' → Fw ρ ρ' σ HF H HF' H' → Paired (RRel X.K H HF' H') xs as → Q xs H') → wA X es σ H Q
theorem m_nil : EM X [] ρ [] ρ := fun σ HF H S Q q => ⟨_, pa_nil, q [] HF H S (.refl ..) .nil⟩
theorem m_cons (h : E X e ρ a ρ1) (hr : EM X es ρ1 as ρ2) (hs : starEach (e :: es) X.env = (false, eval e X.env) :: starEach es X.env := by rfl) : EM X (e :: es) ρ (a :: as) ρ2 := fun σ HF H S Q q =>
  ⟨_, pa_cons pe_w pa_w hs, h σ HF H S _ fun x HF1 H1 S1 f1 r1 => hr σ HF1 H1 S1 _ fun xs HF2 H2 S2 f2 r2 => q _ HF2 H2 S2 (f1.trans f2) (.cons (RRel.later S f1 f2 r1) (Paired.mapP r2 fun x a r => rrel_fresh (fun p h => f1.fresh h) r))⟩
theorem paired_get {α β : Type} {R : α → β → Prop} : ∀ {xs : List α} {ys : List β} {i : Nat} {y : β}, Paired R xs ys → ys[i]? = some y → ∃ x, xs[i]? = some x ∧ R x y
  | _, _, _, _, .nil, h => by simp at h
  | _, _, 0, _, .cons r _, h => by simp at h; subst h; exact ⟨_, rfl, r⟩
  | _, _, i + 1, _, .cons _ t, h => by
    obtain ⟨x, h1, h2⟩ := paired_get (i := i) t (by simpa using h)
    exact ⟨x, by simpa using h1, h2⟩
theorem e_pick (h : EM X es ρ as ρ1) (h2 : E X e2 ρ1 (.d (.int i)) ρ2) (h0 : 0 ≤ i) (hg : as[i.toNat]? = some a) (hz : as.length ≤ 1000 := by exact Nat.le_of_ble_eq_true rfl) (hp : PlainIx e2 := by exact fun _ _ => rfl) : E X (.Subscript (.List es pos') e2 pos) ρ a ρ2 :=
  .of (pe_ix ix_list (pe_lst pa_w) pe_w hp) fun σ HF H S Q q => h σ HF H S _ fun xs HF1 H1 S1 f1 r1 => by
    have hl := Paired.length r1
    refine ⟨by rw [hl]; exact Nat.le_of_lt (small1000 hz), fun p hpn => ?_⟩
    obtain ⟨S2, f2⟩ := S1.allocO hpn (.lst xs)
    have nw : ¬ OwnAt ρ1 σ p := S1.notOwn hpn
    refine h2 σ HF1 _ S2 _ fun z HF2 H2 S3 f3 r3 => ?_
    cases r3
    obtain ⟨y, g1, g2⟩ := paired_get r1 hg
    have hH : H2 p = some (.lst xs) := f3.keep p _ upd_same nw
    refine ⟨p, xs, i, y, rfl, rfl, .inl (.inl hH), ?_, q y HF2 H2 S3 ((f1.trans f2).trans f3) (RRel.later S f1 (f2.trans f3) g2)⟩
    exact (atI_nat' h0).trans g1
/-- isinstance of an own dict -/
theorem e_isM (T : Ty) (j : Nat) {pt pn : Pos} (hi : ρ[j]? = some (.mk kvs)) (hm : X.mg "isinstance" = none) (hmt : X.mg (Str.ofString T.nm) = none) (hg : Gl X "isinstance" := by rfl) (hgt : Gl X (Str.ofString T.nm) := by rfl) (hn : (Str.ofString T.nm) ≠ "__name__" := by decide) (hd : ((Str.ofString T.nm) == ("__debug__" : Str)) = false := by decide)
    (hN : X.N[j]? = some x := by rfl) (hv : Vis X.env.scope x := by first | exact Or.inl rfl | exact Or.inr (Or.inl rfl) | exact Or.inr (Or.inr rfl)) (hdx : (x == ("__debug__" : Str)) = false := by decide) (hcd : (x == ("__classdict__" : Str)) = false := by decide)
    (he : starEach [.Name x pos', .Name (Str.ofString T.nm) pt] X.env = (false, eval (.Name x pos') X.env) :: starEach [.Name (Str.ofString T.nm) pt] X.env := by rfl) (he2 : starEach [.Name (Str.ofString T.nm) pt] X.env = (false, eval (.Name (Str.ofString T.nm) pt) X.env) :: starEach [] X.env := by rfl) (hpl : (backTo pos (starEach [.Name (Str.ofString T.nm) pt] X.env)).any (·.1) = false := by rfl) :
    E X (.Call (.Name "isinstance" pn) [.Name x pos', .Name (Str.ofString T.nm) pt] [] pos) ρ (.d (.bool (isi (.dict []) T))) ρ :=
  .of (pe_callB call_isi hg hm (by decide +kernel) (pa_cons (pe_var hN hv hdx hcd) (pa_cons (pe_bltn (v := .ty T.nm) hgt hmt (boot_ty T) rfl hn hd) pa_nil he2) he) (by decide) (by decide) he hpl) fun σ HF H S1 Q q => by
    obtain ⟨p, o, e, h1, h2, h3⟩ := S1.ownAt hi rfl
    cases o <;> first | exact h3.elim | skip
    exact ⟨.ref p, e, .ref p, .ty T.nm, _, _, isi (.dict []) T, rfl, .ty T.nm, .base (.dK h2), kit_ty (kit_isi (.dict []) T), q _ HF H S1 (.refl ..) (.bl _)⟩
/-- x is not None -/
def someB : PyData → Bool
  | .none => false
  | _ => true
theorem t_notN {j : Nat} {p1 : Pos} (h : E X e ρ (.d v) ρ1) : ET X (.Compare e [.IsNot] [.Constant .none j p1] pos) ρ (someB v) ρ1 :=
  t_cmp op_notN (ev_op h e_non fun HF H x y Q hx hy _ q => by
    cases hy
    refine ⟨rfl, ?_⟩
    have : (!decide (x = V.non)) = someB v := by cases hx <;> rfl
    rw [this]
    exact q _ (.bl _)) (nomark _)
end
/-! ### the same, from one to the next -/
def leO : Option Int → PyData → Bool
  | none, _ => true
  | some p, x => decide (p < powD x)
def chk : Option Int → List PyData → Bool
  | _, [] => true
  | o, x :: xs => isTermD x && leO o x && chk (some (powD x)) xs
theorem chk_some : ∀ (x : PyData) (ds : List PyData), (ds.all isTermD && riseD (x :: ds)) = chk (some (powD x)) ds
  | _, [] => rfl
  | x, y :: ds => by
    have e : riseD (x :: y :: ds) = (decide (powD x < powD y) && riseD (y :: ds)) := rfl
    rw [e, List.all_cons, chk, ← chk_some y ds]
    show _ = (isTermD y && decide (powD x < powD y) && _)
    cases isTermD y <;> cases decide (powD x < powD y) <;> simp
theorem chk_none (ds : List PyData) : (ds.all isTermD && riseD ds) = chk none ds := by
  cases ds with
  | nil => rfl
  | cons x ds =>
    rw [chk, ← chk_some x ds, List.all_cons]
    show _ = (isTermD x && true && _)
    rw [Bool.and_true, Bool.and_assoc]
def encO : Option Int → PyData
  | none => .none
  | some i => .int i
def fIsM : Fs := fun as r as' => as = [.mk []] ∧ r = .d (.bool false) ∧ as' = as
end Th

set_option Elab.async false
set_option linter.all false
set_option maxRecDepth 100000
namespace Th
open PySem PySem.Spec PyProof.Rows L2 RT RZ

/-! ### enumerate(tuple) -/
section
variable {prog : Program} {w : World} {A : Around} {E : Value → Shared → Prop} {s : Shared}
theorem nextOf_tup_item {it t : Addr} {i : Nat} {items} {x : Value} {Q : Value → Shared → Prop} (hit : s.heap.IsTupleIter it t i)
    (ht : s.heap.IsTuple t items) (hx : items[i]? = some x)
    (hQ : ∀ h', h'.IsTupleIter it t (i + 1) → Heap.SameBut it s.heap h' → Q x { s with heap := h' }) :
    wpAny (model prog w) A (Builtin.SmallTypes.nextOf (.ref it)) Q E s := by
  obtain ⟨o, ho, hc, hd⟩ := id hit
  obtain ⟨ol, hol, _, nl, hdl⟩ := ht
  unfold Builtin.SmallTypes.nextOf
  refine wpAny_bind (wpAny_callSpecial?_slot (name := Str.ofString "__next__") hit.typeIs F.slot_tuple_iterator_next
    (wpAny_call_entry F.slot_tuple_iterator_next hit.typeIs F.entry_tuple_iterator_next ?_ (F.args_tuple_iterator_next_1 _)))
  show wpAny _ _ (field (.ref it) 0 >>= _) _ _ s
  refine wpAny_bind (wpAny_field ho hd (x := .ref t) rfl ?_)
  show wpAny _ _ (if (Value.ref t == Value.none) = true then _ else _) _ _ s
  rw [if_neg (show ¬ ((Value.ref t == Value.none) = true) from Bool.false_ne_true)]
  show wpAny _ _ (field (.ref it) 1 >>= _) _ _ s
  refine wpAny_bind (wpAny_field ho hd (x := .int i 0) rfl ?_)
  show wpAny _ _ (seqItems? (.ref t) >>= _) _ _ s
  refine wpAny_bind (wpAny_seqItems hol hdl ?_)
  simp only [Int.toNat_natCast, hx]
  refine wpAny_bind (wpAny_setField ho hd (by simp) (wpAny_pure ⟨x, rfl, wpAny_pure (hQ _ ?_ (Heap.SameBut.update ..))⟩))
  exact ⟨_, Heap.get?_update_self _ ho (Obj.isFreed_of_fields (Obj.data_mapFields hd _)), (Obj.cls_mapFields ..).trans hc, by
    rw [Obj.data_mapFields hd]; simp [rawInt]⟩
theorem nextOf_tup_end {it t : Addr} {i : Nat} {items} {Q : Value → Shared → Prop} (hh : A.handled = none)
    (hit : s.heap.IsTupleIter it t i) (ht : s.heap.IsTuple t items) (hx : items[i]? = none)
    (hE : ∀ h' e, Heap.ExtBut it s.heap h' → (∃ o, h'.get? e = some o ∧ o.cls = .type "StopIteration") → E (.ref e) { s with heap := h' }) :
    wpAny (model prog w) A (Builtin.SmallTypes.nextOf (.ref it)) Q E s := by
  obtain ⟨o, ho, hc, hd⟩ := id hit
  obtain ⟨ol, hol, _, nl, hdl⟩ := ht
  unfold Builtin.SmallTypes.nextOf
  refine wpAny_bind (wpAny_callSpecial?_slot (name := Str.ofString "__next__") hit.typeIs F.slot_tuple_iterator_next
    (wpAny_call_entry F.slot_tuple_iterator_next hit.typeIs F.entry_tuple_iterator_next ?_ (F.args_tuple_iterator_next_1 _)))
  show wpAny _ _ (field (.ref it) 0 >>= _) _ _ s
  refine wpAny_bind (wpAny_field ho hd (x := .ref t) rfl ?_)
  show wpAny _ _ (if (Value.ref t == Value.none) = true then _ else _) _ _ s
  rw [if_neg (show ¬ ((Value.ref t == Value.none) = true) from Bool.false_ne_true)]
  show wpAny _ _ (field (.ref it) 1 >>= _) _ _ s
  refine wpAny_bind (wpAny_field ho hd (x := .int i 0) rfl ?_)
  show wpAny _ _ (seqItems? (.ref t) >>= _) _ _ s
  refine wpAny_bind (wpAny_seqItems hol hdl ?_)
  simp only [Int.toNat_natCast, hx]
  refine wpAny_bind (wpAny_rule (wpAny_bind (wpAny_setField ho hd (by simp) ?_)))
  show wpAny _ _ (newExc (.type "StopIteration") [] >>= _) _ _ _
  refine wpAny_bind ?_
  simp only [newExc, newTuple]
  refine wpAny_bind (wpAny_newObj_type ?_ (by size_fits))
  refine wpAny_bind (m := firstArgMember _ _) (wpAny_of_eq (a := Value.none) (by first | rfl | (simp only [firstArgMember]; rfl)) ?_)
  refine wpAny_newObj_type ?_ (by size_fits)
  simp only [raiseNew]
  refine wpAny_bind (wpAny_handled ?_)
  first | rw [show A.in1.handled = none from hh] | rw [hh]
  refine wpAny_bind (wpAny_pure (wpAny_throw ?_))
  exact hE _ _ (((Heap.SameBut.update ..).extBut.push _).push _) ⟨_, Heap.get?_push_size _ rfl, rfl⟩
end
theorem draws_tup {prog : Program} {w : World} {A : Around} (hh : A.handled = none) (it l : Addr) (hne : l ≠ it) (items : Array Value) :
    Draws prog w A it [it, l] items.size (fun i v => items[i]? = some v) (fun i h => h.IsTupleIter it l i ∧ h.IsTuple l items) where
  live := fun _ _ st => let ⟨o, ho, _⟩ := st.1; ⟨o, ho⟩
  frame := fun _ _ _ st hk => ⟨st.1.at fun o e => hk it (by simp) o e, st.2.at fun o e => hk l (by simp) o e⟩
  item := fun i s Q E hi st hQ => by
    refine nextOf_tup_item st.1 st.2 (x := items[i]) (by simp [hi]) fun h' hit' hs' => ?_
    exact hQ _ h' s.toks (by simp [hi]) ⟨hit', st.2.extBut hs'.extBut hne⟩ hs'
  done := fun s Q E st hE => nextOf_tup_end hh st.1 st.2 (by simp) hE
set_option maxHeartbeats 1000000 in
theorem meets_enum_tup (l : Addr) (items : Array Value) (n : Nat) (dct : Option Addr) (sl : Array (Option Value)) :
    Meets (Builtin.«enumerate.__new__» ⟨[.type "enumerate", .ref l], []⟩) (fun _ R s => s.heap.get? l = some { cls := .type "tuple", dict := dct, data := .seq items n, slots := sl } ∧
      R (.ok (.ret (.ref (s.heap.push { cls := .type "tuple_iterator", data := .fields #[.ref l, .int 0 0] }).objs.size)))
        { s with heap := (s.heap.push { cls := .type "tuple_iterator", data := .fields #[.ref l, .int 0 0] }).push { cls := .type "enumerate", data := .fields #[.none, .bool false, .ref s.heap.objs.size, rawInt 0, .none, .none] } }) :=
  .of_wp fun prog w A R s h => by
    obtain ⟨hp, g, d, tk, os⟩ := s; obtain ⟨hl, h⟩ := h
    have hsub := sub_enumerate
    have hL : Heap.IsTuple (Shared.heap ⟨hp, g, d, tk, os⟩) l items := ⟨_, hl, rfl, n, rfl⟩
    wp_walk using PySem.AutoSeq1.wpAny_loadPart' hl
    refine wpAny_stack_any fun st => wpAny_pure ?_
    split
    · rename_i c _ _ _ _ _
      cases (c == Value.type "enumerate")
      · wp_walk using PySem.AutoSeq1.wpAny_loadPart' hl, wpAny_pyIter_tuple hL
        exact ⟨_, rfl, h⟩
      · wp_walk using PySem.AutoSeq1.wpAny_loadPart' hl, wpAny_pyIter_tuple hL
        exact ⟨_, rfl, h⟩
    · wp_walk using PySem.AutoSeq1.wpAny_loadPart' hl, wpAny_pyIter_tuple hL
      exact ⟨_, rfl, h⟩
section
variable {prog : Program} {w : World} {A : Around} {E : Value → Shared → Prop} {s : Shared}
theorem call_enum_tup {l : Addr} {items : Array Value} {Q : Value → Shared → Prop} (hL : s.heap.IsTuple l items)
    (h : ∀ h', IsEnum h' (s.heap.objs.size + 1) s.heap.objs.size 0 .none → h'.IsTupleIter s.heap.objs.size l 0 → h'.objs.size = s.heap.objs.size + 2 →
      (∀ b o, s.heap.get? b = some o → h'.get? b = some o) → Q (.ref (s.heap.objs.size + 1)) { s with heap := h' }) :
    wpAny (model prog w) A (call (.type "enumerate") [.ref l]) Q E s := by
  obtain ⟨⟨c, dct, dt, sl⟩, hl, hc, n, hd⟩ := hL
  replace hc : c = .type "tuple" := hc
  replace hd : dt = .seq items n := hd
  subst hc hd
  refine callType_new F.called_enumerate (by decide) (F.typeCall_enumerate_1 _) (F.newCall_enumerate_1 _) (fun obj => F.args_object_init_2 obj _) F.entry_enumerate_new
    (meets_enum_tup l items n dct sl) ⟨hl, ?_⟩
  have hz : (s.heap.push { cls := .type "tuple_iterator", data := .fields #[.ref l, .int 0 0] }).objs.size = s.heap.objs.size + 1 := Heap.size_push ..
  show _ ∧ _
  rw [hz]
  have he : IsEnum ((s.heap.push { cls := .type "tuple_iterator", data := .fields #[.ref l, .int 0 0] }).push
      { cls := .type "enumerate", data := .fields #[.none, .bool false, .ref s.heap.objs.size, rawInt 0, .none, .none] }) (s.heap.objs.size + 1) s.heap.objs.size 0 .none := by
    have := Heap.get?_push_size (s.heap.push { cls := .type "tuple_iterator", data := .fields #[.ref l, .int 0 0] })
      (o := { cls := .type "enumerate", data := .fields #[.none, .bool false, .ref s.heap.objs.size, rawInt 0, .none, .none] }) rfl
    rw [hz] at this; exact this
  refine ⟨⟨_, he, rfl⟩, h _ he ⟨_, Heap.get?_push_of_some _ (Heap.get?_push_size _ rfl), rfl, rfl⟩ (by rw [Heap.size_push, hz]) fun b o x => Heap.get?_push_of_some _ (Heap.get?_push_of_some _ x)⟩
end
theorem enum_end_tup {prog : Program} {w : World} {A : Around} {E : Value → Shared → Prop} {s : Shared} {e it l : Addr} {i : Nat} {items : Array Value} {old : Value} {Q : Option Value → Shared → Prop} (hh : A.handled = none)
    (he : IsEnum s.heap e it i old) (hit : s.heap.IsTupleIter it l i) (hl : s.heap.IsTuple l items) (hx : items[i]? = none)
    (hQ : ∀ h', Heap.ExtBut it s.heap h' → Q none { s with heap := h' }) : wpAny (model prog w) A (pyNext (.ref e)) Q E s := by
  have hT : s.TypeIs (.ref e) "enumerate" := ⟨_, he, rfl⟩
  unfold pyNext
  refine wpAny_bind (wpAny_attempt (wpAny_callSpecial?_slot (name := Str.ofString "__next__") hT F.slot_enumerate_next
    (wpAny_call_entry F.slot_enumerate_next hT F.entry_enumerate_next ?_ (F.args_enumerate_next_1 _))))
  show wpAny _ _ (field (.ref e) 2 >>= _) _ _ _
  refine wpAny_bind (wpAny_field he rfl (x := .ref it) rfl ?_)
  refine wpAny_bind (nextOf_tup_end hh hit hl hx fun h' x he' hx' => ?_)
  obtain ⟨o, ho, hc⟩ := hx'
  refine wpAny_bind (wpAny_isInstance (T := "StopIteration") (b := true) ⟨o, ho, hc⟩ isSubtype_stop ?_)
  exact wpAny_pure (hQ _ he')
/-- the tuple at a as it stands at each turn, each item in a new pair -/
def ItE (K : PySem.W.Frag) (a : Addr) : It :=
  ⟨fun i H => ∃ (xs : List V) (x : V), SqT K H a xs ∧ xs[i]? = some x, fun i H v H' => ∃ T x, v = .ref T ∧ H T = none ∧ H' = upd H T (.tup [.int (i : Nat), x]) ∧ ∀ xs, SqT K H a xs → xs[i]? = some x, fun i H => ∃ xs : List V, SqT K H a xs ∧ xs.length ≤ i⟩
theorem turn_enumT {P : Program} {w : World} {K : PySem.W.Frag} {elts : List Expr} {kk : Nat} {tpos : Pos} (a e it : Addr) :
    Turn P w K (.Tuple elts kk tpos) (ItE K a) [e, it] e (fun i h => (∃ old, IsEnum h e it ((i : Nat) : Int) old) ∧ h.IsTupleIter it a i ∧ e ≠ it ∧ a ≠ it ∧ a ≠ e) where
  mem := by simp
  obj := fun i h st b hb => by
    obtain ⟨⟨old, he⟩, ⟨o, ho, hc, hd⟩, _⟩ := st
    have e' : b = e ∨ b = it := by simpa using hb
    rcases e' with z | z
    · rw [z]; exact ⟨_, he, fun v q => nomatch q⟩
    · rw [z]; exact ⟨o, ho, fun v q => by rw [hd] at q; cases q⟩
  keep := fun i h h' st k => let ⟨⟨old, he⟩, hi, hne, h1, h2⟩ := st; ⟨⟨old, k e (by simp) _ he⟩, hi.at fun o q => k it (by simp) o q, hne, h1, h2⟩
  item := by
    intro X hP hw hK hc i pins s σ H E I hf st hg
    subst hP hw hK
    obtain ⟨⟨old, he⟩, hit, hne, hai, hae⟩ := st
    obtain ⟨xs, x, hq, hx⟩ := hg
    obtain ⟨its, rv, p, hz⟩ := I.tuple hq
    have hT : s.heap.IsTuple a its.toArray := p
    obtain ⟨u, hu, ru⟩ := rv.get hx
    have hel : e < s.heap.objs.size := Heap.lt_size he
    have hil : it < s.heap.objs.size := by obtain ⟨_, q, _⟩ := hit; exact Heap.lt_size q
    have hlt : i < its.toArray.size := by
      have := (List.getElem?_eq_some_iff.mp hu).1
      simpa using this
    refine wpAny_pyNext_enum_itemD (draws_tup (A := X.A.in1) (I.ok.hd hc) it a hai its.toArray) he ⟨hit, hT⟩ hlt hne (by simp [hne, Ne.symm hae]) fun y h' tk hy ho hst hT2 hsz hk => ?_
    have hyu : y = u := by
      have : its.toArray[i]? = some y := hy
      rw [show its.toArray[i]? = its[i]? by simp, hu] at this
      exact (Option.some.inj this).symm
    subst hyu
    refine ⟨_, rfl, wpAny_letOwnedTupleGo_enum (s := { s with heap := h', toks := tk + 1 }) ho fun h'' he' sb => ?_⟩
    have hT3 : h''.get? s.heap.objs.size = some { cls := .type "tuple", data := .seq #[.int i tk, y] } := (sb.2 _ (Nat.ne_of_gt hel)).trans hT2
    have new : ObjOk X.prog X.w (upd H s.heap.objs.size (.tup [.int (i : Nat), x])) h'' s.heap.objs.size (.tup [.int (i : Nat), x]) :=
      ⟨by show 2 ≤ sizeLine; decide, [.int i tk, y], .cons ⟨_, rfl⟩ (.cons ru .nil), ⟨_, hT3, rfl, _, rfl⟩⟩
    have I1 : Inv X pins σ (upd H s.heap.objs.size (.tup [.int (i : Nat), x])) { s with heap := h'', toks := tk + 1 } :=
      I.turnedNew (ch := [e, it]) (fun b ob hb q => (sb.2 b (fun z => hb (by simp [z]))).trans (hk b ob (fun z => hb (by simp [z])) (fun z => hb (by simp [z])) q)) hf (Nat.le_refl _) new
    refine ⟨.ref s.heap.objs.size, _, I1, rfl, ⟨_, x, rfl, I.hok.fresh (Nat.le_refl _), rfl, fun ys hy => by rw [I.tuple_inj hy hq]; exact hx⟩, ⟨⟨y, ?_⟩, hst.1.at fun o q => (sb.2 it (Ne.symm hne)).trans q, hne, hai, hae⟩, fun b hb => ?_⟩
    · have e1 : ((i + 1 : Nat) : Int) = (i : Int) + 1 := by omega
      rw [e1]; exact he'
    · have hb' : b < s.heap.objs.size := by
        have e' : b = e ∨ b = it := by simpa using hb
        rcases e' with z | z
        · rw [z]; exact hel
        · rw [z]; exact hil
      rw [upd_ne (Nat.ne_of_lt hb')]
      exact (hf b hb).1
  done := by
    intro X hP hw hK hc i pins s σ H E I hf st hg
    subst hP hw hK
    obtain ⟨⟨old, he⟩, hit, hne, hai, hae⟩ := st
    obtain ⟨xs, hq, hx⟩ := hg
    obtain ⟨its, rv, p, hz⟩ := I.tuple hq
    have hT : s.heap.IsTuple a its.toArray := p
    obtain ⟨f0, f1, f2, f3, f4, f5⟩ := hf it (by simp)
    have hl := rv.length
    exact enum_end_tup (I.ok.hd hc) he hit hT (by simp; omega) fun h' eb => ⟨rfl, I.turned (t' := s.toks) (fun b o hb q => eb b o hb q) f0 f1 f3 f4 f5⟩
  self := fun A i s Q E st h => let ⟨⟨_, he⟩, _⟩ := st; wpAny_pyIter_enum he h
def iEnumT (K : PySem.W.Frag) (ta : TA) : TI := fun σ H R => ta σ H fun vs H1 => ∃ a xs, vs = [.ref a] ∧ SqT K H1 a xs ∧ R (ItE K a) H1
theorem pi_enumT {X : Cx} {e : Expr} {ta : TA} {p pos tpos : Pos} {elts : List Expr} {kk : Nat} (hg : Gl X "enumerate") (hm : X.mg "enumerate" = none) (ha : PA X [e] ta) (hs : starEach [e] X.env = [(false, eval e X.env)] := by rfl) :
    PI X (.Tuple elts kk tpos) (.Call (.Name "enumerate" p) [e] [] pos) (iEnumT X.K ta) := by
  refine ⟨fun pins s σ H R I h => ?_⟩
  refine Call_ (ld_blt I hg hm boot_enumerate (PyProof.Rows.callWith_type1 (thn (ha.run pos pins s σ H _ I h) fun us s1 ⟨vs, H1, I1, r1, q1⟩ => ?_) hs rfl))
  obtain ⟨a, xs, ex, hq, q⟩ := q1
  subst ex
  cases r1 with
  | cons r rr =>
    cases rr
    cases r
    obtain ⟨its, rv, p', hz⟩ := I1.tuple hq
    have hT : s1.heap.IsTuple a its.toArray := p'
    have hal : a < s1.heap.objs.size := by obtain ⟨_, e, _⟩ := hT; exact Heap.lt_size e
    refine call_enum_tup hT fun h' he hit hsz hk => wpAny_pyIter_enum he ?_
    have I2 : Inv X pins σ H1 { s1 with heap := h' } := I1.kept (t' := s1.toks) hk
    refine ⟨s1.heap.objs.size + 1, [s1.heap.objs.size + 1, s1.heap.objs.size], _, _, H1, rfl, I2, turn_enumT a (s1.heap.objs.size + 1) s1.heap.objs.size, ⟨⟨.none, he⟩, hit, Nat.succ_ne_self _, Nat.ne_of_lt hal, Nat.ne_of_lt (Nat.lt_succ_of_lt hal)⟩, fun b hb => ?_, q⟩
    have e' : b = s1.heap.objs.size + 1 ∨ b = s1.heap.objs.size := by simpa using hb
    have hle : s1.heap.objs.size ≤ b := by
      rcases e' with z | z
      · rw [z]; exact Nat.le_add_right _ _
      · rw [z]; exact Nat.le_refl _
    exact I1.fpOk hle (I1.hok.fresh hle)
/-- enumerate(t), t a tuple; enumerate(xs), xs a list -/
def enumD (ds : List PyData) : List PyData := ds.zipIdx.map fun p => .tuple [.int (p.2 : Nat), p.1]
theorem enumD_len (ds : List PyData) : (enumD ds).length = ds.length := by unfold enumD; rw [List.length_map, List.length_zipIdx]
theorem enumD_get {ds : List PyData} {i : Nat} {d : PyData} (h : ds[i]? = some d) : (enumD ds)[i]? = some (.tuple [.int (i : Nat), d]) := by
  unfold enumD
  rw [List.getElem?_map, List.getElem?_zipIdx, h]
  simp
section
variable {X : Cx} {ρ ρ1 : Rho} {e : Expr} {pos : Pos} {ds : List PyData}
theorem src_enumT {p : Pos} {elts : List Expr} {kk : Nat} {tpos : Pos} (h : E X e ρ (.d (.tuple ds)) ρ1) (hm : X.mg "enumerate" = none) (hg : Gl X "enumerate" := by rfl) (hs : starEach [e] X.env = [(false, eval e X.env)] := by rfl) :
    Src X (.Tuple elts kk tpos) (.Call (.Name "enumerate" p) [e] [] pos) ρ (enumD ds) ρ1 none :=
  ⟨_, pi_enumT hg hm (pa_cons pe_w pa_nil hs) hs, fun σ HF H S1 R q => h σ HF H S1 _ fun x HF1 H1 S2 f1 r1 => by
  cases (show Dp X.K HF1 x (.tuple ds) from r1) with
  | @tup p ys _ h1 h2 =>
    refine ⟨p, ys, rfl, same_t S2.sub h1, q _ HF1 H1 S2 f1 fun σ2 ρ2 HF2 H2 _ _ S3 s3 => ?_⟩
    have t3 := same_t S3.sub (same_t s3 h1)
    have d3 := dpa_mono s3 h2
    have hl := dpa_len h2
    refine ⟨fun i hi => ?_, ⟨ys, t3, by rw [enumD_len, hl]; exact Nat.le_refl _⟩, fun i x H3 hi ⟨T, y, e1, e2, e3, e4⟩ => ?_⟩
    · rw [enumD_len] at hi
      obtain ⟨y, g, _⟩ := dpa_get d3 (List.getElem?_eq_getElem hi)
      exact ⟨ys, y, t3, g⟩
    · obtain ⟨d, g1, g2⟩ := dpa_get' d3 (e4 ys t3)
      exact ⟨_, enumD_get g1, .inr ⟨T, _, _, e2, e3, e1, rfl, .cons (.int _) (.cons g2 .nil)⟩⟩⟩
end
end Th

set_option Elab.async false
set_option linter.all false
set_option maxRecDepth 100000
namespace Th
open PySem PySem.Spec PyProof.Rows L2
/-! ### texts -/
section
variable {X : Cx} {ρ ρ1 ρ2 ρ3 : Rho} {e e1 e2 o : Expr} {pos pn apos : Pos} {a b : Str} {ys : List Str} {i : Int} {k : Option Nat}
/-- str(n) -/
theorem e_strI (h : E X e ρ (.d (.int i)) ρ1) (hz : i.natAbs.log2 < 1920) (hm : X.mg "str" = none) (hg : Gl X "str" := by rfl) (he : starEach [e] X.env = (false, eval e X.env) :: starEach [] X.env := by rfl) :
    E X (.Call (.Name "str" pn) [e] [] pos) ρ (.d (.str (toString i))) ρ1 :=
  .of (pe_callTy call_str_int hg hm (by decide +kernel) (pa_cons pe_w pa_nil he) (he := he)) fun σ HF H S1 Q q => h σ HF H S1 _ fun x HF1 H1 S2 f1 r1 => by
    cases r1
    exact ⟨i, rfl, hz, q _ HF1 H1 S2 f1 (.str _)⟩
/-- int(text) -/
theorem e_intS (h : E X e ρ (.d (.str a)) ρ1) (hn : PySem.intText? a = some i) (hl : a.length ≤ 640) (hm : X.mg "int" = none) (hg : Gl X "int" := by rfl) (he : starEach [e] X.env = (false, eval e X.env) :: starEach [] X.env := by rfl) :
    E X (.Call (.Name "int" pn) [e] [] pos) ρ (.d (.int i)) ρ1 :=
  .of (pe_callTy call_int_str hg hm (by decide +kernel) (pa_cons pe_w pa_nil he) (he := he)) fun σ HF H S1 Q q => h σ HF H S1 _ fun x HF1 H1 S2 f1 r1 => by
    cases r1
    exact ⟨a, i, rfl, hn, hl, q _ HF1 H1 S2 f1 (.int _)⟩
/-- len(text) -/
theorem e_lenS (h : E X e ρ (.d (.str a)) ρ1) (hz : a.length ≤ 16777216) (hm : X.mg "len" = none) (hg : Gl X "len" := by rfl) (he : starEach [e] X.env = (false, eval e X.env) :: starEach [] X.env := by rfl) :
    E X (.Call (.Name "len" pn) [e] [] pos) ρ (.d (.int a.length)) ρ1 :=
  .of (pe_callB call_len_str hg hm PySem.boot_len (pa_cons pe_w pa_nil he) (he := he)) fun σ HF H S1 Q q => h σ HF H S1 _ fun x HF1 H1 S2 f1 r1 => by
    cases r1
    exact ⟨a, rfl, by rw [sizeLine_eq]; exact hz, q _ HF1 H1 S2 f1 (.int _)⟩
/-- a + b -/
theorem e_addS (ha : E X e1 ρ (.d (.str a)) ρ1) (hb : E X e2 ρ1 (.d (.str b)) ρ2) (hz : a.length + b.length ≤ 16777216) : E X (.BinOp e1 .Add e2 pos) ρ (.d (.str (a ++ b))) ρ2 :=
  .of (pe_op op_add_str pe_w pe_w) (ev_op ha hb fun HF H x y Q hx hy _ q => by
    cases hx
    cases hy
    exact ⟨a, b, rfl, rfl, Nat.le_trans hz (by rw [sizeLine_eq]; exact Nat.le_refl _), q _ (.str _)⟩)
/-- text.split(b) -/
theorem e_splitS (ho : E X o ρ (.d (.str a)) ρ1) (he : E X e ρ1 (.d (.str b)) ρ2) (hb : (b.length == 0) = false) (hz : a.length ≤ 16777214) (hs : starEach [e] X.env = [(false, eval e X.env)] := by rfl) (hbase : attributeBase o "split" X.env (eval o X.env) = eval o X.env := by rfl) (hline : (apos.endLine == pos.line) = true := by rfl) :
    E X (.Call (.Attribute o "split" apos) [e] [] pos) ρ (.ml ((Txt.split a b).map PyData.str)) ρ2 :=
  .of (pe_split pe_w pe_w hs hbase hline) fun σ HF H S1 Q q => ho σ HF H S1 _ fun x HF1 H1 S2 f1 r1 => by
    cases r1
    refine ⟨⟨a, rfl⟩, he σ HF1 H1 S2 _ fun y HF2 H2 S3 f2 r2 => ?_⟩
    cases r2
    refine ⟨a, b, rfl, rfl, hb, by rw [sizeLine_eq]; omega, fun p hp => ?_⟩
    obtain ⟨S4, f4⟩ := S3.allocO hp (.lst ((Txt.split a b).map V.str))
    have f12 := f1.trans f2
    refine q _ _ _ S4 (f12.trans f4) ⟨p, _, rfl, f12.fresh hp, S3.hfNone hp, upd_same, ?_⟩
    have key : ∀ l : List Str, DpAll X.K HF2 (l.map V.str) (l.map PyData.str) := fun l => by
      induction l with
      | nil => exact .nil
      | cons z l ih => exact .cons (.str _) ih
    exact key _
/-- text.partition(b) -/
theorem e_partS (ho : E X o ρ (.d (.str a)) ρ1) (he : E X e ρ1 (.d (.str b)) ρ2) (hb : (b.length == 0) = false) (hz : a.length ≤ 16777216) (hs : starEach [e] X.env = [(false, eval e X.env)] := by rfl) (hbase : attributeBase o "partition" X.env (eval o X.env) = eval o X.env := by rfl) (hline : (apos.endLine == pos.line) = true := by rfl) :
    E X (.Call (.Attribute o "partition" apos) [e] [] pos) ρ (.d (.tuple [.str (Txt.partition a b).1, .str (Txt.partition a b).2.1, .str (Txt.partition a b).2.2])) ρ2 :=
  .of (pe_partition pe_w pe_w hs hbase hline) fun σ HF H S1 Q q => ho σ HF H S1 _ fun x HF1 H1 S2 f1 r1 => by
    cases r1
    refine ⟨⟨a, rfl⟩, he σ HF1 H1 S2 _ fun y HF2 H2 S3 f2 r2 => ?_⟩
    cases r2
    refine ⟨a, b, rfl, rfl, hb, by rw [sizeLine_eq]; omega, fun p hp => ?_⟩
    obtain ⟨S4, f4⟩ := S3.allocD hp (.tup [.str (Txt.partition a b).1, .str (Txt.partition a b).2.1, .str (Txt.partition a b).2.2])
    exact q _ _ _ S4 ((f1.trans f2).trans f4) (.tup (.inl (.inl upd_same)) (.cons (.str _) (.cons (.str _) (.cons (.str _) .nil))))
/-- b.join(words) -/
theorem e_joinS (ho : E X o ρ (.d (.str b)) ρ1) (he : EO X e ρ1 (.list (ys.map .str)) ρ2 k) (hz : (ys.map (·.length)).sum + ys.length * b.length ≤ 16777216) (hk : Kp k ρ2 ρ2 := by first | exact trivial | exact rfl) (hs : starEach [e] X.env = [(false, eval e X.env)] := by rfl) (hbase : attributeBase o "join" X.env (eval o X.env) = eval o X.env := by rfl) (hline : (apos.endLine == pos.line) = true := by rfl) :
    E X (.Call (.Attribute o "join" apos) [e] [] pos) ρ (.d (.str (Txt.join b ys))) ρ2 :=
  .of (pe_join pe_w pe_w hs hbase hline) fun σ HF H S1 Q q => ho σ HF H S1 _ fun x HF1 H1 S2 f1 r1 => by
    cases r1
    refine ⟨⟨b, rfl⟩, he σ HF1 H1 S2 _ fun y HF2 H2 S3 f2 r2 => ?_⟩
    obtain ⟨p, zs, rfl, h1, h2⟩ := r2 ρ2 HF2 H2 hk S3 (.refl ..)
    have key : ∀ {l : List Str} {vs : List V}, DpAll X.K HF2 vs (l.map PyData.str) → vs = l.map V.str := fun {l} => by
      induction l with
      | nil => intro vs h; cases h; rfl
      | cons z l ih =>
        intro vs h
        cases h with
        | cons h1 h2 => cases h1; rw [ih h2]; rfl
    have := key h2
    subst this
    exact ⟨b, p, ys, rfl, rfl, .inl h1, hz, q _ HF2 H2 S3 (f1.trans f2) (.str _)⟩
/-- text[i] -/
theorem e_ixS {c : Nat} (ha : E X e1 ρ (.d (.str a)) ρ1) (hb : E X e2 ρ1 (.d (.int i)) ρ2) (h0 : 0 ≤ i) (hi : i < a.length) (hz : a.length ≤ 16777216) (hc : a.cps[i.toNat]? = some c) (hs : PlainIxT e2 := by exact fun _ _ => rfl) : E X (.Subscript e1 e2 pos) ρ (.d (.str ⟨#[c]⟩)) ρ2 :=
  .of (pe_item_str pe_w pe_w hs) (ev_op ha hb fun HF H x y Q hx hy _ q => by
    cases hx
    cases hy
    exact ⟨a, i, c, rfl, rfl, h0, by omega, hi, hc, q _ (.str _)⟩)
/-- text[l:h] -/
theorem e_slS {lo hi : Option Expr} {l h : Option Int} {p2 : Pos} (ha : E X e ρ (.d (.str a)) ρ1) (hl : EP X lo ρ1 l ρ2) (hh : EP X hi ρ2 h ρ3) (hz : a.length ≤ 16777216) : E X (.Subscript e (.Slice lo hi none p2) pos) ρ (.d (.str (cutS a l h))) ρ3 :=
  .of (pe_slice sl_str pe_w po_w po_w) fun σ HF H S Q q => ha σ HF H S _ fun x HF1 H1 S1 f1 r1 => hl σ HF1 H1 S1 _ fun HF2 H2 S2 f2 => hh σ HF2 H2 S2 _ fun HF3 H3 S3 f3 => by
    cases r1
    exact ⟨a, rfl, by rw [sizeLine_eq]; exact hz, q _ HF3 H3 S3 (f1.trans (f2.trans f3)) (.str _)⟩
end
section
variable {X : Cx} {ρ ρ1 ρ2 : Rho} {e1 e2 : Expr} {pos : Pos} {a b : Str}
/-- a in b, a one sign: by looking at b's signs -/
theorem e_inS (ha : E X e1 ρ (.d (.str a)) ρ1) (hb : E X e2 ρ1 (.d (.str b)) ρ2) (hm : behindInMarks .In e2 = false := by rfl) : ET X (.Compare e1 [.In] [e2] pos) ρ (!(Builtin.Str.occurrences b a 0 b.length 1).isEmpty) ρ2 :=
  t_cmp op_in_str (ev_op ha hb fun HF H x y Q hx hy _ q => by
    cases hx
    cases hy
    exact ⟨a, b, rfl, rfl, q _ (.bl _)⟩) hm
end
section
variable {X : Cx} {ρ ρ1 ρ2 : Rho} {e1 e2 e3 tg iter : Expr} {pos : Pos} {l : List Nat}
/-- a <= b <= c -/
theorem t_chII {i j l : Int} (ha : E X e1 ρ (.d (.int i)) ρ1) (hb : E X e2 ρ1 (.d (.int j)) ρ2) (hc : E X e3 ρ2 (.d (.int l)) ρ2) (hm : lastMarks [.LtE, .LtE] [e2, e3] = false := by with_unfolding_all rfl) : ET X (.Compare e1 [.LtE, .LtE] [e2, e3] pos) ρ (decide (i ≤ j) && decide (j ≤ l)) ρ2 :=
  .of (pt_chain op_le op_le pe_w pe_w pe_w hm) fun σ HF H S1 Q q => ha σ HF H S1 _ fun x HF1 H1 S2 f1 r1 => hb σ HF1 H1 S2 _ fun y HF2 H2 S3 f2 r2 => by
    cases r1
    cases r2
    refine ⟨i, j, rfl, rfl, decide (i ≤ j), rfl, ?_⟩
    by_cases h : i ≤ j
    · rw [if_pos (decide_eq_true h), decide_eq_true h, Bool.true_and] at *
      refine hc σ HF2 H2 S3 _ fun z HF3 H3 S4 f3 r3 => ?_
      cases r3
      exact ⟨j, l, rfl, rfl, _, rfl, q HF3 H3 S4 ((f1.trans f2).trans f3)⟩
    · rw [if_neg (by rw [decide_eq_false h]; exact Bool.false_ne_true), decide_eq_false h, Bool.false_and] at *
      exact ⟨_, rfl, q HF2 H2 S3 (f1.trans f2)⟩
/-- for c in text -/
theorem src_str (h : E X iter ρ (.d (.str ⟨l.toArray⟩)) ρ1) : Src X tg iter ρ (l.map fun c => PyData.str ⟨#[c]⟩) ρ1 none := ⟨_, pi_str pe_w, fun σ HF H S1 R q => h σ HF H S1 _ fun x HF1 H1 S2 f1 r1 => by
  cases (show Dp X.K HF1 x (.str ⟨l.toArray⟩) from r1)
  refine ⟨⟨l.toArray⟩, rfl, q _ HF1 H1 S2 f1 fun σ2 ρ2 HF2 H2 _ _ S3 s3 => ⟨fun i hi => ?_, ?_, fun i x H3 hi ⟨e, c, hc, ex⟩ => ?_⟩⟩
  · show i < l.toArray.size
    rw [List.length_map] at hi
    simpa using hi
  · show l.toArray.size ≤ (l.map fun c => PyData.str ⟨#[c]⟩).length
    rw [List.length_map]
    simp
  · have hc : l.toArray[i]? = some c := hc
    have hc : l[i]? = some c := by simpa using hc
    exact ⟨.str ⟨#[c]⟩, by rw [List.getElem?_map, hc]; rfl, .inl ⟨e, by rw [ex]; exact .str _⟩⟩⟩
/-- c in text, one sign -/
theorem e_in1 {c : Nat} {b : Str} (ha : E X e1 ρ (.d (.str ⟨#[c]⟩)) ρ1) (hb : E X e2 ρ1 (.d (.str b)) ρ2) (hm : behindInMarks .In e2 = false := by rfl) : E X (.Compare e1 [.In] [e2] pos) ρ (.d (.bool (decide (c ∈ b.cps.toList)))) ρ2 :=
  .of (pe_cmpR op_in_str pe_w pe_w hm) (ev_op ha hb fun HF H x y Q hx hy _ q => by
    cases hx
    cases hy
    rw [← PySem.StrLaws.found_one] at q
    exact ⟨_, _, rfl, rfl, q _ (.bl _)⟩)
end
section
open L2
variable {X : Cx} {ρ ρ1 : Rho} {e1 : Expr} {pos px : Pos} {c x : Str} {d : Addr} {es : Array DictEntry} {n : Nat} {r : Option Value}
/-- c not in D, D a dict of the module with text keys -/
theorem t_ninKd (D : KDict X.K X.w d es n) (hg : X.mg x = some (.ref d)) (ha : E X e1 ρ (.d (.str c)) ρ1) (hr : PySem.W.nsIn X.K d c = some r) (hgl : Gl X x := by rfl) (hdx : (x == ("__debug__" : Str)) = false := by decide) (hm : behindInMarks .NotIn (.Name x px) = false := by rfl) :
    ET X (.Compare e1 [.NotIn] [.Name x px] pos) ρ (!r.isSome) ρ1 :=
  t_cmp (op_notIn_kd D) (fun σ HF H S Q q => ha σ HF H S _ fun x1 HF1 H1 S1 f1 r1 => by
    cases r1
    exact ⟨_, pe_glob (v := .ref d) hgl hg rfl hdx, c, r, rfl, rfl, hr, q _ HF1 H1 S1 f1 (.bl _)⟩) hm
/-- D[c], a whole number -/
theorem e_ixKd {i : Int} {t : Tok} (D : KDict X.K X.w d es n) (hg : X.mg x = some (.ref d)) (ha : E X e1 ρ (.d (.str c)) ρ1) (hr : PySem.W.nsIn X.K d c = some (some (.int i t))) (hgl : Gl X x := by rfl) (hdx : (x == ("__debug__" : Str)) = false := by decide) (hp : PlainIx e1 := by exact fun _ _ => rfl) :
    E X (.Subscript (.Name x px) e1 pos) ρ (.d (.int i)) ρ1 :=
  .of (pe_ix ix_kdict (pe_glob (v := .ref d) hgl hg rfl hdx) pe_w hp) fun σ HF H S Q q => ha σ HF H S _ fun x1 HF1 H1 S1 f1 r1 => by
    cases r1
    exact ⟨d, c, .int i, rfl, rfl, ⟨es, n, .int i t, D.at_, D.lit, hr, ⟨_, rfl⟩⟩, q _ HF1 H1 S1 f1 (.int _)⟩
end
end Th

set_option Elab.async false
set_option linter.all false
set_option maxRecDepth 100000
namespace Th
open PySem PySem.Spec PyProof.Rows L2 TL
/-! ### polynomials as texts, by their signs (32 blank, 43 +, 45 -, 94 ^, 120 x) -/
def mkS (l : List Nat) : Str := ⟨l.toArray⟩
theorem tl_mkS (l : List Nat) : tl (mkS l) = l := tl_mk l
theorem mkS_tl (x : Str) : mkS (tl x) = x := mk_tl x
theorem mkS_app (a b : List Nat) : mkS a ++ mkS b = mkS (a ++ b) := ext_tl (by rw [tl_append, tl_mkS, tl_mkS, tl_mkS])
theorem mkS_len (l : List Nat) : (mkS l).length = l.length := by rw [len_tl, tl_mkS]
theorem mkS_inj {a b : List Nat} (h : mkS a = mkS b) : a = b := by rw [← tl_mkS a, h, tl_mkS]
def intL (p : Int) : List Nat := if p < 0 then 45 :: numL p.natAbs else numL p.natAbs
theorem tl_int (p : Int) : tl (Str.ofString (toString p)) = intL p := by
  unfold intL
  cases p with
  | ofNat n =>
    rw [if_neg (show ¬ Int.ofNat n < 0 from Int.not_lt.mpr (Int.natCast_nonneg n))]
    exact tl_num n
  | negSucc n =>
    rw [if_pos (Int.negSucc_lt_zero n)]
    have e : toString (Int.negSucc n) = "-" ++ toString (n + 1) := rfl
    have h := tl_num (n + 1)
    have e2 : toString ((n + 1 : Nat) : Int) = toString (n + 1) := rfl
    rw [e2, tl_ofString] at h
    rw [e, tl_ofString, String.toList_append, List.map_append, h]
    rfl
theorem str_int (p : Int) : (Str.ofString (toString p)) = mkS (intL p) := by rw [← tl_int, mkS_tl]
def headL (p n : Int) : List Nat := if p ≠ 0 ∧ n.natAbs = 1 then [] else numL n.natAbs
def powL (p : Int) : List Nat := if p = 1 then [] else 94 :: intL p
def bodyL (p n : Int) : List Nat := headL p n ++ if p = 0 then [] else 120 :: powL p
def sgL (n : Int) : Nat := if n < 0 then 45 else 43
theorem intL_free {p : Int} {s : Nat} (h : s ≠ 45) (h2 : s < 48 ∨ 57 < s) : s ∉ intL p := by
  unfold intL
  split
  · intro z
    rcases List.mem_cons.mp z with z | z
    · exact h z
    · exact numL_free h2 z
  · exact numL_free h2
theorem headL_free {p n : Int} {s : Nat} (h2 : s < 48 ∨ 57 < s) : s ∉ headL p n := by
  unfold headL
  split
  · exact fun z => nomatch z
  · exact numL_free h2
theorem bodyL_free {p n : Int} {s : Nat} (h : s ≠ 45) (h1 : s ≠ 120) (h3 : s ≠ 94) (h2 : s < 48 ∨ 57 < s) : s ∉ bodyL p n := by
  unfold bodyL
  intro z
  rcases List.mem_append.mp z with z | z
  · exact headL_free h2 z
  · split at z
    · cases z
    · rcases List.mem_cons.mp z with z | z
      · exact h1 z
      · unfold powL at z
        split at z
        · cases z
        · rcases List.mem_cons.mp z with z | z
          · exact h3 z
          · exact intL_free h h2 z
def restL (l : List Tm) : List Nat := l.flatMap fun t => 32 :: sgL t.2 :: 32 :: bodyL t.1 t.2
def shownL : List Tm → List Nat
  | [] => [48]
  | t :: l => (if t.2 < 0 then [45] else []) ++ bodyL t.1 t.2 ++ restL l
def wordsL : List Tm → List (List Nat)
  | [] => []
  | t :: l => bodyL t.1 t.2 :: l.flatMap fun t => [[sgL t.2], bodyL t.1 t.2]
theorem join_rest : ∀ (l : List Tm) (w : List Nat), joinL [32] (w :: l.flatMap fun t => [[sgL t.2], bodyL t.1 t.2]) = w ++ restL l
  | [], w => by
    show w = w ++ []
    rw [List.append_nil]
  | t :: l, w => by
    have ih := join_rest l (bodyL t.1 t.2)
    show joinL [32] (w :: [sgL t.2] :: bodyL t.1 t.2 :: l.flatMap fun t => [[sgL t.2], bodyL t.1 t.2]) = w ++ (32 :: sgL t.2 :: 32 :: bodyL t.1 t.2 ++ restL l)
    have e : ∀ (a b : List Nat) (r : List (List Nat)), joinL [32] (a :: b :: r) = a ++ ([32] ++ joinL [32] (b :: r)) := fun a b r => by
      first | rfl | simp [joinL]
    rw [e, e, ih]
    simp
theorem map_tl (ps : List (List Nat)) : (ps.map mkS).map tl = ps := by
  rw [List.map_map]
  have : tl ∘ mkS = id := funext tl_mkS
  rw [this, List.map_id]
theorem words_free (t : Tm) (l : List Tm) : ∀ w ∈ wordsL (t :: l), 32 ∉ w := fun w hw => by
  have hb : ∀ p n : Int, 32 ∉ bodyL p n := fun p n => bodyL_free (by decide) (by decide) (by decide) (.inl (by decide))
  rcases List.mem_cons.mp hw with rfl | hw
  · exact hb _ _
  · obtain ⟨u, _, hu⟩ := List.mem_flatMap.mp hw
    rcases List.mem_cons.mp hu with rfl | hu
    · intro z
      rw [List.mem_singleton] at z
      unfold sgL at z
      split at z <;> cases z
    · rw [List.mem_singleton] at hu
      rw [hu]
      exact hb _ _
theorem words_join (t : Tm) (l : List Tm) : Txt.join (mkS [32]) ((wordsL (t :: l)).map mkS) = mkS (bodyL t.1 t.2 ++ restL l) := by
  refine ext_tl ?_
  rw [join_eq, tl_join, map_tl, tl_mkS, tl_mkS]
  exact join_rest l _
theorem words_split (t : Tm) (l : List Tm) : Txt.split (mkS (bodyL t.1 t.2 ++ restL l)) (mkS [32]) = (wordsL (t :: l)).map mkS := by
  rw [← words_join]
  refine split_join (tl_mkS [32]) (by simp [mkS]) (fun e => nomatch (List.map_eq_nil_iff.mp e)) fun p hp => ?_
  obtain ⟨w, hw, rfl⟩ := List.mem_map.mp hp
  rw [tl_mkS]
  exact words_free t l w hw
theorem part_zero (n : Int) : Txt.partition (mkS (bodyL 0 n)) (mkS [120]) = (mkS (numL n.natAbs), Str.empty, Str.empty) := by
  have e : bodyL 0 n = numL n.natAbs := by
    unfold bodyL headL
    rw [if_neg (by rintro ⟨h, _⟩; exact h rfl), if_pos rfl, List.append_nil]
  rw [e]
  exact partition_none (tl_mkS [120]) (by rw [tl_mkS]; exact numL_free (.inr (by decide)))
theorem part_pow {p : Int} (n : Int) (h : p ≠ 0) : Txt.partition (mkS (bodyL p n)) (mkS [120]) = (mkS (headL p n), mkS [120], mkS (powL p)) := by
  have e : mkS (bodyL p n) = mkS (headL p n) ++ mkS [120] ++ mkS (powL p) := by
    rw [mkS_app, mkS_app]
    unfold bodyL
    rw [if_neg h, List.append_assoc]
    rfl
  rw [e]
  exact partition_app (tl_mkS [120]) (by rw [tl_mkS]; exact headL_free (.inr (by decide)))
theorem num_text {n : Nat} (h : n < 10 ^ 60) : PySem.intText? (mkS (numL n)) = some (n : Int) ∧ (numL n).length ≤ 60 ∧ 1 ≤ (numL n).length := by
  have hl := numL_len (n := n) (k := 60) (by decide) h
  refine ⟨?_, hl, ?_⟩
  · rw [← tl_num, mkS_tl]
    exact int_num (Nat.le_trans hl (by decide))
  · have := numL_ne n
    cases e : numL n with
    | nil => exact absurd e this
    | cons c r => exact Nat.le_add_left ..
end Th

set_option Elab.async false
set_option linter.all false
set_option maxRecDepth 100000
namespace Th
open PySem PySem.Spec PyProof.Rows L2 TL RT RZ
/-! ### xs[lo::c], zip of two lists -/
def pickL {α : Type} (xs : List α) (lo : Option Int) (c : Int) : List α := (sliceRange (sliceBounds lo none (some c) xs.length).1 (sliceBounds lo none (some c) xs.length).2.1 c).filterMap (xs[·]?)
theorem vals_pick {xs : List V} {us : List Value} (r : Vals xs us) : ∀ is : List Nat, Vals (is.filterMap (xs[·]?)) (is.filterMap (us[·]?))
  | [] => .nil
  | i :: is => by
    have ih := vals_pick r is
    have hl := r.length
    rw [List.filterMap_cons, List.filterMap_cons]
    by_cases h : i < xs.length
    · obtain ⟨u, hu, ru⟩ := r.get (List.getElem?_eq_getElem h)
      rw [List.getElem?_eq_getElem h, hu]
      exact .cons ru ih
    · rw [List.getElem?_eq_none (by omega), List.getElem?_eq_none (by omega)]
      exact ih
theorem dpa_pick {K : PySem.W.Frag} {H : Hp} {vs : List V} {ds : List PyData} (r : DpAll K H vs ds) : ∀ is : List Nat, DpAll K H (is.filterMap (vs[·]?)) (is.filterMap (ds[·]?))
  | [] => .nil
  | i :: is => by
    have ih := dpa_pick r is
    have hl := dpa_len r
    rw [List.filterMap_cons, List.filterMap_cons]
    by_cases h : i < ds.length
    · obtain ⟨u, hu, ru⟩ := dpa_get r (List.getElem?_eq_getElem h)
      rw [List.getElem?_eq_getElem h, hu]
      exact .cons ru ih
    · rw [List.getElem?_eq_none (by omega), List.getElem?_eq_none (by omega)]
      exact ih
def tStepL (K : PySem.W.Frag) (te : TE) (tl : TO) (c : Int) : TE := fun σ H Q => te σ H fun x H1 => tl σ H1 fun o H2 => ∃ a xs, x = .ref a ∧ SqL K H2 a xs ∧ ∀ p, H2 p = none → Q (.ref p) (upd H2 p (.lst (pickL xs o c)))
theorem pe_stepL {X : Cx} {te : TE} {tl : TO} {lo : Option Expr} {e : Expr} {k : Nat} {c : Int} {p1 p3 pos : Pos} (he : PE X e te) (hl : PO X lo tl) (hc : 0 < c) : PE X (.Subscript e (.Slice lo none (some (.Constant (.int c) k p1)) p3) pos) (tStepL X.K te tl c) := by
  refine ⟨fun pins s σ H Q I h => ?_⟩
  refine Subscript_ (thn (he.run pins s σ H _ I h) fun v s1 ⟨x, H1, I1, r1, q1⟩ => ?_)
  refine wpAny_Slice (thn (hl.run pins s1 σ H1 _ I1 q1) fun vl s2 ⟨l, H2, I2, pl, q2⟩ => ?_)
  obtain ⟨a, xs, ex, hx, q⟩ := q2
  subst ex
  cases r1
  have hst : PO X (some (.Constant (.int c) k p1)) (tPart (tC (.int c))) := po_some pe_int
  refine thn (po_none.run pins s2 σ H2 (fun o H3 => o = none ∧ H3 = H2) I2 ⟨rfl, rfl⟩) fun vu s3 ⟨u, H3, I3, pu, eu, e3⟩ => ?_
  subst eu e3
  refine thn (hst.run pins s3 σ H3 (fun o H4 => o = some c ∧ H4 = H3) I3 ⟨c, rfl, rfl, rfl⟩) fun vs s4 ⟨o, H4, I4, ps, eo, e4⟩ => ?_
  subst eo e4
  have I5 : Inv X pins σ H4 { s4 with heap := s4.heap.push { cls := .type "slice", data := .fields #[vl, vu, vs] } } := I4.kept (t' := s4.toks) fun b ob q => Heap.get?_push_of_some _ q
  obtain ⟨its, r, ht, hz⟩ := I5.list hx
  have hlen := r.length
  show wpAny (model X.prog X.w) X.A (subscriptTail e (.Slice lo none (some (.Constant (.int c) k p1)) p3) (.ref a) (.ref s4.heap.objs.size)) (L2.EP X pins σ Q) X.xe { s4 with heap := s4.heap.push { cls := .type "slice", data := .fields #[vl, vu, vs] } }
  refine tail_any (ops := [.ref a, .ref s4.heap.objs.size]) ht.isList.typeIs (PySem.slot_list_getitem.lookup) ?_ (by with_unfolding_all rfl)
  have hsz : (slicePick its.toArray l none (some c)).size ≤ its.toArray.size := slicePick_size_le its.toArray l none (some c)
  refine wpAny_getItem_list_slice ht.isList (Heap.IsSliceOf.new _ vl vu vs) pl pu ps (fun z => by injection z with z; omega) ?_ (by rw [List.size_toArray]; omega)
  have e : slicePick its.toArray l none (some c) = ((sliceRange (sliceBounds l none (some c) xs.length).1 (sliceBounds l none (some c) xs.length).2.1 c).filterMap (its[·]?)).toArray := by
    unfold slicePick
    rw [List.size_toArray, ← hlen]
    simp
    rfl
  rw [e] at hsz ⊢
  have rp := vals_pick r (sliceRange (sliceBounds l none (some c) xs.length).1 (sliceBounds l none (some c) xs.length).2.1 c)
  have hlp := rp.length
  refine ⟨.ref _, _, I5.laid (t' := s4.toks) (o := .lst (pickL xs l c)) (fun b ob q => Heap.get?_push_of_some _ q) (Nat.le_refl _) ?_, rfl, q _ (I5.hok.fresh (Nat.le_refl _))⟩
  refine ⟨?_, _, 0, rp, Heap.get?_push_size _ rfl⟩
  rw [List.size_toArray, List.size_toArray] at hsz
  unfold pickL
  omega
section
variable {X : Cx} {ρ ρ1 ρ2 : Rho} {e e1 e2 : Expr} {pos : Pos} {ds xs ys : List PyData} {k : Option Nat}
/-- xs[lo::c] -/
theorem e_stepL {j : Nat} {p1 p3 : Pos} {lo : Option Expr} {l : Option Int} {c : Int} (h : EO X e ρ (.list ds) ρ1 k) (hl : EP X lo ρ1 l ρ2) (hk : Kp k ρ1 ρ2 := by first | exact trivial | exact rfl) (hc : 0 < c := by decide) : E X (.Subscript e (.Slice lo none (some (.Constant (.int c) j p1)) p3) pos) ρ (.ml (pickL ds l c)) ρ2 := .of (pe_stepL pe_w po_w hc) fun σ HF H S1 Q q => h σ HF H S1 _ fun x HF1 H1 S2 f1 r1 => hl σ HF1 H1 S2 _ fun HF2 H2 S3 f2 => by
  obtain ⟨p, ys, rfl, h1, h2⟩ := r1 ρ2 HF2 H2 hk S3 f2
  refine ⟨p, ys, rfl, h1, fun r hr => ?_⟩
  obtain ⟨S4, f4⟩ := S3.allocO hr (.lst (pickL ys l c))
  refine q _ _ _ S4 ((f1.trans f2).trans f4) ⟨r, _, rfl, (f1.trans f2).fresh hr, S3.hfNone hr, upd_same, ?_⟩
  have e : pickL ys l c = ((sliceRange (sliceBounds l none (some c) ds.length).1 (sliceBounds l none (some c) ds.length).2.1 c).filterMap (ys[·]?)) := by
    unfold pickL
    rw [dpa_len h2]
  rw [e]
  exact dpa_pick h2 _
theorem srcAt_zl {K : PySem.W.Frag} {HF H : Hp} {p q : Addr} {vs ws : List V} (s : Same HF H) (h1 : SqL K H p vs) (g1 : SqL K H q ws) (h2 : DpAll K HF vs xs) (g2 : DpAll K HF ws ys) : SrcAt K (Itz K p q) (zipD xs ys) HF H := by
  have l1 := dpa_len h2
  have l2 := dpa_len g2
  refine ⟨fun i hi => ?_, ⟨vs, ws, h1, g1, ?_⟩, fun i x H2 hi ⟨T, v, w, e1, e2, e3, y1, y2⟩ => ?_⟩
  · rw [zipD_len] at hi
    obtain ⟨v, e1, _⟩ := dpa_get h2 (List.getElem?_eq_getElem (show i < xs.length by omega))
    obtain ⟨w, e2, _⟩ := dpa_get g2 (List.getElem?_eq_getElem (show i < ys.length by omega))
    exact ⟨vs, ws, v, w, h1, g1, e1, e2⟩
  · rw [zipD_len]
    omega
  · obtain ⟨a, a1, a2⟩ := dpa_get' h2 (y1 vs h1)
    obtain ⟨b, b1, b2⟩ := dpa_get' g2 (y2 ws g1)
    exact ⟨_, zipD_get a1 b1, .inr ⟨T, _, _, e2, e3, e1, rfl, .cons a2 (.cons b2 .nil)⟩⟩
/-- zip(xs, ys), two lists as data -/
theorem src_zipL {p : Pos} {elts : List Expr} {kk : Nat} {tpos : Pos} (h : E X e1 ρ (.d (.list xs)) ρ1) (h2 : E X e2 ρ1 (.d (.list ys)) ρ2) (hm : X.mg "zip" = none) (hg : Gl X "zip" := by rfl) (hs : starEach [e1, e2] X.env = (false, eval e1 X.env) :: starEach [e2] X.env := by rfl)
    (hs2 : starEach [e2] X.env = (false, eval e2 X.env) :: starEach [] X.env := by rfl) (hpl : (backTo pos (starEach [e2] X.env)).any (·.1) = false := by rfl) : Src X (.Tuple elts kk tpos) (.Call (.Name "zip" p) [e1, e2] [] pos) ρ (zipD xs ys) ρ2 none :=
  ⟨_, pi_zipA hg hm (pa_cons pe_w (pa_cons pe_w pa_nil hs2) hs) hs hpl, fun σ HF H S1 R q => h σ HF H S1 _ fun x HF1 H1 S2 f1 r1 => h2 σ HF1 H1 S2 _ fun y HF2 H2 S3 f2 r2 => by
  cases (show Dp X.K HF1 x (.list xs) from r1) with
  | @lst p vs _ a1 a2 =>
    cases (show Dp X.K HF2 y (.list ys) from r2) with
    | @lst p2 ws _ b1 b2 =>
      exact ⟨p, p2, vs, ws, rfl, .inl ⟨same_l S3.sub (same_l f2.hf a1), same_l S3.sub b1, q _ HF2 H2 S3 (f1.trans f2) fun σ2 ρ2 HF3 H3 _ _ S4 s4 =>
        srcAt_zl S4.sub (same_l S4.sub (same_l s4 (same_l f2.hf a1))) (same_l S4.sub (same_l s4 b1)) (dpa_mono s4 (dpa_mono f2.hf a2)) (dpa_mono s4 b2)⟩⟩⟩
end
/-- every other one of a row a, b, a, b .. -/
theorem pick_even {α : Type} {xs : List α} {n : Nat} (h : xs.length = 2 * n) : pickL xs none 2 = (List.range n).filterMap fun i => xs[2 * i]? := by
  unfold pickL
  have e1 : sliceBounds none none (some 2) xs.length = (0, (xs.length : Int), 2) := rfl
  rw [e1]
  have e2 : sliceRange 0 (xs.length : Int) 2 = (List.range n).map fun i => 2 * i := by
    unfold sliceRange
    rw [h]
    by_cases h0 : n = 0
    · subst h0
      rfl
    have hz : (if (2 : Int) > 0 then (if (0 : Int) < ((2 * n : Nat) : Int) then (((2 * n : Nat) : Int) - 0 + 2 - 1) / 2 else 0) else (if (0 : Int) > ((2 * n : Nat) : Int) then (0 - ((2 * n : Nat) : Int) - 2 - 1) / (-2) else 0)).toNat = n := by
      rw [if_pos (by decide), if_pos (by omega)]
      omega
    show (List.range _).map _ = _
    rw [hz]
    refine List.map_congr_left fun i _ => ?_
    omega
  rw [e2, List.filterMap_map]
  rfl
theorem pick_odd {α : Type} {xs : List α} {n : Nat} (h : xs.length = 2 * n) : pickL xs (some 1) 2 = (List.range n).filterMap fun i => xs[2 * i + 1]? := by
  unfold pickL
  have e1 : sliceBounds (some 1) none (some 2) xs.length = (max 0 (min 1 (xs.length : Int)), (xs.length : Int), 2) := rfl
  rw [e1]
  have e2 : sliceRange (max 0 (min 1 (xs.length : Int))) (xs.length : Int) 2 = (List.range n).map fun i => 2 * i + 1 := by
    unfold sliceRange
    rw [h]
    by_cases h0 : n = 0
    · subst h0
      rfl
    have hm : max 0 (min 1 (((2 * n : Nat) : Int))) = 1 := by omega
    rw [hm]
    have hz : (if (2 : Int) > 0 then (if (1 : Int) < ((2 * n : Nat) : Int) then (((2 * n : Nat) : Int) - 1 + 2 - 1) / 2 else 0) else (if (1 : Int) > ((2 * n : Nat) : Int) then (1 - ((2 * n : Nat) : Int) - 2 - 1) / (-2) else 0)).toNat = n := by
      rw [if_pos (by decide), if_pos (by omega)]
      omega
    show (List.range _).map _ = _
    rw [hz]
    refine List.map_congr_left fun i _ => ?_
    omega
  rw [e2, List.filterMap_map]
  rfl
end Th

set_option Elab.async false
set_option linter.all false
set_option maxRecDepth 100000
set_option maxHeartbeats 4000000
set_option pp.maxSteps 300
namespace K24
open PySem PySem.Spec PyProof.Rows L2 Th
def topS (i : Nat) : Stmt := PySem.Challenge.pw_tanglehouse_k24_whole_polynomials_as_tex.main.body.getD i (.Pass ⟨0, 0, 0, 0⟩)
abbrev sLaw : Stmt := topS 26
abbrev nLaw : List Str := ["_law_script", "_law_cell", "_law_row", "_law_terms", "_law_text_here", "_law_found"]
theorem scLaw : FnScope nLaw ["_law_script"] (defScope sLaw) := ⟨rfl, rfl, rfl, by decide +kernel, rfl, by decide +kernel, by decide +kernel⟩
abbrev sPolynomial : Stmt := topS 22
abbrev nPolynomial : List Str := ["_law_row", "_law_most", "_law_terms", "_law_found", "_law_power", "_law_k", "_law_number_here"]
theorem scPolynomial : FnScope nPolynomial ["_law_row", "_law_most", "_law_terms"] (defScope sPolynomial) := ⟨rfl, rfl, rfl, by decide +kernel, rfl, by decide +kernel, by decide +kernel⟩
abbrev sText : Stmt := topS 25
abbrev nText : List Str := ["_law_terms", "_law_words", "_law_power", "_law_number_here", "_law_word"]
theorem scText : FnScope nText ["_law_terms"] (defScope sText) := ⟨rfl, rfl, rfl, by decide +kernel, rfl, by decide +kernel, by decide +kernel⟩
abbrev sReadPolynomial : Stmt := topS 17
abbrev nReadPolynomial : List Str := ["text", "found"]
theorem scReadPolynomial : FnScope nReadPolynomial ["text"] (defScope sReadPolynomial) := ⟨rfl, rfl, rfl, by decide +kernel, rfl, by decide +kernel, by decide +kernel⟩
abbrev sTake : Stmt := topS 20
abbrev nTake : List Str := ["_law_row", "_law_base", "_law_rest", "_law_number_here"]
theorem scTake : FnScope nTake ["_law_row", "_law_base"] (defScope sTake) := ⟨rfl, rfl, rfl, by decide +kernel, rfl, by decide +kernel, by decide +kernel⟩
abbrev sLong : Stmt := topS 23
abbrev nLong : List Str := ["_law_row", "_law_fewest", "_law_most", "_law_power", "_law_found", "_law_k"]
theorem scLong : FnScope nLong ["_law_row", "_law_fewest", "_law_most"] (defScope sLong) := ⟨rfl, rfl, rfl, by decide +kernel, rfl, by decide +kernel, by decide +kernel⟩
abbrev sShownPolynomial : Stmt := topS 12
abbrev nShownPolynomial : List Str := ["one", "found", "power", "number", "sign"]
theorem scShownPolynomial : FnScope nShownPolynomial ["one"] (defScope sShownPolynomial) := ⟨rfl, rfl, rfl, by decide +kernel, rfl, by decide +kernel, by decide +kernel⟩
abbrev sMade : Stmt := topS 24
abbrev nMade : List Str := ["_law_found", "_law_two", "_law_number_here"]
theorem scMade : FnScope nMade ["_law_found"] (defScope sMade) := ⟨rfl, rfl, rfl, by decide +kernel, rfl, by decide +kernel, by decide +kernel⟩
abbrev sNumber : Stmt := topS 21
abbrev nNumber : List Str := ["_law_row", "_law_most", "_law_number_here", "_law_part"]
theorem scNumber : FnScope nNumber ["_law_row", "_law_most"] (defScope sNumber) := ⟨rfl, rfl, rfl, by decide +kernel, rfl, by decide +kernel, by decide +kernel⟩
abbrev sTermsOf : Stmt := topS 16
abbrev nTermsOf : List Str := ["text", "sign", "words", "found", "mark", "word"]
theorem scTermsOf : FnScope nTermsOf ["text"] (defScope sTermsOf) := ⟨rfl, rfl, rfl, by decide +kernel, rfl, by decide +kernel, by decide +kernel⟩
abbrev sIsPolynomial : Stmt := topS 6
abbrev nIsPolynomial : List Str := ["thing", "term", "one", "other"]
theorem scIsPolynomial : FnScope nIsPolynomial ["thing"] (defScope sIsPolynomial) := ⟨rfl, rfl, rfl, by decide +kernel, rfl, by decide +kernel, by decide +kernel⟩
abbrev sShownTerm : Stmt := topS 11
abbrev nShownTerm : List Str := ["power", "number", "letter"]
theorem scShownTerm : FnScope nShownTerm ["power", "number"] (defScope sShownTerm) := ⟨rfl, rfl, rfl, by decide +kernel, rfl, by decide +kernel, by decide +kernel⟩
abbrev sTermOf : Stmt := topS 15
abbrev nTermOf : List Str := ["word", "sign", "head", "letter", "rest"]
theorem scTermOf : FnScope nTermOf ["word", "sign"] (defScope sTermOf) := ⟨rfl, rfl, rfl, by decide +kernel, rfl, by decide +kernel, by decide +kernel⟩
abbrev sIsTerm : Stmt := topS 5
abbrev nIsTerm : List Str := ["thing"]
theorem scIsTerm : FnScope nIsTerm ["thing"] (defScope sIsTerm) := ⟨rfl, rfl, rfl, by decide +kernel, rfl, by decide +kernel, by decide +kernel⟩
abbrev sPowerOf : Stmt := topS 14
abbrev nPowerOf : List Str := ["word"]
theorem scPowerOf : FnScope nPowerOf ["word"] (defScope sPowerOf) := ⟨rfl, rfl, rfl, by decide +kernel, rfl, by decide +kernel, by decide +kernel⟩
abbrev sNumberOf : Stmt := topS 13
abbrev nNumberOf : List Str := ["word", "sign"]
theorem scNumberOf : FnScope nNumberOf ["word"] (defScope sNumberOf) := ⟨rfl, rfl, rfl, by decide +kernel, rfl, by decide +kernel, by decide +kernel⟩
abbrev sIsWhole : Stmt := topS 4
abbrev nIsWhole : List Str := ["thing"]
theorem scIsWhole : FnScope nIsWhole ["thing"] (defScope sIsWhole) := ⟨rfl, rfl, rfl, by decide +kernel, rfl, by decide +kernel, by decide +kernel⟩
structure Txt (K : PySem.W.Frag) (mg : Str → Option Value) where
  aPolynomial : Addr
  dPolynomial : FuncData
  FPolynomial : Fun K "_law_polynomial" "_law_polynomial" sPolynomial aPolynomial dPolynomial
  gPolynomial : mg "_law_polynomial" = some (.ref aPolynomial)
  aText : Addr
  dText : FuncData
  FText : Fun K "_law_text" "_law_text" sText aText dText
  gText : mg "_law_text" = some (.ref aText)
  aReadPolynomial : Addr
  dReadPolynomial : FuncData
  FReadPolynomial : Fun K "read_polynomial" "read_polynomial" sReadPolynomial aReadPolynomial dReadPolynomial
  gReadPolynomial : mg "read_polynomial" = some (.ref aReadPolynomial)
  aTake : Addr
  dTake : FuncData
  FTake : Fun K "_law_take" "_law_take" sTake aTake dTake
  gTake : mg "_law_take" = some (.ref aTake)
  aLong : Addr
  dLong : FuncData
  FLong : Fun K "_law_long" "_law_long" sLong aLong dLong
  gLong : mg "_law_long" = some (.ref aLong)
  aShownPolynomial : Addr
  dShownPolynomial : FuncData
  FShownPolynomial : Fun K "shown_polynomial" "shown_polynomial" sShownPolynomial aShownPolynomial dShownPolynomial
  gShownPolynomial : mg "shown_polynomial" = some (.ref aShownPolynomial)
  aMade : Addr
  dMade : FuncData
  FMade : Fun K "_law_made" "_law_made" sMade aMade dMade
  gMade : mg "_law_made" = some (.ref aMade)
  aNumber : Addr
  dNumber : FuncData
  FNumber : Fun K "_law_number" "_law_number" sNumber aNumber dNumber
  gNumber : mg "_law_number" = some (.ref aNumber)
  aTermsOf : Addr
  dTermsOf : FuncData
  FTermsOf : Fun K "terms_of" "terms_of" sTermsOf aTermsOf dTermsOf
  gTermsOf : mg "terms_of" = some (.ref aTermsOf)
  aIsPolynomial : Addr
  dIsPolynomial : FuncData
  FIsPolynomial : Fun K "is_polynomial" "is_polynomial" sIsPolynomial aIsPolynomial dIsPolynomial
  gIsPolynomial : mg "is_polynomial" = some (.ref aIsPolynomial)
  aShownTerm : Addr
  dShownTerm : FuncData
  FShownTerm : Fun K "shown_term" "shown_term" sShownTerm aShownTerm dShownTerm
  gShownTerm : mg "shown_term" = some (.ref aShownTerm)
  aTermOf : Addr
  dTermOf : FuncData
  FTermOf : Fun K "term_of" "term_of" sTermOf aTermOf dTermOf
  gTermOf : mg "term_of" = some (.ref aTermOf)
  aIsTerm : Addr
  dIsTerm : FuncData
  FIsTerm : Fun K "is_term" "is_term" sIsTerm aIsTerm dIsTerm
  gIsTerm : mg "is_term" = some (.ref aIsTerm)
  aPowerOf : Addr
  dPowerOf : FuncData
  FPowerOf : Fun K "power_of" "power_of" sPowerOf aPowerOf dPowerOf
  gPowerOf : mg "power_of" = some (.ref aPowerOf)
  aNumberOf : Addr
  dNumberOf : FuncData
  FNumberOf : Fun K "number_of" "number_of" sNumberOf aNumberOf dNumberOf
  gNumberOf : mg "number_of" = some (.ref aNumberOf)
  aIsWhole : Addr
  dIsWhole : FuncData
  FIsWhole : Fun K "is_whole" "is_whole" sIsWhole aIsWhole dIsWhole
  gIsWhole : mg "is_whole" = some (.ref aIsWhole)
  z_range : mg "range" = none
  z_tuple : mg "tuple" = none
  z_str : mg "str" = none
  z_len : mg "len" = none
  z_abs : mg "abs" = none
  z_int : mg "int" = none
  z_isinstance : mg "isinstance" = none
  z_bool : mg "bool" = none
  z_zip : mg "zip" = none
  z_all : mg "all" = none
  c_MOST_FIGURES : GCst K mg "MOST_FIGURES" (.int (60))
  c_FIGURES : GCst K mg "FIGURES" (.str "0123456789")
theorem Txt.bPolynomial {K : PySem.W.Frag} {mg : Str → Option Value} (T : Txt K mg) : Binds K T.dPolynomial ["_law_row", "_law_most", "_law_terms"] [] := T.FPolynomial.binds (ps := ["_law_row", "_law_most", "_law_terms"]) fun _ _ _ _ _ _ us hl => match us, hl with | [_, _, _], _ => rfl
theorem Txt.bText {K : PySem.W.Frag} {mg : Str → Option Value} (T : Txt K mg) : Binds K T.dText ["_law_terms"] [] := T.FText.binds (ps := ["_law_terms"]) fun _ _ _ _ _ _ us hl => match us, hl with | [_], _ => rfl
theorem Txt.bReadPolynomial {K : PySem.W.Frag} {mg : Str → Option Value} (T : Txt K mg) : Binds K T.dReadPolynomial ["text"] [] := T.FReadPolynomial.binds (ps := ["text"]) fun _ _ _ _ _ _ us hl => match us, hl with | [_], _ => rfl
theorem Txt.bTake {K : PySem.W.Frag} {mg : Str → Option Value} (T : Txt K mg) : Binds K T.dTake ["_law_row", "_law_base"] [] := T.FTake.binds (ps := ["_law_row", "_law_base"]) fun _ _ _ _ _ _ us hl => match us, hl with | [_, _], _ => rfl
theorem Txt.bLong {K : PySem.W.Frag} {mg : Str → Option Value} (T : Txt K mg) : Binds K T.dLong ["_law_row", "_law_fewest", "_law_most"] [] := T.FLong.binds (ps := ["_law_row", "_law_fewest", "_law_most"]) fun _ _ _ _ _ _ us hl => match us, hl with | [_, _, _], _ => rfl
theorem Txt.bShownPolynomial {K : PySem.W.Frag} {mg : Str → Option Value} (T : Txt K mg) : Binds K T.dShownPolynomial ["one"] [] := T.FShownPolynomial.binds (ps := ["one"]) fun _ _ _ _ _ _ us hl => match us, hl with | [_], _ => rfl
theorem Txt.bMade {K : PySem.W.Frag} {mg : Str → Option Value} (T : Txt K mg) : Binds K T.dMade ["_law_found"] [] := T.FMade.binds (ps := ["_law_found"]) fun _ _ _ _ _ _ us hl => match us, hl with | [_], _ => rfl
theorem Txt.bNumber {K : PySem.W.Frag} {mg : Str → Option Value} (T : Txt K mg) : Binds K T.dNumber ["_law_row", "_law_most"] [] := T.FNumber.binds (ps := ["_law_row", "_law_most"]) fun _ _ _ _ _ _ us hl => match us, hl with | [_, _], _ => rfl
theorem Txt.bTermsOf {K : PySem.W.Frag} {mg : Str → Option Value} (T : Txt K mg) : Binds K T.dTermsOf ["text"] [] := T.FTermsOf.binds (ps := ["text"]) fun _ _ _ _ _ _ us hl => match us, hl with | [_], _ => rfl
theorem Txt.bIsPolynomial {K : PySem.W.Frag} {mg : Str → Option Value} (T : Txt K mg) : Binds K T.dIsPolynomial ["thing"] [] := T.FIsPolynomial.binds (ps := ["thing"]) fun _ _ _ _ _ _ us hl => match us, hl with | [_], _ => rfl
theorem Txt.bShownTerm {K : PySem.W.Frag} {mg : Str → Option Value} (T : Txt K mg) : Binds K T.dShownTerm ["power", "number"] [] := T.FShownTerm.binds (ps := ["power", "number"]) fun _ _ _ _ _ _ us hl => match us, hl with | [_, _], _ => rfl
theorem Txt.bTermOf {K : PySem.W.Frag} {mg : Str → Option Value} (T : Txt K mg) : Binds K T.dTermOf ["word", "sign"] [] := T.FTermOf.binds (ps := ["word", "sign"]) fun _ _ _ _ _ _ us hl => match us, hl with | [_, _], _ => rfl
theorem Txt.bIsTerm {K : PySem.W.Frag} {mg : Str → Option Value} (T : Txt K mg) : Binds K T.dIsTerm ["thing"] [] := T.FIsTerm.binds (ps := ["thing"]) fun _ _ _ _ _ _ us hl => match us, hl with | [_], _ => rfl
theorem Txt.bPowerOf {K : PySem.W.Frag} {mg : Str → Option Value} (T : Txt K mg) : Binds K T.dPowerOf ["word"] [] := T.FPowerOf.binds (ps := ["word"]) fun _ _ _ _ _ _ us hl => match us, hl with | [_], _ => rfl
theorem Txt.bNumberOf {K : PySem.W.Frag} {mg : Str → Option Value} (T : Txt K mg) : Binds K T.dNumberOf ["word"] [] := T.FNumberOf.binds (ps := ["word"]) fun _ _ _ _ _ _ us hl => match us, hl with | [_], _ => rfl
theorem Txt.bIsWhole {K : PySem.W.Frag} {mg : Str → Option Value} (T : Txt K mg) : Binds K T.dIsWhole ["thing"] [] := T.FIsWhole.binds (ps := ["thing"]) fun _ _ _ _ _ _ us hl => match us, hl with | [_], _ => rfl
open TL
theorem lg {n : Nat} (h : n < 10 ^ 60) : n.log2 < 1920 := by
  by_cases h0 : n = 0
  · subst h0
    decide
  · have : n < 2 ^ 200 := Nat.lt_trans h (by decide)
    have := (Nat.log2_lt h0).mpr this
    omega
def TmB (t : Th.Tm) : Prop := t.1.natAbs < 10 ^ 60 ∧ t.2.natAbs < 10 ^ 60
def fShownTerm : List PyData → A → Prop := fun ds r => ∃ t : Th.Tm, TmB t ∧ ds = [.int t.1, .int t.2] ∧ r = .d (.str (mkS (bodyL t.1 t.2)))
def fShown : List PyData → A → Prop := fun ds r => ∃ l : List Th.Tm, l.length ≤ 1000 ∧ (∀ t ∈ l, TmB t) ∧ ds = [encP l] ∧ r = .d (.str (mkS (shownL l)))
theorem natS_eq (n : Nat) : (Str.ofString (toString (n : Int))) = mkS (numL n) := by rw [← tl_num, mkS_tl]
theorem numL_60 {n : Nat} (h : n < 10 ^ 60) : (numL n).length ≤ 60 := numL_len (by decide) h
theorem intL_61 {p : Int} (h : p.natAbs < 10 ^ 60) : (intL p).length ≤ 61 := by
  have := numL_60 h
  unfold intL
  split
  · rw [List.length_cons]; omega
  · omega
theorem bodyL_len {t : Th.Tm} (h : TmB t) : (bodyL t.1 t.2).length ≤ 130 := by
  have h1 := intL_61 h.1
  have h2 := numL_60 h.2
  have h3 : (headL t.1 t.2).length ≤ 60 := by
    unfold headL
    split
    · exact Nat.zero_le _
    · exact h2
  have h4 : (powL t.1).length ≤ 62 := by
    unfold powL
    split
    · exact Nat.zero_le _
    · rw [List.length_cons]; omega
  unfold bodyL
  rw [List.length_append]
  split
  · rw [List.length_nil]; omega
  · rw [List.length_cons]; omega
def shStep (f : List Nat) (t : Th.Tm) : List Nat := f ++ (if f = [] then (if t.2 < 0 then [45] else []) else [32, sgL t.2, 32]) ++ bodyL t.1 t.2
theorem bodyL_ne (t : Th.Tm) : bodyL t.1 t.2 ≠ [] := by
  unfold bodyL headL
  by_cases h : t.1 = 0
  · rw [if_neg (by rintro ⟨z, _⟩; exact z h), if_pos h, List.append_nil]
    exact numL_ne _
  · rw [if_neg h]
    exact fun z => nomatch (List.append_eq_nil_iff.mp z).2
theorem sh_rest : ∀ (l : List Th.Tm) (f : List Nat), f ≠ [] → l.foldl shStep f = f ++ restL l
  | [], f, _ => by
    show f = f ++ []
    rw [List.append_nil]
  | t :: l, f, h => by
    have hs : shStep f t = f ++ [32, sgL t.2, 32] ++ bodyL t.1 t.2 := by
      unfold shStep
      rw [if_neg h]
    rw [List.foldl_cons, hs, sh_rest l _ fun z => bodyL_ne t (List.append_eq_nil_iff.mp z).2]
    show _ = f ++ (32 :: sgL t.2 :: 32 :: bodyL t.1 t.2 ++ restL l)
    simp
theorem sh_all (t : Th.Tm) (l : List Th.Tm) : (t :: l).foldl shStep [] = shownL (t :: l) := by
  have hs : shStep [] t = (if t.2 < 0 then [45] else []) ++ bodyL t.1 t.2 := by
    unfold shStep
    rw [if_pos rfl, List.nil_append]
  rw [List.foldl_cons, hs, sh_rest l _ fun z => bodyL_ne t (List.append_eq_nil_iff.mp z).2]
  rfl
theorem sh_len : ∀ (l : List Th.Tm) (f : List Nat) (n : Nat), (∀ t ∈ l, TmB t) → f.length ≤ n → (l.foldl shStep f).length ≤ n + 133 * l.length
  | [], f, n, _, h => h
  | t :: l, f, n, hb, h => by
    have h1 := bodyL_len (hb t List.mem_cons_self)
    have h2 : (shStep f t).length ≤ n + 133 := by
      unfold shStep
      rw [List.length_append, List.length_append]
      have : (if f = [] then (if t.2 < 0 then [45] else []) else [32, sgL t.2, 32] : List Nat).length ≤ 3 := by
        split
        · split <;> decide
        · exact Nat.le_refl _
      omega
    have := sh_len l (shStep f t) (n + 133) (fun u hu => hb u (List.mem_cons_of_mem _ hu)) h2
    rw [List.foldl_cons, List.length_cons]
    omega
def Asc (l : List Nat) : Prop := ∀ c ∈ l, c < 128
theorem asc_num (n : Nat) : Asc (numL n) := fun c hc => by
  have := numL_digits n c hc
  omega
theorem asc_app {a b : List Nat} (h : Asc a) (g : Asc b) : Asc (a ++ b) := fun c hc => (List.mem_append.mp hc).elim (h c) (g c)
theorem asc_cons {x : Nat} {a : List Nat} (hx : x < 128) (h : Asc a) : Asc (x :: a) := fun c hc => (List.mem_cons.mp hc).elim (fun e => by rw [e]; exact hx) (h c)
theorem asc_nil : Asc [] := fun _ z => nomatch z
theorem asc_int (p : Int) : Asc (intL p) := by
  unfold intL
  split
  · exact asc_cons (by decide) (asc_num _)
  · exact asc_num _
theorem asc_body (p n : Int) : Asc (bodyL p n) := by
  unfold bodyL headL powL
  refine asc_app ?_ ?_
  · split
    · exact asc_nil
    · exact asc_num _
  · split
    · exact asc_nil
    · refine asc_cons (by decide) ?_
      split
      · exact asc_nil
      · exact asc_cons (by decide) (asc_int _)
theorem asc_sg (n : Int) : sgL n < 128 := by
  unfold sgL
  split <;> decide
theorem asc_step {f : List Nat} (h : Asc f) (t : Th.Tm) : Asc (shStep f t) := by
  unfold shStep
  refine asc_app (asc_app h ?_) (asc_body _ _)
  split
  · split
    · exact asc_cons (by decide) asc_nil
    · exact asc_nil
  · exact asc_cons (by decide) (asc_cons (asc_sg _) (asc_cons (by decide) asc_nil))
theorem asc_ok {l : List Nat} (h : Asc l) : SeqAt.shaped (.str (mkS l)) = true := by
  refine (fit_str (n := 0) ?_).shaped
  show (mkS l).cps.all (· < 0x110000) = true
  unfold mkS
  simp only [List.all_toArray, List.all_eq_true, decide_eq_true_iff]
  intro c hc
  have := h c hc
  omega
def fNumberOf : List PyData → A → Prop := fun ds r => ∃ n : Nat, n < 10 ^ 60 ∧ ds = [.str (mkS (numL n))] ∧ r = .d (.int (n : Nat))
theorem figs (n : Nat) : (numL n).map (fun c => PyData.bool (decide (c ∈ (("0123456789" : Str)).cps.toList))) = ((numL n).map fun _ => true).map .bool := by
  rw [List.map_map]
  refine List.map_congr_left fun c hc => ?_
  have h := numL_digits n c hc
  have e : (("0123456789" : Str)).cps.toList = [48, 49, 50, 51, 52, 53, 54, 55, 56, 57] := by decide +kernel
  rw [e]
  refine congrArg PyData.bool (decide_eq_true ?_)
  simp only [List.mem_cons, List.not_mem_nil, or_false]
  omega
theorem all_true (l : List Nat) : (l.map fun _ => true).all id = true := by
  rw [List.all_map]
  exact List.all_eq_true.mpr fun _ _ => rfl
def fPowerOf : List PyData → A → Prop := fun ds r => ∃ p : Int, p.natAbs < 10 ^ 60 ∧ ds = [.str (mkS (powL p))] ∧ r = .d (.int p)
theorem intL_head {p : Int} (h : 0 ≤ p) : ∃ c r, intL p = c :: r ∧ c ≠ 45 := by
  unfold intL
  rw [if_neg (by omega)]
  have h1 := numL_ne p.natAbs
  have h2 := numL_digits p.natAbs
  cases e : numL p.natAbs with
  | nil => exact absurd e h1
  | cons c r =>
    rw [e] at h2
    have := h2 c List.mem_cons_self
    exact ⟨c, r, rfl, by omega⟩
theorem eqv_str (a b : List Nat) : PyData.eqv (.str (mkS a)) (.str (mkS b)) = decide (a = b) := by
  rw [eqE_str (mkS a) (mkS b)]
  rw [Bool.eq_iff_iff, decide_eq_true_iff, decide_eq_true_iff]
  exact ⟨fun h => mkS_inj h, fun h => by rw [h]⟩
theorem asc_pow (p : Int) : Asc (powL p) := by
  unfold powL
  split
  · exact asc_nil
  · exact asc_cons (by decide) (asc_int _)
theorem cut_from (l : List Nat) {k : Nat} (h : k ≤ l.length) : cutS (mkS l) (some (k : Int)) none = mkS (l.drop k) := by
  unfold cutS
  rw [HT.sIx_nat, HT.sIx_none, mkS_len, Nat.min_eq_left h]
  show mkS (((tl (mkS l)).drop k).take (l.length - k)) = _
  rw [tl_mkS, List.take_of_length_le (by rw [List.length_drop]; exact Nat.le_refl _)]
theorem cut_to (l : List Nat) {k : Nat} (h : k ≤ l.length) : cutS (mkS l) none (some (k : Int)) = mkS (l.take k) := by
  unfold cutS
  rw [HT.sIx_nat, HT.sIx_none, mkS_len, Nat.min_eq_left h]
  show mkS (((tl (mkS l)).drop 0).take (k - 0)) = _
  rw [tl_mkS]
  rfl
theorem cut_sub (l : List Nat) {k j : Nat} (h : k ≤ l.length) (hj : j ≤ l.length) : cutS (mkS l) (some (k : Int)) (some (j : Int)) = mkS ((l.drop k).take (j - k)) := by
  unfold cutS
  rw [HT.sIx_nat, HT.sIx_nat, mkS_len, Nat.min_eq_left h, Nat.min_eq_left hj]
  show mkS (((tl (mkS l)).drop k).take (j - k)) = _
  rw [tl_mkS]
def fTermOf : List PyData → A → Prop := fun ds r => ∃ (t : Th.Tm) (s : Int), TmB t ∧ t.2 ≠ 0 ∧ s = (if t.2 < 0 then -1 else 1) ∧ ds = [.str (mkS (bodyL t.1 t.2)), .int s] ∧ r = .d (encT t)
theorem asc_head (p n : Int) : Asc (headL p n) := by
  unfold headL
  split
  · exact asc_nil
  · exact asc_num _
theorem sg_mul {n s : Int} (h : s = (if n < 0 then -1 else 1)) : s * (n.natAbs : Int) = n := by
  subst h
  split <;> omega
/-! bounds of what is drawn -/
structure PBd (m : Int) (i : Nat) (t : PSt) : Prop where
  pw : ∀ u ∈ t.acc, u.1.natAbs ≤ (i + 1) * (m.natAbs / 1000 + 4)
  nm : ∀ u ∈ t.acc, u.2.natAbs ≤ m.natAbs
  p : t.p.natAbs ≤ (i + 1) * (m.natAbs / 1000 + 4)
theorem numV_bd4 {s : Int × Int} {m : Int} (hm : 4 ≤ m) : -m ≤ numV s m ∧ numV s m ≤ m := by
  unfold numV
  split
  · have := tkV_lo (s := tkS s 3) (b := 9) (by decide)
    have := tkV_hi (s := tkS s 3) (b := 9) (by decide)
    omega
  · have h1 := emod_lo (a := (nm7 s).1) (b := m + 1) (by omega)
    have h2 := emod_hi (a := (nm7 s).1) (b := m + 1) (by omega)
    have hd := (nmDiv_pos (tkV_lo (s := (nm7 s).2) (b := 3) (by decide)) (tkV_hi (by decide))).1
    have h3 : 0 ≤ nmQ s m := Int.ediv_nonneg h1 (by omega)
    have h4 : nmQ s m ≤ m := by
      unfold nmQ
      refine Int.le_trans (Int.ediv_le_self _ h1) (by omega)
    have hi0 := tkV_lo (s := tkS (nm7 s).2 3) (b := 2) (by decide)
    have hi1 := tkV_hi (s := tkS (nm7 s).2 3) (b := 2) (by decide)
    generalize tkV (tkS (nm7 s).2 3) 2 = i at *
    have : i = 0 ∨ i = 1 := by omega
    rcases this with rfl | rfl
    · show -m ≤ nmQ s m ∧ nmQ s m ≤ m
      omega
    · show -m ≤ 0 - nmQ s m ∧ 0 - nmQ s m ≤ m
      omega
theorem gapV_hi {s : Int × Int} {m : Int} (hm : 0 ≤ m) : gapV s m ≤ m / 1000 + 3 := by
  unfold gapV
  have h1 := tkV_hi (s := s) (b := 4) (by decide)
  have h2 := tkV_hi (s := tkS s 4) (b := 1 + m / 1000) (by omega)
  have h3 := tkV_lo (s := tkS (tkS s 4) (1 + m / 1000)) (b := 4) (by decide)
  have h4 := tkV_hi (s := tkS (tkS s 4) (1 + m / 1000)) (b := 4) (by decide)
  generalize tkV (tkS (tkS s 4) (1 + m / 1000)) 4 = i at *
  have : i = 0 ∨ i = 1 ∨ i = 2 ∨ i = 3 := by omega
  rcases this with rfl | rfl | rfl | rfl
  · exact show (0 : Int) ≤ m / 1000 + 3 by omega
  · exact show (1 : Int) ≤ m / 1000 + 3 by omega
  · exact show tkV s 4 ≤ m / 1000 + 3 by omega
  · exact show tkV (tkS s 4) (1 + m / 1000) ≤ m / 1000 + 3 by omega
theorem pbd_step {m : Int} {i : Nat} {t : PSt} (hm : 4000 ≤ m) (h : PBd m i t) : PBd m (i + 1) (polyStep m t) := by
  have hg := gapV_lo (s := numS t.s m) (m := m) (by omega)
  have hg2 := gapV_hi (s := numS t.s m) (m := m) (by omega)
  have hv := numV_bd4 (s := t.s) (m := m) (by omega)
  have hp := h.p
  have e : (i + 1 + 1) * (m.natAbs / 1000 + 4) = (i + 1) * (m.natAbs / 1000 + 4) + (m.natAbs / 1000 + 4) := Nat.succ_mul _ _
  have hmn : ((m.natAbs / 1000 : Nat) : Int) = m / 1000 := by omega
  refine ⟨?_, ?_, ?_⟩
  · show ∀ u ∈ (if numV t.s m = 0 then t.acc else t.acc ++ [(t.p, numV t.s m)]), _
    rw [e]
    split
    · intro u hu
      have := h.pw u hu
      omega
    · intro u hu
      rcases List.mem_append.mp hu with hu | hu
      · have := h.pw u hu
        omega
      · rw [List.mem_singleton.mp hu]
        show t.p.natAbs ≤ _
        omega
  · show ∀ u ∈ (if numV t.s m = 0 then t.acc else t.acc ++ [(t.p, numV t.s m)]), _
    split
    · exact h.nm
    · intro u hu
      rcases List.mem_append.mp hu with hu | hu
      · exact h.nm u hu
      · rw [List.mem_singleton.mp hu]
        show (numV t.s m).natAbs ≤ _
        omega
  · show (t.p + 1 + gapV (numS t.s m) m).natAbs ≤ _
    rw [e]
    omega
theorem pbd_fold {m : Int} (hm : 4000 ≤ m) {t0 : PSt} (h : PBd m 0 t0) : ∀ n : Nat, PBd m n ((List.range n).foldl (fun u _ => polyStep m u) t0)
  | 0 => h
  | n + 1 => by
    rw [List.range_succ, List.foldl_append]
    exact pbd_step hm (pbd_fold hm h n)
theorem pbd_poly0 (s : Int × Int) {m : Int} (t : Int) (hm : 4000 ≤ m) : PBd m 0 (poly0 s m t) := by
  have hv := numV_bd4 (s := s) (m := m / 1000) (by omega)
  refine ⟨(fun _ z => nomatch z), (fun _ z => nomatch z), ?_⟩
  show (numV s (m / 1000)).natAbs ≤ _
  omega
theorem polyL_tm {s : Int × Int} : ∀ u ∈ polyL s (10 ^ 60 - 1) 8, TmB u := fun u hu => by
  have h := pbd_fold (m := 10 ^ 60 - 1) (by decide) (pbd_poly0 s 8 (by decide)) (polyN s (10 ^ 60 - 1) 8)
  have hn := polyN_le (s := s) (m := 10 ^ 60 - 1) (t := 8) (by decide)
  have h1 := h.pw u hu
  have h2 := h.nm u hu
  have e : ((10 ^ 60 - 1 : Int)).natAbs = 10 ^ 60 - 1 := by decide
  rw [e] at h1 h2
  have hn2 : polyN s (10 ^ 60 - 1) 8 + 1 ≤ 9 := by omega
  have h3 := Nat.le_trans h1 (Nat.mul_le_mul_right ((10 ^ 60 - 1) / 1000 + 4) hn2)
  exact ⟨Nat.lt_of_le_of_lt h3 (by decide), Nat.lt_of_le_of_lt h2 (by decide)⟩
structure LBd (i : Nat) (t : PSt) : Prop where
  pw : ∀ u ∈ t.acc, u.1.natAbs ≤ 10 ^ 9 + 3 * i
  nm : ∀ u ∈ t.acc, u.2.natAbs ≤ 9
  p : t.p.natAbs ≤ 10 ^ 9 + 3 * i
theorem lbd_step {i : Nat} {t : PSt} (h : LBd i t) : LBd (i + 1) (longStep t) := by
  obtain ⟨h1, h2, h3⟩ := longV_bd t.s
  have t0 := tkV_lo (s := tkS (tkS t.s 2) 9) (b := 3) (by decide)
  have t1 := tkV_hi (s := tkS (tkS t.s 2) 9) (b := 3) (by decide)
  have hp := h.p
  refine ⟨fun u hu => ?_, fun u hu => ?_, ?_⟩
  · rcases List.mem_append.mp hu with hu | hu
    · have := h.pw u hu
      omega
    · rw [List.mem_singleton.mp hu]
      show t.p.natAbs ≤ _
      omega
  · rcases List.mem_append.mp hu with hu | hu
    · exact h.nm u hu
    · rw [List.mem_singleton.mp hu]
      show (longV t.s).natAbs ≤ _
      omega
  · show (t.p + 1 + tkV (tkS (tkS t.s 2) 9) 3).natAbs ≤ _
    omega
theorem lbd_fold {t0 : PSt} (h : LBd 0 t0) : ∀ n : Nat, LBd n ((List.range n).foldl (fun u _ => longStep u) t0)
  | 0 => h
  | n + 1 => by
    rw [List.range_succ, List.foldl_append]
    exact lbd_step (lbd_fold h n)
theorem longL_tm {s : Int × Int} : ∀ u ∈ longL s 9 90, TmB u := fun u hu => by
  have hv := numV_bd4 (s := s) (m := 10 ^ 9) (by decide)
  have h := lbd_fold (t0 := long0 s 9 90) ⟨(fun _ z => nomatch z), (fun _ z => nomatch z), by show (numV s (10 ^ 9)).natAbs ≤ _; omega⟩ (longN s 9 90)
  have hn := longN_le (s := s) (a := 9) (b := 90) ⟨by decide, by decide⟩
  have h1 := h.pw u hu
  have h2 := h.nm u hu
  exact ⟨by omega, by omega⟩
/-! reading -/
structure Sg (K : PySem.W.Frag) (w : World) (mg : Str → Option Value) where
  sd : Addr
  es : Array DictEntry
  sn : Nat
  D : KDict K w sd es sn
  gS : mg "SIGNS" = some (.ref sd)
  t1 : Tok
  t2 : Tok
  p1 : PySem.W.nsIn K sd (mkS [43]) = some (some (.int 1 t1))
  p2 : PySem.W.nsIn K sd (mkS [45]) = some (some (.int (-1) t2))
theorem Sg.at {K : PySem.W.Frag} {w : World} {mg : Str → Option Value} (Z : Sg K w mg) (n : Int) : ∃ t, PySem.W.nsIn K Z.sd (mkS [sgL n]) = some (some (.int (if n < 0 then -1 else 1) t)) := by
  unfold sgL
  split
  · exact ⟨_, Z.p2⟩
  · exact ⟨_, Z.p1⟩
def GoodL (l : List Th.Tm) : Prop := Can l ∧ l.length ≤ 1000 ∧ ∀ t ∈ l, TmB t
def fTermsOf : List PyData → A → Prop := fun ds r => ∃ l : List Th.Tm, l ≠ [] ∧ GoodL l ∧ ds = [.str (mkS (shownL l))] ∧ r = .d (encP l)
def fReadPoly : List PyData → A → Prop := fun ds r => ∃ l : List Th.Tm, GoodL l ∧ ds = [.str (mkS (shownL l))] ∧ r = .d (encP l)
def fDueText : List PyData → A → Prop := fun ds r => ∃ l : List Th.Tm, l.length ≤ 1000 ∧ (∀ t ∈ l, TmB t) ∧ ds = [encP l] ∧ r = .d (.str (mkS (shownL l)))
theorem shownL_len {l : List Th.Tm} (hl : l.length ≤ 1000) (hb : ∀ t ∈ l, TmB t) : (shownL l).length ≤ 133001 := by
  cases l with
  | nil => decide
  | cons t l =>
    have := sh_len (t :: l) [] 0 hb (Nat.le_refl _)
    rw [← sh_all]
    omega
theorem shownL_asc (l : List Th.Tm) : Asc (shownL l) := by
  cases l with
  | nil => exact asc_cons (by decide) asc_nil
  | cons t l =>
    rw [← sh_all]
    have : ∀ (l : List Th.Tm) (f : List Nat), Asc f → Asc (l.foldl shStep f) := fun l => by
      induction l with
      | nil => exact fun f h => h
      | cons u l ih => exact fun f h => ih _ (asc_step h u)
    exact this _ _ asc_nil
theorem bodyL_head (t : Th.Tm) : ∃ c r, bodyL t.1 t.2 = c :: r ∧ c ≠ 45 ∧ 0 < (bodyL t.1 t.2).length := by
  have hne := bodyL_ne t
  cases e : bodyL t.1 t.2 with
  | nil => exact absurd e hne
  | cons c r =>
    refine ⟨c, r, rfl, fun z => ?_, Nat.zero_lt_succ _⟩
    subst z
    have h2 := numL_digits t.2.natAbs
    unfold bodyL headL at e
    split at e
    · rename_i h
      rw [if_neg h.1] at e
      cases e
    · have h1 := numL_ne t.2.natAbs
      cases e3 : numL t.2.natAbs with
      | nil => exact absurd e3 h1
      | cons d q =>
        rw [e3] at e h2
        have e : d :: (q ++ _) = 45 :: r := e
        injection e with e _
        have := h2 d List.mem_cons_self
        omega
theorem shown_take {t : Th.Tm} {l : List Th.Tm} : (shownL (t :: l)).take 1 = if t.2 < 0 then [45] else (bodyL t.1 t.2).take 1 := by
  obtain ⟨c, r, e, _, _⟩ := bodyL_head t
  show (((if t.2 < 0 then [45] else []) ++ bodyL t.1 t.2 ++ restL l)).take 1 = _
  split
  · rfl
  · rw [e]
    rfl
theorem shown_ne0 {t : Th.Tm} {l : List Th.Tm} (h : t.2 ≠ 0) (z : shownL (t :: l) = [48]) : False := by
  have hb : (bodyL t.1 t.2).length = 1 ∧ bodyL t.1 t.2 = [48] := by
    have z : (if t.2 < 0 then [45] else []) ++ bodyL t.1 t.2 ++ restL l = [48] := z
    obtain ⟨c, r, e, _, _⟩ := bodyL_head t
    rw [e] at z ⊢
    split at z
    · cases z
    · have z : c :: (r ++ restL l) = [48] := z
      injection z with z1 z2
      have := (List.append_eq_nil_iff.mp z2).1
      subst z1 this
      exact ⟨rfl, rfl⟩
  obtain ⟨_, e⟩ := hb
  unfold bodyL at e
  by_cases h0 : t.1 = 0
  · rw [if_pos h0, List.append_nil] at e
    unfold headL at e
    rw [if_neg (by rintro ⟨z, _⟩; exact z h0)] at e
    have h2 := numL_inj (m := t.2.natAbs) (n := 0) (e.trans (by decide))
    omega
  · rw [if_neg h0] at e
    have h3 : 120 ∈ ([48] : List Nat) := by
      rw [← e]
      exact List.mem_append_right _ List.mem_cons_self
    revert h3
    decide
theorem words_sp (t : Th.Tm) (l : List Th.Tm) : Txt.split (mkS (bodyL t.1 t.2 ++ restL l)) (" " : Str) = (wordsL (t :: l)).map mkS := words_split t l
def rowW (l : List Th.Tm) : List PyData := l.flatMap fun t => [PyData.str (mkS [sgL t.2]), .str (mkS (bodyL t.1 t.2))]
theorem flat2_len {α β : Type} (f g : α → β) : ∀ l : List α, (l.flatMap fun t => [f t, g t]).length = 2 * l.length
  | [] => rfl
  | t :: l => by
    simp only [List.flatMap_cons, List.length_append, List.length_cons, List.length_nil, flat2_len f g l]
    omega
theorem words_len (t : Th.Tm) (l : List Th.Tm) : (wordsL (t :: l)).length = 2 * l.length + 1 := by
  show (_ :: List.flatMap _ l).length = _
  rw [List.length_cons, flat2_len]
theorem rowW_len (t : Th.Tm) (l : List Th.Tm) : (rowW (t :: l)).length = 2 * (l.length + 1) := flat2_len _ _ (t :: l)
theorem rowW_eq (t : Th.Tm) (l : List Th.Tm) : [PyData.str (mkS [sgL t.2])] ++ ((wordsL (t :: l)).map mkS).map PyData.str = rowW (t :: l) := by
  show _ :: ((bodyL t.1 t.2 :: List.flatMap _ l).map mkS).map PyData.str = _ :: _ :: List.flatMap _ l
  rw [List.map_cons, List.map_cons, List.map_map, List.map_flatMap]
  rfl
def encSW (t : Th.Tm) : PyData := .tuple [.str (mkS [sgL t.2]), .str (mkS (bodyL t.1 t.2))]
theorem flat2_get {α β : Type} (f g : α → β) : ∀ (l : List α) (i : Nat), (l.flatMap fun t => [f t, g t])[2 * i]? = (l[i]?).map f ∧ (l.flatMap fun t => [f t, g t])[2 * i + 1]? = (l[i]?).map g
  | [], i => ⟨rfl, rfl⟩
  | t :: l, 0 => ⟨rfl, rfl⟩
  | t :: l, i + 1 => flat2_get f g l i
theorem range_fm {α β : Type} (f : α → β) : ∀ l : List α, (List.range l.length).filterMap (fun i => (l[i]?).map f) = l.map f := fun l => by
  have h : (List.range l.length).map (fun i => (l[i]?).map f) = l.map fun t => some (f t) := by
    refine List.ext_getElem? fun i => ?_
    rw [List.getElem?_map, List.getElem?_map]
    by_cases hi : i < l.length
    · rw [List.getElem?_range hi, List.getElem?_eq_getElem hi]
      show some ((l[i]?).map f) = _
      rw [List.getElem?_eq_getElem hi]
      rfl
    · rw [List.getElem?_eq_none (by rw [List.length_range]; omega), List.getElem?_eq_none (by omega)]
      rfl
  have e : ∀ m : List Nat, m.filterMap (fun i => (l[i]?).map f) = (m.map fun i => (l[i]?).map f).filterMap id := fun m => by
    rw [List.filterMap_map]
    rfl
  rw [e, h, List.filterMap_map]
  show l.filterMap (fun t => some (f t)) = _
  rw [List.filterMap_eq_map']
theorem fm_congr {α β : Type} {f g : α → Option β} : ∀ {l : List α}, (∀ x ∈ l, f x = g x) → l.filterMap f = l.filterMap g
  | [], _ => rfl
  | x :: l, h => by
    rw [List.filterMap_cons, List.filterMap_cons, h x List.mem_cons_self, fm_congr fun y hy => h y (List.mem_cons_of_mem _ hy)]
theorem rowW_zip (t : Th.Tm) (l : List Th.Tm) : zipD (pickL (rowW (t :: l)) none 2) (pickL (rowW (t :: l)) (some 1) 2) = (t :: l).map encSW := by
  rw [pick_even (rowW_len t l), pick_odd (rowW_len t l)]
  have e1 : (List.range (l.length + 1)).filterMap (fun i => (rowW (t :: l))[2 * i]?) = (t :: l).map fun t => PyData.str (mkS [sgL t.2]) := by
    rw [← range_fm]
    refine fm_congr fun i _ => (flat2_get _ _ (t :: l) i).1
  have e2 : (List.range (l.length + 1)).filterMap (fun i => (rowW (t :: l))[2 * i + 1]?) = (t :: l).map fun t => PyData.str (mkS (bodyL t.1 t.2)) := by
    rw [← range_fm]
    refine fm_congr fun i _ => (flat2_get _ _ (t :: l) i).2
  rw [e1, e2]
  unfold zipD
  rw [List.zip_map', List.map_map]
  rfl
theorem src_zl2 {X : Cx} {ρ ρ1 ρ2 : Rho} {e1 e2 : Expr} {pos : Pos} {xs ys zs : List PyData} {p : Pos} {elts : List Expr} {kk : Nat} {tpos : Pos} (h : Th.E X e1 ρ (.d (.list xs)) ρ1) (h2 : Th.E X e2 ρ1 (.d (.list ys)) ρ2) (q : zipD xs ys = zs) (hm : X.mg "zip" = none) (hg : Gl X "zip" := by rfl) (hs : starEach [e1, e2] X.env = (false, eval e1 X.env) :: starEach [e2] X.env := by rfl)
    (hs2 : starEach [e2] X.env = (false, eval e2 X.env) :: starEach [] X.env := by rfl) (hpl : (backTo pos (starEach [e2] X.env)).any (·.1) = false := by rfl) : Src X (.Tuple elts kk tpos) (.Call (.Name "zip" p) [e1, e2] [] pos) ρ zs ρ2 none := q ▸ src_zipL h h2 hm hg hs hs2 hpl
/-! the text, word by word -/
abbrev wE (w : List Nat) : PyData := .str (mkS w)
def tw (W : List (List Nat)) (t : Th.Tm) : List (List Nat) := (if W.length = 0 then W else W ++ [[sgL t.2]]) ++ [if W.length = 0 ∧ t.2 < 0 then 45 :: bodyL t.1 t.2 else bodyL t.1 t.2]
structure TwJ (W : List (List Nat)) (i : Nat) : Prop where
  len : W.length ≤ 2 * i
  bd : (W.map (·.length)).sum ≤ 140 * i
theorem twJ0 : TwJ [] 0 := ⟨Nat.le_refl _, Nat.le_refl _⟩
theorem twJ_step {W : List (List Nat)} {i : Nat} {t : Th.Tm} (h : TwJ W i) (hb : TmB t) : TwJ (tw W t) (i + 1) := by
  have h1 := h.len
  have h2 := h.bd
  have h3 := bodyL_len hb
  have h4 : (if W.length = 0 ∧ t.2 < 0 then 45 :: bodyL t.1 t.2 else bodyL t.1 t.2).length ≤ 131 := by
    split
    · rw [List.length_cons]; omega
    · omega
  refine ⟨?_, ?_⟩
  · unfold tw
    rw [List.length_append, List.length_singleton]
    split
    · omega
    · rw [List.length_append, List.length_singleton]; omega
  · unfold tw
    rw [List.map_append, List.sum_append]
    show _ + ((if W.length = 0 ∧ t.2 < 0 then 45 :: bodyL t.1 t.2 else bodyL t.1 t.2).length + 0) ≤ _
    by_cases h0 : W.length = 0
    · rw [if_pos h0]
      omega
    · rw [if_neg h0, List.map_append, List.sum_append]
      show _ + (1 + 0) + _ ≤ _
      omega
theorem tw_rest : ∀ (l : List Th.Tm) (W : List (List Nat)), W.length ≠ 0 → l.foldl tw W = W ++ l.flatMap fun t => [[sgL t.2], bodyL t.1 t.2]
  | [], W, _ => by
    rw [List.flatMap_nil, List.append_nil]
    rfl
  | t :: l, W, h => by
    have e : tw W t = W ++ [[sgL t.2], bodyL t.1 t.2] := by
      unfold tw
      rw [if_neg h, if_neg (fun z => h z.1), List.append_assoc]
      rfl
    rw [List.foldl_cons, e, tw_rest l _ (by rw [List.length_append]; show _ + 2 ≠ 0; omega), List.flatMap_cons, List.append_assoc]
theorem tw_end (l : List Th.Tm) : (l ≠ [] → l.foldl tw [] ≠ [] ∧ Txt.join (" " : Str) ((l.foldl tw []).map mkS) = mkS (shownL l)) ∧ (l = [] → l.foldl tw [] = []) := by
  refine ⟨fun h => ?_, fun h => by rw [h]; rfl⟩
  cases l with
  | nil => exact absurd rfl h
  | cons t l =>
    have e1 : (t :: l).foldl tw [] = [if t.2 < 0 then 45 :: bodyL t.1 t.2 else bodyL t.1 t.2] ++ l.flatMap fun t => [[sgL t.2], bodyL t.1 t.2] := by
      have e0 : tw [] t = [if t.2 < 0 then 45 :: bodyL t.1 t.2 else bodyL t.1 t.2] := by
        unfold tw
        simp
      rw [List.foldl_cons, e0, tw_rest l _ (by rw [List.length_singleton]; decide)]
    rw [e1]
    refine ⟨(fun z => nomatch z), ?_⟩
    refine ext_tl ?_
    rw [join_eq, tl_join, map_tl, tl_mkS]
    refine (join_rest l _).trans ?_
    show _ = (if t.2 < 0 then [45] else []) ++ bodyL t.1 t.2 ++ restL l
    split <;> rfl
theorem tw_asc : ∀ (l : List Th.Tm) (W : List (List Nat)), (∀ w ∈ W, Asc w) → ∀ w ∈ l.foldl tw W, Asc w
  | [], W, h => h
  | t :: l, W, h => tw_asc l (tw W t) fun w hw => by
    unfold tw at hw
    rcases List.mem_append.mp hw with hw | hw
    · split at hw
      · exact h w hw
      · rcases List.mem_append.mp hw with hw | hw
        · exact h w hw
        · rw [List.mem_singleton.mp hw]
          exact asc_cons (asc_sg _) asc_nil
    · rw [List.mem_singleton.mp hw]
      split
      · exact asc_cons (by decide) (asc_body _ _)
      · exact asc_body _ _
theorem fitW {W : List (List Nat)} (h : ∀ w ∈ W, Asc w) : SeqAt.shaped (.list (W.map wE)) = true := by
  refine (fit_lm (n := 0) fun w hw => fit_str ?_).shaped
  show (mkS w).cps.all (· < 0x110000) = true
  unfold mkS
  simp only [List.all_toArray, List.all_eq_true, decide_eq_true_iff]
  intro c hc
  have := h w hw c hc
  omega
theorem eqE_w : EqE wE := fun a b => eqv_str a b
section
variable {P : Program} {w : World} {K : PySem.W.Frag} {mg : Str → Option Value} {base : Heap}
theorem ok_take {f : Addr} {fd : FuncData} {k : Nat} (F : Fun K "_law_take" "_law_take" sTake f fd) (T : Txt K mg) : FnOk P w K mg base CX0 (k + 1) f fd ["_law_row", "_law_base"] (spA K fTake) := by
  refine fn_ok F scTake (fun as r as' h => by obtain ⟨_, _, _, _, rfl, _⟩ := h; rfl) (by decide) [0] (fun as r as' h i a e o => by
    obtain ⟨_, _, _, _, rfl, _⟩ := h
    exact own_1 (ds := [_]) e o) (fun cdv A1 outer s H W B as r as' hr hf hB => ?_)
  obtain ⟨p, b, hn, ⟨hb, hb2⟩, rfl, rfl, rfl⟩ := hf
  have hu := hr.units
  refine ss_cons (s_setL 0 (xs := [.int p.1, .int p.2]) (e_add (e_ixL (o_slot 0 rfl) e_int (v := .int p.2) rfl) e_int) e_int ⟨_, rfl⟩ rfl (j := 1) rfl ?_)
  refine ss_cons (s_if (t_gt (e_ixL (o_slot 0 rfl) e_int (v := .int p.1) rfl) (e_pow e_int e_int ⟨by decide, by decide, by decide⟩)) (fun hc => ?_) (fun hc => ?_))
  · have hc' : (10 : Int) ^ 18 < p.1 := of_decide_eq_true hc
    refine ss_cons (s_set 2 (e_sub (e_ixL (o_slot 0 rfl) e_int (v := .int p.1) rfl) (e_pow e_int e_int ⟨by decide, by decide, by decide⟩)) ?_ (nl hB) scTake.nd)
    refine ss_cons (s_setL 0 (e_add (e_pow e_int e_int ⟨by decide, by decide, by decide⟩) (e_div (e_var 2 rfl) (e_var 1 rfl) (wide_div hb hb2 (by decide) (by decide)))) e_int ⟨_, rfl⟩ rfl (j := 0) rfl ?_)
    refine ss_one (s_ret (e_mod (e_var 2 rfl) (e_var 1 rfl) hb) (pr_1 (ds := [.int b]) ?_ ?_))
    · unfold tkV
      rw [if_pos hc']
      rfl
    · unfold tkS tkC
      rw [if_pos hc']
      rfl
  · have hc' : ¬ (10 : Int) ^ 18 < p.1 := of_decide_eq_false hc
    refine ss_nil ?_
    refine ss_cons (s_set 3 (e_mod (e_add (e_add (e_mulS (e_ixL (o_slot 0 rfl) e_int (v := .int p.1) rfl) e_int (.inr ⟨by decide, by decide⟩)) (e_mulS (e_mulS e_int (e_ixL (o_slot 0 rfl) e_int (v := .int (p.2 + 1)) rfl) (.inl ⟨by decide, by decide⟩)) (e_ixL (o_slot 0 rfl) e_int (v := .int (p.2 + 1)) rfl) (.inr ⟨by omega, by omega⟩))) e_int) e_int (by decide)) ?_ (nl hB) scTake.nd)
    have h1 := tkU_lo p
    have h2 := tkU_hi p
    refine ss_cons (s_set 3 (e_mod (e_add (e_add (e_mulS (i := tkU p) (e_var 3 rfl) (e_var 3 rfl) (.inr ⟨by omega, by omega⟩)) (e_mulS e_int (e_ixL (o_slot 0 rfl) e_int (v := .int (p.2 + 1)) rfl) (.inl ⟨by decide, by decide⟩))) e_int) e_int (by decide)) ?_ (nl hB) scTake.nd)
    refine ss_one (s_ret (e_mod (e_div (e_var 3 rfl) e_int ⟨by decide, by decide⟩) (e_var 1 rfl) hb) (pr_1 (ds := [.int b]) ?_ ?_))
    · unfold tkV
      rw [if_neg hc']
      rfl
    · unfold tkS tkC
      rw [if_neg hc']
      rfl
theorem ok_number {f : Addr} {fd : FuncData} {k : Nat} (F : Fun K "_law_number" "_law_number" sNumber f fd) (T : Txt K mg) : FnOk P w K mg base CX0 (k + 2) f fd ["_law_row", "_law_most"] (spA K fNumber) := by
  have GTake := ok_take (P := P) (w := w) (base := base) (k := 0) T.FTake T
  refine fn_ok F scNumber (fun as r as' h => by obtain ⟨_, _, _, _, rfl, _⟩ := h; rfl) (by decide) [0] (fun as r as' h i a e o => by
    obtain ⟨_, _, _, _, rfl, _⟩ := h
    exact own_1 (ds := [_]) e o) (fun cdv A1 outer s H W B as r as' hr hf hB => ?_)
  obtain ⟨p, m, hn, hm, rfl, rfl, rfl⟩ := hf
  have hm1 := hm.1
  refine ss_cons (s_if (t_gt (e_take 0 (s := p) GTake (hr.mono (by omega)) T.gTake T.FTake.kp T.bTake e_int ⟨_, rfl, rfl⟩ rfl) e_int) (fun hc => ?_) (fun hc => ?_))
  · have hc' : 0 < tkV p 3 := of_decide_eq_true hc
    refine ss_one (s_ret (e_sub (e_take 0 (s := tkS p 3) GTake (hr.mono (by omega)) T.gTake T.FTake.kp T.bTake e_int ⟨_, rfl, rfl⟩ rfl) e_int) (pr_1 (ds := [.int m]) ?_ ?_))
    · unfold numV
      rw [if_pos hc']
    · unfold numS
      rw [if_pos hc']
      rfl
  have hc' : ¬ 0 < tkV p 3 := of_decide_eq_false hc
  refine ss_nil ?_
  refine ss_cons (s_set 2 e_int ?_ (nl hB) scNumber.nd)
  refine ss_cons (s_forF encN (xs := List.range 7) (src_rN (n := 7) e_int T.z_range (by decide)) ((0, tkS p 3) : Int × (Int × Int)) (fun t _ => nmStep t) (fun t => [rowA t.2, .d (.int m), .d (.int t.1), .any]) (fun t i => t.2.2 = p.2 + 1 + i) (by rw [tkS_n]; omega) (Le.refl _) (fun t i x hi hJ => ?_) (fun ρ' hJ l => ?_))
  · have hj := (range_get hi).1
    refine ⟨?_, _, g_name 3 (nl hB) scNumber.nd, ?_⟩
    · unfold nmStep
      rw [tkS_n]
      omega
    refine ss_one (s_set 2 (e_add (e_mulS (e_var 2 rfl) (e_pow e_int e_int ⟨by decide, by decide, by decide⟩) (.inr ⟨by decide, by decide⟩)) (e_take 0 (s := t.2) GTake (hr.mono (by omega)) T.gTake T.FTake.kp T.bTake (e_pow e_int e_int ⟨by decide, by decide, by decide⟩) ⟨_, rfl, rfl⟩ rfl)) ?_ (nl hB) scNumber.nd)
    exact .eq (.eq (.eq (.any .nil)))
  refine Ex.toLe ?_ l
  have e7 : List.foldl (fun t x => nmStep t) (0, tkS p 3) (List.range 7) = nm7 p := rfl
  rw [e7]
  have h7 := nm7_n p
  have hd := nmDiv_pos (tkV_lo (s := (nm7 p).2) (b := 3) (by decide)) (tkV_hi (by decide))
  refine ss_cons (s_set 2 (e_div (j := nmDiv (tkV (nm7 p).2 3)) (e_mod (e_var 2 rfl) (e_add (e_var 1 rfl) e_int) (by omega)) (e_ixL (E.ol (e_lst (d_cons e_int (d_cons (e_pow e_int e_int ⟨by decide, by decide, by decide⟩) (d_cons (e_pow e_int e_int ⟨by decide, by decide, by decide⟩) d_nil))))) (e_take 0 (s := (nm7 p).2) GTake (hr.mono (by omega)) T.gTake T.FTake.kp T.bTake e_int ⟨_, rfl, rfl⟩ rfl) (at_i3 (tkV_lo (by decide)) (tkV_hi (by decide)))) (wide_div (by omega) hd.2 (by decide) (by decide))) ?_ (nl hB) scNumber.nd)
  refine ss_one (s_ret (e_ixL (E.ol (e_lst (d_cons (e_var 2 rfl) (d_cons (e_sub e_int (e_var 2 rfl)) d_nil)))) (e_take 0 (s := tkS (nm7 p).2 3) GTake (hr.mono (by omega)) T.gTake T.FTake.kp T.bTake e_int ⟨_, rfl, rfl⟩ rfl) (at_i2 (tkV_lo (by decide)) (tkV_hi (by decide)))) (pr_1 (ds := [.int m]) ?_ ?_))
  · unfold numV
    rw [if_neg hc']
    rfl
  · unfold numS
    rw [if_neg hc']
    rfl
theorem ok_polynomial {f : Addr} {fd : FuncData} {k : Nat} (F : Fun K "_law_polynomial" "_law_polynomial" sPolynomial f fd) (T : Txt K mg) : FnOk P w K mg base CX0 (k + 3) f fd ["_law_row", "_law_most", "_law_terms"] (spA K fPolynomial) := by
  have GNumber := ok_number (P := P) (w := w) (base := base) (k := 0) T.FNumber T
  have GTake := ok_take (P := P) (w := w) (base := base) (k := 0) T.FTake T
  refine fn_ok F scPolynomial (fun as r as' h => by obtain ⟨_, _, _, _, _, _, rfl, _⟩ := h; rfl) (by decide) [0] (fun as r as' h i a e o => by
    obtain ⟨_, _, _, _, _, _, rfl, _⟩ := h
    exact own_1 (ds := [_, _]) e o) (fun cdv A1 outer s H W B as r as' hr hf hB => ?_)
  obtain ⟨p, m, n, hn, hm, ⟨ht0, ht1⟩, rfl, rfl, rfl⟩ := hf
  have hm1 := hm.1
  have hm2 := hm.2
  have hmd : mostOk (m / 1000) := ⟨by omega, by omega⟩
  refine ss_cons (s_set 3 (e_lst d_nil) ?_ (nl hB) scPolynomial.nd)
  have hq := numS_n p (m / 1000)
  refine ss_cons (s_set 4 (e_call GNumber (hr.mono (by omega)) T.gNumber T.FNumber.kp T.bNumber (a_lent 0 rfl rfl (a_dat (e_div (e_var 1 rfl) e_int ⟨by decide, by decide⟩) a_nil)) ⟨p, m / 1000, ⟨by omega, by omega⟩, hmd, rfl, rfl, rfl⟩ shape_1 (show [0].Nodup by decide) (fun _ _ z => z.elim)) ?_ (nl hB) scPolynomial.nd)
  have hN := polyN_le (s := p) (m := m) ht0
  have h0 := pok_poly0 p m n
  refine ss_cons (s_forF encN (xs := List.range (polyN p m n)) (src_rN (E.to (e_take 0 (s := numS p (m / 1000)) GTake (hr.mono (by omega)) T.gTake T.FTake.kp T.bTake (e_add (e_var 2 rfl) e_int) ⟨_, rfl, rfl⟩ rfl (h0 := ⟨by omega, by omega⟩)) (congrArg PyData.int (Int.toNat_of_nonneg (tkV_lo (by omega))).symm)) T.z_range (by first | omega | (unfold polyN at hN; omega))) (poly0 p m n) (fun u _ => polyStep m u) (fun u => [rowA u.s, .d (.int m), .d (.int n), .ml (u.acc.map encT), .d (.int u.p), .any, .any]) (fun u i => POk m ((numS p (m / 1000)).2 + 1) i u) h0 (.eq (.eq (.eq (.eq (.eq (.eq (.eq .nil))))))) (fun u i x hi hJ => ?_) (fun ρ' hJ l => ?_))
  · have hj := (range_get hi).1
    have hl := hJ.len
    have hs := hJ.sn
    have hg := numS_n u.s m
    refine ⟨pok_step hm1 hJ, _, g_name 5 (nl hB) scPolynomial.nd, ?_⟩
    refine ss_cons (s_set 6 (e_call GNumber (hr.mono (by omega)) T.gNumber T.FNumber.kp T.bNumber (a_lent 0 rfl rfl (a_dat (e_var 1 rfl) a_nil)) ⟨u.s, m, ⟨by omega, by omega⟩, hm, rfl, rfl, rfl⟩ shape_1 (show [0].Nodup by decide) (fun _ _ z => z.elim)) ?_ (nl hB) scPolynomial.nd)
    refine ss_cons (s_ifR [rowA (numS u.s m), .d (.int m), .d (.int n), .ml ((if numV u.s m = 0 then u.acc else u.acc ++ [(u.p, numV u.s m)]).map encT), .d (.int u.p), .any, .any] (t_neI (e_var 6 rfl) e_int) (fun hc => ?_) (fun hc => ?_) (fun ρ' l => ?_))
    · refine ss_one (s_expr (e_app 3 (e_tup (d_cons (e_var 4 rfl) (d_cons (e_var 6 rfl) d_nil))) ⟨_, rfl⟩ rfl (by rw [List.length_map]; omega)) ?_)
      refine .eq (.eq (.eq (.ll ?_ (.eq (.any (.any .nil))))))
      rw [if_neg (by simpa using hc), List.map_append]
      rfl
    · refine ss_nil (.eq (.eq (.eq (.ll ?_ (.eq (.any (.any .nil)))))))
      rw [if_pos (by simpa using hc)]
    refine Ex.toLe ?_ l
    refine ss_one (s_set 4 (e_add (e_add (e_var 4 rfl) e_int) (e_ixL (v := .int (gapV (numS u.s m) m)) (E.ol (e_lst (d_cons e_int (d_cons e_int (d_cons (e_take 0 (s := numS u.s m) GTake (hr.mono (by omega)) T.gTake T.FTake.kp T.bTake e_int ⟨_, rfl, rfl⟩ rfl) (d_cons (e_take 0 (s := tkS (numS u.s m) 4) GTake (hr.mono (by omega)) T.gTake T.FTake.kp T.bTake (e_add e_int (e_div (e_var 1 rfl) e_int ⟨by decide, by decide⟩)) ⟨_, rfl, rfl⟩ rfl (h0 := ⟨by omega, by omega⟩)) d_nil)))))) (e_take 0 (s := tkS (tkS (numS u.s m) 4) (1 + m / 1000)) GTake (hr.mono (by omega)) T.gTake T.FTake.kp T.bTake e_int ⟨_, rfl, rfl⟩ rfl) (at_i4 (tkV_lo (by decide)) (tkV_hi (by decide))))) ?_ (nl hB) scPolynomial.nd)
    exact .eq (.eq (.eq (.eq (.eq (.any (.any .nil))))))
  refine Ex.toLe ?_ l
  exact ss_one (s_ret (e_tupL (o_slot 3 rfl) T.z_tuple) (pr_1 (ds := [.int m, .int n]) rfl rfl))
theorem ok_long {f : Addr} {fd : FuncData} {k : Nat} (F : Fun K "_law_long" "_law_long" sLong f fd) (T : Txt K mg) : FnOk P w K mg base CX0 (k + 3) f fd ["_law_row", "_law_fewest", "_law_most"] (spA K fLong) := by
  have GNumber := ok_number (P := P) (w := w) (base := base) (k := 0) T.FNumber T
  have GTake := ok_take (P := P) (w := w) (base := base) (k := 0) T.FTake T
  refine fn_ok F scLong (fun as r as' h => by obtain ⟨_, _, _, _, _, rfl, _⟩ := h; rfl) (by decide) [0] (fun as r as' h i a e o => by
    obtain ⟨_, _, _, _, _, rfl, _⟩ := h
    exact own_1 (ds := [_, _]) e o) (fun cdv A1 outer s H W B as r as' hr hf hB => ?_)
  obtain ⟨p, a, b, hn, ⟨ha, hab, hb⟩, rfl, rfl, rfl⟩ := hf
  have hq := numS_n p (10 ^ 9)
  have h0 := pok_long0 p a b
  have hN := longN_le (s := p) (a := a) (b := b) ⟨ha, hab⟩
  refine ss_cons (s_set 3 (e_call GNumber (hr.mono (by omega)) T.gNumber T.FNumber.kp T.bNumber (a_lent 0 rfl rfl (a_dat (e_pow e_int e_int ⟨by decide, by decide, by decide⟩) a_nil)) ⟨p, 10 ^ 9, ⟨by omega, by omega⟩, ⟨by decide, by decide⟩, rfl, rfl, rfl⟩ shape_1 (show [0].Nodup by decide) (fun _ _ z => z.elim)) ?_ (nl hB) scLong.nd)
  refine ss_cons (s_set 4 (e_lst d_nil) ?_ (nl hB) scLong.nd)
  refine ss_cons (s_forF encN (xs := List.range (longN p a b)) (src_rN (E.to (e_add (e_var 1 rfl) (e_take 0 (s := numS p (10 ^ 9)) GTake (hr.mono (by omega)) T.gTake T.FTake.kp T.bTake (e_add (e_sub (e_var 2 rfl) (e_var 1 rfl)) e_int) ⟨_, rfl, rfl⟩ rfl (h0 := ⟨by omega, by omega⟩))) (congrArg PyData.int (Int.toNat_of_nonneg (show 0 ≤ a + tkV (numS p (10 ^ 9)) (b - a + 1) by have := tkV_lo (s := numS p (10 ^ 9)) (b := b - a + 1) (by omega); omega)).symm)) T.z_range (by first | omega | (unfold longN at hN; omega))) (long0 p a b) (fun u _ => longStep u) (fun u => [rowA u.s, .d (.int a), .d (.int b), .d (.int u.p), .ml (u.acc.map encT), .any]) (fun u i => POk 5 ((numS p (10 ^ 9)).2 + 1) i u) h0 (.eq (.eq (.eq (.eq (.eq (.eq .nil)))))) (fun u i x hi hJ => ?_) (fun ρ' hJ l => ?_))
  · have hj := (range_get hi).1
    have hl := hJ.len
    have hs := hJ.sn
    refine ⟨pok_long hJ, _, g_name 5 (nl hB) scLong.nd, ?_⟩
    have t0 := tkV_lo (s := tkS u.s 2) (b := 9) (by decide)
    have t1 := tkV_hi (s := tkS u.s 2) (b := 9) (by decide)
    refine ss_cons (s_expr (e_app 4 (e_tup (d_cons (e_var 3 rfl) (d_cons (e_mulS (e_ixL (E.ol (e_lst (d_cons e_int (d_cons (e_neg e_int) d_nil)))) (e_take 0 (s := u.s) GTake (hr.mono (by omega)) T.gTake T.FTake.kp T.bTake e_int ⟨_, rfl, rfl⟩ rfl) (at_i2 (tkV_lo (by decide)) (tkV_hi (by decide)))) (e_add e_int (e_take 0 (s := tkS u.s 2) GTake (hr.mono (by omega)) T.gTake T.FTake.kp T.bTake e_int ⟨_, rfl, rfl⟩ rfl)) (.inr ⟨by omega, by omega⟩)) d_nil))) ⟨_, rfl⟩ rfl (by rw [List.length_map]; omega)) ?_)
    refine ss_one (s_set 3 (e_add (e_add (e_var 3 rfl) e_int) (e_take 0 (s := tkS (tkS u.s 2) 9) GTake (hr.mono (by omega)) T.gTake T.FTake.kp T.bTake e_int ⟨_, rfl, rfl⟩ rfl)) ?_ (nl hB) scLong.nd)
    refine .eq (.eq (.eq (.eq (.ll ?_ (.any .nil)))))
    show _ = (u.acc ++ [(u.p, longV u.s)]).map encT
    rw [List.map_append]
    rfl
  refine Ex.toLe ?_ l
  exact ss_one (s_ret (e_tupL (o_slot 4 rfl) T.z_tuple) (pr_1 (ds := [.int a, .int b]) rfl rfl))
theorem ok_made {f : Addr} {fd : FuncData} {k : Nat} (F : Fun K "_law_made" "_law_made" sMade f fd) (T : Txt K mg) : FnOk P w K mg base CX0 (k + 1) f fd ["_law_found"] (spA K (pure_ fTold)) := by
  refine fn_pure F scMade (by decide) (fun ds r h => by obtain ⟨_, rfl, _⟩ := h; rfl) (fun cdv A1 outer s H W B ds r hr hf hB => ?_)
  obtain ⟨a, rfl, rfl⟩ := hf
  have hu := hr.units
  refine ss_cons (s_if (t_not (t_val (e_is .tuple (E.o (e_var 0 rfl)) T.z_isinstance T.z_tuple))) (fun hc => nomatch hc) (fun hc => ?_))
  refine ss_nil ?_
  refine ss_cons (s_forF encT (src_t (e_var 0 rfl)) () (fun _ _ => ()) (fun t => [.any, .any, .any]) (fun t i => True) trivial (.any (.eq (.eq .nil))) (fun t i x hi hJ => ?_) (fun ρ' hJ l => ?_))
  · refine ⟨trivial, _, g_name 1 (nl hB) scMade.nd, ?_⟩
    refine ss_cons (s_if (t_w (w_or (t_not (t_val (e_is .tuple (E.o (e_var 1 rfl)) T.z_isinstance T.z_tuple))) (fun _ => w_or1 (t_neI (e_lenT (e_var 1 rfl) T.z_len) e_int)))) (fun hc => nomatch hc) (fun hc => ?_))
    refine ss_nil ?_
    refine ss_one (s_forF PyData.int (xs := [x.1, x.2]) (src_t (e_var 1 rfl)) () (fun _ _ => ()) (fun t => [.any, .any, .any]) (fun t i => True) trivial (.any (.any (.any .nil))) (fun t i x hi hJ => ?_) (fun ρ' hJ l => ?_))
    · refine ⟨trivial, _, g_name 2 (nl hB) scMade.nd, ?_⟩
      refine ss_one (s_if (t_w (w_or (t_not (t_val (e_is .int (E.o (e_var 2 rfl)) T.z_isinstance T.z_int))) (fun _ => w_or1 (t_val (e_is .bool (E.o (e_var 2 rfl)) T.z_isinstance T.z_bool))))) (fun hc => nomatch hc) (fun hc => ?_))
      exact ss_nil (.any (.any (.any .nil)))
    exact l
  refine Ex.toLe ?_ l
  exact ss_one (s_ret e_bl (pr_is rfl))
theorem ok_is_whole {f : Addr} {fd : FuncData} {k : Nat} (F : Fun K "is_whole" "is_whole" sIsWhole f fd) (T : Txt K mg) : FnOk P w K mg base CX0 (k + 1) f fd ["thing"] (spA K (pure_ fIsWhole)) := by
  refine fn_pure F scIsWhole (by decide) (fun ds r h => by obtain ⟨_, rfl, _⟩ := h; rfl) (fun cdv A1 outer s H W B ds r hr hf hB => ?_)
  obtain ⟨v, rfl, rfl⟩ := hf
  exact ss_one (s_ret (e_and (e_is .int (E.o (e_var 0 rfl)) T.z_isinstance T.z_int) (fun _ => e_one (e_not (e_is .bool (E.o (e_var 0 rfl)) T.z_isinstance T.z_bool)))) (pr_is (by rw [isWhole_eq])))
theorem ok_is_term {f : Addr} {fd : FuncData} {k : Nat} (F : Fun K "is_term" "is_term" sIsTerm f fd) (T : Txt K mg) : FnOk P w K mg base CX0 (k + 2) f fd ["thing"] (spA K (pure_ fIsTerm)) := by
  have GIsWhole := ok_is_whole (P := P) (w := w) (base := base) (k := 0) T.FIsWhole T
  refine fn_pure F scIsTerm (by decide) (fun ds r h => by obtain ⟨_, rfl, _⟩ := h; rfl) (fun cdv A1 outer s H W B ds r hr hf hB => ?_)
  obtain ⟨v, rfl, rfl⟩ := hf
  by_cases hv : ∃ x y : PyData, v = .tuple [x, y]
  · obtain ⟨x, y, rfl⟩ := hv
    refine ss_one (s_ret (e_and (e_is .tuple (E.o (e_var 0 rfl)) T.z_isinstance T.z_tuple) (fun _ => e_and (e_eqI (e_lenT (e_var 0 rfl) T.z_len) e_int) (fun _ => e_and (e_callP GIsWhole (hr.mono (by omega)) T.gIsWhole T.FIsWhole.kp T.bIsWhole (d_cons (e_ixT (v := x) (e_var 0 rfl) e_int rfl) d_nil) ⟨x, rfl, rfl⟩) (fun hx => e_and (c := isTermD (.tuple [x, y])) (e_callP GIsWhole (hr.mono (by omega)) T.gIsWhole T.FIsWhole.kp T.bIsWhole (d_cons (e_ixT (v := y) (e_var 0 rfl) e_int rfl) d_nil) ⟨y, rfl, rfl⟩) (fun hy => ?_))))) (pr_is ?_))
    · cases x <;> first | exact absurd hx Bool.false_ne_true | skip
      cases y <;> first | exact absurd hy Bool.false_ne_true | skip
      exact e_one (e_neI (e_ixT (e_var 0 rfl) e_int rfl) e_int)
    · cases x <;> cases y <;> first | rfl | (show A.d (.bool (true && (true && (true && (true && _))))) = _; simp only [Bool.true_and])
  · have hr : isTermD v = false := by
      unfold isTermD
      split
      · exact absurd ⟨_, _, rfl⟩ hv
      · rfl
    rw [hr]
    by_cases ht : ∃ xs, v = .tuple xs
    · obtain ⟨xs, rfl⟩ := ht
      have hl : ¬ (xs.length : Int) = 2 := fun z => by
        match xs, z with
        | [x, y], _ => exact hv ⟨x, y, rfl⟩
        | [], z => cases z
        | [_], z => cases z
        | _ :: _ :: _ :: l, z => simp at z; omega
      refine ss_one (s_ret (e_and (e_is .tuple (E.o (e_var 0 rfl)) T.z_isinstance T.z_tuple) (fun _ => e_and (c := false) (e_eqI (e_lenT (e_var 0 rfl) T.z_len) e_int) (fun z => absurd (of_decide_eq_true z) hl))) (pr_is ?_))
      rw [decide_eq_false hl]
      rfl
    · have hi : isi v .tuple = false := by
        cases v <;> first | rfl | exact absurd ⟨_, rfl⟩ ht
      refine ss_one (s_ret (e_and (c := false) (e_is .tuple (E.o (e_var 0 rfl)) T.z_isinstance T.z_tuple) (fun z => by rw [hi] at z; cases z)) (pr_is ?_))
      rw [hi]
      rfl
theorem ok_is_polynomial {f : Addr} {fd : FuncData} {k : Nat} (F : Fun K "is_polynomial" "is_polynomial" sIsPolynomial f fd) (T : Txt K mg) : FnOk P w K mg base CX0 (k + 3) f fd ["thing"] (spA K (pure_ fIsPoly)) := by
  have GIsTerm := ok_is_term (P := P) (w := w) (base := base) (k := 0) T.FIsTerm T
  refine fn_pure F scIsPolynomial (by decide) (fun ds r h => by obtain ⟨_, _, rfl, _⟩ := h; rfl) (fun cdv A1 outer s H W B ds r hr hf hB => ?_)
  obtain ⟨v, hlen, rfl, rfl⟩ := hf
  by_cases ht : ∃ xs, v = .tuple xs
  · obtain ⟨ds, rfl⟩ := ht
    have hlen := hlen ds rfl
    have hall : (ds.map isTermD).all id = ds.all isTermD := by rw [List.all_map]; rfl
    refine ss_cons (s_if (t_w (w_or (t_not (t_val (e_is .tuple (E.o (e_var 0 rfl)) T.z_isinstance T.z_tuple))) (fun _ => w_or1 (t_not (t_val (e_all (bs := ds.map isTermD) (EO.tol (E.ol (e_lcM (k := none) [("term", 1)] id (xs := ds) (fun d => .bool (isTermD d)) (by rw [List.map_id]; exact src_t (e_var 0 rfl)) scIsPolynomial.nd hlen (fun j u hu2 => ⟨_, fun s H C cl fp => gcn 1 rfl (by decide) scIsPolynomial.nd, fun s H C cl fp => e_callP GIsTerm (hr.mono (by omega)) T.gIsTerm T.FIsTerm.kp T.bIsTerm (d_cons (e_var 1 rfl) d_nil) ⟨u, rfl, rfl⟩, rfl⟩) rfl (fun _ z => nomatch z) (blkOk_by (N := nIsPolynomial) (sc := defScope sIsPolynomial) (by decide +kernel)))) (by rw [List.map_map]; rfl)) T.z_all)))))) (fun hc => ?_) (fun hc => ?_))
    · have hc : (!(ds.map isTermD).all id) = true := hc
      rw [hall] at hc
      refine ss_one (s_ret e_bl (pr_is ?_))
      show _ = A.d (.bool (ds.all isTermD && riseD ds))
      rw [show ds.all isTermD = false by simpa using hc]
      rfl
    have hc : (!(ds.map isTermD).all id) = false := hc
    rw [hall] at hc
    have hc : ds.all isTermD = true := by simpa using hc
    refine ss_nil ?_
    refine ss_cons (s_forS (fun p : PyData × PyData => .tuple [p.1, p.2]) (xs := ds.zip (ds.drop 1)) (src_zipT (e_var 0 rfl) (E.to (e_slT (e_var 0 rfl) (p_some e_int) p_none) (show PyData.tuple (cut ds (some ((1 : Nat) : Int)) none) = PyData.tuple (ds.drop 1) by rw [drop_cut])) T.z_zip) () (fun t => [.d (.tuple ds), .any, .any, .any]) (fun t i => ∀ j p, j < i → (ds.zip (ds.drop 1))[j]? = some p → powD p.1 < powD p.2) (fun j p z => absurd z (Nat.not_lt_zero j)) (Le.refl _) (fun t i x hi hJ => ?_) (fun t ρ' hJ l => ?_))
    · have hx := List.of_mem_zip (a := x.1) (b := x.2) (List.mem_of_getElem? hi)
      obtain ⟨a1, b1, e1, _⟩ := isTerm_of (List.all_eq_true.mp hc _ hx.1)
      obtain ⟨a2, b2, e2, _⟩ := isTerm_of (List.all_eq_true.mp hc _ (List.mem_of_mem_drop hx.2))
      obtain ⟨x1, x2⟩ := x
      dsimp only at e1 e2
      subst e1 e2
      refine ⟨_, g_tup (gs_cons (g_name 2 (nl hB) scIsPolynomial.nd) (gs_cons (g_name 3 (nl hB) scIsPolynomial.nd) gs_nil)), ?_⟩
      refine ss_one (s_if (t_ge (i := a1) (j := a2) (e_ixT (e_var 2 rfl) e_int rfl) (e_ixT (e_var 3 rfl) e_int rfl)) (fun hd => ?_) (fun hd => ?_))
      · have hge : a2 ≤ a1 := of_decide_eq_true hd
        refine ss_one (s_ret e_bl (pr_is ?_))
        show _ = A.d (.bool (ds.all isTermD && riseD ds))
        have : riseD ds = false := by
          cases hrs : riseD ds with
          | false => rfl
          | true =>
            unfold riseD at hrs
            rw [List.all_eq_true] at hrs
            have := of_decide_eq_true (hrs _ (List.mem_of_getElem? hi))
            have : a1 < a2 := this
            omega
        rw [this, Bool.and_false]
      · have hlt : ¬ a2 ≤ a1 := of_decide_eq_false hd
        refine ss_nil ⟨(), fun j p hj hp => ?_, .eq (.any (.any (.any .nil)))⟩
        by_cases hji : j = i
        · subst hji
          rw [hi] at hp
          cases hp
          exact show a1 < a2 by omega
        · exact hJ j p (by omega) hp
    refine Ex.toLe ?_ l
    refine ss_one (s_ret e_bl (pr_is ?_))
    show _ = A.d (.bool (ds.all isTermD && riseD ds))
    rw [hc]
    have : riseD ds = true := by
      unfold riseD
      rw [List.all_eq_true]
      intro p hp
      obtain ⟨j, hj⟩ := List.getElem?_of_mem hp
      exact decide_eq_true (hJ j p (List.getElem?_eq_some_iff.mp hj).1 hj)
    rw [this]
    rfl
  · have hi : isi v .tuple = false := by
      cases v <;> first | rfl | exact absurd ⟨_, rfl⟩ ht
    have hp : isPolyD v = false := by
      cases v <;> first | rfl | exact absurd ⟨_, rfl⟩ ht
    rw [hp]
    refine ss_cons (s_if (t_w (w_or (c := true) (t_not (t_val (e_is .tuple (E.o (e_var 0 rfl)) T.z_isinstance T.z_tuple))) (fun z => by rw [hi] at z; cases z))) (fun hc => ?_) (fun hc => ?_))
    · exact ss_one (s_ret e_bl (pr_is rfl))
    · rw [hi] at hc
      cases hc
theorem ok_shown_term {f : Addr} {fd : FuncData} {k : Nat} (F : Fun K "shown_term" "shown_term" sShownTerm f fd) (T : Txt K mg) : FnOk P w K mg base CX0 (k + 1) f fd ["power", "number"] (spA K (pure_ fShownTerm)) := by
  refine fn_pure F scShownTerm (by decide) (fun ds r h => by obtain ⟨_, _, rfl, _⟩ := h; rfl) (fun cdv A1 outer s H W B ds r hr hf hB => ?_)
  obtain ⟨⟨p, n⟩, hb, rfl, rfl⟩ := hf
  obtain ⟨hp, hn⟩ := hb
  have hp : p.natAbs < 10 ^ 60 := hp
  have hn : n.natAbs < 10 ^ 60 := hn
  have hnz : (((n.natAbs : Nat) : Int)).natAbs.log2 < 1920 := by rw [Int.natAbs_natCast]; exact lg hn
  have l1 := intL_61 hp
  have l2 := numL_60 hn
  refine ss_cons (s_if (t_eqI (e_var 0 rfl) e_int) (fun hc => ?_) (fun hc => ss_nil ?_))
  · have hc : p = 0 := of_decide_eq_true hc
    subst hc
    refine ss_one (s_ret (E.to (e_strI (e_abs (e_var 1 rfl) T.z_abs) hnz T.z_str) (congrArg PyData.str (natS_eq n.natAbs))) (pr_is ?_))
    have e : bodyL 0 n = numL n.natAbs := by
      unfold bodyL headL
      rw [if_neg (by rintro ⟨h, _⟩; exact h rfl), if_pos rfl, List.append_nil]
    show _ = A.d (.str (mkS (bodyL 0 n)))
    rw [e]
  have hc : p ≠ 0 := of_decide_eq_false hc
  refine ss_cons (s_set 2 e_str ?_ (nl hB) scShownTerm.nd)
  refine ss_cons (s_ifR [.d (.int p), .d (.int n), .d (.str (mkS (120 :: powL p)))] (t_neI (e_var 0 rfl) e_int) (fun hc1 => ?_) (fun hc1 => ?_) (fun ρ' l => ?_))
  · have h1 : p ≠ 1 := by simpa using hc1
    refine ss_one (s_set 2 (E.to (e_addS e_str (E.to (e_strI (e_var 0 rfl) (lg hp) T.z_str) (congrArg PyData.str (str_int p))) (by rw [mkS_len]; show 2 + _ ≤ _; omega)) (w := .str (mkS (120 :: powL p))) (congrArg PyData.str ?he)) (Le.refl _) (nl hB) scShownTerm.nd)
    case he =>
      unfold powL
      rw [if_neg h1]
      exact mkS_app [120, 94] (intL p)
  · have h1 : p = 1 := by simpa using hc1
    refine ss_nil (.eq (.eq (.dd ?_ .nil)))
    unfold powL
    rw [if_pos h1]
    rfl
  refine Ex.toLe ?_ l
  have l3 : (powL p).length ≤ 62 := by
    unfold powL
    split
    · exact Nat.zero_le _
    · rw [List.length_cons]; omega
  refine ss_cons (s_if (t_eqI (e_abs (e_var 1 rfl) T.z_abs) e_int) (fun hc2 => ?_) (fun hc2 => ss_nil ?_))
  · have h2 : n.natAbs = 1 := by have := of_decide_eq_true hc2; omega
    refine ss_one (s_ret (e_var 2 rfl) (pr_is ?_))
    show _ = A.d (.str (mkS (bodyL p n)))
    unfold bodyL headL
    rw [if_pos ⟨hc, h2⟩, if_neg hc]
    rfl
  · have h2 : n.natAbs ≠ 1 := by have := of_decide_eq_false hc2; omega
    refine ss_one (s_ret (E.to (e_addS (E.to (e_strI (e_abs (e_var 1 rfl) T.z_abs) hnz T.z_str) (congrArg PyData.str (natS_eq n.natAbs))) (e_var 2 rfl) (by rw [mkS_len, mkS_len, List.length_cons]; omega)) (w := .str (mkS (bodyL p n))) (congrArg PyData.str ?he)) (pr_is rfl))
    case he =>
      rw [mkS_app]
      unfold bodyL headL
      rw [if_neg (by rintro ⟨_, z⟩; exact h2 z), if_neg hc]
theorem ok_shown {f : Addr} {fd : FuncData} {k : Nat} (F : Fun K "shown_polynomial" "shown_polynomial" sShownPolynomial f fd) (T : Txt K mg) : FnOk P w K mg base CX0 (k + 2) f fd ["one"] (spA K (pure_ fShown)) := by
  have GShownTerm := ok_shown_term (P := P) (w := w) (base := base) (k := 0) T.FShownTerm T
  refine fn_pure F scShownPolynomial (by decide) (fun ds r h => by obtain ⟨_, _, _, rfl, _⟩ := h; rfl) (fun cdv A1 outer s H W B ds r hr hf hB => ?_)
  obtain ⟨l, hl, hb, rfl, rfl⟩ := hf
  have hu := hr.units
  have heq : PyData.eqv (encP l) (.tuple []) = decide (l = []) := eqE_P l []
  refine ss_cons (s_if (t_eqD (hr := hu) (E.o (e_var 0 rfl)) (E.o (e_tup d_nil)) (fit_P (n := 0) l).shaped rfl) (fun hc => ?_) (fun hc => ss_nil ?_))
  · rw [heq] at hc
    have hc := of_decide_eq_true hc
    subst hc
    exact ss_one (s_ret e_str (pr_is rfl))
  rw [heq] at hc
  have hne : l ≠ [] := of_decide_eq_false hc
  refine ss_cons (s_set 1 e_str ?_ (nl hB) scShownPolynomial.nd)
  refine ss_cons (s_forF encT (xs := l) (src_t (e_var 0 rfl)) ([] : List Nat) shStep (fun t => [.d (encP l), .d (.str (mkS t)), .any, .any, .any]) (fun t i => t.length ≤ 133 * i ∧ Asc t) ⟨Nat.le_refl _, asc_nil⟩ (.eq (.eq (.any (.any (.any .nil))))) (fun t i x hi hJ => ?_) (fun ρ' hJ l2 => ?_))
  · have hi' := (List.getElem?_eq_some_iff.mp hi).1
    have hx := hb x (List.mem_of_getElem? hi)
    have h1 := sh_len [x] t (133 * i) (fun u hu => by rw [List.mem_singleton] at hu; rw [hu]; exact hx) hJ.1
    have h2 := bodyL_len hx
    have hA : Asc t := hJ.2
    have hJ : t.length ≤ 133 * i := hJ.1
    refine ⟨⟨by show (shStep t x).length ≤ 133 * (i + 1); have : (List.foldl shStep t [x]).length = (shStep t x).length := rfl; rw [List.length_singleton] at h1; omega, asc_step hA x⟩, _, g_tup (gs_cons (g_name 2 (nl hB) scShownPolynomial.nd) (gs_cons (g_name 3 (nl hB) scShownPolynomial.nd) gs_nil)), ?_⟩
    refine ss_cons (s_set 4 (e_if (t_lt (e_var 3 rfl) e_int) (fun hb => E.to e_str (w := .str (mkS (if x.2 < 0 then [45] else []))) (by rw [if_pos (of_decide_eq_true hb)]; rfl)) (fun hb => E.to e_str (by rw [if_neg (of_decide_eq_false hb)]; rfl))) ?_ (nl hB) scShownPolynomial.nd)
    have hst : PyData.eqv (.str (mkS t)) (.str (mkS [])) = decide (t = []) := by
      rw [eqE_str (mkS t) (mkS [])]
      rw [Bool.eq_iff_iff, decide_eq_true_iff, decide_eq_true_iff]
      exact ⟨fun h => mkS_inj h, fun h => by rw [h]⟩
    refine ss_cons (s_ifR [.d (encP l), .d (.str (mkS t)), .d (.int x.1), .d (.int x.2), .d (.str (mkS (if t = [] then (if x.2 < 0 then [45] else []) else [32, sgL x.2, 32])))] (t_neD (hr := hu) (E.o (e_var 1 rfl)) (E.o e_str) (asc_ok hA) (asc_ok asc_nil)) (fun hc => ?_) (fun hc => ?_) (fun ρ' l2 => ?_))
    · have hc : (!PyData.eqv (.str (mkS t)) (.str (mkS []))) = true := hc
      rw [hst, Bool.not_eq_true', decide_eq_false_iff_not] at hc
      rw [if_neg hc]
      exact ss_one (s_set 4 (e_if (t_lt (e_var 3 rfl) e_int) (fun hb => E.to e_str (w := .str (mkS [32, sgL x.2, 32])) (by unfold sgL; rw [if_pos (of_decide_eq_true hb)]; rfl)) (fun hb => E.to e_str (by unfold sgL; rw [if_neg (of_decide_eq_false hb)]; rfl))) (Le.refl _) (nl hB) scShownPolynomial.nd)
    · have hc : (!PyData.eqv (.str (mkS t)) (.str (mkS []))) = false := hc
      rw [hst, Bool.not_eq_false', decide_eq_true_iff] at hc
      rw [if_pos hc]
      exact ss_nil (Le.refl _)
    refine Ex.toLe ?_ l2
    have h3 : (if t = [] then (if x.2 < 0 then [45] else []) else [32, sgL x.2, 32] : List Nat).length ≤ 3 := by
      split
      · split <;> decide
      · exact Nat.le_refl _
    refine ss_one (s_set 1 (E.to (e_addS (E.to (e_addS (e_var 1 rfl) (e_var 4 rfl) (by rw [mkS_len, mkS_len]; omega)) (congrArg PyData.str (mkS_app _ _))) (e_callP GShownTerm (hr.mono (by omega)) T.gShownTerm T.FShownTerm.kp T.bShownTerm (d_cons (e_var 2 rfl) (d_cons (e_var 3 rfl) d_nil)) ⟨x, hx, rfl, rfl⟩) (by rw [mkS_len, mkS_len, List.length_append]; omega)) (w := .str (mkS (shStep t x))) (congrArg PyData.str (mkS_app _ _))) ?_ (nl hB) scShownPolynomial.nd)
    exact .eq (.eq (.any (.any (.any .nil))))
  refine Ex.toLe ?_ l2
  refine ss_one (s_ret (e_var 1 rfl) (pr_is ?_))
  cases l with
  | nil => exact absurd rfl hne
  | cons t l => rw [sh_all]
theorem ok_number_of {f : Addr} {fd : FuncData} {k : Nat} (F : Fun K "number_of" "number_of" sNumberOf f fd) (T : Txt K mg) : FnOk P w K mg base CX0 (k + 1) f fd ["word"] (spA K (pure_ fNumberOf)) := by
  refine fn_pure F scNumberOf (by decide) (fun ds r h => by obtain ⟨_, _, rfl, _⟩ := h; rfl) (fun cdv A1 outer s H W B ds r hr hf hB => ?_)
  obtain ⟨n, hn, rfl, rfl⟩ := hf
  obtain ⟨h1, h2, h3⟩ := num_text hn
  refine ss_cons (s_if (t_w (w_or (t_not (t_chII e_int (E.to (e_lenS (e_var 0 rfl) (by rw [mkS_len]; omega) T.z_len) (congrArg (fun n : Nat => PyData.int (n : Int)) (mkS_len (numL n)))) (e_glob T.c_MOST_FIGURES))) (fun _ => w_or1 (t_not (t_val (e_all (E.ol (E.toA (e_lcM [("sign", 1)] (fun c : Nat => PyData.str ⟨#[c]⟩) (xs := numL n) (fun c => PyData.bool (decide (c ∈ (("0123456789" : Str)).cps.toList))) (src_str (e_var 0 rfl)) scNumberOf.nd (by omega) (fun i c hc => ⟨_, fun s H C cl fp => gcn 1 rfl (by decide) scNumberOf.nd, fun s H C cl fp => e_in1 (e_var 1 rfl) (e_glob T.c_FIGURES), rfl⟩) rfl (fun _ z => nomatch z) (blkOk_by (N := nNumberOf) (sc := defScope sNumberOf) (by decide +kernel))) (figs n))) T.z_all)))))) (fun hc => ?_) (fun hc => ss_nil ?_))
  · rw [all_true, decide_eq_true (show (1 : Int) ≤ ((numL n).length : Nat) by omega), decide_eq_true (show (((numL n).length : Nat) : Int) ≤ 60 by omega)] at hc
    cases hc
  exact ss_one (s_ret (e_intS (e_var 0 rfl) h1 (by rw [mkS_len]; omega) T.z_int) (pr_is rfl))
theorem ok_power_of {f : Addr} {fd : FuncData} {k : Nat} (F : Fun K "power_of" "power_of" sPowerOf f fd) (T : Txt K mg) : FnOk P w K mg base CX0 (k + 2) f fd ["word"] (spA K (pure_ fPowerOf)) := by
  have GNumberOf := ok_number_of (P := P) (w := w) (base := base) (k := 0) T.FNumberOf T
  refine fn_pure F scPowerOf (by decide) (fun ds r h => by obtain ⟨_, _, rfl, _⟩ := h; rfl) (fun cdv A1 outer s H W B ds r hr hf hB => ?_)
  obtain ⟨p, hp, rfl, rfl⟩ := hf
  have hu := hr.units
  refine ss_cons (s_if (t_eqD (hr := hu) (E.o (e_var 0 rfl)) (E.o e_str) (asc_ok (asc_pow p)) (asc_ok asc_nil)) (fun hc => ?_) (fun hc => ss_nil ?_))
  · have hc : PyData.eqv (.str (mkS (powL p))) (.str (mkS [])) = true := hc
    rw [eqv_str, decide_eq_true_iff] at hc
    have h1 : p = 1 := by
      unfold powL at hc
      split at hc
      · assumption
      · cases hc
    subst h1
    exact ss_one (s_ret e_int (pr_is rfl))
  have hc : PyData.eqv (.str (mkS (powL p))) (.str (mkS [])) = false := hc
  rw [eqv_str, decide_eq_false_iff_not] at hc
  have h1 : p ≠ 1 := fun z => hc (by unfold powL; rw [if_pos z])
  have hpl : powL p = 94 :: intL p := by unfold powL; rw [if_neg h1]
  have hl := intL_61 hp
  rw [hpl]
  refine ss_cons (s_if (t_neD (hr := hu) (E.o (e_ixS (c := 94) (e_var 0 rfl) e_int (by decide) (by rw [mkS_len, List.length_cons]; omega) (by rw [mkS_len, List.length_cons]; omega) rfl)) (E.o e_str) (asc_ok (l := [94]) (asc_cons (by decide) asc_nil)) (asc_ok (l := [94]) (asc_cons (by decide) asc_nil))) (fun hc => ?_) (fun hc => ss_nil ?_))
  · have hc : (!PyData.eqv (.str (mkS [94])) (.str (mkS [94]))) = true := hc
    rw [eqv_str] at hc
    cases hc
  have hil : 1 ≤ (intL p).length := by
    unfold intL
    split
    · rw [List.length_cons]; omega
    · exact List.length_pos_iff.mpr (numL_ne _)
  have hcl : (mkS (94 :: intL p)).length ≤ 16777216 := by rw [mkS_len, List.length_cons]; omega
  have hc1 : cutS (mkS (94 :: intL p)) (some 1) (some 2) = mkS ((intL p).take 1) := cut_sub (94 :: intL p) (k := 1) (j := 2) (by rw [List.length_cons]; omega) (by rw [List.length_cons]; omega)
  have hA : Asc ((intL p).take 1) := fun c hc => asc_int p c (List.mem_of_mem_take hc)
  refine ss_cons (s_if (t_eqD (hr := hu) (E.o (E.to (e_slS (e_var 0 rfl) (p_some e_int) (p_some e_int) hcl) (congrArg PyData.str hc1))) (E.o e_str) (asc_ok hA) (asc_ok (l := [45]) (asc_cons (by decide) asc_nil))) (fun hc => ?_) (fun hc => ss_nil ?_))
  · have hc : PyData.eqv (.str (mkS ((intL p).take 1))) (.str (mkS [45])) = true := hc
    rw [eqv_str, decide_eq_true_iff] at hc
    have hneg : p < 0 := by
      by_cases h : p < 0
      · exact h
      · obtain ⟨c, r, e, hne⟩ := intL_head (p := p) (by omega)
        rw [e] at hc
        injection hc with hc _
        exact absurd hc hne
    have e : intL p = 45 :: numL p.natAbs := by unfold intL; rw [if_pos hneg]
    have hc2 : cutS (mkS (94 :: intL p)) (some 2) none = mkS (numL p.natAbs) := by
      refine (cut_from (94 :: intL p) (k := 2) (by rw [List.length_cons]; omega)).trans ?_
      rw [e]
      rfl
    refine ss_one (s_ret (E.to (e_sub e_int (e_callP GNumberOf (hr.mono (by omega)) T.gNumberOf T.FNumberOf.kp T.bNumberOf (d_cons (E.to (e_slS (e_var 0 rfl) (p_some e_int) p_none hcl) (congrArg PyData.str hc2)) d_nil) ⟨p.natAbs, hp, rfl, rfl⟩)) (w := .int p) (congrArg PyData.int (by omega))) (pr_is rfl))
  · have hc : PyData.eqv (.str (mkS ((intL p).take 1))) (.str (mkS [45])) = false := hc
    rw [eqv_str, decide_eq_false_iff_not] at hc
    have hpos : 0 ≤ p := by
      by_cases h : p < 0
      · refine absurd ?_ hc
        unfold intL
        rw [if_pos h]
        rfl
      · omega
    have e : intL p = numL p.natAbs := by unfold intL; rw [if_neg (by omega)]
    have hc2 : cutS (mkS (94 :: intL p)) (some 1) none = mkS (numL p.natAbs) := by
      refine (cut_from (94 :: intL p) (k := 1) (by rw [List.length_cons]; omega)).trans ?_
      rw [e]
      rfl
    refine ss_one (s_ret (E.to (e_callP GNumberOf (hr.mono (by omega)) T.gNumberOf T.FNumberOf.kp T.bNumberOf (d_cons (E.to (e_slS (e_var 0 rfl) (p_some e_int) p_none hcl) (congrArg PyData.str hc2)) d_nil) ⟨p.natAbs, hp, rfl, rfl⟩) (w := .int p) (congrArg PyData.int (by omega))) (pr_is rfl))
theorem ok_term_of {f : Addr} {fd : FuncData} {k : Nat} (F : Fun K "term_of" "term_of" sTermOf f fd) (T : Txt K mg) : FnOk P w K mg base CX0 (k + 3) f fd ["word", "sign"] (spA K (pure_ fTermOf)) := by
  have GNumberOf := ok_number_of (P := P) (w := w) (base := base) (k := 0) T.FNumberOf T
  have GPowerOf := ok_power_of (P := P) (w := w) (base := base) (k := 0) T.FPowerOf T
  refine fn_pure F scTermOf (by decide) (fun ds r h => by obtain ⟨_, _, _, _, _, rfl, _⟩ := h; rfl) (fun cdv A1 outer s H W B ds r hr hf hB => ?_)
  obtain ⟨⟨p, n⟩, sg, hb, hn0, hs, rfl, rfl⟩ := hf
  have hu := hr.units
  have hbl := bodyL_len hb
  have hp : p.natAbs < 10 ^ 60 := hb.1
  have hn : n.natAbs < 10 ^ 60 := hb.2
  have hs : sg = (if n < 0 then -1 else 1) := hs
  have hsn := sg_mul hs
  have hbl : (bodyL p n).length ≤ 130 := hbl
  have hmul : CMul sg (n.natAbs : Int) := .inl ⟨by split at hs <;> omega, by split at hs <;> omega⟩
  by_cases h0 : p = 0
  · subst h0
    refine ss_cons (s_asgT (E.to (e_partS (e_var 0 rfl) e_str (by decide) (by rw [mkS_len]; omega)) (w := .tuple [.str (mkS (numL n.natAbs)), .str (mkS []), .str (mkS [])]) (by have := part_zero n; show PyData.tuple [.str (Txt.partition (mkS (bodyL 0 n)) (mkS [120])).1, .str (Txt.partition (mkS (bodyL 0 n)) (mkS [120])).2.1, .str (Txt.partition (mkS (bodyL 0 n)) (mkS [120])).2.2] = _; rw [this]; rfl)) (g_tup (gs_cons (g_name 2 (nl hB) scTermOf.nd) (gs_cons (g_name 3 (nl hB) scTermOf.nd) (gs_cons (g_name 4 (nl hB) scTermOf.nd) gs_nil)))) ?_)
    refine ss_cons (s_if (t_eqD (hr := hu) (E.o (e_var 3 rfl)) (E.o e_str) (asc_ok asc_nil) (asc_ok asc_nil)) (fun hc => ?_) (fun hc => ?_))
    · exact ss_one (s_ret (e_tup (d_cons e_int (d_cons (E.to (e_mulS (e_var 1 rfl) (e_callP GNumberOf (hr.mono (by omega)) T.gNumberOf T.FNumberOf.kp T.bNumberOf (d_cons (e_var 2 rfl) d_nil) ⟨n.natAbs, hn, rfl, rfl⟩) hmul) (congrArg PyData.int hsn)) d_nil))) (pr_is rfl))
    · have hc : PyData.eqv (.str (mkS [])) (.str (mkS [])) = false := hc
      rw [eqv_str] at hc
      cases hc
  · refine ss_cons (s_asgT (E.to (e_partS (e_var 0 rfl) e_str (by decide) (by rw [mkS_len]; omega)) (w := .tuple [.str (mkS (headL p n)), .str (mkS [120]), .str (mkS (powL p))]) (by have := part_pow n h0; show PyData.tuple [.str (Txt.partition (mkS (bodyL p n)) (mkS [120])).1, .str (Txt.partition (mkS (bodyL p n)) (mkS [120])).2.1, .str (Txt.partition (mkS (bodyL p n)) (mkS [120])).2.2] = _; rw [this])) (g_tup (gs_cons (g_name 2 (nl hB) scTermOf.nd) (gs_cons (g_name 3 (nl hB) scTermOf.nd) (gs_cons (g_name 4 (nl hB) scTermOf.nd) gs_nil)))) ?_)
    refine ss_cons (s_if (t_eqD (hr := hu) (E.o (e_var 3 rfl)) (E.o e_str) (asc_ok (l := [120]) (asc_cons (by decide) asc_nil)) (asc_ok asc_nil)) (fun hc => ?_) (fun hc => ss_nil ?_))
    · have hc : PyData.eqv (.str (mkS [120])) (.str (mkS [])) = true := hc
      rw [eqv_str] at hc
      cases hc
    refine ss_cons (s_if (t_eqD (hr := hu) (E.o (e_var 2 rfl)) (E.o e_str) (asc_ok (asc_head p n)) (asc_ok asc_nil)) (fun hc => ?_) (fun hc => ss_nil ?_))
    · have hc : PyData.eqv (.str (mkS (headL p n))) (.str (mkS [])) = true := hc
      rw [eqv_str, decide_eq_true_iff] at hc
      have h1 : n.natAbs = 1 := by
        unfold headL at hc
        split at hc
        · rename_i h; exact h.2
        · exact absurd hc (numL_ne _)
      have h2 : sg = n := by rw [← hsn, h1]; omega
      exact ss_one (s_ret (e_tup (d_cons (e_callP GPowerOf (hr.mono (by omega)) T.gPowerOf T.FPowerOf.kp T.bPowerOf (d_cons (e_var 4 rfl) d_nil) ⟨p, hp, rfl, rfl⟩) (d_cons (E.to (e_var 1 rfl) (congrArg PyData.int h2)) d_nil))) (pr_is rfl))
    · have hc : PyData.eqv (.str (mkS (headL p n))) (.str (mkS [])) = false := hc
      rw [eqv_str, decide_eq_false_iff_not] at hc
      have e : headL p n = numL n.natAbs := by
        unfold headL at hc ⊢
        split at hc
        · exact absurd rfl hc
        · rename_i h; rw [if_neg h]
      exact ss_one (s_ret (e_tup (d_cons (e_callP GPowerOf (hr.mono (by omega)) T.gPowerOf T.FPowerOf.kp T.bPowerOf (d_cons (e_var 4 rfl) d_nil) ⟨p, hp, rfl, rfl⟩) (d_cons (E.to (e_mulS (e_var 1 rfl) (e_callP GNumberOf (hr.mono (by omega)) T.gNumberOf T.FNumberOf.kp T.bNumberOf (d_cons (E.to (e_var 2 rfl) (by rw [e])) d_nil) ⟨n.natAbs, hn, rfl, rfl⟩) hmul) (congrArg PyData.int hsn)) d_nil))) (pr_is rfl))
theorem ok_terms_of {f : Addr} {fd : FuncData} {k : Nat} (F : Fun K "terms_of" "terms_of" sTermsOf f fd) (T : Txt K mg) (Z : Sg K w mg) : FnOk P w K mg base CX0 (k + 4) f fd ["text"] (spA K (pure_ fTermsOf)) := by
  have GTermOf := ok_term_of (P := P) (w := w) (base := base) (k := 0) T.FTermOf T
  refine fn_pure F scTermsOf (by decide) (fun ds r h => by obtain ⟨_, _, _, rfl, _⟩ := h; rfl) (fun cdv A1 outer s H W B ds r hr hf hB => ?_)
  obtain ⟨l, hne, ⟨hcan, hl, hb⟩, rfl, rfl⟩ := hf
  have hu := hr.units
  obtain ⟨t, l, rfl⟩ : ∃ t r, l = t :: r := by
    cases l with
    | nil => exact absurd rfl hne
    | cons t r => exact ⟨t, r, rfl⟩
  have hlen := shownL_len hl hb
  have hA := shownL_asc (t :: l)
  have htk := shown_take (t := t) (l := l)
  have hcl : (mkS (shownL (t :: l))).length ≤ 16777216 := by rw [mkS_len]; omega
  have h1 : 1 ≤ (shownL (t :: l)).length := by
    obtain ⟨c, r, e, _, hp⟩ := bodyL_head t
    show 1 ≤ ((if t.2 < 0 then [45] else []) ++ bodyL t.1 t.2 ++ restL l).length
    rw [List.length_append, List.length_append]
    omega
  have hc1 : cutS (mkS (shownL (t :: l))) none (some 1) = mkS ((shownL (t :: l)).take 1) := cut_to (shownL (t :: l)) (k := 1) h1
  have hc2 : cutS (mkS (shownL (t :: l))) (some 1) none = mkS ((shownL (t :: l)).drop 1) := cut_from (shownL (t :: l)) (k := 1) h1
  have hA1 : Asc ((shownL (t :: l)).take 1) := fun c hc => hA c (List.mem_of_mem_take hc)
  refine ss_cons (s_set 1 e_str ?_ (nl hB) scTermsOf.nd)
  refine ss_cons (s_ifR [.d (.str (mkS (bodyL t.1 t.2 ++ restL l))), .d (.str (mkS [sgL t.2])), .any, .any, .any, .any] (t_eqD (hr := hu) (E.o (E.to (e_slS (e_var 0 rfl) p_none (p_some e_int) hcl) (congrArg PyData.str hc1))) (E.o e_str) (asc_ok hA1) (asc_ok (l := [45]) (asc_cons (by decide) asc_nil))) (fun hc => ?_) (fun hc => ?_) (fun ρ' l2 => ?_))
  · have hc : PyData.eqv (.str (mkS ((shownL (t :: l)).take 1))) (.str (mkS [45])) = true := hc
    rw [eqv_str, decide_eq_true_iff, htk] at hc
    have hneg : t.2 < 0 := by
      by_cases h : t.2 < 0
      · exact h
      · rw [if_neg h] at hc
        obtain ⟨c, r, e, h45, _⟩ := bodyL_head t
        rw [e] at hc
        injection hc with hc _
        exact absurd hc h45
    refine ss_cons (s_set 1 e_str ?_ (nl hB) scTermsOf.nd)
    refine ss_one (s_set 0 (E.to (e_slS (e_var 0 rfl) (p_some e_int) p_none hcl) (congrArg PyData.str hc2)) ?_ (nl hB) scTermsOf.nd)
    refine .dd ?_ (.dd ?_ (.any (.any (.any (.any .nil)))))
    · have e : (shownL (t :: l)).drop 1 = bodyL t.1 t.2 ++ restL l := by
        show ((if t.2 < 0 then [45] else []) ++ bodyL t.1 t.2 ++ restL l).drop 1 = _
        rw [if_pos hneg]
        rfl
      rw [e]
    · unfold sgL
      rw [if_pos hneg]
      rfl
  · have hc : PyData.eqv (.str (mkS ((shownL (t :: l)).take 1))) (.str (mkS [45])) = false := hc
    rw [eqv_str, decide_eq_false_iff_not, htk] at hc
    have hpos : ¬ t.2 < 0 := fun h => hc (if_pos h)
    refine ss_nil (.dd ?_ (.dd ?_ (.any (.any (.any (.any .nil))))))
    · have e : shownL (t :: l) = bodyL t.1 t.2 ++ restL l := by
        show ((if t.2 < 0 then [45] else []) ++ bodyL t.1 t.2 ++ restL l) = _
        rw [if_neg hpos]
        rfl
      rw [e]
    · unfold sgL
      rw [if_neg hpos]
      rfl
  refine Ex.toLe ?_ l2
  have hbl : (bodyL t.1 t.2 ++ restL l).length ≤ 133001 := by
    have : (shownL (t :: l)).length = (if t.2 < 0 then [45] else []).length + (bodyL t.1 t.2 ++ restL l).length := by
      show ((if t.2 < 0 then [45] else []) ++ bodyL t.1 t.2 ++ restL l).length = _
      rw [List.append_assoc, List.length_append]
    omega
  have hwl := rowW_len t l
  have hL : l.length + 1 ≤ 1000 := hl
  refine ss_cons (s_set 2 (E.toA (e_cat (E.pl (e_lst (d_cons (e_var 1 rfl) d_nil))) (E.pl (e_splitS (e_var 0 rfl) e_str (by decide) (by rw [mkS_len]; omega))) (by show 1 + _ ≤ _; rw [List.length_map, words_sp, List.length_map, words_len]; omega)) (es1 := rowW (t :: l)) (by rw [words_sp]; exact rowW_eq t l)) ?_ (nl hB) scTermsOf.nd)
  refine ss_cons (s_if (t_eqI (e_mod (e_lenL (o_slot 2 rfl) T.z_len) e_int (by decide)) e_int) (fun hc => ?_) (fun hc => ss_nil ?_))
  · have hc : ((rowW (t :: l)).length : Int) % 2 = 1 := of_decide_eq_true hc
    omega
  refine ss_cons (s_set 3 (e_lst d_nil) ?_ (nl hB) scTermsOf.nd)
  refine ss_cons (s_forF encSW (xs := t :: l) (src_zl2 (E.fz (e_stepL (o_slot 2 rfl) p_none)) (E.fz (e_stepL (o_slot 2 rfl) (p_some e_int))) (rowW_zip t l) T.z_zip) ([] : List Th.Tm) (fun f u => f ++ [u]) (fun f => [.any, .any, .any, .ml (f.map encT), .any, .any]) (fun f i => f.length = i) rfl (.any (.any (.any (.eq (.any (.any .nil)))))) (fun f i x hi hJ => ?_) (fun ρ' hJ l2 => ?_))
  · have hi' := (List.getElem?_eq_some_iff.mp hi).1
    have hxm := List.mem_of_getElem? hi
    have hx := hb x hxm
    have hx0 : x.2 ≠ 0 := hcan.2 x hxm
    refine ⟨by rw [List.length_append, List.length_singleton]; omega, _, g_tup (gs_cons (g_name 4 (nl hB) scTermsOf.nd) (gs_cons (g_name 5 (nl hB) scTermsOf.nd) gs_nil)), ?_⟩
    obtain ⟨tok, hat⟩ := Z.at x.2
    refine ss_cons (s_if (t_ninKd Z.D Z.gS (e_var 4 rfl) hat) (fun hc => nomatch hc) (fun hc => ss_nil ?_))
    refine ss_one (s_expr (e_app 3 (e_callP GTermOf (hr.mono (by omega)) T.gTermOf T.FTermOf.kp T.bTermOf (d_cons (e_var 5 rfl) (d_cons (e_ixKd Z.D Z.gS (e_var 4 rfl) hat) d_nil)) ⟨x, _, hx, hx0, rfl, rfl, rfl⟩) ⟨_, rfl⟩ rfl (by rw [List.length_map]; omega)) ?_)
    refine .any (.any (.any (.ll ?_ (.any (.any .nil)))))
    rw [List.map_append]
    rfl
  refine Ex.toLe ?_ l2
  refine ss_one (s_ret (e_tupL (o_slot 3 rfl) T.z_tuple) (pr_is ?_))
  have e : ∀ (l f : List Th.Tm), List.foldl (fun f u => f ++ [u]) f l = f ++ l := fun l => by
    induction l with
    | nil => intro f; exact (List.append_nil f).symm
    | cons u l ih => intro f; rw [List.foldl_cons, ih, List.append_assoc]; rfl
  rw [e]
  rfl
theorem ok_read_polynomial {f : Addr} {fd : FuncData} {k : Nat} (F : Fun K "read_polynomial" "read_polynomial" sReadPolynomial f fd) (T : Txt K mg) (Z : Sg K w mg) : FnOk P w K mg base CX0 (k + 5) f fd ["text"] (spA K (pure_ fReadPoly)) := by
  have GIsPolynomial := ok_is_polynomial (P := P) (w := w) (base := base) (k := 0) T.FIsPolynomial T
  have GShownPolynomial := ok_shown (P := P) (w := w) (base := base) (k := 0) T.FShownPolynomial T
  have GTermsOf := ok_terms_of (P := P) (w := w) (base := base) (k := 0) T.FTermsOf T Z
  refine fn_pure F scReadPolynomial (by decide) (fun ds r h => by obtain ⟨_, _, rfl, _⟩ := h; rfl) (fun cdv A1 outer s H W B ds r hr hf hB => ?_)
  obtain ⟨l, hg, rfl, rfl⟩ := hf
  have hcan := hg.1
  have hlen := shownL_len hg.2.1 hg.2.2
  have hA := shownL_asc l
  have hu := hr.units
  have hl := hg.2.1
  refine ss_cons (s_if (t_not (t_val (e_is .str (E.o (e_var 0 rfl)) T.z_isinstance T.z_str))) (fun hc => nomatch hc) (fun hc => ss_nil ?_))
  refine ss_cons (s_if (t_eqD (hr := hu) (E.o (e_var 0 rfl)) (E.o e_str) (asc_ok hA) (asc_ok (l := [48]) (asc_cons (by decide) asc_nil))) (fun hc => ?_) (fun hc => ss_nil ?_))
  · have hc : PyData.eqv (.str (mkS (shownL l))) (.str (mkS [48])) = true := hc
    rw [eqv_str, decide_eq_true_iff] at hc
    cases l with
    | nil => exact ss_one (s_ret (e_tup d_nil) (pr_is rfl))
    | cons t l => exact (shown_ne0 (hcan.2 t List.mem_cons_self) hc).elim
  have hc : PyData.eqv (.str (mkS (shownL l))) (.str (mkS [48])) = false := hc
  rw [eqv_str, decide_eq_false_iff_not] at hc
  have hne : l ≠ [] := fun z => hc (by rw [z]; rfl)
  refine ss_cons (s_set 1 (e_callP GTermsOf (hr.mono (by omega)) T.gTermsOf T.FTermsOf.kp T.bTermsOf (d_cons (e_var 0 rfl) d_nil) ⟨l, hne, hg, rfl, rfl⟩) ?_ (nl hB) scReadPolynomial.nd)
  have hp : isPolyD (encP l) = true := isPoly_can hcan
  refine ss_cons (s_if (t_w (w_or (t_not (t_val (e_callP (r := .d (.bool true)) GIsPolynomial (hr.mono (by omega)) T.gIsPolynomial T.FIsPolynomial.kp T.bIsPolynomial (d_cons (e_var 1 rfl) d_nil) ⟨_, fun xs e => by cases e; rw [List.length_map]; omega, rfl, by rw [hp]⟩))) (fun _ => w_or1 (t_neD (hr := hu) (E.o (e_callP (r := .d (.str (mkS (shownL l)))) GShownPolynomial (hr.mono (by omega)) T.gShownPolynomial T.FShownPolynomial.kp T.bShownPolynomial (d_cons (e_var 1 rfl) d_nil) ⟨l, hl, hg.2.2, rfl, rfl⟩)) (E.o (e_var 0 rfl)) (asc_ok hA) (asc_ok hA))))) (fun hc => ?_) (fun hc => ss_nil ?_))
  · have hc : (!true || !PyData.eqv (.str (mkS (shownL l))) (.str (mkS (shownL l)))) = true := hc
    rw [eqv_str, decide_eq_true rfl] at hc
    cases hc
  exact ss_one (s_ret (e_var 1 rfl) (pr_is rfl))
theorem ok_text {f : Addr} {fd : FuncData} {k : Nat} (F : Fun K "_law_text" "_law_text" sText f fd) (T : Txt K mg) : FnOk P w K mg base CX0 (k + 1) f fd ["_law_terms"] (spA K (pure_ fDueText)) := by
  refine fn_pure F scText (by decide) (fun ds r h => by obtain ⟨_, _, _, rfl, _⟩ := h; rfl) (fun cdv A1 outer s H W B ds r hr hf hB => ?_)
  obtain ⟨l, hl, hb, rfl, rfl⟩ := hf
  have hu := hr.units
  refine ss_cons (s_set 1 (e_lst d_nil) ?_ (nl hB) scText.nd)
  refine ss_cons (s_forF encT (xs := l) (src_t (e_var 0 rfl)) ([] : List (List Nat)) tw (fun W => [.d (encP l), .ml (W.map wE), .any, .any, .any]) (fun W i => TwJ W i) twJ0 (.eq (.eq (.any (.any (.any .nil))))) (fun W i x hi hJ => ?_) (fun ρ' hJ l2 => ?_))
  · have hi' := (List.getElem?_eq_some_iff.mp hi).1
    have hxm := List.mem_of_getElem? hi
    obtain ⟨p, n⟩ := x
    obtain ⟨hp, hn⟩ := hb _ hxm
    have hp : p.natAbs < 10 ^ 60 := hp
    have hn : n.natAbs < 10 ^ 60 := hn
    have hnz : (((n.natAbs : Nat) : Int)).natAbs.log2 < 1920 := by rw [Int.natAbs_natCast]; exact lg hn
    have l1 := intL_61 hp
    have l2 := numL_60 hn
    have hWl := hJ.len
    refine ⟨twJ_step hJ (hb _ hxm), _, g_tup (gs_cons (g_name 2 (nl hB) scText.nd) (gs_cons (g_name 3 (nl hB) scText.nd) gs_nil)), ?_⟩
    refine ss_cons (s_ifR [.d (encP l), .ml ((if W.length = 0 then W else W ++ [[sgL n]]).map wE), .d (.int p), .d (.int n), .any] (t_gt (e_lenL (o_slot 1 rfl) T.z_len) e_int) (fun hc => ?_) (fun hc => ?_) (fun ρ' l3 => ?_))
    · have hc : (0 : Int) < ((W.map wE).length : Int) := of_decide_eq_true hc
      rw [List.length_map] at hc
      refine ss_one (s_expr (e_app 1 (v := wE [sgL n]) (e_ixL (E.ol (e_lst (d_cons e_str (d_cons e_str d_nil)))) (e_intB (e_lt (e_var 3 rfl) e_int) T.z_int) ?hat) ⟨_, rfl⟩ rfl (by rw [List.length_map]; omega)) ?_)
      case hat =>
        unfold sgL
        by_cases h : n < 0
        · rw [decide_eq_true h, if_pos h]
          rfl
        · rw [decide_eq_false h, if_neg h]
          rfl
      refine .eq (.ll ?_ (.eq (.eq (.eq .nil))))
      rw [if_neg (by omega), List.map_append]
      rfl
    · have hc : ¬ (0 : Int) < ((W.map wE).length : Int) := of_decide_eq_false hc
      rw [List.length_map] at hc
      refine ss_nil (.eq (.ll ?_ (.eq (.eq (.any .nil)))))
      rw [if_pos (by omega)]
    refine Ex.toLe ?_ l3
    generalize hW2 : (if W.length = 0 then W else W ++ [[sgL n]]) = W2
    have hW2l : W2.length = 0 ↔ W.length = 0 := by
      rw [← hW2]
      split
      · exact Iff.rfl
      · rw [List.length_append, List.length_singleton]
        omega
    have hW2b : W2.length ≤ W.length + 1 := by
      rw [← hW2]
      split
      · omega
      · rw [List.length_append, List.length_singleton]
        omega
    refine ss_cons (s_set 4 (E.to (e_strI (e_abs (e_var 3 rfl) T.z_abs) hnz T.z_str) (w := wE (numL n.natAbs)) (congrArg PyData.str (natS_eq n.natAbs))) ?_ (nl hB) scText.nd)
    refine ss_cons (s_ifR [.d (encP l), .ml (W2.map wE), .d (.int p), .d (.int n), .d (wE (headL p n))] (t_w (w_and (t_neI (e_var 2 rfl) e_int) (fun _ => w_and1 (t_eqI (e_abs (e_var 3 rfl) T.z_abs) e_int)))) (fun hc => ?_) (fun hc => ?_) (fun ρ' l3 => ?_))
    · have hc : ((!decide (p = 0)) && decide (((n.natAbs : Nat) : Int) = 1)) = true := hc
      rw [Bool.and_eq_true, Bool.not_eq_true', decide_eq_false_iff_not, decide_eq_true_iff] at hc
      refine ss_one (s_set 4 e_str ?_ (nl hB) scText.nd)
      refine .eq (.eq (.eq (.eq (.dd ?_ .nil))))
      unfold headL
      rw [if_pos ⟨hc.1, by omega⟩]
      rfl
    · have hc : ((!decide (p = 0)) && decide (((n.natAbs : Nat) : Int) = 1)) = false := hc
      refine ss_nil (.eq (.eq (.eq (.eq (.dd ?_ .nil)))))
      unfold headL
      rw [if_neg]
      rintro ⟨z1, z2⟩
      rw [decide_eq_false z1, decide_eq_true (by omega)] at hc
      cases hc
    refine Ex.toLe ?_ l3
    have h3 : (headL p n).length ≤ 60 := by
      unfold headL
      split
      · exact Nat.zero_le _
      · exact l2
    refine ss_cons (s_ifR [.d (encP l), .ml (W2.map wE), .d (.int p), .d (.int n), .d (wE (headL p n ++ if p = 0 then [] else [120]))] (t_neI (e_var 2 rfl) e_int) (fun hc => ?_) (fun hc => ?_) (fun ρ' l3 => ?_))
    · have hc : p ≠ 0 := by simpa using hc
      refine ss_one (s_set 4 (e_addS (e_var 4 rfl) e_str (by rw [mkS_len]; show _ + 1 ≤ _; omega)) ?_ (nl hB) scText.nd)
      refine .eq (.eq (.eq (.eq (.dd ?_ .nil))))
      rw [if_neg hc]
      exact congrArg PyData.str (mkS_app _ [120])
    · have hc : p = 0 := by simpa using hc
      refine ss_nil (.eq (.eq (.eq (.eq (.dd ?_ .nil)))))
      rw [if_pos hc, List.append_nil]
    refine Ex.toLe ?_ l3
    have h5 : (headL p n ++ if p = 0 then [] else [120] : List Nat).length ≤ 61 := by
      rw [List.length_append]
      split
      · rw [List.length_nil]; omega
      · rw [List.length_singleton]; omega
    refine ss_cons (s_ifR [.d (encP l), .ml (W2.map wE), .d (.int p), .d (.int n), .d (wE (bodyL p n))] (t_w (w_and (t_neI (e_var 2 rfl) e_int) (fun _ => w_and1 (t_neI (e_var 2 rfl) e_int)))) (fun hc => ?_) (fun hc => ?_) (fun ρ' l3 => ?_))
    · have hc : ((!decide (p = 0)) && (!decide (p = 1))) = true := hc
      rw [Bool.and_eq_true, Bool.not_eq_true', decide_eq_false_iff_not, Bool.not_eq_true', decide_eq_false_iff_not] at hc
      refine ss_one (s_set 4 (E.to (e_addS (E.to (e_addS (e_var 4 rfl) e_str (by rw [mkS_len]; show _ + 1 ≤ _; omega)) (congrArg PyData.str (mkS_app _ [94]))) (E.to (e_strI (e_var 2 rfl) (lg hp) T.z_str) (congrArg PyData.str (str_int p))) (by rw [mkS_len, mkS_len, List.length_append, List.length_singleton]; omega)) (congrArg PyData.str (mkS_app _ _))) ?_ (nl hB) scText.nd)
      refine .eq (.eq (.eq (.eq (.dd ?_ .nil))))
      rw [if_neg hc.1]
      unfold bodyL powL
      rw [if_neg hc.1, if_neg hc.2]
      simp
    · have hc : ((!decide (p = 0)) && (!decide (p = 1))) = false := hc
      refine ss_nil (.eq (.eq (.eq (.eq (.dd ?_ .nil)))))
      unfold bodyL powL
      by_cases h0 : p = 0
      · rw [if_pos h0, if_pos h0]
      · by_cases h1 : p = 1
        · rw [if_neg h0, if_neg h0, if_pos h1]
        · rw [decide_eq_false h0, decide_eq_false h1] at hc
          cases hc
    refine Ex.toLe ?_ l3
    have hbl := bodyL_len (t := (p, n)) ⟨hp, hn⟩
    have hbl : (bodyL p n).length ≤ 130 := hbl
    refine ss_cons (s_ifR [.d (encP l), .ml (W2.map wE), .d (.int p), .d (.int n), .d (wE (if W.length = 0 ∧ n < 0 then 45 :: bodyL p n else bodyL p n))] (t_w (w_and (t_eqI (e_lenL (o_slot 1 rfl) T.z_len) e_int) (fun _ => w_and1 (t_lt (e_var 3 rfl) e_int)))) (fun hc => ?_) (fun hc => ?_) (fun ρ' l3 => ?_))
    · have hc : (decide (((W2.map wE).length : Int) = 0) && decide (n < 0)) = true := hc
      rw [List.length_map, Bool.and_eq_true, decide_eq_true_iff, decide_eq_true_iff] at hc
      refine ss_one (s_set 4 (e_addS e_str (e_var 4 rfl) (by rw [mkS_len]; show 1 + _ ≤ _; omega)) ?_ (nl hB) scText.nd)
      refine .eq (.eq (.eq (.eq (.dd ?_ .nil))))
      rw [if_pos ⟨by omega, hc.2⟩]
      exact congrArg PyData.str (mkS_app [45] _)
    · have hc : (decide (((W2.map wE).length : Int) = 0) && decide (n < 0)) = false := hc
      rw [List.length_map] at hc
      refine ss_nil (.eq (.eq (.eq (.eq (.dd ?_ .nil)))))
      rw [if_neg]
      rintro ⟨z1, z2⟩
      rw [decide_eq_true z2, decide_eq_true (by omega)] at hc
      cases hc
    refine Ex.toLe ?_ l3
    refine ss_one (s_expr (e_app 1 (e_var 4 rfl) ⟨_, rfl⟩ rfl (by rw [List.length_map]; omega)) ?_)
    refine .eq (.ll ?_ (.any (.any (.any .nil))))
    unfold tw
    dsimp only
    rw [hW2, List.map_append]
    rfl
  refine Ex.toLe ?_ l2
  have hWl := hJ.len
  have hWb := hJ.bd
  have hWe := tw_end l
  have hWf : ∀ w ∈ l.foldl tw [], Asc w := tw_asc l [] (fun _ z => nomatch z)
  clear hJ l2
  revert hWl hWb hWe hWf
  generalize l.foldl tw [] = W
  intro hWl hWb hWe hWf
  refine ss_cons (s_if (t_eqD (hr := hu) (o_slot 1 rfl) (E.ol (e_lst d_nil)) (fitW hWf) (fitW (W := []) (fun _ z => nomatch z))) (fun hc => ?_) (fun hc => ss_nil ?_))
  · have hc : PyData.eqv (.list (W.map wE)) (.list ([].map wE)) = true := hc
    rw [eqE_list eqE_w, decide_eq_true_iff] at hc
    rw [hc] at hWe
    have hl0 : l = [] := by
      cases l with
      | nil => rfl
      | cons t l => exact absurd rfl (hWe.1 (List.cons_ne_nil _ _)).1
    rw [hl0]
    exact ss_one (s_ret e_str (pr_is rfl))
  have hc : PyData.eqv (.list (W.map wE)) (.list ([].map wE)) = false := hc
  rw [eqE_list eqE_w, decide_eq_false_iff_not] at hc
  have hne : l ≠ [] := fun z => hc (by rw [hWe.2 z])
  refine ss_one (s_ret (e_joinS (ys := W.map mkS) e_str (EO.tol (o_slot 1 rfl) (by rw [List.map_map]; rfl)) ?_) (pr_is ?_))
  · rw [List.map_map, List.length_map]
    have e : (W.map ((·.length) ∘ mkS)).sum = (W.map (·.length)).sum := by
      refine congrArg List.sum (List.map_congr_left fun w _ => mkS_len w)
    have : (mkS [32]).length = 1 := rfl
    show _ + W.length * (mkS [32]).length ≤ _
    rw [e, this]
    omega
  · rw [(hWe.1 hne).2]
theorem ok_law {f : Addr} {fd : FuncData} {k : Nat} (F : Fun K "law" "law" sLaw f fd) (T : Txt K mg) (Z : Sg K w mg) : FnOk P w K mg base CX0 (k + 6) f fd ["_law_script"] (spA K (pure_ lawF)) := by
  have GLong := ok_long (P := P) (w := w) (base := base) (k := 0) T.FLong T
  have GMade := ok_made (P := P) (w := w) (base := base) (k := 0) T.FMade T
  have GPolynomial := ok_polynomial (P := P) (w := w) (base := base) (k := 0) T.FPolynomial T
  have GTake := ok_take (P := P) (w := w) (base := base) (k := 0) T.FTake T
  have GText := ok_text (P := P) (w := w) (base := base) (k := 0) T.FText T
  have GReadPolynomial := ok_read_polynomial (P := P) (w := w) (base := base) (k := 0) T.FReadPolynomial T Z
  have GShownPolynomial := ok_shown (P := P) (w := w) (base := base) (k := 0) T.FShownPolynomial T
  refine fn_pure F scLaw (by decide) (fun ds r h => by obtain ⟨_, _, rfl, _⟩ := h; rfl) (fun cdv A1 outer s H W B ds r hr hf hB => ?_)
  obtain ⟨ns, hns, rfl, rfl⟩ := hf
  have hu := hr.units
  refine ss_cons (s_forF PyData.int (xs := 0 :: ns.take 16) (src_l (E.to (E.fz (e_cat (E.pl (e_lst (d_cons e_int d_nil))) (E.pl (e_slL (E.o (e_var 0 rfl)) p_none (p_some e_int))) (by have := List.length_take (i := 16) (l := ns.map PyData.int); show _ + (cut _ none (some ((16 : Nat) : Int))).length ≤ _; rw [take_cut]; show 1 + _ ≤ _; omega))) (w := .list ((0 :: ns.take 16).map .int)) (by show PyData.list (_ ++ cut _ none (some ((16 : Nat) : Int))) = _; rw [take_cut, ← List.map_take]; rfl))) () (fun _ _ => ()) (fun t => [.d (.list (ns.map .int)), .any, .any, .any, .any, .any]) (fun t i => True) trivial (Le.refl _) (fun t i x hi hJ => ?_) (fun ρ' hJ l => ?_))
  · refine ⟨trivial, _, g_name 1 (nl hB) scLaw.nd, ?_⟩
    refine ss_cons (s_set 2 (e_lst (d_cons (e_var 1 rfl) (d_cons e_int d_nil))) ?_ (nl hB) scLaw.nd)
    have q1 := polyL_ok (s := (x, 0)) (m := 10 ^ 60 - 1) (t := 8) ⟨by decide, by decide⟩ (by decide)
    have b1 := polyL_tm (s := (x, 0))
    have n1 := polyS_n (s := (x, 0)) (m := 10 ^ 60 - 1) (t := 8) (by decide) (by decide)
    refine ss_cons (s_set 3 (e_call GPolynomial (hr.mono (by omega)) T.gPolynomial T.FPolynomial.kp T.bPolynomial (a_lent 2 rfl rfl (a_dat (e_sub (e_pow e_int e_int ⟨by decide, by decide, by decide⟩) e_int) (a_dat e_int a_nil))) ⟨(x, 0), 10 ^ 60 - 1, 8, ⟨Int.le_refl _, show (0 : Int) ≤ 800000 by decide⟩, ⟨by decide, by decide⟩, ⟨by decide, by decide⟩, rfl, rfl, rfl⟩ shape_1 (show [2].Nodup by decide) (fun _ _ z => z.elim)) ?_ (nl hB) scLaw.nd)
    show Ss _ _ _ [.d (.list (ns.map .int)), .d (.int x), rowA (polyS (x, 0) (10 ^ 60 - 1) 8), .d (encP (polyL (x, 0) (10 ^ 60 - 1) 8)), .any, .any] _
    generalize polyL (x, 0) (10 ^ 60 - 1) 8 = a0 at *
    generalize polyS (x, 0) (10 ^ 60 - 1) 8 = s1 at *
    dsimp only at n1
    have q2 := longL_ok (s := tkS s1 8) (a := 9) (b := 90) ⟨by decide, by decide⟩
    have b2 := longL_tm (s := tkS s1 8)
    refine ss_cons (s_ifR [.d (.list (ns.map .int)), .any, .any, .d (encP (if tkV s1 8 = 1 then longL (tkS s1 8) 9 90 else a0)), .any, .any] (t_eqI (e_take 2 (s := s1) GTake (hr.mono (by omega)) T.gTake T.FTake.kp T.bTake e_int ⟨_, rfl, rfl⟩ rfl) e_int) (fun hc => ?_) (fun hc => ?_) (fun ρ' l => ?_))
    · refine ss_one (s_set 3 (e_call GLong (hr.mono (by omega)) T.gLong T.FLong.kp T.bLong (a_lent 2 rfl rfl (a_dat e_int (a_dat e_int a_nil))) ⟨tkS s1 8, 9, 90, by rw [tkS_n]; omega, ⟨by decide, by decide, by decide⟩, rfl, rfl, rfl⟩ shape_1 (show [2].Nodup by decide) (fun _ _ z => z.elim)) ?_ (nl hB) scLaw.nd)
      refine .eq (.any (.any (.dd ?_ (.any (.any .nil)))))
      rw [if_pos (of_decide_eq_true hc)]
    · refine ss_nil (.eq (.any (.any (.dd ?_ (.any (.any .nil))))))
      rw [if_neg (of_decide_eq_false hc)]
    refine Ex.toLe ?_ l
    obtain ⟨a, ha, qa⟩ : ∃ a, (if tkV s1 8 = 1 then longL (tkS s1 8) 9 90 else a0) = a ∧ GoodL a := by
      refine ⟨_, rfl, ?_⟩
      split
      · exact ⟨q2.can, Nat.le_trans q2.len (by decide), b2⟩
      · exact ⟨q1.can, Nat.le_trans q1.len (by decide), b1⟩
    rw [ha]
    clear ha q1 q2 n1 b1 b2
    have hA := shownL_asc a
    refine ss_cons (s_set 4 (e_callP GText (hr.mono (by omega)) T.gText T.FText.kp T.bText (d_cons (e_var 3 rfl) d_nil) ⟨a, qa.2.1, qa.2.2, rfl, rfl⟩) ?_ (nl hB) scLaw.nd)
    refine ss_cons (s_set 5 (e_callP GReadPolynomial (hr.mono (by omega)) T.gReadPolynomial T.FReadPolynomial.kp T.bReadPolynomial (d_cons (e_var 4 rfl) d_nil) ⟨a, qa, rfl, rfl⟩) ?_ (nl hB) scLaw.nd)
    refine ss_one (s_if (t_w (w_or (t_neD (hr := hu) (E.o (e_callP (r := .d (.str (mkS (shownL a)))) GShownPolynomial (hr.mono (by omega)) T.gShownPolynomial T.FShownPolynomial.kp T.bShownPolynomial (d_cons (e_var 3 rfl) d_nil) ⟨a, qa.2.1, qa.2.2, rfl, rfl⟩)) (E.o (e_var 4 rfl)) (asc_ok hA) (asc_ok hA)) (fun _ => w_or (t_not (t_val (e_callP GMade (hr.mono (by omega)) T.gMade T.FMade.kp T.bMade (d_cons (e_var 5 rfl) d_nil) ⟨a, rfl, rfl⟩))) (fun _ => w_or1 (t_neD (hr := hu) (E.o (e_var 5 rfl)) (E.o (e_var 3 rfl)) (fit_P (n := 0) a).shaped (fit_P (n := 0) a).shaped))))) (fun hc => ?_) (fun hc => ss_nil ?_))
    · have hc : (!PyData.eqv (.str (mkS (shownL a))) (.str (mkS (shownL a))) || (!true || !PyData.eqv (encP a) (encP a))) = true := hc
      rw [eqv_str, decide_eq_true rfl, eqE_P a a, decide_eq_true rfl] at hc
      cases hc
    exact .eq (.any (.any (.any (.any (.any .nil)))))
  refine Ex.toLe ?_ l
  exact ss_one (s_ret e_bl (pr_is rfl))
end
theorem all_mk {l : PySem.W.OpenLaw} {w : World} {K : PySem.W.Frag} {h : Heap} {mg : Str → Option Value} {fa f1 f2 f3 f4 f5 f6 f7 f8 f9 f10 f11 f12 f13 f14 f15 f16 f17 : Addr} (X : K.In h) (G : h.Ns mainGlobals mg) (hfa : mg "law" = some (.ref fa))
    {od1 an1 od2 an2 od3 an3 od4 an4 od5 an5 od6 an6 od7 an7 od8 an8 od9 an9 od10 an10 od11 an11 od12 an12 od13 an13 od14 an14 od15 an15 od16 an16 od17 an17 : Option Addr} {sl1 sl2 sl3 sl4 sl5 sl6 sl7 sl8 sl9 sl10 sl11 sl12 sl13 sl14 sl15 sl16 sl17 : Array (Option Value)} {oc1 kV1 dc1 pm1 cd1 ct1 oc2 kV2 dc2 pm2 cd2 ct2 oc3 kV3 dc3 pm3 cd3 ct3 oc4 kV4 dc4 pm4 cd4 ct4 oc5 kV5 dc5 pm5 cd5 ct5 oc6 kV6 dc6 pm6 cd6 ct6 oc7 kV7 dc7 pm7 cd7 ct7 oc8 kV8 dc8 pm8 cd8 ct8 oc9 kV9 dc9 pm9 cd9 ct9 oc10 kV10 dc10 pm10 cd10 ct10 oc11 kV11 dc11 pm11 cd11 ct11 oc12 kV12 dc12 pm12 cd12 ct12 oc13 kV13 dc13 pm13 cd13 ct13 oc14 kV14 dc14 pm14 cd14 ct14 oc15 kV15 dc15 pm15 cd15 ct15 oc16 kV16 dc16 pm16 cd16 ct16 oc17 kV17 dc17 pm17 cd17 ct17 : Value}
    (a1 : PySem.W.nsIn K mainGlobals "_law_polynomial" = some (some (.ref f1))) (l1 : K.lookup f1 = some ⟨oc1, od1, .func (PySem.W.fnOf "_law_polynomial" "_law_polynomial" (defArgs sPolynomial) (defBody sPolynomial) (defScope sPolynomial) .none kV1 dc1 pm1 an1 cd1 ct1), sl1⟩) (c1 : PySem.W.codeIn K cd1 "_law_polynomial" = true) (k1 : PySem.W.keepIn K (.ref f1) = true)
    (a2 : PySem.W.nsIn K mainGlobals "_law_text" = some (some (.ref f2))) (l2 : K.lookup f2 = some ⟨oc2, od2, .func (PySem.W.fnOf "_law_text" "_law_text" (defArgs sText) (defBody sText) (defScope sText) .none kV2 dc2 pm2 an2 cd2 ct2), sl2⟩) (c2 : PySem.W.codeIn K cd2 "_law_text" = true) (k2 : PySem.W.keepIn K (.ref f2) = true)
    (a3 : PySem.W.nsIn K mainGlobals "read_polynomial" = some (some (.ref f3))) (l3 : K.lookup f3 = some ⟨oc3, od3, .func (PySem.W.fnOf "read_polynomial" "read_polynomial" (defArgs sReadPolynomial) (defBody sReadPolynomial) (defScope sReadPolynomial) .none kV3 dc3 pm3 an3 cd3 ct3), sl3⟩) (c3 : PySem.W.codeIn K cd3 "read_polynomial" = true) (k3 : PySem.W.keepIn K (.ref f3) = true)
    (a4 : PySem.W.nsIn K mainGlobals "_law_take" = some (some (.ref f4))) (l4 : K.lookup f4 = some ⟨oc4, od4, .func (PySem.W.fnOf "_law_take" "_law_take" (defArgs sTake) (defBody sTake) (defScope sTake) .none kV4 dc4 pm4 an4 cd4 ct4), sl4⟩) (c4 : PySem.W.codeIn K cd4 "_law_take" = true) (k4 : PySem.W.keepIn K (.ref f4) = true)
    (a5 : PySem.W.nsIn K mainGlobals "_law_long" = some (some (.ref f5))) (l5 : K.lookup f5 = some ⟨oc5, od5, .func (PySem.W.fnOf "_law_long" "_law_long" (defArgs sLong) (defBody sLong) (defScope sLong) .none kV5 dc5 pm5 an5 cd5 ct5), sl5⟩) (c5 : PySem.W.codeIn K cd5 "_law_long" = true) (k5 : PySem.W.keepIn K (.ref f5) = true)
    (a6 : PySem.W.nsIn K mainGlobals "shown_polynomial" = some (some (.ref f6))) (l6 : K.lookup f6 = some ⟨oc6, od6, .func (PySem.W.fnOf "shown_polynomial" "shown_polynomial" (defArgs sShownPolynomial) (defBody sShownPolynomial) (defScope sShownPolynomial) .none kV6 dc6 pm6 an6 cd6 ct6), sl6⟩) (c6 : PySem.W.codeIn K cd6 "shown_polynomial" = true) (k6 : PySem.W.keepIn K (.ref f6) = true)
    (a7 : PySem.W.nsIn K mainGlobals "_law_made" = some (some (.ref f7))) (l7 : K.lookup f7 = some ⟨oc7, od7, .func (PySem.W.fnOf "_law_made" "_law_made" (defArgs sMade) (defBody sMade) (defScope sMade) .none kV7 dc7 pm7 an7 cd7 ct7), sl7⟩) (c7 : PySem.W.codeIn K cd7 "_law_made" = true) (k7 : PySem.W.keepIn K (.ref f7) = true)
    (a8 : PySem.W.nsIn K mainGlobals "_law_number" = some (some (.ref f8))) (l8 : K.lookup f8 = some ⟨oc8, od8, .func (PySem.W.fnOf "_law_number" "_law_number" (defArgs sNumber) (defBody sNumber) (defScope sNumber) .none kV8 dc8 pm8 an8 cd8 ct8), sl8⟩) (c8 : PySem.W.codeIn K cd8 "_law_number" = true) (k8 : PySem.W.keepIn K (.ref f8) = true)
    (a9 : PySem.W.nsIn K mainGlobals "terms_of" = some (some (.ref f9))) (l9 : K.lookup f9 = some ⟨oc9, od9, .func (PySem.W.fnOf "terms_of" "terms_of" (defArgs sTermsOf) (defBody sTermsOf) (defScope sTermsOf) .none kV9 dc9 pm9 an9 cd9 ct9), sl9⟩) (c9 : PySem.W.codeIn K cd9 "terms_of" = true) (k9 : PySem.W.keepIn K (.ref f9) = true)
    (a10 : PySem.W.nsIn K mainGlobals "is_polynomial" = some (some (.ref f10))) (l10 : K.lookup f10 = some ⟨oc10, od10, .func (PySem.W.fnOf "is_polynomial" "is_polynomial" (defArgs sIsPolynomial) (defBody sIsPolynomial) (defScope sIsPolynomial) .none kV10 dc10 pm10 an10 cd10 ct10), sl10⟩) (c10 : PySem.W.codeIn K cd10 "is_polynomial" = true) (k10 : PySem.W.keepIn K (.ref f10) = true)
    (a11 : PySem.W.nsIn K mainGlobals "shown_term" = some (some (.ref f11))) (l11 : K.lookup f11 = some ⟨oc11, od11, .func (PySem.W.fnOf "shown_term" "shown_term" (defArgs sShownTerm) (defBody sShownTerm) (defScope sShownTerm) .none kV11 dc11 pm11 an11 cd11 ct11), sl11⟩) (c11 : PySem.W.codeIn K cd11 "shown_term" = true) (k11 : PySem.W.keepIn K (.ref f11) = true)
    (a12 : PySem.W.nsIn K mainGlobals "term_of" = some (some (.ref f12))) (l12 : K.lookup f12 = some ⟨oc12, od12, .func (PySem.W.fnOf "term_of" "term_of" (defArgs sTermOf) (defBody sTermOf) (defScope sTermOf) .none kV12 dc12 pm12 an12 cd12 ct12), sl12⟩) (c12 : PySem.W.codeIn K cd12 "term_of" = true) (k12 : PySem.W.keepIn K (.ref f12) = true)
    (a13 : PySem.W.nsIn K mainGlobals "is_term" = some (some (.ref f13))) (l13 : K.lookup f13 = some ⟨oc13, od13, .func (PySem.W.fnOf "is_term" "is_term" (defArgs sIsTerm) (defBody sIsTerm) (defScope sIsTerm) .none kV13 dc13 pm13 an13 cd13 ct13), sl13⟩) (c13 : PySem.W.codeIn K cd13 "is_term" = true) (k13 : PySem.W.keepIn K (.ref f13) = true)
    (a14 : PySem.W.nsIn K mainGlobals "power_of" = some (some (.ref f14))) (l14 : K.lookup f14 = some ⟨oc14, od14, .func (PySem.W.fnOf "power_of" "power_of" (defArgs sPowerOf) (defBody sPowerOf) (defScope sPowerOf) .none kV14 dc14 pm14 an14 cd14 ct14), sl14⟩) (c14 : PySem.W.codeIn K cd14 "power_of" = true) (k14 : PySem.W.keepIn K (.ref f14) = true)
    (a15 : PySem.W.nsIn K mainGlobals "number_of" = some (some (.ref f15))) (l15 : K.lookup f15 = some ⟨oc15, od15, .func (PySem.W.fnOf "number_of" "number_of" (defArgs sNumberOf) (defBody sNumberOf) (defScope sNumberOf) .none kV15 dc15 pm15 an15 cd15 ct15), sl15⟩) (c15 : PySem.W.codeIn K cd15 "number_of" = true) (k15 : PySem.W.keepIn K (.ref f15) = true)
    (a16 : PySem.W.nsIn K mainGlobals "is_whole" = some (some (.ref f16))) (l16 : K.lookup f16 = some ⟨oc16, od16, .func (PySem.W.fnOf "is_whole" "is_whole" (defArgs sIsWhole) (defBody sIsWhole) (defScope sIsWhole) .none kV16 dc16 pm16 an16 cd16 ct16), sl16⟩) (c16 : PySem.W.codeIn K cd16 "is_whole" = true) (k16 : PySem.W.keepIn K (.ref f16) = true)
    (a17 : PySem.W.nsIn K mainGlobals "law" = some (some (.ref f17))) (l17 : K.lookup f17 = some ⟨oc17, od17, .func (PySem.W.fnOf "law" "law" (defArgs sLaw) (defBody sLaw) (defScope sLaw) .none kV17 dc17 pm17 an17 cd17 ct17), sl17⟩) (c17 : PySem.W.codeIn K cd17 "law" = true) (k17 : PySem.W.keepIn K (.ref f17) = true)
    (z1 : PySem.W.nsIn K mainGlobals "range" = some none)
    (z2 : PySem.W.nsIn K mainGlobals "tuple" = some none)
    (z3 : PySem.W.nsIn K mainGlobals "str" = some none)
    (z4 : PySem.W.nsIn K mainGlobals "len" = some none)
    (z5 : PySem.W.nsIn K mainGlobals "abs" = some none)
    (z6 : PySem.W.nsIn K mainGlobals "int" = some none)
    (z7 : PySem.W.nsIn K mainGlobals "isinstance" = some none)
    (z8 : PySem.W.nsIn K mainGlobals "bool" = some none)
    (z9 : PySem.W.nsIn K mainGlobals "zip" = some none)
    (z10 : PySem.W.nsIn K mainGlobals "all" = some none)
    {v1_1 : Tok}
    (hc1 : PySem.W.nsIn K mainGlobals "MOST_FIGURES" = some (some (.int (60) v1_1)))
    {v2_1 : Tok}
    (hc2 : PySem.W.nsIn K mainGlobals "FIGURES" = some (some (.str "0123456789" v2_1)))
    {kd_ : Addr} {kes : Array DictEntry} {ksn : Nat} {kt0 kt1 : Tok}
    (kd1 : PySem.W.nsIn K mainGlobals "SIGNS" = some (some (.ref kd_))) (kd2 : K.lookup kd_ = some ⟨.type "dict", none, .dict kes ksn, #[]⟩) (kd3 : kes.toList.map He.keyOf = He.keysIn w.params ["+", "-"]) (kd4 : (kd_ == sysModules) = false)
    (kp0 : PySem.W.nsIn K kd_ "+" = some (some (.int (1) kt0))) (kp1 : PySem.W.nsIn K kd_ "-" = some (some (.int (-1) kt1)))
    : ∃ fd : FuncData, (∀ (s : Shared) (v : Value), BindsTo s fd ⟨[v], []⟩ [("_law_script", v)]) ∧ ∀ base : Heap, K.In base → base.Ns mainGlobals mg → FnOk l.prog w K mg base CX0 (0 + 6) fa fd ["_law_script"] (spA K (pure_ lawF)) := by
  have e := hfa.symm.trans (PySem.W.mg_of X G a17)
  cases e
  have F1 := fun_mk (st := sPolynomial) l1 c1 k1
  have F2 := fun_mk (st := sText) l2 c2 k2
  have F3 := fun_mk (st := sReadPolynomial) l3 c3 k3
  have F4 := fun_mk (st := sTake) l4 c4 k4
  have F5 := fun_mk (st := sLong) l5 c5 k5
  have F6 := fun_mk (st := sShownPolynomial) l6 c6 k6
  have F7 := fun_mk (st := sMade) l7 c7 k7
  have F8 := fun_mk (st := sNumber) l8 c8 k8
  have F9 := fun_mk (st := sTermsOf) l9 c9 k9
  have F10 := fun_mk (st := sIsPolynomial) l10 c10 k10
  have F11 := fun_mk (st := sShownTerm) l11 c11 k11
  have F12 := fun_mk (st := sTermOf) l12 c12 k12
  have F13 := fun_mk (st := sIsTerm) l13 c13 k13
  have F14 := fun_mk (st := sPowerOf) l14 c14 k14
  have F15 := fun_mk (st := sNumberOf) l15 c15 k15
  have F16 := fun_mk (st := sIsWhole) l16 c16 k16
  have F17 := fun_mk (st := sLaw) l17 c17 k17
  exact ⟨PySem.W.fnOf "law" "law" (defArgs sLaw) (defBody sLaw) (defScope sLaw) .none kV17 dc17 pm17 an17 cd17 ct17, fun s v => .of_eq rfl, fun base _ _ => ok_law (k := 0) F17 ⟨f1, _, F1, PySem.W.mg_of X G a1, f2, _, F2, PySem.W.mg_of X G a2, f3, _, F3, PySem.W.mg_of X G a3, f4, _, F4, PySem.W.mg_of X G a4, f5, _, F5, PySem.W.mg_of X G a5, f6, _, F6, PySem.W.mg_of X G a6, f7, _, F7, PySem.W.mg_of X G a7, f8, _, F8, PySem.W.mg_of X G a8, f9, _, F9, PySem.W.mg_of X G a9, f10, _, F10, PySem.W.mg_of X G a10, f11, _, F11, PySem.W.mg_of X G a11, f12, _, F12, PySem.W.mg_of X G a12, f13, _, F13, PySem.W.mg_of X G a13, f14, _, F14, PySem.W.mg_of X G a14, f15, _, F15, PySem.W.mg_of X G a15, f16, _, F16, PySem.W.mg_of X G a16, PySem.W.mg_none_of X G z1, PySem.W.mg_none_of X G z2, PySem.W.mg_none_of X G z3, PySem.W.mg_none_of X G z4, PySem.W.mg_none_of X G z5, PySem.W.mg_none_of X G z6, PySem.W.mg_none_of X G z7, PySem.W.mg_none_of X G z8, PySem.W.mg_none_of X G z9, PySem.W.mg_none_of X G z10, ⟨_, PySem.W.mg_of X G hc1, kd_int⟩, ⟨_, PySem.W.mg_of X G hc2, kd_str⟩⟩ ⟨kd_, kes, ksn, ⟨kd2, He.keysLit_of kd3, kd4⟩, PySem.W.mg_of X G kd1, kt0, kt1, kp0, kp1⟩⟩
end K24
open PySem PySem.W PyProof.Rows
set_option maxHeartbeats 0 in
theorem PySem.Challenge.cw_tanglehouse_k24_whole_polynomials_as_tex_holds : PySem.Challenge.rw_tanglehouse_k24_whole_polynomials_as_tex.Holds := by
  w_on; o_law; k_head; (case hw => w_witness2)
  k_fill
  refine L2.walk_of (l := PySem.Challenge.rw_tanglehouse_k24_whole_polynomials_as_tex) (n := 63) (k := 6) (x := "_law_script") (CX := fun _ => L2.CX0) (sp := fun w => Th.spA _ (Th.pure_ Th.lawF)) rfl (by decide) rfl ⟨rfl, by decide, by decide⟩ (fun w h Y => PySem.W.kIn_of Y) ?F (fun _ _ a ns hl _ hS => Th.law_go hl hS) (fun _ _ _ _ _ h => h)
  case F =>
    intro w mg fa h KX G hmg
    refine' K24.all_mk KX G hmg ?a1 ?l1 ?c1 ?k1 ?a2 ?l2 ?c2 ?k2 ?a3 ?l3 ?c3 ?k3 ?a4 ?l4 ?c4 ?k4 ?a5 ?l5 ?c5 ?k5 ?a6 ?l6 ?c6 ?k6 ?a7 ?l7 ?c7 ?k7 ?a8 ?l8 ?c8 ?k8 ?a9 ?l9 ?c9 ?k9 ?a10 ?l10 ?c10 ?k10 ?a11 ?l11 ?c11 ?k11 ?a12 ?l12 ?c12 ?k12 ?a13 ?l13 ?c13 ?k13 ?a14 ?l14 ?c14 ?k14 ?a15 ?l15 ?c15 ?k15 ?a16 ?l16 ?c16 ?k16 ?a17 ?l17 ?c17 ?k17 ?z1 ?z2 ?z3 ?z4 ?z5 ?z6 ?z7 ?z8 ?z9 ?z10 ?hc1 ?hc2 ?kd1 ?kd2 ?kd3 ?kd4 ?kp0 ?kp1
    (case a1 => k_is); (case l1 => k_is); (case c1 => k_is); (case k1 => k_is); (case a2 => k_is); (case l2 => k_is); (case c2 => k_is); (case k2 => k_is); (case a3 => k_is); (case l3 => k_is); (case c3 => k_is); (case k3 => k_is); (case a4 => k_is); (case l4 => k_is); (case c4 => k_is); (case k4 => k_is); (case a5 => k_is); (case l5 => k_is); (case c5 => k_is); (case k5 => k_is); (case a6 => k_is); (case l6 => k_is); (case c6 => k_is); (case k6 => k_is); (case a7 => k_is); (case l7 => k_is); (case c7 => k_is); (case k7 => k_is); (case a8 => k_is); (case l8 => k_is); (case c8 => k_is); (case k8 => k_is); (case a9 => k_is); (case l9 => k_is); (case c9 => k_is); (case k9 => k_is); (case a10 => k_is); (case l10 => k_is); (case c10 => k_is); (case k10 => k_is); (case a11 => k_is); (case l11 => k_is); (case c11 => k_is); (case k11 => k_is); (case a12 => k_is); (case l12 => k_is); (case c12 => k_is); (case k12 => k_is); (case a13 => k_is); (case l13 => k_is); (case c13 => k_is); (case k13 => k_is); (case a14 => k_is); (case l14 => k_is); (case c14 => k_is); (case k14 => k_is); (case a15 => k_is); (case l15 => k_is); (case c15 => k_is); (case k15 => k_is); (case a16 => k_is); (case l16 => k_is); (case c16 => k_is); (case k16 => k_is); (case a17 => k_is); (case l17 => k_is); (case c17 => k_is); (case k17 => k_is); (case z1 => k_is); (case z2 => k_is); (case z3 => k_is); (case z4 => k_is); (case z5 => k_is); (case z6 => k_is); (case z7 => k_is); (case z8 => k_is); (case z9 => k_is); (case z10 => k_is); (case hc1 => k_is); (case hc2 => k_is); (case kd1 => k_is); (case kd2 => k_is); (case kd3 => first | rfl | k_is); (case kd4 => first | rfl | k_is); (case kp0 => k_is); (case kp1 => k_is)

