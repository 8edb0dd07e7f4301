import PyProof.Rows.All
import Wide.All
import OpenK.AllK
import Wide.FinOn
import HandS.ForMost
import HandS.Wide
import HandS.IsInst
import HandS.SortInts
import HandS.Zip
import HandS.TupAny
import KE.KDictKeyed
import HandS.More
import HandS.SetFor
import HandS.Style
import HandS.Rev
import HandS.Conv
import HandS.ExcOwn
import HandS.TryOnly
import HandS.WordsExc
import HandS.ExcIs
import HandS.SetKeys
import KE.GoesZip
import KE.KEqDict
import HandS.Finally
import KE.DataMinMax
import HandS.SortKw
import HandS.SortRule
import HandS.Text
import HandS.HeadHook3
import HandS.Steps
import PySem.Challenge.RW_tanglehouse_k03_whole_shown_and_read
set_option Elab.async false
set_option linter.all false
set_option maxRecDepth 100000
namespace Th
open PySem PySem.Spec PyProof.Rows L2

/-- whatever the heap that stays tells of a value -/
structure Gn where
  R : PySem.W.Frag → Hp → V → Prop
  mono : ∀ {K : PySem.W.Frag} {H H' : Hp} {x : V}, (∀ b o, H b = some o → H' b = some o) → R K H x → R K H' x
/-- an own object of any kind, what it leads to being in the heap that stays -/
structure Go where
  R : PySem.W.Frag → Hp → Addr → HO → Prop
  mono : ∀ {K : PySem.W.Frag} {H H' : Hp} {p : Addr} {o : HO}, (∀ b o, H b = some o → H' b = some o) → R K H p o → R K H' p o
  mu : ∀ {K : PySem.W.Frag} {H : Hp} {p : Addr} {o : HO}, R K H p o → Mut (some o)
/-- a new thing of any make, told by the heap in which it wasn't there, what stays, and the heap -/
structure Nw where
  R : PySem.W.Frag → Hp → Hp → Hp → V → Prop
  fresh : ∀ {K : PySem.W.Frag} {H H1 HF' H' : Hp} {x : V}, (∀ p, H1 p = none → H p = none) → R K H1 HF' H' x → R K H HF' H' x
  later : ∀ {K : PySem.W.Frag} {H HF1 H1 HF2 H2 : Hp} {x : V}, (∀ b o, HF1 b = some o → HF2 b = some o) → (∀ b o, H1 b = some o → H b = none → H2 b = some o ∧ (HF1 b = none → HF2 b = none)) → R K H HF1 H1 x → R K H HF2 H2 x
/-! ### what a slot holds: data that stays, or an object of one's own -/
inductive A where
  | d (v : PyData)
  | ml (xs : List PyData)
  | mk (kvs : List (Key × PyData))
  | mt (kvs : List (NestedKey × PyData))
  | fk (kvs : List (Key × PyData))
  | ft (kvs : List (NestedKey × PyData))
  | tw (l : List (List PyData ⊕ PyData))
  | dl (m : List (Int × List PyData))
  | rk (kvs : List (Key × PyData))
  | pin (x : V)
  | gn (g : Gn)
  | go (g : Go)
  | nw (g : Nw)
  | any
def A.own : A → Bool
  | .ml _ => true
  | .mk _ => true
  | .mt _ => true
  | .go _ => true
  | _ => false
abbrev Rho := List A

theorem same_upd {H : Hp} {p : Addr} {o : HO} (h : H p = none) : Same H (upd H p o) := fun b x e => by
  rw [upd_ne (ne_of_none e h)]
  exact e
theorem same_rd {H H' : Hp} {a : Addr} {o : HO} (s : Same H H') (h : Rd H a o) : Rd H' a o := h.elim (fun h => .inl (s _ _ h)) (fun ⟨u, h⟩ => .inr ⟨u, s _ _ h⟩)
theorem same_l {K : PySem.W.Frag} {H H' : Hp} {a : Addr} {xs : List V} (s : Same H H') (h : SqL K H a xs) : SqL K H' a xs := h.elim (fun h => .inl (same_rd s h)) .inr
theorem same_t {K : PySem.W.Frag} {H H' : Hp} {a : Addr} {xs : List V} (s : Same H H') (h : SqT K H a xs) : SqT K H' a xs := h.elim (fun h => .inl (same_rd s h)) .inr
section
variable {K : PySem.W.Frag} {H H' : Hp}
mutual
theorem dp_mono (s : Same H H') : ∀ {v : V} {d : PyData}, Dp K H v d → Dp K H' v d
  | _, _, .non => .non
  | _, _, .bl b => .bl b
  | _, _, .int i => .int i
  | _, _, .str x => .str x
  | _, _, .lst h a => .lst (same_l s h) (dpa_mono s a)
  | _, _, .tup h a => .tup (same_t s h) (dpa_mono s a)
theorem dpa_mono (s : Same H H') : ∀ {vs : List V} {ds : List PyData}, DpAll K H vs ds → DpAll K H' vs ds
  | _, _, .nil => .nil
  | _, _, .cons h t => .cons (dp_mono s h) (dpa_mono s t)
end
theorem dpa_len : ∀ {vs : List V} {ds : List PyData}, DpAll K H vs ds → vs.length = ds.length
  | _, _, .nil => rfl
  | _, _, .cons _ t => congrArg (· + 1) (dpa_len t)
theorem dpa_get : ∀ {vs : List V} {ds : List PyData} {i : Nat} {d : PyData}, DpAll K H vs ds → ds[i]? = some d → ∃ v, vs[i]? = some v ∧ Dp K H v d
  | _, _, _, _, .nil, e => by simp at e
  | _, _, 0, _, .cons h _, e => by simp at e; subst e; exact ⟨_, rfl, h⟩
  | _, _, i + 1, d, .cons _ t, e => by
    obtain ⟨v, a, b⟩ := dpa_get (i := i) (d := d) t (by simpa using e)
    exact ⟨v, by simpa using a, b⟩
theorem dpa_get' : ∀ {vs : List V} {ds : List PyData} {i : Nat} {v : V}, DpAll K H vs ds → vs[i]? = some v → ∃ d, ds[i]? = some d ∧ Dp K H v d
  | _, _, _, _, .nil, e => by simp at e
  | _, _, 0, _, .cons h _, e => by simp at e; subst e; exact ⟨_, rfl, h⟩
  | _, _, i + 1, d, .cons _ t, e => by
    obtain ⟨v, a, b⟩ := dpa_get' (i := i) (v := d) t (by simpa using e)
    exact ⟨v, by simpa using a, b⟩
theorem dpa_app : ∀ {vs ws : List V} {ds es : List PyData}, DpAll K H vs ds → DpAll K H ws es → DpAll K H (vs ++ ws) (ds ++ es)
  | _, _, _, _, .nil, h => h
  | _, _, _, _, .cons a t, h => .cons a (dpa_app t h)
theorem dpa_set : ∀ {vs : List V} {ds : List PyData} {i : Nat} {v : V} {d : PyData}, DpAll K H vs ds → Dp K H v d → DpAll K H (vs.set i v) (ds.set i d)
  | _, _, _, _, _, .nil, _ => .nil
  | _, _, 0, _, _, .cons _ t, h => .cons h t
  | _, _, i + 1, _, _, .cons a t, h => .cons a (dpa_set t h)
theorem dpa_take : ∀ {vs : List V} {ds : List PyData} (n : Nat), DpAll K H vs ds → DpAll K H (vs.take n) (ds.take n)
  | _, _, 0, _ => .nil
  | _, _, _ + 1, .nil => .nil
  | _, _, n + 1, .cons a t => .cons a (dpa_take n t)
theorem dpa_drop : ∀ {vs : List V} {ds : List PyData} (n : Nat), DpAll K H vs ds → DpAll K H (vs.drop n) (ds.drop n)
  | _, _, 0, h => h
  | _, _, _ + 1, .nil => .nil
  | _, _, n + 1, .cons _ t => dpa_drop n t
theorem dpa_rev : ∀ {vs : List V} {ds : List PyData}, DpAll K H vs ds → DpAll K H vs.reverse ds.reverse
  | _, _, .nil => .nil
  | _, _, .cons a t => by
    rw [List.reverse_cons, List.reverse_cons]
    exact dpa_app (dpa_rev t) (.cons a .nil)
end

def DpKV {κ : Type} (K : PySem.W.Frag) (HF : Hp) : List (κ × V) → List (κ × PyData) → Prop := Paired fun p q => p.1 = q.1 ∧ Dp K HF p.2 q.2
theorem dpkv_mono {κ : Type} {K : PySem.W.Frag} {H H' : Hp} (s : Same H H') {l : List (κ × V)} {m : List (κ × PyData)} (h : DpKV K H l m) : DpKV K H' l m := Paired.mapP h fun _ _ q => ⟨q.1, dp_mono s q.2⟩

/-! dicts whose keys are tuples, nested or not, without texts: known by the object itself -/
mutual
def noTx : NestedKey → Bool
  | .text _ => false
  | .tup ks => noTxs ks
  | .none => true
  | .num _ => true
def noTxs : List NestedKey → Bool
  | [] => true
  | k :: ks => noTx k && noTxs ks
end
mutual
theorem hash_noTx (w w' : World) : ∀ k : NestedKey, noTx k = true → k.hash w = k.hash w'
  | .none, _ => by simp only [NestedKey.hash]
  | .num _, _ => by simp only [NestedKey.hash]
  | .text _, h => by simp [noTx] at h
  | .tup ks, h => by
    simp only [NestedKey.hash]
    rw [hashes_noTx w w' ks (by simpa [noTx] using h)]
theorem hashes_noTx (w w' : World) : ∀ ks : List NestedKey, noTxs ks = true → NestedKey.hashes w ks = NestedKey.hashes w' ks
  | [], _ => by simp only [NestedKey.hashes]
  | k :: ks, h => by
    simp only [noTxs, Bool.and_eq_true] at h
    simp only [NestedKey.hashes]
    rw [hash_noTx w w' k h.1, hashes_noTx w w' ks h.2]
end
def AtO (p : Addr) (o : Obj) : HO := .ext fun h => h.get? p = some o
structure TabOf (o : Obj) (xs : List (NestedKey × Addr × Value)) : Prop where
  ex : o.ExactDict
  nt : ∀ x ∈ xs, noTx x.1 = true
  nd : (xs.map (·.1)).Nodup
  es : ∃ (w : World) (es : Array DictEntry) (ep : Nat), o.data = .dict es ep ∧ es.toList = xs.map fun x => ⟨x.1.hash w, .ref x.2.1, x.2.2⟩
def TKV (K : PySem.W.Frag) (HF : Hp) : List (NestedKey × Addr × Value) → List (NestedKey × PyData) → Prop := Paired fun x kv => x.1 = kv.1 ∧ kv.1.depth ≤ 8 ∧ Dp K HF (.ref x.2.1) kv.1.data ∧ ∃ v, RelV v x.2.2 ∧ Dp K HF v kv.2
theorem tkv_mono {K : PySem.W.Frag} {H H' : Hp} (s : Same H H') {xs : List (NestedKey × Addr × Value)} {kvs : List (NestedKey × PyData)} (h : TKV K H xs kvs) : TKV K H' xs kvs := Paired.mapP h fun _ _ q => by
  obtain ⟨a, b, c, v, d, e⟩ := q
  exact ⟨a, b, dp_mono s c, v, d, dp_mono s e⟩
def TRel (K : PySem.W.Frag) (HF : Hp) (p : Addr) (u : HO) (kvs : List (NestedKey × PyData)) : Prop := ∃ o xs, u = AtO p o ∧ (p == sysModules) = false ∧ TabOf o xs ∧ TKV K HF xs kvs
theorem trel_mono {K : PySem.W.Frag} {H H' : Hp} (s : Same H H') {p : Addr} {u : HO} {kvs : List (NestedKey × PyData)} (h : TRel K H p u kvs) : TRel K H' p u kvs := by
  obtain ⟨o, xs, a, b, c, d⟩ := h
  exact ⟨o, xs, a, b, c, tkv_mono s d⟩

/-- an own object's content -/
def HRel (K : PySem.W.Frag) (HF : Hp) (p : Addr) : HO → A → Prop
  | .lst ys, .ml xs => DpAll K HF ys xs
  | .dK kws, .mk kvs => DpKV K HF kws kvs
  | .ext φ, .mt kvs => TRel K HF p (.ext φ) kvs
  | o, .go g => g.R K HF p o
  | _, _ => False
theorem hrel_mono {K : PySem.W.Frag} {HF HF' : Hp} (s : Same HF HF') {p : Addr} {o : HO} {a : A} (h : HRel K HF p o a) : HRel K HF' p o a := by
  cases o <;> cases a <;> first | exact h.elim | exact dpa_mono s h | exact dpkv_mono s h | exact trel_mono s h | exact Go.mono _ s h
theorem hrel_own {K : PySem.W.Frag} {HF : Hp} {p : Addr} {o : HO} {a : A} (h : HRel K HF p o a) : a.own = true := by
  cases o <;> cases a <;> first | exact h.elim | rfl
theorem hrel_mut {K : PySem.W.Frag} {HF : Hp} {p : Addr} {o : HO} {a : A} (h : HRel K HF p o a) : Mut (some o) := by
  cases o <;> cases a <;> first | exact h.elim | exact Go.mu _ h | trivial

def Owns (K : PySem.W.Frag) (HF H : Hp) (x : V) (a : A) : Prop := ∃ p o, x = .ref p ∧ HF p = none ∧ H p = some o ∧ HRel K HF p o a
/-- a dict that nobody changes -/
def FkRel (K : PySem.W.Frag) (HF : Hp) (x : V) (kvs : List (Key × PyData)) : Prop := ∃ p kws od, x = .ref p ∧ HF p = some (.frz od (.dK kws)) ∧ DpKV K HF kws kvs
def FtRel (K : PySem.W.Frag) (HF : Hp) (x : V) (kvs : List (NestedKey × PyData)) : Prop := ∃ p u, x = .ref p ∧ HF p = some u ∧ TRel K HF p u kvs
theorem fk_mono {K : PySem.W.Frag} {HF HF' : Hp} (s : Same HF HF') {x : V} {kvs : List (Key × PyData)} (h : FkRel K HF x kvs) : FkRel K HF' x kvs := by
  obtain ⟨p, kws, od, e, h1, h2⟩ := h
  exact ⟨p, kws, od, e, s _ _ h1, dpkv_mono s h2⟩
theorem ft_mono {K : PySem.W.Frag} {HF HF' : Hp} (s : Same HF HF') {x : V} {kvs : List (NestedKey × PyData)} (h : FtRel K HF x kvs) : FtRel K HF' x kvs := by
  obtain ⟨p, u, e, h1, h2⟩ := h
  exact ⟨p, u, e, s _ _ h1, trel_mono s h2⟩
/-- a dict that is read for a while -/
def RkRel (K : PySem.W.Frag) (HF : Hp) (x : V) (kvs : List (Key × PyData)) : Prop := ∃ p kws, x = .ref p ∧ HF p = some (.dK kws) ∧ DpKV K HF kws kvs
theorem rk_mono {K : PySem.W.Frag} {HF HF' : Hp} (s : Same HF HF') {x : V} {kvs : List (Key × PyData)} (h : RkRel K HF x kvs) : RkRel K HF' x kvs := by
  obtain ⟨p, kws, e, h1, h2⟩ := h
  exact ⟨p, kws, e, s _ _ h1, dpkv_mono s h2⟩
def ARel (K : PySem.W.Frag) (HF H : Hp) (s : Option V) : A → Prop
  | .d v => ∃ x, s = some x ∧ Dp K HF x v
  | .any => True
  | .tw _ => True
  | .dl _ => True
  | .nw _ => True
  | .rk kvs => ∃ x, s = some x ∧ RkRel K HF x kvs
  | .pin y => s = some y
  | .fk kvs => ∃ x, s = some x ∧ FkRel K HF x kvs
  | .ft kvs => ∃ x, s = some x ∧ FtRel K HF x kvs
  | .gn g => ∃ x, s = some x ∧ g.R K HF x
  | a => ∃ x, s = some x ∧ Owns K HF H x a
theorem arel_own {K : PySem.W.Frag} {HF H : Hp} {s : Option V} {a : A} (ho : a.own = true) : ARel K HF H s a ↔ ∃ x, s = some x ∧ Owns K HF H x a := by
  cases a <;> first | exact Iff.rfl | cases ho

def OwnAt (ρ : Rho) (σ : L2.St) (p : Addr) : Prop := ∃ (i : Nat) (a : A), ρ[i]? = some a ∧ a.own = true ∧ σ[i]? = some (some (V.ref p))
structure Sl (K : PySem.W.Frag) (ρ : Rho) (σ : L2.St) (HF H : Hp) : Prop where
  len : σ.length = ρ.length
  sub : Same HF H
  slot : ∀ (i : Nat) (a : A), ρ[i]? = some a → ∃ s, σ[i]? = some s ∧ ARel K HF H s a
  apart : ∀ (i j : Nat) (a b : A) (p : Addr), ρ[i]? = some a → ρ[j]? = some b → a.own = true → b.own = true → σ[i]? = some (some (V.ref p)) → σ[j]? = some (some (V.ref p)) → i = j
theorem Sl.at {K : PySem.W.Frag} {ρ : Rho} {σ : L2.St} {HF H : Hp} (S : Sl K ρ σ HF H) {i : Nat} {v : PyData} (h : ρ[i]? = some (.d v)) : ∃ x, σ[i]? = some (some x) ∧ Dp K HF x v := by
  obtain ⟨s, e, x, rfl, q⟩ := S.slot i _ h
  exact ⟨x, e, q⟩
theorem Sl.ownAt {K : PySem.W.Frag} {ρ : Rho} {σ : L2.St} {HF H : Hp} (S : Sl K ρ σ HF H) {i : Nat} {a : A} (h : ρ[i]? = some a) (ho : a.own = true) : ∃ p o, σ[i]? = some (some (V.ref p)) ∧ HF p = none ∧ H p = some o ∧ HRel K HF p o a := by
  obtain ⟨s, e, q⟩ := S.slot i _ h
  obtain ⟨x, rfl, p, o, rfl, q1, q2, q3⟩ := (arel_own ho).mp q
  exact ⟨p, o, e, q1, q2, q3⟩
theorem Sl.ownAt' {K : PySem.W.Frag} {ρ : Rho} {σ : L2.St} {HF H : Hp} (S : Sl K ρ σ HF H) {p : Addr} (h : OwnAt ρ σ p) : HF p = none ∧ ∃ o, H p = some o := by
  obtain ⟨i, a, e1, ho, e2⟩ := h
  obtain ⟨q, o, e3, h1, h2, _⟩ := S.ownAt e1 ho
  rw [e2] at e3
  cases e3
  exact ⟨h1, o, h2⟩

/-- the shape stays -/
def Shape (ρ ρ' : Rho) : Prop := ρ'.length = ρ.length ∧ ∀ (i : Nat) (a : A), ρ[i]? = some a → ∃ a' : A, ρ'[i]? = some a' ∧ a'.own = a.own ∧ (a.own = false → a' = a)
theorem Shape.refl (ρ : Rho) : Shape ρ ρ := ⟨rfl, fun i a h => ⟨a, h, rfl, fun _ => rfl⟩⟩
theorem Shape.trans {ρ ρ1 ρ2 : Rho} (a : Shape ρ ρ1) (b : Shape ρ1 ρ2) : Shape ρ ρ2 := ⟨b.1.trans a.1, fun i x h => by
  obtain ⟨y, h1, h2, h3⟩ := a.2 i x h
  obtain ⟨z, g1, g2, g3⟩ := b.2 i y h1
  exact ⟨z, g1, g2.trans h2, fun e => (g3 (h2.trans e)).trans (h3 e)⟩⟩
theorem Shape.back {ρ ρ' : Rho} (s : Shape ρ ρ') {i : Nat} {a' : A} (h : ρ'[i]? = some a') : ∃ a, ρ[i]? = some a ∧ a'.own = a.own ∧ (a.own = false → a' = a) := by
  have hi : i < ρ.length := by
    have := (List.getElem?_eq_some_iff.mp h).1
    rw [s.1] at this
    exact this
  obtain ⟨a2, h1, h2, h3⟩ := s.2 i ρ[i] (List.getElem?_eq_getElem hi)
  rw [h] at h1
  cases h1
  exact ⟨_, List.getElem?_eq_getElem hi, h2, h3⟩
theorem Shape.own {ρ ρ' : Rho} (s : Shape ρ ρ') {σ : L2.St} {p : Addr} : OwnAt ρ' σ p ↔ OwnAt ρ σ p := by
  constructor
  · rintro ⟨i, a, h1, h2, h3⟩
    obtain ⟨b, g1, g2, _⟩ := s.back h1
    exact ⟨i, b, g1, by rw [← g2]; exact h2, h3⟩
  · rintro ⟨i, a, h1, h2, h3⟩
    obtain ⟨b, g1, g2, _⟩ := s.2 i a h1
    exact ⟨i, b, g1, by rw [g2]; exact h2, h3⟩

structure Fw (ρ ρ' : Rho) (σ : L2.St) (HF H HF' H' : Hp) : Prop where
  sh : Shape ρ ρ'
  hf : Same HF HF'
  keep : ∀ b o, H b = some o → ¬ OwnAt ρ σ b → H' b = some o
  new : ∀ b o, HF' b = some o → HF b = some o ∨ H b = none
  pres : ∀ b o, H b = some o → ∃ o', H' b = some o'
theorem Fw.refl (ρ : Rho) (σ : L2.St) (HF H : Hp) : Fw ρ ρ σ HF H HF H := ⟨.refl ρ, .refl _, fun _ _ h _ => h, fun _ _ h => .inl h, fun _ o h => ⟨o, h⟩⟩
theorem Fw.trans {ρ ρ1 ρ2 : Rho} {σ : L2.St} {HF H HF1 H1 HF2 H2 : Hp} (a : Fw ρ ρ1 σ HF H HF1 H1) (b : Fw ρ1 ρ2 σ HF1 H1 HF2 H2) : Fw ρ ρ2 σ HF H HF2 H2 where
  sh := a.sh.trans b.sh
  hf := a.hf.trans b.hf
  keep := fun p o h n => b.keep p o (a.keep p o h n) fun z => n (a.sh.own.mp z)
  new := fun p o h => by
    rcases b.new p o h with h | h
    · exact a.new p o h
    · cases q : H p with
      | none => exact .inr rfl
      | some u =>
        obtain ⟨o', e⟩ := a.pres p u q
        rw [h] at e
        cases e
  pres := fun p o h => by
    obtain ⟨o', e⟩ := a.pres p o h
    exact b.pres p o' e
/-- what is new stays so -/
theorem Fw.fresh {ρ ρ' : Rho} {σ : L2.St} {HF H HF' H' : Hp} (f : Fw ρ ρ' σ HF H HF' H') {p : Addr} (h : H' p = none) : H p = none := by
  cases q : H p with
  | none => rfl
  | some u =>
    obtain ⟨o', e⟩ := f.pres p u q
    rw [h] at e
    cases e
theorem Fw.hfn {ρ ρ' : Rho} {σ : L2.St} {HF H HF' H' : Hp} (f : Fw ρ ρ' σ HF H HF' H') {p : Addr} {o : HO} (h : HF p = none) (h2 : H p = some o) : HF' p = none := by
  cases q : HF' p with
  | none => rfl
  | some u =>
    rcases f.new p u q with e | e
    · rw [h] at e; cases e
    · rw [h2] at e; cases e

/-! ### a new object -/
section
variable {K : PySem.W.Frag} {ρ : Rho} {σ : L2.St} {HF H : Hp} {p : Addr}
theorem Sl.notOwn (S : Sl K ρ σ HF H) (hp : H p = none) : ¬ OwnAt ρ σ p := fun z => by
  obtain ⟨_, o, e⟩ := S.ownAt' z
  rw [hp] at e
  cases e
theorem Sl.hfNone (S : Sl K ρ σ HF H) (hp : H p = none) : HF p = none := by
  cases q : HF p with
  | none => rfl
  | some u =>
    have := S.sub p u q
    rw [hp] at this
    cases this
theorem arel_mono {HF' H' : Hp} {s : Option V} {a : A} (h : ARel K HF H s a) (hf : Same HF HF') (ho : ∀ p o, s = some (.ref p) → HF p = none → H p = some o → a.own = true → HF' p = none ∧ H' p = some o) : ARel K HF' H' s a := by
  cases hc : a.own with
  | true =>
    obtain ⟨x, rfl, p, o, rfl, h1, h2, h3⟩ := (arel_own hc).mp h
    obtain ⟨g1, g2⟩ := ho p o rfl h1 h2 hc
    exact (arel_own hc).mpr ⟨_, rfl, p, o, rfl, g1, g2, hrel_mono hf h3⟩
  | false =>
    cases a with
    | d v => obtain ⟨x, e, q⟩ := h; exact ⟨x, e, dp_mono hf q⟩
    | any => trivial
    | tw _ => trivial
    | dl _ => trivial
    | nw _ => trivial
    | rk v => obtain ⟨x, e, q⟩ := h; exact ⟨x, e, rk_mono hf q⟩
    | pin y => exact h
    | fk v => obtain ⟨x, e, q⟩ := h; exact ⟨x, e, fk_mono hf q⟩
    | ft v => obtain ⟨x, e, q⟩ := h; exact ⟨x, e, ft_mono hf q⟩
    | gn g => obtain ⟨x, e, q⟩ := h; exact ⟨x, e, g.mono hf q⟩
    | go _ => cases hc
    | ml _ => cases hc
    | mk _ => cases hc
    | mt _ => cases hc
/-- an own object that stands nowhere -/
theorem Sl.allocO (S : Sl K ρ σ HF H) (hp : H p = none) (o : HO) : Sl K ρ σ HF (upd H p o) ∧ Fw ρ ρ σ HF H HF (upd H p o) := by
  refine ⟨⟨S.len, fun b u e => ?_, fun i a h => ?_, S.apart⟩, ⟨.refl ρ, .refl _, fun b u e _ => ?_, fun _ _ h => .inl h, fun b u e => ?_⟩⟩
  · rw [upd_ne (ne_of_none (S.sub b u e) hp)]
    exact S.sub b u e
  · obtain ⟨s, e, q⟩ := S.slot i a h
    refine ⟨s, e, arel_mono q (.refl _) fun b u e1 h1 h2 _ => ⟨h1, ?_⟩⟩
    rw [upd_ne (ne_of_none h2 hp)]
    exact h2
  · rw [upd_ne (ne_of_none e hp)]
    exact e
  · exact ⟨u, by rw [upd_ne (ne_of_none e hp)]; exact e⟩
/-- data -/
theorem Sl.allocD (S : Sl K ρ σ HF H) (hp : H p = none) (o : HO) : Sl K ρ σ (upd HF p o) (upd H p o) ∧ Fw ρ ρ σ HF H (upd HF p o) (upd H p o) := by
  have hfp := S.hfNone hp
  refine ⟨⟨S.len, fun b u e => ?_, fun i a h => ?_, S.apart⟩, ⟨.refl ρ, same_upd hfp, fun b u e _ => ?_, fun b u e => ?_, fun b u e => ?_⟩⟩
  · by_cases hb : b = p
    · subst hb
      rw [upd_same] at e ⊢
      exact e
    · rw [upd_ne hb] at e ⊢
      exact S.sub b u e
  · obtain ⟨s, e, q⟩ := S.slot i a h
    refine ⟨s, e, arel_mono q (same_upd hfp) fun b u e1 h1 h2 _ => ?_⟩
    have hb := ne_of_none h2 hp
    rw [upd_ne hb, upd_ne hb]
    exact ⟨h1, h2⟩
  · rw [upd_ne (ne_of_none e hp)]
    exact e
  · by_cases hb : b = p
    · subst hb
      exact .inr hp
    · rw [upd_ne hb] at e
      exact .inl e
  · exact ⟨u, by rw [upd_ne (ne_of_none e hp)]; exact e⟩
/-- an own object in no slot becomes data -/
theorem Sl.frz (S : Sl K ρ σ HF H) {o : HO} (hp : H p = some o) (hn : HF p = none) (hw : ¬ OwnAt ρ σ p) : Sl K ρ σ (upd HF p o) H := by
  refine ⟨S.len, fun b u e => ?_, fun i a h => ?_, S.apart⟩
  · by_cases hb : b = p
    · subst hb
      rw [upd_same] at e
      exact hp.trans e
    · rw [upd_ne hb] at e
      exact S.sub b u e
  · obtain ⟨s, e, q⟩ := S.slot i a h
    refine ⟨s, e, arel_mono q (same_upd hn) fun b u e1 h1 h2 ho => ⟨?_, h2⟩⟩
    rw [upd_ne fun z => hw ⟨i, a, h, ho, by rw [← z, e, e1]⟩]
    exact h1
end

/-! ### results -/
/-- an item of a new tuple: a new list, or data -/
def TwR (K : PySem.W.Frag) (H HF' H' : Hp) (x : V) : List PyData ⊕ PyData → Prop
  | .inl zs => ∃ q us, x = .ref q ∧ H q = none ∧ HF' q = none ∧ H' q = some (.lst us) ∧ DpAll K HF' us zs
  | .inr v => Dp K HF' x v
def TwRel (K : PySem.W.Frag) (H HF' H' : Hp) (x : V) (l : List (List PyData ⊕ PyData)) : Prop := ∃ t ys, x = .ref t ∧ H t = none ∧ HF' t = none ∧ H' t = some (.tup ys) ∧ Paired (TwR K H HF' H') ys l
/-- a new dict of new lists -/
def DlI (K : PySem.W.Frag) (H0 HF H : Hp) (w : Key × V) (kv : Int × List PyData) : Prop := w.1 = Sum.inl kv.1 ∧ ∃ q us, w.2 = .ref q ∧ H0 q = none ∧ HF q = none ∧ H q = some (.lst us) ∧ DpAll K HF us kv.2
structure DlK (K : PySem.W.Frag) (H0 : Hp) (p : Addr) (kws : List (Key × V)) (m : List (Int × List PyData)) (HF H : Hp) : Prop where
  at_ : H p = some (.dK kws)
  base : H0 p = none
  fr : HF p = none
  its : Paired (DlI K H0 HF H) kws m
  nk : (m.map (·.1)).Nodup
  na : (kws.map (·.2)).Nodup
def RRel (K : PySem.W.Frag) (H HF' H' : Hp) (x : V) : A → Prop
  | .d v => Dp K HF' x v
  | .any => True
  | .tw l => TwRel K H HF' H' x l
  | .dl m => ∃ p kws, x = .ref p ∧ DlK K H p kws m HF' H'
  | .rk kvs => RkRel K HF' x kvs
  | .pin y => x = y
  | .fk kvs => FkRel K HF' x kvs
  | .ft kvs => FtRel K HF' x kvs
  | .gn g => g.R K HF' x
  | .nw g => g.R K H HF' H' x
  | a => ∃ p o, x = .ref p ∧ H p = none ∧ HF' p = none ∧ H' p = some o ∧ HRel K HF' p o a
theorem rrel_own {K : PySem.W.Frag} {H HF' H' : Hp} {x : V} {a : A} (ho : a.own = true) : RRel K H HF' H' x a ↔ ∃ p o, x = .ref p ∧ H p = none ∧ HF' p = none ∧ H' p = some o ∧ HRel K HF' p o a := by
  cases a <;> first | exact Iff.rfl | cases ho
theorem dl_fresh {K : PySem.W.Frag} {H H1 HF' H' : Hp} {x : V} {m : List (Int × List PyData)} (h : ∀ p, H1 p = none → H p = none) (r : RRel K H1 HF' H' x (.dl m)) : RRel K H HF' H' x (.dl m) := by
  obtain ⟨p, kws, e, g⟩ := r
  exact ⟨p, kws, e, g.at_, h _ g.base, g.fr, Paired.mapP g.its fun w kv z => by
    obtain ⟨z1, q, us, z2, z3, z4, z5, z6⟩ := z
    exact ⟨z1, q, us, z2, h _ z3, z4, z5, z6⟩, g.nk, g.na⟩
theorem tw_fresh {K : PySem.W.Frag} {H H1 HF' H' : Hp} {x : V} {l : List (List PyData ⊕ PyData)} (h : ∀ p, H1 p = none → H p = none) (r : TwRel K H1 HF' H' x l) : TwRel K H HF' H' x l := by
  obtain ⟨t, ys, e, h1, h2, h3, h4⟩ := r
  refine ⟨t, ys, e, h _ h1, h2, h3, Paired.mapP h4 fun y a z => ?_⟩
  cases a with
  | inl zs => obtain ⟨q, us, g1, g2, g3⟩ := z; exact ⟨q, us, g1, h _ g2, g3⟩
  | inr v => exact z
def Ev (K : PySem.W.Frag) (te : TE) (ρ : Rho) (a : A) (ρ' : Rho) : Prop := ∀ σ HF H, Sl K ρ σ HF H → ∀ Q : VK,
  (∀ x HF' H', Sl K ρ' σ HF' H' → Fw ρ ρ' σ HF H HF' H' → RRel K H HF' H' x a → Q x H') → te σ H Q
/-- an operand: readable as v, now and behind what leaves the slots as they are -/
def ORel (K : PySem.W.Frag) (HF H : Hp) (x : V) : PyData → Prop
  | .list xs => ∃ p ys, x = .ref p ∧ SqL K H p ys ∧ DpAll K HF ys xs
  | v => Dp K HF x v
theorem ORel.of {K : PySem.W.Frag} {HF H : Hp} {x : V} {v : PyData} (s : Same HF H) (h : Dp K HF x v) : ORel K HF H x v := by
  cases h with
  | lst a b => exact ⟨_, _, rfl, same_l s a, b⟩
  | non => exact .non
  | bl b => exact .bl b
  | int b => exact .int b
  | str b => exact .str b
  | tup a b => exact .tup a b
theorem ORel.dp {K : PySem.W.Frag} {HF H : Hp} {x : V} {v : PyData} (s : Same HF H) (h : ORel K HF H x v) : Dp K H x v := by
  cases v with
  | list xs => obtain ⟨p, ys, rfl, a, b⟩ := h; exact .lst a (dpa_mono s b)
  | none => exact dp_mono s h
  | bool b => exact dp_mono s h
  | int b => exact dp_mono s h
  | str b => exact dp_mono s h
  | tuple b => exact dp_mono s h
  | dict b => exact dp_mono s h
def Kp (k : Option Nat) (ρ ρ2 : Rho) : Prop := match k with
  | none => True
  | some i => ρ2[i]? = ρ[i]?
theorem Kp.refl {k : Option Nat} {ρ : Rho} : Kp k ρ ρ := by
  cases k with
  | none => trivial
  | some i => rfl
def Op (K : PySem.W.Frag) (te : TE) (ρ : Rho) (v : PyData) (ρ' : Rho) (k : Option Nat) : Prop := ∀ σ HF H, Sl K ρ σ HF H → ∀ Q : VK,
  (∀ x HF' H', Sl K ρ' σ HF' H' → Fw ρ ρ' σ HF H HF' H' → (∀ ρ2 HF2 H2, Kp k ρ' ρ2 → Sl K ρ2 σ HF2 H2 → Fw ρ' ρ2 σ HF' H' HF2 H2 → ORel K HF2 H2 x v) → Q x H') → te σ H Q
def EvT (K : PySem.W.Frag) (t : TT) (ρ : Rho) (b : Bool) (ρ' : Rho) : Prop := ∀ σ HF H, Sl K ρ σ HF H → ∀ Q : Bool → Hp → Prop,
  (∀ HF' H', Sl K ρ' σ HF' H' → Fw ρ ρ' σ HF H HF' H' → Q b H') → t σ H Q

section
variable {K : PySem.W.Frag} {ρ ρ1 ρ2 : Rho} {te ta tb : TE} {u v w z : PyData}
theorem Ev.op (h : Ev K te ρ (.d v) ρ1) : Op K te ρ v ρ1 none := fun σ HF H S Q q => h σ HF H S Q fun x HF' H' S' f r =>
  q x HF' H' S' f fun ρ2 HF2 H2 _ S2 f2 => .of S2.sub (dp_mono f2.hf r)
theorem Ev.opL {xs : List PyData} (h : Ev K te ρ (.ml xs) ρ1) : Op K te ρ (.list xs) ρ1 none := fun σ HF H S Q q => h σ HF H S Q fun x HF' H' S' f r => by
  obtain ⟨p, o, rfl, h0, h1, h2, h3⟩ := r
  refine q _ HF' H' S' f fun ρ2 HF2 H2 _ S2 f2 => ?_
  cases o <;> first | exact h3.elim | skip
  refine ⟨p, _, rfl, .inl (.inl (f2.keep p _ h2 fun z => S.notOwn h0 (f.sh.own.mp z))), dpa_mono f2.hf h3⟩
theorem op_slot {i : Nat} {xs : List PyData} (h : ρ[i]? = some (.ml xs)) : Op K (tVar i) ρ (.list xs) ρ (some i) := fun σ HF H S Q q => by
  obtain ⟨p, o, e, _⟩ := S.ownAt h rfl
  refine ⟨.ref p, e, q _ HF H S (.refl ..) fun ρ2 HF2 H2 hk S2 f2 => ?_⟩
  obtain ⟨p2, o2, e2, h1, h2, h3⟩ := S2.ownAt ((show ρ2[i]? = ρ[i]? from hk).trans h) rfl
  rw [e] at e2
  cases e2
  cases o2 <;> first | exact h3.elim | skip
  exact ⟨p, _, rfl, .inl (.inl h2), h3⟩
theorem Ev.freeze {xs : List PyData} (h : Ev K te ρ (.ml xs) ρ1) : Ev K te ρ (.d (.list xs)) ρ1 := fun σ HF H S Q q => h σ HF H S Q fun x HF' H' S' f r => by
  obtain ⟨p, o, rfl, h0, h1, h2, h3⟩ := r
  have nw : ¬ OwnAt ρ1 σ p := fun z => S.notOwn h0 (f.sh.own.mp z)
  cases o <;> first | exact h3.elim | skip
  rename_i ys
  refine q _ (upd HF' p (.lst ys)) H' (S'.frz h2 h1 nw) ⟨f.sh, f.hf.trans (same_upd h1), f.keep, fun b u e => ?_, f.pres⟩ (.lst (.inl (.inl upd_same)) (dpa_mono (same_upd h1) h3))
  by_cases hb : b = p
  · subst hb
    exact .inr h0
  · rw [upd_ne hb] at e
    exact f.new b u e
theorem ev_var {i : Nat} (h : ρ[i]? = some (.d v)) : Ev K (tVar i) ρ (.d v) ρ := fun σ HF H S Q q => by
  obtain ⟨x, e, r⟩ := S.at h
  exact ⟨x, e, q x HF H S (.refl ..) r⟩
theorem ev_c {x : V} (h : ∀ HF, Dp K HF x v) : Ev K (tC x) ρ (.d v) ρ := fun σ HF H S Q q => q x HF H S (.refl ..) (h HF)

/-- two values to one, nothing made -/
def RV (K : PySem.W.Frag) (r : R2) (u w z : PyData) : Prop := ∀ (HF H : Hp) (x y : V) (Q : VK), Dp K HF x u → Dp K HF y w → Same HF H → (∀ v, Dp K HF v z → Q v H) → r x y H Q
theorem ev_op {r : R2} (ha : Ev K ta ρ (.d u) ρ1) (hb : Ev K tb ρ1 (.d w) ρ2) (hr : RV K r u w z) : Ev K (tOp r ta tb) ρ (.d z) ρ2 := fun σ HF H S Q q =>
  ha σ HF H S _ fun x HF1 H1 S1 f1 r1 => hb σ HF1 H1 S1 _ fun y HF2 H2 S2 f2 r2 => hr HF2 H2 x y Q (dp_mono f2.hf r1) r2 S2.sub fun v hv => q v HF2 H2 S2 (f1.trans f2) hv
def RO (K : PySem.W.Frag) (r : R2) (u w z : PyData) : Prop := ∀ (HF H : Hp) (x y : V) (Q : VK), ORel K HF H x u → ORel K HF H y w → Same HF H → (∀ v, Dp K HF v z → Q v H) → r x y H Q
theorem ev_op2 {r : R2} {k k2 : Option Nat} (ha : Op K ta ρ u ρ1 k) (hb : Op K tb ρ1 w ρ2 k2) (hk : Kp k ρ1 ρ2) (hr : RO K r u w z) : Ev K (tOp r ta tb) ρ (.d z) ρ2 := fun σ HF H S Q q =>
  ha σ HF H S _ fun x HF1 H1 S1 f1 r1 => hb σ HF1 H1 S1 _ fun y HF2 H2 S2 f2 r2 => hr HF2 H2 x y Q (r1 ρ2 HF2 H2 hk S2 f2) (r2 ρ2 HF2 H2 .refl S2 (.refl ..)) S2.sub fun v hv => q v HF2 H2 S2 (f1.trans f2) hv
/-- .. a new own object -/
def RNo (K : PySem.W.Frag) (r : R2) (u w : PyData) (a : A) : Prop := ∀ (HF H : Hp) (x y : V) (Q : VK), ORel K HF H x u → ORel K HF H y w → Same HF H → (∀ p o, H p = none → HRel K HF p o a → Q (.ref p) (upd H p o)) → r x y H Q
theorem ev_opN {r : R2} {a : A} {k k2 : Option Nat} (ha : Op K ta ρ u ρ1 k) (hb : Op K tb ρ1 w ρ2 k2) (hk : Kp k ρ1 ρ2) (hr : RNo K r u w a) : Ev K (tOp r ta tb) ρ a ρ2 := fun σ HF H S Q q =>
  ha σ HF H S _ fun x HF1 H1 S1 f1 r1 => hb σ HF1 H1 S1 _ fun y HF2 H2 S2 f2 r2 => hr HF2 H2 x y Q (r1 ρ2 HF2 H2 hk S2 f2) (r2 ρ2 HF2 H2 .refl S2 (.refl ..)) S2.sub fun p o hp ho => by
    obtain ⟨S3, f3⟩ := S2.allocO hp o
    have f12 := f1.trans f2
    exact q _ HF2 _ S3 (f12.trans f3) ((rrel_own (hrel_own ho)).mpr ⟨p, o, rfl, f12.fresh hp, S2.hfNone hp, upd_same, ho⟩)

/-! ### argument lists -/
inductive Arg where
  | dat (v : PyData)
  | lent (i : Nat)
def ArgR (K : PySem.W.Frag) (ρ : Rho) (σ : L2.St) (HF : Hp) (x : V) : Arg → Prop
  | .dat v => Dp K HF x v
  | .lent i => σ[i]? = some (some x) ∧ ∃ a, ρ[i]? = some a ∧ a.own = true
def EvA (K : PySem.W.Frag) (ta : TA) (ρ : Rho) (l : List Arg) (ρ' : Rho) : Prop := ∀ σ HF H, Sl K ρ σ HF H → ∀ Q : List V → Hp → Prop,
  (∀ xs HF' H', Sl K ρ' σ HF' H' → Fw ρ ρ' σ HF H HF' H' → Paired (ArgR K ρ' σ HF') xs l → Q xs H') → ta σ H Q
theorem argR_mono {σ : L2.St} {HF HF' H H' : Hp} {x : V} {a : Arg} (f : Fw ρ ρ1 σ HF H HF' H') (h : ArgR K ρ σ HF x a) : ArgR K ρ1 σ HF' x a := by
  cases a with
  | dat v => exact dp_mono f.hf h
  | lent i =>
    obtain ⟨e, a, e2, ho⟩ := h
    obtain ⟨a', g1, g2, _⟩ := f.sh.2 i a e2
    exact ⟨e, a', g1, by rw [g2]; exact ho⟩
theorem ea_nil : EvA K tNil ρ [] ρ := fun σ HF H S Q q => q [] HF H S (.refl ..) .nil
theorem ea_cons {tr : TA} {l : List Arg} (ha : Ev K ta ρ (.d v) ρ1) (hr : EvA K tr ρ1 l ρ2) : EvA K (tCons ta tr) ρ (.dat v :: l) ρ2 := fun σ HF H S Q q =>
  ha σ HF H S _ fun x HF1 H1 S1 f1 r1 => hr σ HF1 H1 S1 _ fun xs HF2 H2 S2 f2 r2 => q _ HF2 H2 S2 (f1.trans f2) (.cons (dp_mono f2.hf r1) r2)
theorem ea_lent {tr : TA} {l : List Arg} {i : Nat} {a : A} (h : ρ[i]? = some a) (ho : a.own = true) (hr : EvA K tr ρ l ρ2) : EvA K (tCons (tVar i) tr) ρ (.lent i :: l) ρ2 := fun σ HF H S Q q => by
  obtain ⟨p, o, e, _⟩ := S.ownAt h ho
  exact ⟨.ref p, e, hr σ HF H S _ fun xs HF2 H2 S2 f2 r2 => q _ HF2 H2 S2 f2 (.cons (argR_mono f2 (a := .lent i) ⟨e, a, h, ho⟩) r2)⟩
end
end Th

set_option Elab.async false
set_option linter.all false
set_option maxRecDepth 100000
namespace Th
open PySem PySem.Spec PyProof.Rows L2

/-! ### the judgements on the text -/
section
variable (X : Cx)
def wE (e : Expr) : TE := fun σ H Q => ∃ te, PE X e te ∧ te σ H Q
def wT (e : Expr) : TT := fun σ H Q => ∃ te, PT X e te ∧ te σ H Q
def wW (e : Expr) : TT := fun σ H Q => ∃ te, PW X e te ∧ te σ H Q
def wA (es : List Expr) : TA := fun σ H Q => ∃ te, PA X es te ∧ te σ H Q
def wS (st : Stmt) : TS := fun D σ H => ∃ t, PS X st t ∧ t D σ H
def wSs (st : List Stmt) : TS := fun D σ H => ∃ t, PSs X st t ∧ t D σ H
abbrev E (e : Expr) (ρ : Rho) (a : A) (ρ' : Rho) : Prop := Ev X.K (wE X e) ρ a ρ'
abbrev EO (e : Expr) (ρ : Rho) (v : PyData) (ρ' : Rho) (k : Option Nat) : Prop := Op X.K (wE X e) ρ v ρ' k
abbrev ET (e : Expr) (ρ : Rho) (b : Bool) (ρ' : Rho) : Prop := EvT X.K (wT X e) ρ b ρ'
abbrev EW (e : Expr) (ρ : Rho) (b : Bool) (ρ' : Rho) : Prop := EvT X.K (wW X e) ρ b ρ'
end
section
variable {X : Cx}
theorem pe_w {e : Expr} : PE X e (wE X e) := ⟨fun pins s σ H Q I ⟨_, h, q⟩ => h.run pins s σ H Q I q⟩
theorem pt_w {e : Expr} : PT X e (wT X e) := ⟨fun pins s σ H Q I ⟨_, h, q⟩ => h.run pins s σ H Q I q⟩
theorem pw_w {e : Expr} : PW X e (wW X e) := ⟨fun wh pins s σ H Q I ⟨_, h, q⟩ => h.run wh pins s σ H Q I q⟩
theorem pa_w {es : List Expr} : PA X es (wA X es) := ⟨fun pos pins s σ H Q I ⟨_, h, q⟩ => h.run pos pins s σ H Q I q⟩
theorem ps_w {st : Stmt} : PS X st (wS X st) := ⟨fun pins s σ H Q I ⟨_, h, q⟩ => h.run pins s σ H Q I q⟩
theorem pss_w {st : List Stmt} : PSs X st (wSs X st) := ⟨fun pins s σ H Q I ⟨_, h, q⟩ => h.run pins s σ H Q I q⟩
variable {e e1 e2 : Expr} {te : TE} {ρ ρ1 ρ2 : Rho} {a : A} {u v w z : PyData} {k k1 k2 : Option Nat} {b : Bool} {pos : Pos}
theorem E.of (h : PE X e te) (h2 : Ev X.K te ρ a ρ1) : E X e ρ a ρ1 := fun σ HF H S Q q => ⟨te, h, h2 σ HF H S Q q⟩
theorem EO.of (h : PE X e te) (h2 : Op X.K te ρ v ρ1 k) : EO X e ρ v ρ1 k := fun σ HF H S Q q => ⟨te, h, h2 σ HF H S Q q⟩
theorem ET.of {t : TT} (h : PT X e t) (h2 : EvT X.K t ρ b ρ1) : ET X e ρ b ρ1 := fun σ HF H S Q q => ⟨t, h, h2 σ HF H S Q q⟩

/-! ### names, constants -/
theorem e_var (i : Nat) {x : Str} (h : ρ[i]? = some (.d v)) (hN : X.N[i]? = some x := by rfl) (hv : Vis X.env.scope x := by first | exact Or.inl rfl | exact Or.inr (Or.inl rfl) | exact Or.inr (Or.inr rfl))
    (hd : (x == ("__debug__" : Str)) = false := by decide) (hcd : (x == ("__classdict__" : Str)) = false := by decide) : E X (.Name x pos) ρ (.d v) ρ := .of (pe_var hN hv hd hcd) (ev_var h)
theorem o_slot (i : Nat) {x : Str} {xs : List PyData} (h : ρ[i]? = some (.ml xs)) (hN : X.N[i]? = some x := by rfl) (hv : Vis X.env.scope x := by first | exact Or.inl rfl | exact Or.inr (Or.inl rfl) | exact Or.inr (Or.inr rfl))
    (hd : (x == ("__debug__" : Str)) = false := by decide) (hcd : (x == ("__classdict__" : Str)) = false := by decide) : EO X (.Name x pos) ρ (.list xs) ρ (some i) := .of (pe_var hN hv hd hcd) (op_slot h)
theorem e_int {i : Int} {j : Nat} : E X (.Constant (.int i) j pos) ρ (.d (.int i)) ρ := .of pe_int (ev_c fun _ => .int i)
theorem e_bl {i : Bool} {j : Nat} : E X (.Constant (.bool i) j pos) ρ (.d (.bool i)) ρ := .of pe_bl (ev_c fun _ => .bl i)
theorem e_non {j : Nat} : E X (.Constant .none j pos) ρ (.d .none) ρ := .of pe_non (ev_c fun _ => .non)
theorem e_str {x : Str} {j : Nat} : E X (.Constant (.str x) j pos) ρ (.d (.str x)) ρ := .of pe_str (ev_c fun _ => .str x)
theorem E.o (h : E X e ρ (.d v) ρ1) : EO X e ρ v ρ1 none := Ev.op h
theorem E.ol {xs : List PyData} (h : E X e ρ (.ml xs) ρ1) : EO X e ρ (.list xs) ρ1 none := Ev.opL h
theorem E.fz {xs : List PyData} (h : E X e ρ (.ml xs) ρ1) : E X e ρ (.d (.list xs)) ρ1 := Ev.freeze h
theorem E.to (h : E X e ρ (.d v) ρ1) (q : v = w) : E X e ρ (.d w) ρ1 := q ▸ h
theorem ET.to {c : Bool} (h : ET X e ρ b ρ1) (q : b = c) : ET X e ρ c ρ1 := q ▸ h

/-! ### whole numbers -/
theorem rv_I0 {K : PySem.W.Frag} {g : Int → Int → V} {i j : Int} (h : ∀ HF, Dp K HF (g i j) z) : RV K (rI0 g) (.int i) (.int j) z := fun HF H x y Q hx hy _ q => by
  cases hx; cases hy
  exact ⟨i, j, rfl, rfl, q _ (h HF)⟩
theorem rv_I {K : PySem.W.Frag} {C : Int → Int → Prop} {g : Int → Int → V} {i j : Int} (hc : C i j) (h : ∀ HF, Dp K HF (g i j) z) : RV K (rI C g) (.int i) (.int j) z := fun HF H x y Q hx hy _ q => by
  cases hx; cases hy
  exact ⟨i, j, rfl, rfl, hc, q _ (h HF)⟩
variable {i j : Int}
theorem e_add (ha : E X e1 ρ (.d (.int i)) ρ1) (hb : E X e2 ρ1 (.d (.int j)) ρ2) : E X (.BinOp e1 .Add e2 pos) ρ (.d (.int (i + j))) ρ2 := .of (pe_op op_add pe_w pe_w) (ev_op ha hb (rv_I0 fun _ => .int _))
theorem e_sub (ha : E X e1 ρ (.d (.int i)) ρ1) (hb : E X e2 ρ1 (.d (.int j)) ρ2) : E X (.BinOp e1 .Sub e2 pos) ρ (.d (.int (i - j))) ρ2 := .of (pe_op op_sub pe_w pe_w) (ev_op ha hb (rv_I0 fun _ => .int _))
theorem e_mul (ha : E X e1 ρ (.d (.int i)) ρ1) (hb : E X e2 ρ1 (.d (.int j)) ρ2) (hc : CMulW i j) : E X (.BinOp e1 .Mult e2 pos) ρ (.d (.int (i * j))) ρ2 := .of (pe_op op_mulW pe_w pe_w) (ev_op ha hb (rv_I hc fun _ => .int _))
theorem e_div (ha : E X e1 ρ (.d (.int i)) ρ1) (hb : E X e2 ρ1 (.d (.int j)) ρ2) (hc : CDivW i j) : E X (.BinOp e1 .FloorDiv e2 pos) ρ (.d (.int (i / j))) ρ2 := .of (pe_op op_fdivW pe_w pe_w) (ev_op ha hb (rv_I hc fun _ => .int _))
theorem e_mod (ha : E X e1 ρ (.d (.int i)) ρ1) (hb : E X e2 ρ1 (.d (.int j)) ρ2) (hc : 0 < j) : E X (.BinOp e1 .Mod e2 pos) ρ (.d (.int (i % j))) ρ2 := .of (pe_op op_mod pe_w pe_w) (ev_op ha hb (rv_I (C := fun _ j => 0 < j) hc fun _ => .int _))
theorem e_pow (ha : E X e1 ρ (.d (.int i)) ρ1) (hb : E X e2 ρ1 (.d (.int j)) ρ2) (hc : CPow i j) : E X (.BinOp e1 .Pow e2 pos) ρ (.d (.int (i ^ j.toNat))) ρ2 := .of (pe_op op_pow pe_w pe_w) (ev_op ha hb (rv_I hc fun _ => .int _))
theorem e_neg (ha : E X e ρ (.d (.int i)) ρ1) : E X (.UnaryOp .USub e pos) ρ (.d (.int (-i))) ρ1 := .of (pe_un un_neg pe_w) fun σ HF H S Q q => ha σ HF H S _ fun x HF1 H1 S1 f1 r1 => by
  cases r1
  exact ⟨i, rfl, q _ HF1 H1 S1 f1 (.int _)⟩
theorem e_lt (ha : E X e1 ρ (.d (.int i)) ρ1) (hb : E X e2 ρ1 (.d (.int j)) ρ2) : E X (.Compare e1 [.Lt] [e2] pos) ρ (.d (.bool (decide (i < j)))) ρ2 := .of (pe_cmpR op_lt pe_w pe_w (nomark _)) (ev_op ha hb (rv_I0 fun _ => .bl _))
theorem e_le (ha : E X e1 ρ (.d (.int i)) ρ1) (hb : E X e2 ρ1 (.d (.int j)) ρ2) : E X (.Compare e1 [.LtE] [e2] pos) ρ (.d (.bool (decide (i ≤ j)))) ρ2 := .of (pe_cmpR op_le pe_w pe_w (nomark _)) (ev_op ha hb (rv_I0 fun _ => .bl _))
theorem e_gt (ha : E X e1 ρ (.d (.int i)) ρ1) (hb : E X e2 ρ1 (.d (.int j)) ρ2) : E X (.Compare e1 [.Gt] [e2] pos) ρ (.d (.bool (decide (j < i)))) ρ2 := .of (pe_cmpR op_gt pe_w pe_w (nomark _)) (ev_op ha hb (rv_I0 fun _ => .bl _))
theorem e_ge (ha : E X e1 ρ (.d (.int i)) ρ1) (hb : E X e2 ρ1 (.d (.int j)) ρ2) : E X (.Compare e1 [.GtE] [e2] pos) ρ (.d (.bool (decide (j ≤ i)))) ρ2 := .of (pe_cmpR op_ge pe_w pe_w (nomark _)) (ev_op ha hb (rv_I0 fun _ => .bl _))
theorem e_eqI (ha : E X e1 ρ (.d (.int i)) ρ1) (hb : E X e2 ρ1 (.d (.int j)) ρ2) : E X (.Compare e1 [.Eq] [e2] pos) ρ (.d (.bool (decide (i = j)))) ρ2 :=
  .of (pe_cmpR op_eq pe_w pe_w (nomark _)) (ev_op ha hb fun HF H x y Q hx hy _ q => by cases hx; cases hy; exact ⟨rfl, by rw [show decide (V.int i = V.int j) = decide (i = j) by simp]; exact q _ (.bl _)⟩)
theorem e_neI (ha : E X e1 ρ (.d (.int i)) ρ1) (hb : E X e2 ρ1 (.d (.int j)) ρ2) : E X (.Compare e1 [.NotEq] [e2] pos) ρ (.d (.bool (!decide (i = j)))) ρ2 :=
  .of (pe_cmpR op_ne pe_w pe_w (nomark _)) (ev_op ha hb fun HF H x y Q hx hy _ q => by cases hx; cases hy; exact ⟨rfl, by rw [show decide (V.int i = V.int j) = decide (i = j) by simp]; exact q _ (.bl _)⟩)
/-- data compared at any depth -/
theorem e_eqD {hr : X.A.units + 64 < cLine} (ha : EO X e1 ρ v ρ1 k1) (hb : EO X e2 ρ1 w ρ2 k2) (h1 : SeqAt.shaped v = true) (h2 : SeqAt.shaped w = true) (hk : Kp k1 ρ1 ρ2 := by first | exact trivial | exact rfl) : E X (.Compare e1 [.Eq] [e2] pos) ρ (.d (.bool (PyData.eqv v w))) ρ2 :=
  .of (pe_cmpR (op_eqD hr) pe_w pe_w (nomark _)) (ev_op2 ha hb hk fun HF H x y Q hx hy s q => ⟨v, w, hx.dp s, hy.dp s, h1, h2, q _ (.bl _)⟩)
theorem e_neD {hr : X.A.units + 64 < cLine} (ha : EO X e1 ρ v ρ1 k1) (hb : EO X e2 ρ1 w ρ2 k2) (h1 : SeqAt.shaped v = true) (h2 : SeqAt.shaped w = true) (hk : Kp k1 ρ1 ρ2 := by first | exact trivial | exact rfl) : E X (.Compare e1 [.NotEq] [e2] pos) ρ (.d (.bool (!PyData.eqv v w))) ρ2 :=
  .of (pe_cmpR (op_neD hr) pe_w pe_w (nomark _)) (ev_op2 ha hb hk fun HF H x y Q hx hy s q => ⟨v, w, hx.dp s, hy.dp s, h1, h2, q _ (.bl _)⟩)

/-! ### tests -/
theorem t_val (h : E X e ρ (.d (.bool b)) ρ1) (he : ∀ whole, isTrue e X.env whole = (do let v ← whole; standAt e.pos; holding [v] (truthy v)) := by intro _; rfl) : ET X e ρ b ρ1 :=
  .of (pt_val pe_w he) fun σ HF H S Q q => h σ HF H S _ fun x HF1 H1 S1 f1 r1 => by
    cases r1
    exact ⟨b, rfl, q HF1 H1 S1 f1⟩
theorem t_cmp {op : CmpOp} {r : R2} (ho : OpR X (compareOp op) r) (h : Ev X.K (tOp r (wE X e1) (wE X e2)) ρ (.d (.bool b)) ρ1) (hm : behindInMarks op e2 = false) : ET X (.Compare e1 [op] [e2] pos) ρ b ρ1 :=
  .of (pt_cmpR ho pe_w pe_w hm) fun σ HF H S Q q => h σ HF H S _ fun x HF1 H1 S1 f1 r1 => by
    cases r1
    exact ⟨b, rfl, q HF1 H1 S1 f1⟩
theorem t_lt (ha : E X e1 ρ (.d (.int i)) ρ1) (hb : E X e2 ρ1 (.d (.int j)) ρ2) : ET X (.Compare e1 [.Lt] [e2] pos) ρ (decide (i < j)) ρ2 := t_cmp op_lt (ev_op ha hb (rv_I0 fun _ => .bl _)) (nomark _)
theorem t_le (ha : E X e1 ρ (.d (.int i)) ρ1) (hb : E X e2 ρ1 (.d (.int j)) ρ2) : ET X (.Compare e1 [.LtE] [e2] pos) ρ (decide (i ≤ j)) ρ2 := t_cmp op_le (ev_op ha hb (rv_I0 fun _ => .bl _)) (nomark _)
theorem t_gt (ha : E X e1 ρ (.d (.int i)) ρ1) (hb : E X e2 ρ1 (.d (.int j)) ρ2) : ET X (.Compare e1 [.Gt] [e2] pos) ρ (decide (j < i)) ρ2 := t_cmp op_gt (ev_op ha hb (rv_I0 fun _ => .bl _)) (nomark _)
theorem t_ge (ha : E X e1 ρ (.d (.int i)) ρ1) (hb : E X e2 ρ1 (.d (.int j)) ρ2) : ET X (.Compare e1 [.GtE] [e2] pos) ρ (decide (j ≤ i)) ρ2 := t_cmp op_ge (ev_op ha hb (rv_I0 fun _ => .bl _)) (nomark _)
theorem t_eqI (ha : E X e1 ρ (.d (.int i)) ρ1) (hb : E X e2 ρ1 (.d (.int j)) ρ2) : ET X (.Compare e1 [.Eq] [e2] pos) ρ (decide (i = j)) ρ2 :=
  t_cmp op_eq (ev_op ha hb fun HF H x y Q hx hy _ q => by cases hx; cases hy; exact ⟨rfl, by rw [show decide (V.int i = V.int j) = decide (i = j) by simp]; exact q _ (.bl _)⟩) (nomark _)
theorem t_neI (ha : E X e1 ρ (.d (.int i)) ρ1) (hb : E X e2 ρ1 (.d (.int j)) ρ2) : ET X (.Compare e1 [.NotEq] [e2] pos) ρ (!decide (i = j)) ρ2 :=
  t_cmp op_ne (ev_op ha hb fun HF H x y Q hx hy _ q => by cases hx; cases hy; exact ⟨rfl, by rw [show decide (V.int i = V.int j) = decide (i = j) by simp]; exact q _ (.bl _)⟩) (nomark _)
theorem t_eqD {hr : X.A.units + 64 < cLine} (ha : EO X e1 ρ v ρ1 k1) (hb : EO X e2 ρ1 w ρ2 k2) (h1 : SeqAt.shaped v = true) (h2 : SeqAt.shaped w = true) (hk : Kp k1 ρ1 ρ2 := by first | exact trivial | exact rfl) : ET X (.Compare e1 [.Eq] [e2] pos) ρ (PyData.eqv v w) ρ2 :=
  t_cmp (op_eqD hr) (ev_op2 ha hb hk fun HF H x y Q hx hy s q => ⟨v, w, hx.dp s, hy.dp s, h1, h2, q _ (.bl _)⟩) (nomark _)
theorem t_neD {hr : X.A.units + 64 < cLine} (ha : EO X e1 ρ v ρ1 k1) (hb : EO X e2 ρ1 w ρ2 k2) (h1 : SeqAt.shaped v = true) (h2 : SeqAt.shaped w = true) (hk : Kp k1 ρ1 ρ2 := by first | exact trivial | exact rfl) : ET X (.Compare e1 [.NotEq] [e2] pos) ρ (!PyData.eqv v w) ρ2 :=
  t_cmp (op_neD hr) (ev_op2 ha hb hk fun HF H x y Q hx hy s q => ⟨v, w, hx.dp s, hy.dp s, h1, h2, q _ (.bl _)⟩) (nomark _)
theorem t_not (h : ET X e ρ b ρ1) : ET X (.UnaryOp .Not e pos) ρ (!b) ρ1 := .of (pt_not pt_w) fun σ HF H S Q q => h σ HF H S _ fun HF1 H1 S1 f1 => q HF1 H1 S1 f1
theorem t_w (h : EW X e ρ b ρ1) : ET X e ρ b ρ1 := .of (PW.pt pw_w) fun σ HF H S Q q => h σ HF H S Q q
/-- and, or: the later ones leave the slots as they are (or change them in the same way) -/
theorem w_and1 (h : ET X e ρ b ρ1) : EW X (.BoolOp .And [e] pos) ρ b ρ1 := fun σ HF H S Q q => ⟨_, pw_and1 pt_w, h σ HF H S Q q⟩
theorem w_or1 (h : ET X e ρ b ρ1) : EW X (.BoolOp .Or [e] pos) ρ b ρ1 := fun σ HF H S Q q => ⟨_, pw_or1 pt_w, h σ HF H S Q q⟩
variable {rest : List Expr} {c : Bool}
theorem w_and (h : ET X e ρ b ρ1) (h2 : b = true → EW X (.BoolOp .And (e1 :: rest) pos) ρ1 c ρ1) : EW X (.BoolOp .And (e :: e1 :: rest) pos) ρ (b && c) ρ1 := fun σ HF H S Q q => ⟨_, pw_and pt_w pw_w, h σ HF H S _ fun HF1 H1 S1 f1 => by
  cases b with
  | true => exact h2 rfl σ HF1 H1 S1 Q fun HF2 H2 S2 f2 => q HF2 H2 S2 (f1.trans f2)
  | false => exact q HF1 H1 S1 f1⟩
theorem w_or (h : ET X e ρ b ρ1) (h2 : b = false → EW X (.BoolOp .Or (e1 :: rest) pos) ρ1 c ρ1) : EW X (.BoolOp .Or (e :: e1 :: rest) pos) ρ (b || c) ρ1 := fun σ HF H S Q q => ⟨_, pw_or pt_w pw_w, h σ HF H S _ fun HF1 H1 S1 f1 => by
  cases b with
  | false => exact h2 rfl σ HF1 H1 S1 Q fun HF2 H2 S2 f2 => q HF2 H2 S2 (f1.trans f2)
  | true => exact q HF1 H1 S1 f1⟩
/-- .. as values -/
theorem e_one {op : BoolOp} (h : E X e ρ a ρ1) : E X (.BoolOp op [e] pos) ρ a ρ1 := .of (pe_one pe_w) h
theorem e_and (h : E X e ρ (.d (.bool b)) ρ1) (h2 : b = true → E X (.BoolOp .And (e1 :: rest) pos) ρ1 (.d (.bool c)) ρ1) : E X (.BoolOp .And (e :: e1 :: rest) pos) ρ (.d (.bool (b && c))) ρ1 := .of (pe_and pe_w pe_w) fun σ HF H S Q q => h σ HF H S _ fun x HF1 H1 S1 f1 r1 => by
  cases r1
  refine ⟨b, rfl, ?_⟩
  cases b with
  | true => exact h2 rfl σ HF1 H1 S1 Q fun y HF2 H2 S2 f2 r2 => q y HF2 H2 S2 (f1.trans f2) r2
  | false => exact q _ HF1 H1 S1 f1 (.bl false)
theorem e_or (h : E X e ρ (.d (.bool b)) ρ1) (h2 : b = false → E X (.BoolOp .Or (e1 :: rest) pos) ρ1 (.d (.bool c)) ρ1) : E X (.BoolOp .Or (e :: e1 :: rest) pos) ρ (.d (.bool (b || c))) ρ1 := .of (pe_or pe_w pe_w) fun σ HF H S Q q => h σ HF H S _ fun x HF1 H1 S1 f1 r1 => by
  cases r1
  refine ⟨b, rfl, ?_⟩
  cases b with
  | false => exact h2 rfl σ HF1 H1 S1 Q fun y HF2 H2 S2 f2 r2 => q y HF2 H2 S2 (f1.trans f2) r2
  | true => exact q _ HF1 H1 S1 f1 (.bl true)
theorem e_not (h : E X e ρ (.d (.bool b)) ρ1) : E X (.UnaryOp .Not e pos) ρ (.d (.bool (!b))) ρ1 := .of (pe_not pe_w) fun σ HF H S Q q => h σ HF H S _ fun x HF1 H1 S1 f1 r1 => by
  cases r1
  exact ⟨b, rfl, q _ HF1 H1 S1 f1 (.bl _)⟩
theorem e_if {t : Expr} (h : ET X t ρ b ρ1) (h1 : b = true → E X e1 ρ1 a ρ2) (h2 : b = false → E X e2 ρ1 a ρ2) : E X (.IfExp t e1 e2 pos) ρ a ρ2 := .of (pe_ifExp pt_w pe_w pe_w) fun σ HF H S Q q => h σ HF H S _ fun HF1 H1 S1 f1 => by
  have hfr : ∀ x HF2 H2, RRel X.K H1 HF2 H2 x a → RRel X.K H HF2 H2 x a := fun x HF2 H2 r => by
    cases ho : a.own with
    | true =>
      obtain ⟨p, o, q1, q2, q3⟩ := (rrel_own ho).mp r
      exact (rrel_own ho).mpr ⟨p, o, q1, f1.fresh q2, q3⟩
    | false => cases a <;> first | exact r | exact tw_fresh (fun p h => f1.fresh h) r | exact dl_fresh (fun p h => f1.fresh h) r | exact Nw.fresh _ (fun p h => f1.fresh h) r | cases ho
  cases b with
  | true => exact h1 rfl σ HF1 H1 S1 Q fun y HF2 H2 S2 f2 r2 => q y HF2 H2 S2 (f1.trans f2) (hfr _ _ _ r2)
  | false => exact h2 rfl σ HF1 H1 S1 Q fun y HF2 H2 S2 f2 r2 => q y HF2 H2 S2 (f1.trans f2) (hfr _ _ _ r2)

/-! ### displays -/
def EvD (K : PySem.W.Frag) (ta : TA) (ρ : Rho) (ds : List PyData) (ρ' : Rho) : Prop := ∀ σ HF H, Sl K ρ σ HF H → ∀ Q : List V → Hp → Prop,
  (∀ xs HF' H', Sl K ρ' σ HF' H' → Fw ρ ρ' σ HF H HF' H' → DpAll K HF' xs ds → Q xs H') → ta σ H Q
abbrev ED (X : Cx) (es : List Expr) (ρ : Rho) (ds : List PyData) (ρ' : Rho) : Prop := EvD X.K (wA X es) ρ ds ρ'
variable {es : List Expr} {ds : List PyData}
theorem d_nil : ED X [] ρ [] ρ := fun σ HF H S Q q => ⟨_, pa_nil, q [] HF H S (.refl ..) .nil⟩
theorem d_cons (h : E X e ρ (.d v) ρ1) (hr : ED X es ρ1 ds ρ2) (hs : starEach (e :: es) X.env = (false, eval e X.env) :: starEach es X.env := by rfl) : ED X (e :: es) ρ (v :: ds) ρ2 := fun σ HF H S Q q =>
  ⟨_, pa_cons pe_w pa_w hs, h σ HF H S _ fun x HF1 H1 S1 f1 r1 => hr σ HF1 H1 S1 _ fun xs HF2 H2 S2 f2 r2 => q _ HF2 H2 S2 (f1.trans f2) (.cons (dp_mono f2.hf r1) r2)⟩
theorem ed_len {K : PySem.W.Frag} {HF : Hp} {xs : List V} (h : DpAll K HF xs ds) (hz : ds.length ≤ 1000) : xs.length ≤ sizeLine := by
  rw [dpa_len h]
  exact Nat.le_of_lt (small1000 hz)
theorem e_tup {n : Nat} (h : ED X es ρ ds ρ1) (hz : ds.length ≤ 1000 := by exact Nat.le_of_ble_eq_true rfl) : E X (.Tuple es n pos) ρ (.d (.tuple ds)) ρ1 := .of (pe_tup pa_w) fun σ HF H S Q q => h σ HF H S _ fun xs HF1 H1 S1 f1 r1 => by
  refine ⟨ed_len r1 hz, fun p hp => ?_⟩
  obtain ⟨S2, f2⟩ := S1.allocD hp (.tup xs)
  exact q _ _ _ S2 (f1.trans f2) (.tup (.inl (.inl upd_same)) (dpa_mono f2.hf r1))
theorem e_lst (h : ED X es ρ ds ρ1) (hz : ds.length ≤ 1000 := by exact Nat.le_of_ble_eq_true rfl) : E X (.List es pos) ρ (.ml ds) ρ1 := .of (pe_lst pa_w) fun σ HF H S Q q => h σ HF H S _ fun xs HF1 H1 S1 f1 r1 => by
  refine ⟨ed_len r1 hz, fun p hp => ?_⟩
  obtain ⟨S2, f2⟩ := S1.allocO hp (.lst xs)
  exact q _ _ _ S2 (f1.trans f2) ⟨p, _, rfl, f1.fresh hp, S1.hfNone hp, upd_same, r1⟩
theorem e_dictK : E X (.Dict [] [] pos) ρ (.mk []) ρ := .of pe_dnewK fun σ HF H S Q q => fun p hp => by
  obtain ⟨S2, f2⟩ := S.allocO hp (.dK [])
  exact q _ _ _ S2 f2 ⟨p, _, rfl, hp, S.hfNone hp, upd_same, .nil⟩
theorem at_ok {P : Program} {w : World} {H : Hp} {h : Heap} {p : Addr} {o : Obj} (e : h.get? p = some o) : ObjOk P w H h p (AtO p o) := ⟨e, ⟨o, e⟩, fun _ _ e1 k => k _ e1⟩
theorem pe_dnewA : PE X (.Dict [] [] pos) (fun _ H Q => ∀ p o, H p = none → (p == sysModules) = false → TabOf o [] → Q (.ref p) (upd H p (AtO p o))) := ⟨fun pins s σ H Q I h =>
  wpAny_Dict_empty ⟨.ref s.heap.objs.size, _, I.laid (a := s.heap.objs.size) (o := AtO s.heap.objs.size { cls := .type "dict", data := .dict #[] }) (t' := s.toks) (fun _ _ q => Heap.get?_push_of_some _ q) (Nat.le_refl _) (at_ok (Heap.get?_push_size _ rfl)), rfl,
    h _ _ (I.hok.fresh (Nat.le_refl _)) (beq_eq_false_iff_ne.mpr (Ne.symm (Nat.ne_of_lt I.big))) ⟨⟨rfl, rfl, rfl⟩, fun _ z => (nomatch z), List.nodup_nil, X.w, #[], 0, rfl, rfl⟩⟩⟩
theorem e_dictT : E X (.Dict [] [] pos) ρ (.mt []) ρ := .of pe_dnewA fun σ HF H S Q q => fun p o hp hs ht => by
  obtain ⟨S2, f2⟩ := S.allocO hp (AtO p o)
  exact q _ _ _ S2 f2 ⟨p, _, rfl, hp, S.hfNone hp, upd_same, o, [], rfl, hs, ht, .nil⟩

/-! ### items -/
theorem dpa_atI {K : PySem.W.Frag} {HF : Hp} {ys : List V} {i : Int} {d : PyData} (h : DpAll K HF ys ds) (hi : atI ds i = some d) : ∃ y, atI ys i = some y ∧ Dp K HF y d := by
  unfold atI at hi ⊢
  rw [dpa_len h]
  cases hx : ixN ds.length i with
  | none => rw [hx] at hi; cases hi
  | some n =>
    rw [hx] at hi
    exact dpa_get h hi
theorem e_ixL (ha : EO X e1 ρ (.list ds) ρ1 k1) (hb : E X e2 ρ1 (.d (.int i)) ρ2) (hi : atI ds i = some v) (hp : PlainIx e2 := by exact fun _ _ => rfl) (hk : Kp k1 ρ1 ρ2 := by first | exact trivial | exact rfl) : E X (.Subscript e1 e2 pos) ρ (.d v) ρ2 :=
  .of (pe_ix ix_list pe_w pe_w hp) (ev_op2 ha hb.o hk fun HF H x y Q hx hy s q => by
    obtain ⟨p, ys, rfl, h1, h2⟩ := hx
    cases hy
    obtain ⟨y, g1, g2⟩ := dpa_atI h2 hi
    exact ⟨p, ys, i, y, rfl, rfl, h1, g1, q _ g2⟩)
theorem e_ixT (ha : E X e1 ρ (.d (.tuple ds)) ρ1) (hb : E X e2 ρ1 (.d (.int i)) ρ2) (hi : atI ds i = some v) (hp : PlainIx e2 := by exact fun _ _ => rfl) : E X (.Subscript e1 e2 pos) ρ (.d v) ρ2 :=
  .of (pe_ix ix_tup pe_w pe_w hp) (ev_op ha hb fun HF H x y Q hx hy s q => by
    cases hx with
    | tup h1 h2 =>
      cases hy
      obtain ⟨y, g1, g2⟩ := dpa_atI h2 hi
      exact ⟨_, _, i, y, rfl, rfl, same_t s h1, g1, q _ g2⟩)

/-! ### slices -/
def EvP (K : PySem.W.Frag) (t : TO) (ρ : Rho) (o : Option Int) (ρ' : Rho) : Prop := ∀ σ HF H, Sl K ρ σ HF H → ∀ Q : Option Int → Hp → Prop,
  (∀ HF' H', Sl K ρ' σ HF' H' → Fw ρ ρ' σ HF H HF' H' → Q o H') → t σ H Q
def wP (X : Cx) (e : Option Expr) : TO := fun σ H Q => ∃ t, PO X e t ∧ t σ H Q
theorem po_w {e : Option Expr} : PO X e (wP X e) := ⟨fun pins s σ H Q I ⟨_, h, q⟩ => h.run pins s σ H Q I q⟩
abbrev EP (X : Cx) (e : Option Expr) (ρ : Rho) (o : Option Int) (ρ' : Rho) : Prop := EvP X.K (wP X e) ρ o ρ'
theorem p_none : EP X none ρ none ρ := fun σ HF H S Q q => ⟨_, po_none, q HF H S (.refl ..)⟩
theorem p_some (h : E X e ρ (.d (.int i)) ρ1) : EP X (some e) ρ (some i) ρ1 := fun σ HF H S Q q => ⟨_, po_some pe_w, h σ HF H S _ fun x HF1 H1 S1 f1 r1 => by
  cases r1
  exact ⟨i, rfl, q HF1 H1 S1 f1⟩⟩
def cut {α : Type} (xs : List α) (lo hi : Option Int) : List α := (xs.drop (HT.sIx xs.length 0 lo)).take (HT.sIx xs.length xs.length hi - HT.sIx xs.length 0 lo)
theorem dpa_cut {K : PySem.W.Frag} {HF : Hp} {ys : List V} (h : DpAll K HF ys ds) (lo hi : Option Int) : DpAll K HF (cutV ys lo hi) (cut ds lo hi) := by
  unfold cutV cut
  rw [dpa_len h]
  exact dpa_take _ (dpa_drop _ h)
variable {lo hi : Option Expr} {l h : Option Int} {p2 : Pos} {ρ3 : Rho}
theorem e_slL (ha : EO X e ρ (.list ds) ρ1 k1) (hl : EP X lo ρ1 l ρ2) (hh : EP X hi ρ2 h ρ3) (hk : Kp k1 ρ1 ρ3 := by first | exact trivial | exact rfl) : E X (.Subscript e (.Slice lo hi none p2) pos) ρ (.ml (cut ds l h)) ρ3 :=
  .of (pe_slice sl_list pe_w po_w po_w) fun σ HF H S Q q => ha σ HF H S _ fun x HF1 H1 S1 f1 r1 => hl σ HF1 H1 S1 _ fun HF2 H2 S2 f2 => hh σ HF2 H2 S2 _ fun HF3 H3 S3 f3 => by
    obtain ⟨p, ys, rfl, h1, h2⟩ := r1 ρ3 HF3 H3 hk S3 (f2.trans f3)
    refine ⟨p, ys, rfl, h1, fun r hr => ?_⟩
    obtain ⟨S4, f4⟩ := S3.allocO hr (.lst (cutV ys l h))
    have f := (f1.trans (f2.trans f3))
    exact q _ _ _ S4 (f.trans f4) ⟨r, _, rfl, f.fresh hr, S3.hfNone hr, upd_same, dpa_cut h2 l h⟩
theorem cut_whole {α : Type} {xs : List α} {lo hi : Option Int} (h : HT.sIx xs.length 0 lo = 0 ∧ HT.sIx xs.length xs.length hi = xs.length) : cut xs lo hi = xs := by
  unfold cut
  rw [h.1, h.2]
  simp
theorem e_slT (ha : E X e ρ (.d (.tuple ds)) ρ1) (hl : EP X lo ρ1 l ρ2) (hh : EP X hi ρ2 h ρ3) : E X (.Subscript e (.Slice lo hi none p2) pos) ρ (.d (.tuple (cut ds l h))) ρ3 :=
  .of (pe_slice sl_tupA pe_w po_w po_w) fun σ HF H S Q q => ha σ HF H S _ fun x HF1 H1 S1 f1 r1 => hl σ HF1 H1 S1 _ fun HF2 H2 S2 f2 => hh σ HF2 H2 S2 _ fun HF3 H3 S3 f3 => by
    have r3 := dp_mono (f2.trans f3).hf r1
    have f := (f1.trans (f2.trans f3))
    cases r3 with
    | @tup a xs _ h1 h2 =>
      refine ⟨a, xs, rfl, same_t S3.sub h1, fun hw => ?_, fun hw r hr => ?_⟩
      · rw [dpa_len h2] at hw
        rw [cut_whole hw] at q
        exact q _ _ _ S3 f (.tup h1 h2)
      · obtain ⟨S4, f4⟩ := S3.allocD hr (.tup (cutV xs l h))
        exact q _ _ _ S4 (f.trans f4) (.tup (.inl (.inl upd_same)) (dpa_cut (dpa_mono f4.hf h2) l h))
end
end Th

set_option Elab.async false
set_option linter.all false
set_option maxRecDepth 100000
namespace Th
open PySem PySem.Spec PyProof.Rows L2

/-! ### statements: a base (the def's entry) and what is lent -/
structure Bs where
  HF0 : Hp
  H0 : Hp
  L : List (Nat × Addr)
structure Bn (B : Bs) (ρ : Rho) (σ : L2.St) (HF H : Hp) : Prop where
  hf : Same B.HF0 HF
  keep : ∀ b o, (∀ q ∈ B.L, q.2 ≠ b) → B.H0 b = some o → H b = some o
  new : ∀ b o, HF b = some o → B.HF0 b = some o ∨ B.H0 b = none
  pres : ∀ b o, B.H0 b = some o → ∃ o', H b = some o'
  mine : ∀ (i : Nat) (a : A) (p : Addr), ρ[i]? = some a → a.own = true → σ[i]? = some (some (V.ref p)) → (i, p) ∈ B.L ∨ B.H0 p = none
  lent : ∀ q ∈ B.L, σ[q.1]? = some (some (V.ref q.2))
section
variable {B : Bs} {ρ ρ' : Rho} {σ : L2.St} {HF H HF' H' : Hp}
theorem Bn.own (b : Bn B ρ σ HF H) {p : Addr} (h : OwnAt ρ σ p) : (∃ q ∈ B.L, q.2 = p) ∨ B.H0 p = none := by
  obtain ⟨i, a, h1, h2, h3⟩ := h
  rcases b.mine i a p h1 h2 h3 with z | z
  · exact .inl ⟨_, z, rfl⟩
  · exact .inr z
theorem Bn.fw (b : Bn B ρ σ HF H) (f : Fw ρ ρ' σ HF H HF' H') : Bn B ρ' σ HF' H' where
  hf := b.hf.trans f.hf
  keep := fun p o hn h => f.keep p o (b.keep p o hn h) fun z => by
    rcases b.own z with ⟨q, h1, h2⟩ | h1
    · exact hn q h1 h2
    · rw [h] at h1; cases h1
  new := fun p o h => by
    rcases f.new p o h with h | h
    · exact b.new p o h
    · cases q : B.H0 p with
      | none => exact .inr rfl
      | some u =>
        obtain ⟨o', e⟩ := b.pres p u q
        rw [h] at e; cases e
  pres := fun p o h => by
    obtain ⟨o', e⟩ := b.pres p o h
    exact f.pres p o' e
  mine := fun i a p h1 h2 h3 => by
    obtain ⟨a', g1, g2, _⟩ := f.sh.back h1
    exact b.mine i a' p g1 (by rw [← g2]; exact h2) h3
  lent := b.lent
theorem Bn.free (b : Bn B ρ σ HF H) {p : Addr} (h : H p = none) : B.H0 p = none := by
  cases q : B.H0 p with
  | none => rfl
  | some u =>
    obtain ⟨o', e⟩ := b.pres p u q
    rw [h] at e; cases e
end

structure Pst where
  nx : Rho → Prop
  rt : A → Rho → Prop
  bk : Rho → Prop := fun _ => False
  ct : Rho → Prop := fun _ => False
structure Ok (K : PySem.W.Frag) (B : Bs) (HF : Hp) (D : Ends) (P : Pst) : Prop where
  nx : ∀ ρ σ HF' H, P.nx ρ → Sl K ρ σ HF' H → Bn B ρ σ HF' H → Same HF HF' → D.nx σ H
  rt : ∀ a ρ σ HF' H x, P.rt a ρ → Sl K ρ σ HF' H → Bn B ρ σ HF' H → RRel K B.H0 HF' H x a → D.rt x H
  bk : ∀ ρ σ HF' H, P.bk ρ → Sl K ρ σ HF' H → Bn B ρ σ HF' H → Same HF HF' → D.bk σ H
  ct : ∀ ρ σ HF' H, P.ct ρ → Sl K ρ σ HF' H → Bn B ρ σ HF' H → Same HF HF' → D.ct σ H
theorem Ok.up {K : PySem.W.Frag} {B : Bs} {HF HF1 : Hp} {D : Ends} {P : Pst} (o : Ok K B HF D P) (s : Same HF HF1) : Ok K B HF1 D P :=
  ⟨fun ρ σ HF' H p S b e => o.nx ρ σ HF' H p S b (s.trans e), o.rt, fun ρ σ HF' H p S b e => o.bk ρ σ HF' H p S b (s.trans e), fun ρ σ HF' H p S b e => o.ct ρ σ HF' H p S b (s.trans e)⟩
def Ex (K : PySem.W.Frag) (B : Bs) (t : TS) (ρ : Rho) (P : Pst) : Prop := ∀ σ HF H, Sl K ρ σ HF H → Bn B ρ σ HF H → ∀ D, Ok K B HF D P → t D σ H
abbrev S (X : Cx) (B : Bs) (st : Stmt) (ρ : Rho) (P : Pst) : Prop := Ex X.K B (wS X st) ρ P
abbrev Ss (X : Cx) (B : Bs) (st : List Stmt) (ρ : Rho) (P : Pst) : Prop := Ex X.K B (wSs X st) ρ P

section
variable {X : Cx} {B : Bs} {P : Pst} {ρ ρ1 ρ2 ρ3 : Rho} {st : Stmt} {sts : List Stmt} {t : TS} {e e1 e2 : Expr} {pos : Pos} {a : A} {b : Bool} {v w : PyData}
theorem S.of (h : PS X st t) (h2 : Ex X.K B t ρ P) : S X B st ρ P := fun σ HF H Sl b D o => ⟨t, h, h2 σ HF H Sl b D o⟩
theorem ss_nil (h : P.nx ρ) : Ss X B [] ρ P := fun σ HF H Sl b D o => ⟨_, pss_nil, o.nx ρ σ HF H h Sl b (.refl _)⟩
theorem ss_cons (h : S X B st ρ ⟨fun ρ' => Ss X B sts ρ' P, P.rt, P.bk, P.ct⟩) : Ss X B (st :: sts) ρ P := fun σ HF H Sl b D o =>
  ⟨_, pss_cons ps_w pss_w, h σ HF H Sl b _ ⟨fun ρ' σ' HF' H' p S' b' e => p σ' HF' H' S' b' D (o.up e), o.rt, o.bk, o.ct⟩⟩
theorem ss_one (h : S X B st ρ P) : Ss X B [st] ρ P := fun σ HF H Sl b D o => ⟨_, pss_one ps_w, h σ HF H Sl b D o⟩
theorem s_pass (h : P.nx ρ) : S X B (.Pass pos) ρ P := .of ps_pass fun σ HF H Sl b D o => o.nx ρ σ HF H h Sl b (.refl _)
theorem s_break (h : P.bk ρ) : S X B (.Break pos) ρ P := .of ps_break fun σ HF H Sl b D o => o.bk ρ σ HF H h Sl b (.refl _)
theorem s_cont (h : P.ct ρ) : S X B (.Continue pos) ρ P := .of ps_continue fun σ HF H Sl b D o => o.ct ρ σ HF H h Sl b (.refl _)
theorem s_doc {x : Str} {j : Nat} {pos' : Pos} (h : P.nx ρ) : S X B (.Expr (.Constant (.str x) j pos) pos') ρ P := .of ps_doc fun σ HF H Sl b D o => o.nx ρ σ HF H h Sl b (.refl _)
theorem s_expr (he : E X e ρ a ρ1) (h : P.nx ρ1) (hs : swapsWith e none pos.line X.env = pure false := by rfl) : S X B (.Expr e pos) ρ P := .of (ps_expr pe_w hs) fun σ HF H Sl b D o =>
  he σ HF H Sl _ fun x HF1 H1 S1 f1 _ => o.nx ρ1 σ HF1 H1 h S1 (b.fw f1) f1.hf
theorem rrel_base {K : PySem.W.Frag} {σ : L2.St} {HF H HF' H' : Hp} {x : V} (b : Bn B ρ σ HF H) (r : RRel K H HF' H' x a) : RRel K B.H0 HF' H' x a := by
  cases ho : a.own with
  | true =>
    obtain ⟨p, o, q1, q2, q3⟩ := (rrel_own ho).mp r
    exact (rrel_own ho).mpr ⟨p, o, q1, b.free q2, q3⟩
  | false => cases a <;> first | exact r | exact tw_fresh (fun p h => b.free h) r | exact dl_fresh (fun p h => b.free h) r | exact Nw.fresh _ (fun p h => b.free h) r | cases ho
theorem s_ret (he : E X e ρ a ρ1) (h : P.rt a ρ1) : S X B (.Return (some e) pos) ρ P := .of (ps_ret pe_w) fun σ HF H Sl b D o =>
  he σ HF H Sl _ fun x HF1 H1 S1 f1 r1 => o.rt a ρ1 σ HF1 H1 x h S1 (b.fw f1) (rrel_base b r1)
theorem s_retN (h : P.rt (.d .none) ρ) : S X B (.Return none pos) ρ P := .of ps_retN fun σ HF H Sl b D o => o.rt _ ρ σ HF H _ h Sl b (show RRel X.K B.H0 HF H V.non (.d .none) from .non)
/-- an own object is handed back -/
theorem s_retO (i : Nat) {x : Str} (hi : ρ[i]? = some a) (ho : a.own = true) (hl : ∀ q ∈ B.L, q.1 ≠ i) (h : P.rt a ρ) (hN : X.N[i]? = some x := by rfl) (hv : Vis X.env.scope x := by first | exact Or.inl rfl | exact Or.inr (Or.inl rfl) | exact Or.inr (Or.inr rfl))
    (hd : (x == ("__debug__" : Str)) = false := by decide) (hcd : (x == ("__classdict__" : Str)) = false := by decide) {pos'} : S X B (.Return (some (.Name x pos')) pos) ρ P := .of (ps_ret (pe_var hN hv hd hcd)) fun σ HF H Sl b D o => by
  obtain ⟨p, u, e, h1, h2, h3⟩ := Sl.ownAt hi ho
  refine ⟨.ref p, e, o.rt a ρ σ HF H _ h Sl b ((rrel_own ho).mpr ⟨p, u, rfl, ?_, h1, h2, h3⟩)⟩
  rcases b.mine i a p hi ho e with z | z
  · exact (hl _ z rfl).elim
  · exact z
theorem s_if {c : Expr} {s1 s2 : List Stmt} (hc : ET X c ρ b ρ1) (h1 : b = true → Ss X B s1 ρ1 P) (h2 : b = false → Ss X B s2 ρ1 P) : S X B (.If c s1 s2 pos) ρ P := .of (ps_if pt_w pss_w pss_w) fun σ HF H Sl bb D o =>
  hc σ HF H Sl _ fun HF1 H1 S1 f1 => by
    cases b with
    | true => exact h1 rfl σ HF1 H1 S1 (bb.fw f1) D (o.up f1.hf)
    | false => exact h2 rfl σ HF1 H1 S1 (bb.fw f1) D (o.up f1.hf)

/-! ### a name is stored -/
theorem Sl.set {K : PySem.W.Frag} {σ : L2.St} {HF H Hb : Hp} {x : V} {i : Nat} (S1 : Sl K ρ σ HF H) (r : RRel K Hb HF H x a) (hfr : ∀ p, Hb p = none → ¬ OwnAt ρ σ p) : Sl K (ρ.set i a) (σ.set i (some x)) HF H := by
  refine ⟨by rw [List.length_set, List.length_set]; exact S1.len, S1.sub, fun j c h => ?_, fun j k c d p h1 h2 o1 o2 e1 e2 => ?_⟩
  · by_cases hj : i = j
    · subst hj
      have hi : i < ρ.length := by
        have := (List.getElem?_eq_some_iff.mp h).1
        rw [List.length_set] at this
        exact this
      rw [List.getElem?_set_self hi] at h
      cases h
      refine ⟨some x, by rw [List.getElem?_set_self (by rw [S1.len]; exact hi)], ?_⟩
      cases ho : a.own with
      | true =>
        obtain ⟨p, o, q1, q2, q3⟩ := (rrel_own ho).mp r
        exact (arel_own ho).mpr ⟨x, rfl, p, o, q1, q3⟩
      | false => cases a <;> first | exact ⟨x, rfl, r⟩ | exact congrArg some r | trivial | cases ho
    · rw [List.getElem?_set_ne hj] at h
      obtain ⟨s, e, q⟩ := S1.slot j c h
      exact ⟨s, by rw [List.getElem?_set_ne hj]; exact e, q⟩
  · have key : ∀ (m : Nat) (c : A), (ρ.set i a)[m]? = some c → c.own = true → (σ.set i (some x))[m]? = some (some (V.ref p)) → i ≠ m → OwnAt ρ σ p := fun m c g1 g2 g3 hm => by
      rw [List.getElem?_set_ne hm] at g1 g3
      exact ⟨m, c, g1, g2, g3⟩
    have self : ∀ (c : A), (ρ.set i a)[i]? = some c → c.own = true → (σ.set i (some x))[i]? = some (some (V.ref p)) → Hb p = none := fun c g1 g2 g3 => by
      have hi : i < ρ.length := by
        have := (List.getElem?_eq_some_iff.mp g1).1
        rw [List.length_set] at this
        exact this
      rw [List.getElem?_set_self hi] at g1
      rw [List.getElem?_set_self (by rw [S1.len]; exact hi)] at g3
      cases g1
      cases g3
      obtain ⟨p', o, q1, q2, q3⟩ := (rrel_own g2).mp r
      cases q1
      exact q2
    by_cases hj : i = j
    · subst hj
      by_cases hk : i = k
      · exact hk
      · exact (hfr p (self c h1 o1 e1) (key k d h2 o2 e2 hk)).elim
    · by_cases hk : i = k
      · subst hk
        exact (hfr p (self d h2 o2 e2) (key j c h1 o1 e1 hj)).elim
      · rw [List.getElem?_set_ne hj] at h1 e1
        rw [List.getElem?_set_ne hk] at h2 e2
        exact S1.apart j k c d p h1 h2 o1 o2 e1 e2
theorem Bn.set {K : PySem.W.Frag} {σ : L2.St} {HF H : Hp} {x : V} {i : Nat} (b1 : Bn B ρ σ HF H) (S1 : Sl K ρ σ HF H) (r : RRel K B.H0 HF H x a) (hl : ∀ q ∈ B.L, q.1 ≠ i) : Bn B (ρ.set i a) (σ.set i (some x)) HF H := by
  refine ⟨b1.hf, b1.keep, b1.new, b1.pres, fun j c p h1 h2 h3 => ?_, fun q hq => ?_⟩
  · by_cases hj : i = j
    · subst hj
      have hi : i < ρ.length := by
        have := (List.getElem?_eq_some_iff.mp h1).1
        rw [List.length_set] at this
        exact this
      rw [List.getElem?_set_self hi] at h1
      rw [List.getElem?_set_self (by rw [S1.len]; exact hi)] at h3
      cases h1
      cases h3
      obtain ⟨p', o, q1, q2, q3⟩ := (rrel_own h2).mp r
      cases q1
      exact .inr q2
    · rw [List.getElem?_set_ne hj] at h1 h3
      exact b1.mine j c p h1 h2 h3
  · rw [List.getElem?_set_ne (hl q hq).symm]
    exact b1.lent q hq
theorem s_set (i : Nat) {x : Str} {pos' : Pos} (he : E X e ρ a ρ1) (h : P.nx (ρ1.set i a)) (hl : ∀ q ∈ B.L, q.1 ≠ i) (hN : X.N.Nodup) (hi : X.N[i]? = some x := by rfl) (hx : Loc X.env.scope x := by first | exact Or.inl rfl | exact Or.inr rfl)
    (hs : swapsWith e (some (.Name x pos')) pos.line X.env = pure false := by rfl) (hf : X.fn x = true ∨ X.env.scope.names.lookup x = some .local := by first | exact .inl rfl | exact .inr rfl) : S X B (.Assign [.Name x pos'] e pos) ρ P :=
  .of (ps_set hN hi hx pe_w hs hf) fun σ HF H Sl b D o => he σ HF H Sl _ fun y HF1 H1 S1 f1 r1 =>
    o.nx _ _ HF1 H1 h (S1.set r1 fun p hp z => Sl.notOwn hp (f1.sh.own.mp z)) ((b.fw f1).set S1 (rrel_base b r1) hl) f1.hf

/-! ### targets -/
def Ga (K : PySem.W.Frag) (B : Bs) (g : TG) (v : PyData) (ρ ρ' : Rho) : Prop := ∀ x σ HF H, Sl K ρ σ HF H → Dp K HF x v → ∀ Q : L2.St → Hp → Prop, (∀ σ', Sl K ρ' σ' HF H → (Bn B ρ σ HF H → Bn B ρ' σ' HF H) → Q σ' H) → g x σ H Q
def wG (X : Cx) (tg : Expr) : TG := fun x σ H Q => ∃ g, PG X tg g ∧ g x σ H Q
theorem pg_w {tg : Expr} : PG X tg (wG X tg) := ⟨fun pins s σ H v u Q I r ⟨_, h, q⟩ => h.run pins s σ H v u Q I r q⟩
abbrev GT (X : Cx) (B : Bs) (tg : Expr) (v : PyData) (ρ ρ' : Rho) : Prop := Ga X.K B (wG X tg) v ρ ρ'
theorem g_name (i : Nat) {x : Str} (hl : ∀ q ∈ B.L, q.1 ≠ i) (hN : X.N.Nodup) (hi : X.N[i]? = some x := by rfl) (hx : Loc X.env.scope x := by first | exact Or.inl rfl | exact Or.inr rfl) (hf : X.fn x = true ∨ X.env.scope.names.lookup x = some .local := by first | exact .inl rfl | exact .inr rfl) :
    GT X B (.Name x pos) v ρ (ρ.set i (.d v)) := fun y σ HF H Sl r Q q => ⟨_, pg_name hN hi hx hf, by
  have r1 : ∀ Hb, RRel X.K Hb HF H y (.d v) := fun Hb => r
  refine q _ ?_ fun b => b.set Sl (r1 _) hl
  refine Sl.set (Hb := H) (r1 _) fun p hp z => Sl.notOwn hp z⟩
def Gs (K : PySem.W.Frag) (B : Bs) (g : TGs) (vs : List PyData) (ρ ρ' : Rho) : Prop := ∀ xs σ HF H, Sl K ρ σ HF H → DpAll K HF xs vs → ∀ Q : L2.St → Hp → Prop, (∀ σ', Sl K ρ' σ' HF H → (Bn B ρ σ HF H → Bn B ρ' σ' HF H) → Q σ' H) → g xs σ H Q
def wGs (X : Cx) (tg : List Expr) : TGs := fun x σ H Q => ∃ g, PGs X tg g ∧ g x σ H Q
theorem pgs_w {tg : List Expr} : PGs X tg (wGs X tg) := ⟨fun pins s σ H v u Q I r ⟨_, h, q⟩ => h.run pins s σ H v u Q I r q⟩
abbrev GTs (X : Cx) (B : Bs) (tg : List Expr) (vs : List PyData) (ρ ρ' : Rho) : Prop := Gs X.K B (wGs X tg) vs ρ ρ'
theorem gs_nil : GTs X B [] [] ρ ρ := fun xs σ HF H Sl r Q q => by
  cases r
  exact ⟨_, pgs_nil, rfl, q σ Sl fun b => b⟩
theorem gs_cons {tg : Expr} {tgs : List Expr} {vs : List PyData} (h1 : GT X B tg v ρ ρ1) (h2 : GTs X B tgs vs ρ1 ρ2)
    (hs : (assignEach (tg :: tgs) X.env).map (·.2) = assign tg X.env :: (assignEach tgs X.env).map (·.2) := by rfl) : GTs X B (tg :: tgs) (v :: vs) ρ ρ2 := fun xs σ HF H Sl r Q q => by
  cases r with
  | cons r rr =>
    refine ⟨_, pgs_cons pg_w pgs_w hs, _, _, rfl, h1 _ σ HF H Sl r _ fun σ1 S1 b1 => h2 _ σ1 HF H S1 rr Q fun σ2 S2 b2 => q σ2 S2 fun b => b2 (b1 b)⟩
theorem g_tup {es : List Expr} {k : Nat} {vs : List PyData} {n : Nat} (h : GTs X B es vs ρ ρ1) (hz : vs.length = n := by rfl) (hc : X.calm = true := by rfl) (hn : (assignEach es X.env).length = n := by rfl) (hst : (assignEach es X.env).findIdx? (·.1) = none := by rfl) :
    GT X B (.Tuple es k pos) (.tuple vs) ρ ρ1 := fun x σ HF H Sl r Q q => ⟨_, pg_tup hc pgs_w hn hst, by
  cases r with
  | tup h1 h2 => exact ⟨_, _, rfl, same_t Sl.sub h1, (dpa_len h2).trans hz, h _ σ HF H Sl h2 Q q⟩⟩
/-- a, b = e (a tuple) -/
theorem s_asgT {tg : Expr} (he : E X e ρ (.d v) ρ1) (hg : GT X B tg v ρ1 ρ2) (h : P.nx ρ2) (hs : swapsWithSole [tg] e pos.line X.env = pure false := by rfl) (hw : swappedStores [tg] e X.env = pure none := by rfl)
    (h1 : (assignEach [tg] X.env).map (·.2) = [assign tg X.env] := by rfl) : S X B (.Assign [tg] e pos) ρ P := .of (ps_asg pe_w pg_w hs hw h1) fun σ HF H Sl b D o => he σ HF H Sl _ fun y HF1 H1 S1 f1 r1 =>
  hg y σ HF1 H1 S1 r1 _ fun σ2 S2 b2 => o.nx _ _ HF1 H1 h S2 (b2 (b.fw f1)) f1.hf
/-- a, b = e1, e2 -/
theorem s_par (i j : Nat) {x y : Str} {px py pt : Pos} {kt k2 : Nat} {pt2 : Pos} (ha : ED X [e1, e2] ρ [v, w] ρ1) (h : P.nx ((ρ1.set i (.d v)).set j (.d w))) (hli : ∀ q ∈ B.L, q.1 ≠ i) (hlj : ∀ q ∈ B.L, q.1 ≠ j) (hN : X.N.Nodup) (hij : i ≠ j := by decide)
    (hc : X.calm = true := by rfl) (hi : X.N[i]? = some x := by rfl) (hj : X.N[j]? = some y := by rfl) (hx : X.env.scope.names.lookup x = some .local := by rfl) (hy : X.env.scope.names.lookup y = some .local := by rfl)
    (hw : swappedStores [.Tuple [.Name x px, .Name y py] kt pt] (.Tuple [e1, e2] k2 pt2) X.env = pure (some [x, y]) := by rfl)
    (hs : swapsWithSole [.Tuple [.Name x px, .Name y py] kt pt] (.Tuple [e1, e2] k2 pt2) pos.line X.env = pure false := by rfl) : S X B (.Assign [.Tuple [.Name x px, .Name y py] kt pt] (.Tuple [e1, e2] k2 pt2) pos) ρ P :=
  .of (ps_par hc hN hi hj hij hx hy pa_w hw hs) fun σ HF H Sl b D o => ha σ HF H Sl _ fun xs HF1 H1 S1 f1 r1 => by
    cases r1 with
    | cons r1 r2 =>
      cases r2 with
      | cons r2 r3 =>
        cases r3
        refine ⟨_, _, rfl, ?_⟩
        have q1 : ∀ Hb, RRel X.K Hb HF1 H1 _ (.d v) := fun Hb => r1
        have q2 : ∀ Hb, RRel X.K Hb HF1 H1 _ (.d w) := fun Hb => r2
        have b1 := b.fw f1
        have S2 := S1.set (i := i) (q1 H1) fun p hp z => S1.notOwn hp z
        have b2 := b1.set (i := i) S1 (q1 _) hli
        exact o.nx _ _ HF1 H1 h (S2.set (q2 H1) fun p hp z => S2.notOwn hp z) (b2.set S2 (q2 _) hlj) f1.hf

/-! ### less is known -/
inductive Le : Rho → Rho → Prop
  | nil : Le [] []
  | eq {a : A} {r r' : Rho} (h : Le r r') : Le (a :: r) (a :: r')
  | any {a : A} {r r' : Rho} (h : Le r r') : Le (a :: r) (.any :: r')
theorem Le.refl : ∀ ρ : Rho, Le ρ ρ
  | [] => .nil
  | _ :: r => .eq (Le.refl r)
theorem Le.len : ∀ {ρ ρ' : Rho}, Le ρ ρ' → ρ'.length = ρ.length
  | _, _, .nil => rfl
  | _, _, .eq h => congrArg (· + 1) h.len
  | _, _, .any h => congrArg (· + 1) h.len
theorem Le.get : ∀ {ρ ρ' : Rho} {i : Nat} {a : A}, Le ρ ρ' → ρ'[i]? = some a → (ρ[i]? = some a) ∨ (a = .any ∧ ∃ c, ρ[i]? = some c)
  | _, _, _, _, .nil, h => by simp at h
  | _, _, 0, _, .eq _, h => .inl h
  | _, _, 0, _, .any _, h => .inr ⟨(Option.some.inj h).symm, _, rfl⟩
  | _, _, i + 1, _, .eq t, h => Le.get (i := i) t h
  | _, _, i + 1, _, .any t, h => Le.get (i := i) t h
theorem Sl.le {K : PySem.W.Frag} {σ : L2.St} {HF H : Hp} (S1 : Sl K ρ σ HF H) (l : Le ρ ρ1) : Sl K ρ1 σ HF H := by
  refine ⟨S1.len.trans l.len.symm, S1.sub, fun i a h => ?_, fun i j a b p h1 h2 o1 o2 e1 e2 => ?_⟩
  · rcases l.get h with h | ⟨rfl, c, h⟩
    · exact S1.slot i a h
    · obtain ⟨s, e, _⟩ := S1.slot i c h
      exact ⟨s, e, trivial⟩
  · have g1 : ρ[i]? = some a := (l.get h1).elim id fun z => by rw [z.1] at o1; cases o1
    have g2 : ρ[j]? = some b := (l.get h2).elim id fun z => by rw [z.1] at o2; cases o2
    exact S1.apart i j a b p g1 g2 o1 o2 e1 e2
theorem Bn.le {σ : L2.St} {HF H : Hp} (b : Bn B ρ σ HF H) (l : Le ρ ρ1) : Bn B ρ1 σ HF H :=
  ⟨b.hf, b.keep, b.new, b.pres, fun i a p h o e => b.mine i a p ((l.get h).elim id fun z => by rw [z.1] at o; cases o) o e, b.lent⟩
theorem Ex.le {K : PySem.W.Frag} (h : Ex K B t ρ1 P) (l : Le ρ ρ1) : Ex K B t ρ P := fun σ HF H S1 b D o => h σ HF H (S1.le l) (b.le l) D o
/-- an own object becomes data -/
theorem Sl.frzAt {K : PySem.W.Frag} {σ : L2.St} {HF H : Hp} {i : Nat} {xs : List PyData} (S1 : Sl K ρ σ HF H) (b1 : Bn B ρ σ HF H) (hi : ρ[i]? = some (.ml xs)) (hl : ∀ q ∈ B.L, q.1 ≠ i) :
    ∃ HF', Sl K (ρ.set i (.d (.list xs))) σ HF' H ∧ Bn B (ρ.set i (.d (.list xs))) σ HF' H ∧ Same HF HF' := by
  obtain ⟨p, o, e, h1, h2, h3⟩ := S1.ownAt hi rfl
  cases o <;> first | exact h3.elim | skip
  rename_i ys
  have hb : B.H0 p = none := (b1.mine i _ p hi rfl e).elim (fun z => (hl _ z rfl).elim) id
  have hlen : i < ρ.length := (List.getElem?_eq_some_iff.mp hi).1
  have le : Sl K (ρ.set i .any) σ HF H := by
    refine ⟨by rw [List.length_set]; exact S1.len, S1.sub, fun j a h => ?_, fun j k a b q g1 g2 o1 o2 e1 e2 => ?_⟩
    · by_cases hj : i = j
      · subst hj
        rw [List.getElem?_set_self hlen] at h
        cases h
        exact ⟨_, e, trivial⟩
      · rw [List.getElem?_set_ne hj] at h
        exact S1.slot j a h
    · have f : ∀ (j : Nat) (a : A), (ρ.set i .any)[j]? = some a → a.own = true → ρ[j]? = some a := fun j a h o => by
        by_cases hj : i = j
        · subst hj
          rw [List.getElem?_set_self hlen] at h
          cases h
          cases o
        · rw [List.getElem?_set_ne hj] at h
          exact h
      exact S1.apart j k a b q (f j a g1 o1) (f k b g2 o2) o1 o2 e1 e2
  have nw : ¬ OwnAt (ρ.set i .any) σ p := by
    rintro ⟨j, a, g1, g2, g3⟩
    by_cases hj : i = j
    · subst hj
      rw [List.getElem?_set_self hlen] at g1
      cases g1
      cases g2
    · rw [List.getElem?_set_ne hj] at g1
      exact hj (S1.apart i j _ a p hi g1 rfl g2 e g3)
  have S2 := le.frz h2 h1 nw
  have own : ∀ (j : Nat) (a : A), (ρ.set i (.d (.list xs)))[j]? = some a → a.own = true → i ≠ j ∧ ρ[j]? = some a := fun j a h o => by
    by_cases hj : i = j
    · subst hj
      rw [List.getElem?_set_self hlen] at h
      cases h
      cases o
    · rw [List.getElem?_set_ne hj] at h
      exact ⟨hj, h⟩
  refine ⟨_, ⟨by rw [List.length_set]; exact S1.len, S2.sub, fun j a h => ?_, fun j k a b q g1 g2 o1 o2 e1 e2 => S1.apart j k a b q (own j a g1 o1).2 (own k b g2 o2).2 o1 o2 e1 e2⟩,
    ⟨b1.hf.trans (same_upd h1), b1.keep, fun c u h => ?_, b1.pres, fun j a q g o e' => b1.mine j a q (own j a g o).2 o e', b1.lent⟩, same_upd h1⟩
  · by_cases hj : i = j
    · subst hj
      rw [List.getElem?_set_self hlen] at h
      cases h
      exact ⟨_, e, .ref p, rfl, .lst (.inl (.inl upd_same)) (dpa_mono (same_upd h1) h3)⟩
    · rw [List.getElem?_set_ne hj] at h
      exact S2.slot j a (by rw [List.getElem?_set_ne hj]; exact h)
  · by_cases hc : c = p
    · subst hc
      exact .inr hb
    · rw [upd_ne hc] at h
      exact b1.new c u h
theorem Ex.frz {K : PySem.W.Frag} (i : Nat) {xs : List PyData} (hi : ρ[i]? = some (.ml xs)) (hl : ∀ q ∈ B.L, q.1 ≠ i) (h : Ex K B t (ρ.set i (.d (.list xs))) P) : Ex K B t ρ P := fun σ HF H S1 b D o => by
  obtain ⟨HF', S2, b2, s⟩ := S1.frzAt b hi hl
  exact h σ HF' H S2 b2 D (o.up s)

/-! ### loops -/
section
variable {tg iter : Expr} {body : List Stmt} {ds : List PyData}
def bodyP (P : Pst) (I : Rho → Prop) : Pst := ⟨I, P.rt, P.nx, I⟩
theorem ok_body {K : PySem.W.Frag} {HF : Hp} {D : Ends} {I : Rho → Prop} {N : L2.St → Hp → Prop} (o : Ok K B HF D P) (h : ∀ ρ σ HF' H, I ρ → Sl K ρ σ HF' H → Bn B ρ σ HF' H → Same HF HF' → N σ H) : Ok K B HF { D with nx := N, ct := N, bk := D.nx } (bodyP P I) :=
  ⟨h, o.rt, o.nx, h⟩
/-- over data: a list, a tuple -/
theorem s_forD (tup : Bool) (hi : E X iter ρ (.d (if tup then .tuple ds else .list ds)) ρ1) (I : Nat → Rho → Prop) (h0 : I 0 ρ1)
    (hb : ∀ i v ρ', ds[i]? = some v → I i ρ' → ∃ ρ2, GT X B tg v ρ' ρ2 ∧ Ss X B body ρ2 (bodyP P (I (i + 1)))) (hd : ∀ ρ', I ds.length ρ' → P.nx ρ')
    (hp : PassesOwn (model X.prog X.w) X.A X.env X.xe) (hc : X.calm = true := by rfl) (hs : ∀ x, foldedSetIterable iter X.env x = pure x := by intro _; rfl) : S X B (.For tg iter body [] pos) ρ P := by
  have wi : ∃ wi, PI X tg iter wi ∧ Ex X.K B (tFor wi (wG X tg) (wSs X body)) ρ P := by
    cases tup with
    | true =>
      refine ⟨_, pi_tup pe_w, fun σ HF H S1 b D o => hi σ HF H S1 _ fun x HF1 H1 S2 f1 r1 => ?_⟩
      cases (show Dp X.K HF1 x (.tuple ds) from r1) with
      | @tup p ys _ h1 h2 =>
        refine ⟨p, rfl, ⟨ys, same_t S2.sub h1⟩, for_tup (K := X.K) (a := p) (xs := ys) (fun i σ' H' => ∃ ρ' HF', I i ρ' ∧ Sl X.K ρ' σ' HF' H' ∧ Bn B ρ' σ' HF' H' ∧ Same HF1 HF') ⟨ρ1, HF1, h0, S2, b.fw f1, .refl _⟩ ?_ ?_ ?_⟩
        · rintro i σ' H' _ ⟨ρ', HF', _, S', _, s'⟩
          exact same_t S'.sub (same_t s' h1)
        · rintro i x σ' H' hx ⟨ρ', HF', hI, S', b', s'⟩
          obtain ⟨v, e, r⟩ := dpa_get' (dpa_mono s' h2) hx
          obtain ⟨ρ2, hg, hbd⟩ := hb i v ρ' e hI
          refine hg x σ' HF' H' S' r _ fun σ2 S3 b3 => hbd σ2 HF' H' S3 (b3 b') _ ?_
          exact ok_body ((o.up f1.hf).up s') fun ρ3 σ3 HF3 H3 i3 S4 b4 s4 => ⟨ρ3, HF3, i3, S4, b4, s'.trans s4⟩
        · rintro σ' H' ⟨ρ', HF', hI, S', b', s'⟩
          rw [dpa_len h2] at hI
          exact o.nx ρ' σ' HF' H' (hd ρ' hI) S' b' (f1.hf.trans s')
    | false =>
      refine ⟨_, pi_list pe_w, fun σ HF H S1 b D o => hi σ HF H S1 _ fun x HF1 H1 S2 f1 r1 => ?_⟩
      cases (show Dp X.K HF1 x (.list ds) from r1) with
      | @lst p ys _ h1 h2 =>
        refine ⟨p, rfl, ⟨ys, same_l S2.sub h1⟩, for_list (K := X.K) (a := p) (xs := ys) (fun i σ' H' => ∃ ρ' HF', I i ρ' ∧ Sl X.K ρ' σ' HF' H' ∧ Bn B ρ' σ' HF' H' ∧ Same HF1 HF') ⟨ρ1, HF1, h0, S2, b.fw f1, .refl _⟩ ?_ ?_ ?_⟩
        · rintro i σ' H' _ ⟨ρ', HF', _, S', _, s'⟩
          exact same_l S'.sub (same_l s' h1)
        · rintro i x σ' H' hx ⟨ρ', HF', hI, S', b', s'⟩
          obtain ⟨v, e, r⟩ := dpa_get' (dpa_mono s' h2) hx
          obtain ⟨ρ2, hg, hbd⟩ := hb i v ρ' e hI
          refine hg x σ' HF' H' S' r _ fun σ2 S3 b3 => hbd σ2 HF' H' S3 (b3 b') _ ?_
          exact ok_body ((o.up f1.hf).up s') fun ρ3 σ3 HF3 H3 i3 S4 b4 s4 => ⟨ρ3, HF3, i3, S4, b4, s'.trans s4⟩
        · rintro σ' H' ⟨ρ', HF', hI, S', b', s'⟩
          rw [dpa_len h2] at hI
          exact o.nx ρ' σ' HF' H' (hd ρ' hI) S' b' (f1.hf.trans s')
  obtain ⟨wi, h1, h2⟩ := wi
  exact .of (ps_for hp hc h1 pg_w pss_w hs) h2
theorem s_forL (hi : E X iter ρ (.d (.list ds)) ρ1) (I : Nat → Rho → Prop) (h0 : I 0 ρ1)
    (hb : ∀ i v ρ', ds[i]? = some v → I i ρ' → ∃ ρ2, GT X B tg v ρ' ρ2 ∧ Ss X B body ρ2 (bodyP P (I (i + 1)))) (hd : ∀ ρ', I ds.length ρ' → P.nx ρ')
    (hp : PassesOwn (model X.prog X.w) X.A X.env X.xe) (hc : X.calm = true := by rfl) (hs : ∀ x, foldedSetIterable iter X.env x = pure x := by intro _; rfl) : S X B (.For tg iter body [] pos) ρ P := s_forD false hi I h0 hb hd hp hc hs
theorem s_forT (hi : E X iter ρ (.d (.tuple ds)) ρ1) (I : Nat → Rho → Prop) (h0 : I 0 ρ1)
    (hb : ∀ i v ρ', ds[i]? = some v → I i ρ' → ∃ ρ2, GT X B tg v ρ' ρ2 ∧ Ss X B body ρ2 (bodyP P (I (i + 1)))) (hd : ∀ ρ', I ds.length ρ' → P.nx ρ')
    (hp : PassesOwn (model X.prog X.w) X.A X.env X.xe) (hc : X.calm = true := by rfl) (hs : ∀ x, foldedSetIterable iter X.env x = pure x := by intro _; rfl) : S X B (.For tg iter body [] pos) ρ P := s_forD true hi I h0 hb hd hp hc hs
/-- range(a), range(a, b) -/
theorem s_forR1 {px pc : Pos} {n : Int} (hi : E X e ρ (.d (.int n)) ρ1) (hn : n < 2 ^ 62) (hn0 : -(2 ^ 62) ≤ n) (I : Nat → Rho → Prop) (h0 : I 0 ρ1)
    (hb : ∀ (i : Nat) ρ', i < n.toNat → I i ρ' → ∃ ρ2, GT X B tg (.int i) ρ' ρ2 ∧ Ss X B body ρ2 (bodyP P (I (i + 1)))) (hd : ∀ ρ', I n.toNat ρ' → P.nx ρ')
    (hm : X.mg "range" = none) (hp : PassesOwn (model X.prog X.w) X.A X.env X.xe) (hg : Gl X "range" := by rfl) (hc : X.calm = true := by rfl) (hse : starEach [e] X.env = [(false, eval e X.env)] := by rfl) : S X B (.For tg (.Call (.Name "range" px) [e] [] pc) body [] pos) ρ P :=
  .of (ps_for hp hc (pi_range1 hg hm (pa_cons pe_w pa_nil hse) hse) pg_w pss_w) fun σ HF H S1 b D o => hi σ HF H S1 _ fun x HF1 H1 S2 f1 r1 => by
    cases r1
    refine ⟨n, rfl, hn0, hn, for_range (lo := 0) (n := n.toNat) (fun i σ' H' => ∃ ρ' HF', I i ρ' ∧ Sl X.K ρ' σ' HF' H' ∧ Bn B ρ' σ' HF' H' ∧ Same HF1 HF') ⟨ρ1, HF1, h0, S2, b.fw f1, .refl _⟩ ?_ ?_⟩
    · rintro i σ' H' hi ⟨ρ', HF', hI, S', b', s'⟩
      obtain ⟨ρ2, hg, hbd⟩ := hb i ρ' hi hI
      rw [show (0 : Int) + (i : Int) = (i : Int) by omega]
      refine hg _ σ' HF' H' S' (.int _) _ fun σ2 S3 b3 => hbd σ2 HF' H' S3 (b3 b') _ ?_
      exact ok_body ((o.up f1.hf).up s') fun ρ3 σ3 HF3 H3 i3 S4 b4 s4 => ⟨ρ3, HF3, i3, S4, b4, s'.trans s4⟩
    · rintro σ' H' ⟨ρ', HF', hI, S', b', s'⟩
      exact o.nx ρ' σ' HF' H' (hd ρ' hI) S' b' (f1.hf.trans s')
theorem s_forR2 {px pc : Pos} {n m : Int} (hi : E X e1 ρ (.d (.int m)) ρ1) (hi2 : E X e2 ρ1 (.d (.int n)) ρ2) (hn : -(2 ^ 62) ≤ m ∧ m < 2 ^ 62 ∧ -(2 ^ 62) ≤ n ∧ n < 2 ^ 62) (I : Nat → Rho → Prop) (h0 : I 0 ρ2)
    (hb : ∀ (i : Nat) ρ', i < (n - m).toNat → I i ρ' → ∃ ρ2, GT X B tg (.int (m + i)) ρ' ρ2 ∧ Ss X B body ρ2 (bodyP P (I (i + 1)))) (hd : ∀ ρ', I (n - m).toNat ρ' → P.nx ρ')
    (hm : X.mg "range" = none) (hp : PassesOwn (model X.prog X.w) X.A X.env X.xe) (hg : Gl X "range" := by rfl) (hc : X.calm = true := by rfl) (hse : starEach [e1, e2] X.env = [(false, eval e1 X.env), (false, eval e2 X.env)] := by rfl) (hse2 : starEach [e2] X.env = [(false, eval e2 X.env)] := by rfl) : S X B (.For tg (.Call (.Name "range" px) [e1, e2] [] pc) body [] pos) ρ P :=
  .of (ps_for hp hc (pi_range2 hg hm (pa_cons pe_w (pa_cons pe_w pa_nil hse2) (by rw [hse, hse2])) hse hse2) pg_w pss_w) fun σ HF H S1 b D o => hi σ HF H S1 _ fun x HF1 H1 S2 f1 r1 => hi2 σ HF1 H1 S2 _ fun x2 HF2 H2 S3 f2 r2 => by
    cases r1
    cases r2
    refine ⟨m, n, rfl, hn, for_range (lo := m) (n := (n - m).toNat) (fun i σ' H' => ∃ ρ' HF', I i ρ' ∧ Sl X.K ρ' σ' HF' H' ∧ Bn B ρ' σ' HF' H' ∧ Same HF2 HF') ⟨ρ2, HF2, h0, S3, b.fw (f1.trans f2), .refl _⟩ ?_ ?_⟩
    · rintro i σ' H' hi ⟨ρ', HF', hI, S', b', s'⟩
      obtain ⟨ρ2, hg, hbd⟩ := hb i ρ' hi hI
      refine hg _ σ' HF' H' S' (.int _) _ fun σ2 S3 b3 => hbd σ2 HF' H' S3 (b3 b') _ ?_
      exact ok_body ((o.up (f1.trans f2).hf).up s') fun ρ3 σ3 HF3 H3 i3 S4 b4 s4 => ⟨ρ3, HF3, i3, S4, b4, s'.trans s4⟩
    · rintro σ' H' ⟨ρ', HF', hI, S', b', s'⟩
      exact o.nx ρ' σ' HF' H' (hd ρ' hI) S' b' ((f1.trans f2).hf.trans s')
/-- while, by an invariant with its measure -/
theorem s_while {c : Expr} (I : Nat → Rho → Prop) (m0 : Nat) (h0 : I m0 ρ) (hs : ∀ m ρ', I m ρ' → ∃ b ρ1, ET X c ρ' b ρ1 ∧ (b = true → Ss X B body ρ1 (bodyP P fun ρ2 => ∃ m', m' < m ∧ I m' ρ2)) ∧ (b = false → P.nx ρ1))
    (hp : PassesOwn (model X.prog X.w) X.A X.env X.xe) : S X B (.While c body [] pos) ρ P := .of (ps_while hp pt_w pss_w) fun σ HF H S1 b D o => by
  refine ⟨fun m σ' H' => ∃ ρ' HF', I m ρ' ∧ Sl X.K ρ' σ' HF' H' ∧ Bn B ρ' σ' HF' H' ∧ Same HF HF', ⟨m0, ρ, HF, h0, S1, b, .refl _⟩, ?_⟩
  rintro m σ' H' ⟨ρ', HF', hI, S', b', s'⟩
  obtain ⟨bb, ρ1, hc, h1, h2⟩ := hs m ρ' hI
  refine hc σ' HF' H' S' _ fun HF1 H1 S2 f1 => ?_
  cases bb with
  | true =>
    rw [if_pos rfl]
    refine ⟨_, fun _ _ n => n, h1 rfl σ' HF1 H1 S2 (b'.fw f1) _ ?_⟩
    exact ok_body ((o.up s').up f1.hf) fun ρ3 σ3 HF3 H3 ⟨m', hm, i3⟩ S4 b4 s4 => ⟨m', hm, ρ3, HF3, i3, S4, b4, (s'.trans f1.hf).trans s4⟩
  | false =>
    rw [if_neg Bool.false_ne_true]
    exact o.nx ρ1 σ' HF1 H1 (h2 rfl) S2 (b'.fw f1) (s'.trans f1.hf)
end
end
end Th

set_option Elab.async false
set_option linter.all false
set_option maxRecDepth 100000
namespace Th
open PySem PySem.Spec PyProof.Rows L2

/-! ### a def's promise, by what its arguments hold -/
abbrev Fs := List A → A → List A → Prop
def spA (K : PySem.W.Frag) (F : Fs) : Sp := fun vs H Q _ => ∃ HF as r as', Sl K as (vs.map some) HF H ∧ F as r as' ∧ Shape as as' ∧
  ∀ x HF' H', Sl K as' (vs.map some) HF' H' → Fw as as' (vs.map some) HF H HF' H' → RRel K H HF' H' x r → Q x H'
/-- own slots with their addresses -/
def lentOf : Nat → List A → List V → List (Nat × Addr)
  | n, a :: as, .ref p :: vs => if a.own then (n, p) :: lentOf (n + 1) as vs else lentOf (n + 1) as vs
  | n, _ :: as, _ :: vs => lentOf (n + 1) as vs
  | _, _, _ => []
theorem lentOf_mem : ∀ {as : List A} {vs : List V} {n i : Nat} {p : Addr}, (i, p) ∈ lentOf n as vs ↔ ∃ j a, i = n + j ∧ as[j]? = some a ∧ a.own = true ∧ vs[j]? = some (V.ref p)
  | [], vs, n, i, p => by
    constructor
    · intro h; cases vs <;> cases h
    · rintro ⟨j, a, _, e, _⟩; simp at e
  | a :: as, [], n, i, p => by
    constructor
    · intro h; cases h
    · rintro ⟨j, a, _, _, _, e⟩; simp at e
  | a :: as, v :: vs, n, i, p => by
    have ih := @lentOf_mem as vs (n + 1) i p
    have step : (∃ j b, i = n + j ∧ (a :: as)[j]? = some b ∧ b.own = true ∧ (v :: vs)[j]? = some (V.ref p)) ↔ (i = n ∧ a.own = true ∧ v = V.ref p) ∨ (i, p) ∈ lentOf (n + 1) as vs := by
      rw [ih]
      constructor
      · rintro ⟨j, b, e1, e2, e3, e4⟩
        cases j with
        | zero =>
          simp at e2 e4
          subst e2
          exact .inl ⟨e1, e3, e4⟩
        | succ j => exact .inr ⟨j, b, by omega, by simpa using e2, e3, by simpa using e4⟩
      · rintro (⟨e1, e2, e3⟩ | ⟨j, b, e1, e2, e3, e4⟩)
        · exact ⟨0, a, by omega, rfl, e2, by simp [e3]⟩
        · exact ⟨j + 1, b, by omega, by simpa using e2, e3, by simpa using e4⟩
    rw [step]
    cases v with
    | ref q =>
      show (i, p) ∈ (if a.own then (n, q) :: lentOf (n + 1) as vs else lentOf (n + 1) as vs) ↔ _
      cases ho : a.own with
      | true =>
        rw [if_pos rfl, List.mem_cons]
        constructor
        · rintro (e | e)
          · injection e with e1 e2
            exact .inl ⟨e1, rfl, by rw [e2]⟩
          · exact .inr e
        · rintro (⟨e1, _, e2⟩ | e)
          · injection e2 with e2
            exact .inl (by rw [e1, e2])
          · exact .inr e
      | false =>
        rw [if_neg (by simp)]
        constructor
        · exact .inr
        · rintro (⟨_, e, _⟩ | e)
          · cases e
          · exact e
    | _ =>
      show (i, p) ∈ lentOf (n + 1) as vs ↔ _
      constructor
      · exact .inr
      · rintro (⟨_, _, e⟩ | e)
        · cases e
        · exact e
/-- what the end is to be -/
def PR (r : A) (as' : List A) : A → Rho → Prop := fun a ρ => a = r ∧ ∀ (i : Nat) (a' : A), as'[i]? = some a' → a'.own = true → ρ[i]? = some a'
def PF (r : A) (as' : List A) : Pst := ⟨PR r as' (.d .none), PR r as', fun _ => False, fun _ => False⟩
theorem pr_data {r : A} {as : List A} {ρ : Rho} (h : ∀ a ∈ as, a.own = false) : PR r as r ρ := ⟨rfl, fun i a e o => by
  have := h a (List.mem_of_getElem? e)
  rw [o] at this
  cases this⟩
section
variable {P : Program} {w : World} {K : PySem.W.Frag} {mg : Str → Option Value} {base : Heap}
theorem getElem?_app_rep {α : Type} {as : List α} {n i : Nat} {a c : α} (h : (as ++ List.replicate n c)[i]? = some a) : (as[i]? = some a) ∨ (as.length ≤ i ∧ a = c) := by
  by_cases hi : i < as.length
  · rw [List.getElem?_append_left hi] at h
    exact .inl h
  · rw [List.getElem?_append_right (by omega)] at h
    refine .inr ⟨by omega, ?_⟩
    have := List.mem_of_getElem? h
    exact (List.mem_replicate.mp this).2
theorem fn_ok {x qual : Str} {st : Stmt} {f : Addr} {fd : FuncData} {N ps : List Str} {k : Nat} {F : Fs} (G : Fun K x qual st f fd) (S0 : FnScope N ps (defScope st)) (hF : ∀ as r as', F as r as' → as.length = ps.length) (hn : ps.length ≤ N.length) (L : List Nat) (hL : ∀ as r as', F as r as' → ∀ (i : Nat) (a : A), as[i]? = some a → a.own = true → i ∈ L)
    (hbody : ∀ (cdv : Value) (A1 : Around) (outer : List Env) (s : Shared) (H : Hp) (E : XK) (B : Bs) (as : List A) (r : A) (as' : List A), Room k (A1.deeper (envOfC qual (defScope st) s.heap.objs.size f cdv)) → F as r as' → (∀ q ∈ B.L, q.1 ∈ L) →
      Ss (cxOf CX0 P w K mg base N qual (defScope st) f cdv A1 outer s H E).nox B (defBody st) (as ++ List.replicate (N.length - ps.length) .any) (PF r as')) : FnOk P w K mg base CX0 (k + 1) f fd ps (spA K F) := by
  have len : ∀ vs H Q E, spA K F vs H Q E → vs.length = ps.length := fun vs H Q E ⟨HF, as, r, as', S1, h, _⟩ => by
    have := S1.len
    rw [List.length_map] at this
    exact this.trans (hF _ _ _ h)
  refine G.ok S0 len fun cdv A1 outer s H vs Q E hr hsp => ?_
  have hlen := len vs H Q E hsp
  obtain ⟨HF, as, r, as', S1, hf, hsh, q⟩ := hsp
  have hal := hF _ _ _ hf
  let B : Bs := ⟨HF, H, lentOf 0 as vs⟩
  have vmap : ∀ {i : Nat} {v : V}, (vs.map some)[i]? = some (some v) ↔ vs[i]? = some v := fun {i v} => by
    rw [List.getElem?_map]
    cases vs[i]? <;> simp
  have hB : ∀ z ∈ B.L, z.1 ∈ L := fun z hz => by
    obtain ⟨j, a, e1, e2, e3, _⟩ := lentOf_mem.mp (show (z.1, z.2) ∈ lentOf 0 as vs from hz)
    rw [show z.1 = j by omega]
    exact hL _ _ _ hf j a e2 e3
  have Sl0 : Sl K (as ++ List.replicate (N.length - ps.length) .any) (L2.start N vs) HF H := by
    refine ⟨?_, S1.sub, fun i a h => ?_, fun i j a b p h1 h2 o1 o2 e1 e2 => ?_⟩
    · unfold L2.start
      rw [List.length_append, List.length_append, List.length_map, List.length_replicate, List.length_replicate, hlen, hal]
    · unfold L2.start
      rcases getElem?_app_rep h with h | ⟨hi, rfl⟩
      · obtain ⟨u, e, z⟩ := S1.slot i a h
        refine ⟨u, ?_, z⟩
        rw [List.getElem?_append_left (List.getElem?_eq_some_iff.mp e).1]
        exact e
      · have hlt := (List.getElem?_eq_some_iff.mp h).1
        rw [List.length_append, List.length_replicate] at hlt
        refine ⟨none, ?_, trivial⟩
        rw [List.getElem?_append_right (by rw [List.length_map]; omega), List.getElem?_replicate, if_pos (by rw [List.length_map]; omega)]
    · have back : ∀ (i : Nat) (a : A), (as ++ List.replicate (N.length - ps.length) A.any)[i]? = some a → a.own = true → (L2.start N vs)[i]? = some (some (V.ref p)) → as[i]? = some a ∧ (vs.map some)[i]? = some (some (V.ref p)) := fun i a h o e => by
        rcases getElem?_app_rep h with h | ⟨_, rfl⟩
        · refine ⟨h, ?_⟩
          unfold L2.start at e
          rw [List.getElem?_append_left (by rw [List.length_map]; have := (List.getElem?_eq_some_iff.mp h).1; omega)] at e
          exact e
        · cases o
      obtain ⟨g1, g2⟩ := back i a h1 o1 e1
      obtain ⟨g3, g4⟩ := back j b h2 o2 e2
      exact S1.apart i j a b p g1 g3 o1 o2 g2 g4
  have Bn0 : Bn B (as ++ List.replicate (N.length - ps.length) .any) (L2.start N vs) HF H := by
    refine ⟨.refl _, fun b o _ h => h, fun b o h => .inl h, fun b o h => ⟨o, h⟩, fun i a p h o e => ?_, fun z hz => ?_⟩
    · rcases getElem?_app_rep h with h | ⟨_, rfl⟩
      · unfold L2.start at e
        rw [List.getElem?_append_left (by rw [List.length_map]; have := (List.getElem?_eq_some_iff.mp h).1; omega)] at e
        exact .inl (lentOf_mem.mpr ⟨i, a, by omega, h, o, vmap.mp e⟩)
      · cases o
    · obtain ⟨j, a, e1, e2, e3, e4⟩ := lentOf_mem.mp (show (z.1, z.2) ∈ lentOf 0 as vs from hz)
      unfold L2.start
      rw [show z.1 = j by omega, List.getElem?_append_left (by rw [List.length_map]; exact (List.getElem?_eq_some_iff.mp e4).1)]
      exact vmap.mpr e4
  refine ⟨_, pss_w, hbody cdv A1 outer s H E B as r as' hr hf hB _ HF H Sl0 Bn0 _ ?_⟩
  have fin : ∀ a ρ σ HF' H' x, PR r as' a ρ → Sl K ρ σ HF' H' → Bn B ρ σ HF' H' → RRel K B.H0 HF' H' x a → Q x H' := fun a ρ σ HF' H' x pr S2 b2 rr => by
    obtain ⟨rfl, hro⟩ := pr
    have onlyL : ∀ b, OwnAt as (vs.map some) b ↔ ∃ z ∈ B.L, z.2 = b := fun b => by
      constructor
      · rintro ⟨i, c, h1, h2, h3⟩
        exact ⟨(i, b), lentOf_mem.mpr ⟨i, c, by omega, h1, h2, vmap.mp h3⟩, rfl⟩
      · rintro ⟨z, hz, rfl⟩
        obtain ⟨j, c, e1, e2, e3, e4⟩ := lentOf_mem.mp (show (z.1, z.2) ∈ lentOf 0 as vs from hz)
        exact ⟨j, c, e2, e3, vmap.mpr e4⟩
    refine q x HF' H' ⟨?_, S2.sub, fun i c h => ?_, fun i j c d p h1 h2 o1 o2 e1 e2 => ?_⟩ ⟨hsh, b2.hf, fun b o h n => b2.keep b o (fun z hz e => n ((onlyL b).mpr ⟨z, hz, e⟩)) h, b2.new, b2.pres⟩ rr
    · rw [S1.len, hsh.1]
    · obtain ⟨c0, g1, g2, g3⟩ := hsh.back h
      obtain ⟨u, e, z⟩ := S1.slot i c0 g1
      refine ⟨u, e, ?_⟩
      cases ho : c.own with
      | true =>
        obtain ⟨v, rfl, p, o, rfl, _⟩ := (arel_own (g2 ▸ ho)).mp z
        have hm : (i, p) ∈ B.L := lentOf_mem.mpr ⟨i, c0, by omega, g1, g2 ▸ ho, vmap.mp e⟩
        obtain ⟨p2, o2, e2, k1, k2, k3⟩ := S2.ownAt (hro i c h ho) ho
        rw [b2.lent _ hm] at e2
        cases e2
        exact (arel_own ho).mpr ⟨_, rfl, p, o2, rfl, k1, k2, k3⟩
      | false =>
        have := g3 (by rw [← g2]; exact ho)
        subst this
        exact arel_mono z b2.hf fun _ _ _ _ _ o => by rw [ho] at o; cases o
    · obtain ⟨c0, g1, g2, _⟩ := hsh.back h1
      obtain ⟨d0, k1, k2, _⟩ := hsh.back h2
      exact S1.apart i j c0 d0 p g1 k1 (by rw [← g2]; exact o1) (by rw [← k2]; exact o2) e1 e2
  exact ⟨fun ρ σ HF' H' p S2 b2 _ => fin _ ρ σ HF' H' .non p S2 b2 .non, fun a ρ σ HF' H' x p S2 b2 rr => fin a ρ σ HF' H' x p S2 b2 rr, fun _ _ _ _ p => p.elim, fun _ _ _ _ p => p.elim⟩
end

/-! ### a call -/
def toA (ρ : Rho) : Arg → A
  | .dat v => .d v
  | .lent i => ρ.getD i .any
def back : List Arg → List A → Rho → Rho
  | .lent i :: l, a :: as, ρ => back l as (ρ.set i a)
  | _ :: l, _ :: as, ρ => back l as ρ
  | _, _, ρ => ρ
def lents : List Arg → List Nat
  | .lent i :: l => i :: lents l
  | _ :: l => lents l
  | [] => []
abbrev EA (X : Cx) (es : List Expr) (ρ : Rho) (l : List Arg) (ρ' : Rho) : Prop := EvA X.K (wA X es) ρ l ρ'
section
variable {X : Cx} {B : Bs} {P : Pst} {ρ ρ1 ρ2 ρ3 : Rho} {e e1 e2 : Expr} {es : List Expr} {pos : Pos} {a : A} {b : Bool} {u v w z : PyData} {ds : List PyData} {l : List Arg} {k1 : Option Nat}
theorem a_nil : EA X [] ρ [] ρ := fun σ HF H S Q q => ⟨_, pa_nil, ea_nil σ HF H S Q q⟩
theorem a_dat (h : E X e ρ (.d v) ρ1) (hr : EA X es ρ1 l ρ2) (hs : starEach (e :: es) X.env = (false, eval e X.env) :: starEach es X.env := by rfl) : EA X (e :: es) ρ (.dat v :: l) ρ2 := fun σ HF H S Q q => ⟨_, pa_cons pe_w pa_w hs, ea_cons h hr σ HF H S Q q⟩
theorem a_lent (i : Nat) {x : Str} (h : ρ[i]? = some a) (ho : a.own = true) (hr : EA X es ρ l ρ2) (hN : X.N[i]? = some x := by rfl) (hv : Vis X.env.scope x := by first | exact Or.inl rfl | exact Or.inr (Or.inl rfl) | exact Or.inr (Or.inr rfl))
    (hd : (x == ("__debug__" : Str)) = false := by decide) (hcd : (x == ("__classdict__" : Str)) = false := by decide) (hs : starEach (.Name x pos :: es) X.env = (false, eval (.Name x pos) X.env) :: starEach es X.env := by rfl) : EA X (.Name x pos :: es) ρ (.lent i :: l) ρ2 :=
  fun σ HF H S Q q => ⟨_, pa_cons (pe_var hN hv hd hcd) pa_w hs, ea_lent h ho hr σ HF H S Q q⟩

theorem back_get : ∀ {l : List Arg} {as : List A} {ρ : Rho} {j : Nat} {c : A}, (lents l).Nodup → l.length = as.length → (back l as ρ)[j]? = some c →
    (j ∉ lents l ∧ ρ[j]? = some c) ∨ (∃ m : Nat, l[m]? = some (.lent j) ∧ as[m]? = some c ∧ j < ρ.length)
  | [], [], ρ, j, c, _, _, h => .inl ⟨by simp [lents], h⟩
  | [], _ :: _, _, _, _, _, hl, _ => by simp at hl
  | _ :: _, [], _, _, _, _, hl, _ => by simp at hl
  | .dat v :: l, a :: as, ρ, j, c, nd, hl, h => by
    rcases back_get (l := l) (as := as) (ρ := ρ) nd (by simpa using hl) h with h | ⟨m, h1, h2, h3⟩
    · exact .inl h
    · exact .inr ⟨m + 1, by simpa using h1, by simpa using h2, h3⟩
  | .lent i :: l, a :: as, ρ, j, c, nd, hl, h => by
    have nd' := List.nodup_cons.mp nd
    rcases back_get (l := l) (as := as) (ρ := ρ.set i a) nd'.2 (by simpa using hl) h with ⟨h1, h2⟩ | ⟨m, h1, h2, h3⟩
    · by_cases hj : i = j
      · subst hj
        have hlt := (List.getElem?_eq_some_iff.mp h2).1
        rw [List.length_set] at hlt
        rw [List.getElem?_set_self hlt] at h2
        exact .inr ⟨0, rfl, h2, hlt⟩
      · rw [List.getElem?_set_ne hj] at h2
        exact .inl ⟨fun z => (List.mem_cons.mp z).elim (fun e => hj e.symm) h1, h2⟩
    · rw [List.length_set] at h3
      exact .inr ⟨m + 1, by simpa using h1, by simpa using h2, h3⟩
theorem back_len : ∀ {l : List Arg} {as : List A} {ρ : Rho}, (back l as ρ).length = ρ.length
  | [], as, ρ => by unfold back; rfl
  | .dat v :: l, [], ρ => by unfold back; rfl
  | .lent v :: l, [], ρ => by unfold back; rfl
  | .dat v :: l, a :: as, ρ => by unfold back; exact back_len
  | .lent i :: l, a :: as, ρ => by unfold back; rw [back_len, List.length_set]
theorem lents_mem : ∀ {l : List Arg} {j : Nat}, j ∈ lents l ↔ ∃ m : Nat, l[m]? = some (Arg.lent j)
  | [], j => by simp [lents]
  | .dat v :: l, j => by
    have ih := @lents_mem l j
    show j ∈ lents l ↔ _
    rw [ih]
    constructor
    · rintro ⟨m, h⟩
      exact ⟨m + 1, by simpa using h⟩
    · rintro ⟨m, h⟩
      cases m with
      | zero => simp at h
      | succ m => exact ⟨m, by simpa using h⟩
  | .lent i :: l, j => by
    have ih := @lents_mem l j
    show j ∈ i :: lents l ↔ _
    rw [List.mem_cons, ih]
    constructor
    · rintro (rfl | ⟨m, h⟩)
      · exact ⟨0, rfl⟩
      · exact ⟨m + 1, by simpa using h⟩
    · rintro ⟨m, h⟩
      cases m with
      | zero => simp at h; exact .inl h.symm
      | succ m => exact .inr ⟨m, by simpa using h⟩
theorem paired_get? {α β : Type} {G : α → β → Prop} : ∀ {l₁ : List α} {l₂ : List β}, Paired G l₁ l₂ → ∀ {i : Nat} {a : α} {b : β}, l₁[i]? = some a → l₂[i]? = some b → G a b
  | _, _, .nil, _, _, _, h, _ => by simp at h
  | _, _, .cons r _, 0, _, _, h1, h2 => by simp at h1 h2; subst h1; subst h2; exact r
  | _, _, .cons _ t, i + 1, _, _, h1, h2 => paired_get? t (i := i) (by simpa using h1) (by simpa using h2)
theorem lents_nd {l : List Arg} (nd : (lents l).Nodup) : ∀ {m n j : Nat}, l[m]? = some (Arg.lent j) → l[n]? = some (Arg.lent j) → m = n := by
  induction l with
  | nil => intro m n j h; simp at h
  | cons c l ih =>
    intro m n j h1 h2
    cases c with
    | dat v =>
      cases m with
      | zero => simp at h1
      | succ m =>
        cases n with
        | zero => simp at h2
        | succ n => exact congrArg (· + 1) (ih nd (by simpa using h1) (by simpa using h2))
    | lent i =>
      have nd' := List.nodup_cons.mp nd
      cases m with
      | zero =>
        cases n with
        | zero => rfl
        | succ n =>
          simp at h1
          subst h1
          exact (nd'.1 (lents_mem.mpr ⟨n, by simpa using h2⟩)).elim
      | succ m =>
        cases n with
        | zero =>
          simp at h2
          subst h2
          exact (nd'.1 (lents_mem.mpr ⟨m, by simpa using h1⟩)).elim
        | succ n => exact congrArg (· + 1) (ih nd'.2 (by simpa using h1) (by simpa using h2))
/-- the slots around a call -/
theorem args_in {K : PySem.W.Frag} {σ : L2.St} {HF H : Hp} {vs : List V} (S1 : Sl K ρ σ HF H) (nd : (lents l).Nodup) (r : Paired (ArgR K ρ σ HF) vs l) : Sl K (l.map (toA ρ)) (vs.map some) HF H := by
  have hl : vs.length = l.length := Paired.length r
  have vmap : ∀ {i : Nat} {v : V}, (vs.map some)[i]? = some (some v) ↔ vs[i]? = some v := fun {i v} => by
    rw [List.getElem?_map]
    cases vs[i]? <;> simp
  refine ⟨by rw [List.length_map, List.length_map]; exact hl, S1.sub, fun i a h => ?_, fun i j a b p h1 h2 o1 o2 e1 e2 => ?_⟩
  · rw [List.getElem?_map] at h
    cases hc : l[i]? with
    | none => rw [hc] at h; cases h
    | some c =>
      rw [hc] at h
      have h : toA ρ c = a := Option.some.inj h
      have hi : i < vs.length := by rw [hl]; exact (List.getElem?_eq_some_iff.mp hc).1
      have hv := List.getElem?_eq_getElem hi
      have g := paired_get? r hv hc
      refine ⟨_, vmap.mpr hv, ?_⟩
      cases c with
      | dat v => subst h; exact ⟨_, rfl, g⟩
      | lent j =>
        obtain ⟨e, a', e2, ho⟩ := (show σ[j]? = some (some vs[i]) ∧ ∃ a, ρ[j]? = some a ∧ a.own = true from g)
        have : a' = a := by
          have : ρ.getD j .any = a := h
          rw [List.getD_eq_getElem?_getD, e2] at this
          exact this
        subst this
        obtain ⟨s, e3, z⟩ := S1.slot j a' e2
        rw [e] at e3
        cases e3
        exact z
  · have bk : ∀ (i : Nat) (a : A), (l.map (toA ρ))[i]? = some a → a.own = true → (vs.map some)[i]? = some (some (V.ref p)) → ∃ j : Nat, l[i]? = some (Arg.lent j) ∧ σ[j]? = some (some (V.ref p)) ∧ ρ[j]? = some a := fun i a h o e => by
      rw [List.getElem?_map] at h
      cases hc : l[i]? with
      | none => rw [hc] at h; cases h
      | some c =>
        rw [hc] at h
        have h : toA ρ c = a := Option.some.inj h
        cases c with
        | dat v => subst h; cases o
        | lent j =>
          obtain ⟨e1, a', e2, ho⟩ := (show σ[j]? = some (some (V.ref p)) ∧ ∃ a, ρ[j]? = some a ∧ a.own = true from paired_get? r (vmap.mp e) hc)
          have : a' = a := by
            have : ρ.getD j .any = a := h
            rw [List.getD_eq_getElem?_getD, e2] at this
            exact this
          subst this
          exact ⟨j, rfl, e1, e2⟩
    obtain ⟨m, g1, g2, g3⟩ := bk i a h1 o1 e1
    obtain ⟨n, k1, k2, k3⟩ := bk j b h2 o2 e2
    have := S1.apart m n a b p g3 k3 o1 o2 g2 k2
    subst this
    exact lents_nd nd g1 k1
theorem args_out {K : PySem.W.Frag} {σ : L2.St} {HF H HF' H' : Hp} {vs : List V} {as' : List A} (S1 : Sl K ρ σ HF H) (nd : (lents l).Nodup) (r : Paired (ArgR K ρ σ HF) vs l) (S2 : Sl K as' (vs.map some) HF' H') (f : Fw (l.map (toA ρ)) as' (vs.map some) HF H HF' H') :
    Sl K (back l as' ρ) σ HF' H' ∧ Fw ρ (back l as' ρ) σ HF H HF' H' := by
  have hl : vs.length = l.length := Paired.length r
  have hla : l.length = as'.length := by have := f.sh.1; rw [List.length_map] at this; exact this.symm
  have vmap : ∀ {i : Nat} {v : V}, (vs.map some)[i]? = some (some v) ↔ vs[i]? = some v := fun {i v} => by
    rw [List.getElem?_map]
    cases vs[i]? <;> simp
  -- a lent place
  have lent : ∀ (m j : Nat) (c : A), l[m]? = some (Arg.lent j) → as'[m]? = some c → ∃ v a, vs[m]? = some v ∧ σ[j]? = some (some v) ∧ ρ[j]? = some a ∧ a.own = true ∧ c.own = true := fun m j c h1 h2 => by
    have hi : m < vs.length := by rw [hl]; exact (List.getElem?_eq_some_iff.mp h1).1
    have hv := List.getElem?_eq_getElem hi
    obtain ⟨e, a, e2, ho⟩ := paired_get? r hv h1
    obtain ⟨c0, g1, g2, _⟩ := f.sh.back h2
    rw [List.getElem?_map, h1] at g1
    have : ρ.getD j .any = c0 := Option.some.inj g1
    rw [List.getD_eq_getElem?_getD, e2] at this
    have this : a = c0 := this
    subst this
    exact ⟨_, a, hv, e, e2, ho, g2.trans ho⟩
  have ownIn : ∀ p, OwnAt (l.map (toA ρ)) (vs.map some) p → ∃ j, j ∈ lents l ∧ σ[j]? = some (some (V.ref p)) ∧ ∃ a, ρ[j]? = some a ∧ a.own = true := by
    rintro p ⟨i, a, h1, h2, h3⟩
    rw [List.getElem?_map] at h1
    cases hc : l[i]? with
    | none => rw [hc] at h1; cases h1
    | some c =>
      rw [hc] at h1
      have h1 : toA ρ c = a := Option.some.inj h1
      cases c with
      | dat v => subst h1; cases h2
      | lent j =>
        obtain ⟨e, a', e2, ho⟩ := paired_get? r (vmap.mp h3) hc
        exact ⟨j, lents_mem.mpr ⟨i, hc⟩, e, a', e2, ho⟩
  have keep : ∀ b o, H b = some o → ¬ OwnAt ρ σ b → H' b = some o := fun b o h n => f.keep b o h fun z => by
    obtain ⟨j, _, h2, a, h3, h4⟩ := ownIn b z
    exact n ⟨j, a, h3, h4, h2⟩
  have shp : Shape ρ (back l as' ρ) := by
    refine ⟨back_len, fun i a h => ?_⟩
    have hi : i < (back l as' ρ).length := by rw [back_len]; exact (List.getElem?_eq_some_iff.mp h).1
    have e := List.getElem?_eq_getElem hi
    refine ⟨_, e, ?_⟩
    rcases back_get nd hla e with ⟨_, h2⟩ | ⟨m, h2, h3, _⟩
    · rw [h] at h2
      rw [← Option.some.inj h2]
      exact ⟨rfl, fun _ => rfl⟩
    · obtain ⟨v, a2, _, _, g3, g4, g5⟩ := lent m i _ h2 h3
      rw [h] at g3
      cases g3
      exact ⟨g5.trans g4.symm, fun z => by rw [g4] at z; cases z⟩
  refine ⟨⟨by rw [back_len]; exact S1.len, S2.sub, fun j c h => ?_, fun i j c d p h1 h2 o1 o2 e1 e2 => ?_⟩, ⟨shp, f.hf, keep, f.new, f.pres⟩⟩
  · rcases back_get nd hla h with ⟨hn, h2⟩ | ⟨m, h2, h3, _⟩
    · obtain ⟨s, e, z⟩ := S1.slot j c h2
      refine ⟨s, e, arel_mono z f.hf fun p o e1 g1 g2 ho => ?_⟩
      have no : ¬ OwnAt (l.map (toA ρ)) (vs.map some) p := fun z => by
        obtain ⟨i, k1, k2, a, k3, k4⟩ := ownIn p z
        have := S1.apart i j a c p k3 h2 k4 ho k2 (by rw [e, e1])
        subst this
        exact hn k1
      exact ⟨f.hfn g1 g2, f.keep p o g2 no⟩
    · obtain ⟨v, a2, g1, g2, g3, g4, g5⟩ := lent m j c h2 h3
      obtain ⟨s, e, z⟩ := S2.slot m c h3
      rw [vmap.mpr g1] at e
      cases e
      exact ⟨_, g2, z⟩
  · obtain ⟨c0, g1, g2, _⟩ := shp.back h1
    obtain ⟨d0, k1, k2, _⟩ := shp.back h2
    exact S1.apart i j c0 d0 p g1 k1 (by rw [← g2]; exact o1) (by rw [← k2]; exact o2) e1 e2
theorem rrel_fresh {K : PySem.W.Frag} {H H1 HF' H' : Hp} {x : V} (h : ∀ p, H1 p = none → H p = none) (r : RRel K H1 HF' H' x a) : RRel K H HF' H' x a := by
  cases ho : a.own with
  | true =>
    obtain ⟨p, o, q1, q2, q3⟩ := (rrel_own ho).mp r
    exact (rrel_own ho).mpr ⟨p, o, q1, h p q2, q3⟩
  | false => cases a <;> first | exact r | exact tw_fresh h r | exact dl_fresh h r | exact Nw.fresh _ h r | cases ho
theorem e_call {Fx : Fs} {k : Nat} {f : Addr} {fd : FuncData} {ps : List Str} {x : Str} {p : Pos} {r : A} {as' : List A} (G : FnOk X.prog X.w X.K X.mg X.base CX0 k f fd ps (spA X.K Fx)) (hr : Room k X.A) (hm : X.mg x = some (.ref f)) (hk : PySem.W.keepIn X.K (.ref f) = true) (hb : Binds X.K fd ps [])
    (ha : EA X (e :: es) ρ l ρ1) (hF : Fx (l.map (toA ρ1)) r as') (hsh : Shape (l.map (toA ρ1)) as') (nd : (lents l).Nodup) (hx : ∀ v s, (fun _ _ => False) v s → X.xe v s) (hg : Gl X x := by rfl) (hdb : (x == ("__debug__" : Str)) = false := by decide) (he : starEach (e :: es) X.env = (false, eval e X.env) :: starEach es X.env := by rfl) (hpl : (backTo pos (starEach es X.env)).any (·.1) = false := by rfl) :
    E X (.Call (.Name x p) (e :: es) [] pos) ρ r (back l as' ρ1) :=
  .of (pe_call (E := fun _ _ _ => False) G hr hg hm hk hb .nil (fun _ _ _ _ _ _ _ h => h.elim) pa_w hdb he hpl) fun σ HF H S Q q => ha σ HF H S _ fun vs HF1 H1 S1 f1 r1 => by
    rw [List.append_nil]
    refine ⟨HF1, _, r, as', args_in S1 nd r1, hF, hsh, fun y HF2 H2 S2 f2 rr => ?_⟩
    obtain ⟨S3, f3⟩ := args_out S1 nd r1 S2 f2
    exact q y HF2 H2 S3 (f1.trans f3) (rrel_fresh (fun p h => f1.fresh h) rr)
/-- pure: data in -/
def pure_ (F : List PyData → A → Prop) : Fs := fun as r as' => ∃ ds, as = ds.map A.d ∧ as' = as ∧ F ds r
theorem dat_args {K : PySem.W.Frag} {σ : L2.St} {HF : Hp} : ∀ {xs : List V} {ds : List PyData}, DpAll K HF xs ds → Paired (ArgR K ρ σ HF) xs (ds.map Arg.dat)
  | _, _, .nil => .nil
  | _, _, .cons h t => .cons h (dat_args t)
theorem EvD.args {K : PySem.W.Frag} {ta : TA} (h : EvD K ta ρ ds ρ1) : EvA K ta ρ (ds.map Arg.dat) ρ1 := fun σ HF H S Q q => h σ HF H S Q fun xs HF' H' S' f r => q xs HF' H' S' f (dat_args r)
end
end Th

set_option Elab.async false
set_option linter.all false
set_option maxRecDepth 100000
namespace Th
open PySem PySem.Spec PyProof.Rows L2

/-! ### what is walked -/
/-- what a turn yields: data that stands, or a new tuple -/
def Yld (K : PySem.W.Frag) (HF H : Hp) (x : V) (H2 : Hp) (v : PyData) : Prop :=
  (H2 = H ∧ Dp K HF x v) ∨ ∃ T ys vs, H T = none ∧ H2 = upd H T (.tup ys) ∧ x = .ref T ∧ v = .tuple vs ∧ DpAll K HF ys vs
structure SrcAt (K : PySem.W.Frag) (J : It) (ds : List PyData) (HF H : Hp) : Prop where
  go : ∀ i, i < ds.length → J.go i H
  stop : J.stop ds.length H
  yld : ∀ i x H2, i < ds.length → J.yld i H x H2 → ∃ v, ds[i]? = some v ∧ Yld K HF H x H2 v
def Src (X : Cx) (tg iter : Expr) (ρ : Rho) (ds : List PyData) (ρ1 : Rho) (k : Option Nat) : Prop := ∃ wi, PI X tg iter wi ∧ ∀ σ HF H, Sl X.K ρ σ HF H → ∀ R : It → Hp → Prop,
  (∀ J HF1 H1, Sl X.K ρ1 σ HF1 H1 → Fw ρ ρ1 σ HF H HF1 H1 → (∀ σ2 ρ2 HF2 H2, (∀ j, k = some j → σ2[j]? = σ[j]?) → Kp k ρ1 ρ2 → Sl X.K ρ2 σ2 HF2 H2 → Same HF1 HF2 → SrcAt X.K J ds HF2 H2) → R J H1) → wi σ H R
section
variable {X : Cx} {B : Bs} {P : Pst} {ρ ρ1 ρ2 ρ3 : Rho} {tg iter e e1 e2 : Expr} {es : List Expr} {pos : Pos} {a : A} {b : Bool} {u v w z : PyData} {ds : List PyData} {k : Option Nat}
theorem srcAt_l {K : PySem.W.Frag} {HF H : Hp} {p : Addr} {ys : List V} (s : Same HF H) (h1 : SqL K H p ys) (h2 : DpAll K HF ys ds) : SrcAt K (Itl K p) ds HF H := by
  refine ⟨fun i hi => ?_, ⟨ys, h1, by rw [dpa_len h2]; exact Nat.le_refl _⟩, fun i x H2 hi ⟨e, y⟩ => ?_⟩
  · obtain ⟨y, g, _⟩ := dpa_get h2 (List.getElem?_eq_getElem hi)
    exact ⟨ys, y, h1, g⟩
  · obtain ⟨v, g1, g2⟩ := dpa_get' h2 (y ys h1)
    exact ⟨v, g1, .inl ⟨e, g2⟩⟩
theorem srcAt_t {K : PySem.W.Frag} {HF H : Hp} {p : Addr} {ys : List V} (s : Same HF H) (h1 : SqT K H p ys) (h2 : DpAll K HF ys ds) : SrcAt K (Itt K p) ds HF H := by
  refine ⟨fun i hi => ?_, ⟨ys, h1, by rw [dpa_len h2]; exact Nat.le_refl _⟩, fun i x H2 hi ⟨e, y⟩ => ?_⟩
  · obtain ⟨y, g, _⟩ := dpa_get h2 (List.getElem?_eq_getElem hi)
    exact ⟨ys, y, h1, g⟩
  · obtain ⟨v, g1, g2⟩ := dpa_get' h2 (y ys h1)
    exact ⟨v, g1, .inl ⟨e, g2⟩⟩
theorem src_l (h : E X iter ρ (.d (.list ds)) ρ1) : Src X tg iter ρ ds ρ1 none := ⟨_, pi_list pe_w, fun σ HF H S1 R q => h σ HF H S1 _ fun x HF1 H1 S2 f1 r1 => by
  cases (show Dp X.K HF1 x (.list ds) from r1) with
  | @lst p ys _ h1 h2 => exact ⟨p, rfl, ⟨ys, same_l S2.sub h1⟩, q _ HF1 H1 S2 f1 fun σ2 ρ2 HF2 H2 _ _ S3 s3 => srcAt_l S3.sub (same_l S3.sub (same_l s3 h1)) (dpa_mono s3 h2)⟩⟩
theorem src_t (h : E X iter ρ (.d (.tuple ds)) ρ1) : Src X tg iter ρ ds ρ1 none := ⟨_, pi_tup pe_w, fun σ HF H S1 R q => h σ HF H S1 _ fun x HF1 H1 S2 f1 r1 => by
  cases (show Dp X.K HF1 x (.tuple ds) from r1) with
  | @tup p ys _ h1 h2 => exact ⟨p, rfl, ⟨ys, same_t S2.sub h1⟩, q _ HF1 H1 S2 f1 fun σ2 ρ2 HF2 H2 _ _ S3 s3 => srcAt_t S3.sub (same_t S3.sub (same_t s3 h1)) (dpa_mono s3 h2)⟩⟩
/-- over an own list in a slot -/
theorem src_o (i : Nat) {x : Str} (h : ρ[i]? = some (.ml ds)) (hN : X.N[i]? = some x := by rfl) (hv : Vis X.env.scope x := by first | exact Or.inl rfl | exact Or.inr (Or.inl rfl) | exact Or.inr (Or.inr rfl))
    (hd : (x == ("__debug__" : Str)) = false := by decide) (hcd : (x == ("__classdict__" : Str)) = false := by decide) : Src X tg (.Name x pos) ρ ds ρ (some i) := ⟨_, pi_list (pe_var hN hv hd hcd), fun σ HF H S1 R q => by
  obtain ⟨p, o, e, h1, h2, h3⟩ := S1.ownAt h rfl
  cases o <;> first | exact h3.elim | skip
  refine ⟨.ref p, e, p, rfl, ⟨_, .inl (.inl h2)⟩, q _ HF H S1 (.refl ..) fun σ2 ρ2 HF2 H2 hs hk S3 _ => ?_⟩
  obtain ⟨p', o', e', g1, g2, g3⟩ := S3.ownAt ((show ρ2[i]? = ρ[i]? from hk).trans h) rfl
  rw [hs i rfl, e] at e'
  cases e'
  cases o' <;> first | exact g3.elim | skip
  exact srcAt_l S3.sub (.inl (.inl g2)) g3⟩
def rangeD (lo : Int) (n : Nat) : List PyData := (List.range n).map fun i => .int (lo + (i : Nat))
theorem rangeD_len (lo : Int) (n : Nat) : (rangeD lo n).length = n := by unfold rangeD; simp
theorem rangeD_get {lo : Int} {n i : Nat} {v : PyData} (h : (rangeD lo n)[i]? = some v) : i < n ∧ v = .int (lo + (i : Nat)) := by
  have hi : i < n := by
    have := (List.getElem?_eq_some_iff.mp h).1
    rwa [rangeD_len] at this
  unfold rangeD at h
  rw [List.getElem?_map, List.getElem?_range hi] at h
  exact ⟨hi, (Option.some.inj h).symm⟩
theorem srcAt_r {K : PySem.W.Frag} {HF H : Hp} (lo : Int) (n : Nat) : SrcAt K (Itr lo n) (rangeD lo n) HF H := by
  refine ⟨fun i hi => by rw [rangeD_len] at hi; exact hi, by rw [rangeD_len]; exact Nat.le_refl _, fun i x H2 hi ⟨e, y⟩ => ?_⟩
  rw [rangeD_len] at hi
  refine ⟨.int (lo + i), ?_, .inl ⟨e, by rw [y]; exact .int _⟩⟩
  unfold rangeD
  rw [List.getElem?_map, List.getElem?_range hi]
  rfl
theorem src_r1 {px pc : Pos} {n : Int} (h : E X e ρ (.d (.int n)) ρ1) (hm : X.mg "range" = none) (hn : -(2 ^ 62) ≤ n ∧ n < 2 ^ 62) (hg : Gl X "range" := by rfl) (hse : starEach [e] X.env = [(false, eval e X.env)] := by rfl) :
    Src X tg (.Call (.Name "range" px) [e] [] pc) ρ (rangeD 0 n.toNat) ρ1 none := ⟨_, pi_range1 hg hm (pa_cons pe_w pa_nil hse) hse, fun σ HF H S1 R q => h σ HF H S1 _ fun x HF1 H1 S2 f1 r1 => by
  cases r1
  exact ⟨n, rfl, hn.1, hn.2, q _ HF1 H1 S2 f1 fun σ2 ρ2 HF2 H2 _ _ _ _ => srcAt_r 0 _⟩⟩
theorem src_r2 {px pc : Pos} {n m : Int} (h : E X e1 ρ (.d (.int m)) ρ1) (h2 : E X e2 ρ1 (.d (.int n)) ρ2) (hm : X.mg "range" = none) (hn : -(2 ^ 62) ≤ m ∧ m < 2 ^ 62 ∧ -(2 ^ 62) ≤ n ∧ n < 2 ^ 62) (hg : Gl X "range" := by rfl)
    (hse : starEach [e1, e2] X.env = [(false, eval e1 X.env), (false, eval e2 X.env)] := by rfl) (hse2 : starEach [e2] X.env = [(false, eval e2 X.env)] := by rfl) :
    Src X tg (.Call (.Name "range" px) [e1, e2] [] pc) ρ (rangeD m (n - m).toNat) ρ2 none := ⟨_, pi_range2 hg hm (pa_cons pe_w (pa_cons pe_w pa_nil hse2) (by rw [hse, hse2])) hse hse2, fun σ HF H S1 R q => h σ HF H S1 _ fun x HF1 H1 S2 f1 r1 => h2 σ HF1 H1 S2 _ fun y HF2 H2 S3 f2 r2 => by
  cases r1
  cases r2
  exact ⟨m, n, rfl, hn, q _ HF2 H2 S3 (f1.trans f2) fun σ2 ρ2 HF2 H2 _ _ _ _ => srcAt_r m _⟩⟩

/-- what a turn yields stands as data -/
theorem yld_d {K : PySem.W.Frag} {σ : L2.St} {HF H H2 : Hp} {x : V} (S1 : Sl K ρ σ HF H) (y : Yld K HF H x H2 v) : ∃ HF2, Sl K ρ σ HF2 H2 ∧ Fw ρ ρ σ HF H HF2 H2 ∧ Dp K HF2 x v := by
  rcases y with ⟨rfl, h⟩ | ⟨T, ys, vs, h1, rfl, rfl, rfl, h2⟩
  · exact ⟨HF, S1, .refl .., h⟩
  · obtain ⟨S2, f2⟩ := S1.allocD h1 (.tup ys)
    exact ⟨_, S2, f2, .tup (.inl (.inl upd_same)) (dpa_mono f2.hf h2)⟩

/-! ### for -/
theorem s_for {body : List Stmt} (hi : Src X tg iter ρ ds ρ1 none) (I : Nat → Rho → Prop) (h0 : I 0 ρ1)
    (hb : ∀ i v ρ', ds[i]? = some v → I i ρ' → ∃ ρ2, GT X B tg v ρ' ρ2 ∧ Ss X B body ρ2 (bodyP P (I (i + 1)))) (hd : ∀ ρ', I ds.length ρ' → P.nx ρ')
    (hp : PassesOwn (model X.prog X.w) X.A X.env X.xe) (hc : X.calm = true := by rfl) (hs : ∀ x, foldedSetIterable iter X.env x = pure x := by intro _; rfl) : S X B (.For tg iter body [] pos) ρ P := by
  obtain ⟨wi, h1, h2⟩ := hi
  refine .of (ps_for hp hc h1 pg_w pss_w hs) fun σ HF H S1 b D o => h2 σ HF H S1 _ fun J HF1 H1 S2 f1 src => ?_
  refine ⟨fun i m σ' H' => m = ds.length - i ∧ i ≤ ds.length ∧ ∃ ρ' HF', I i ρ' ∧ Sl X.K ρ' σ' HF' H' ∧ Bn B ρ' σ' HF' H' ∧ Same HF1 HF', ⟨ds.length, by simp, Nat.zero_le _, ρ1, HF1, h0, S2, b.fw f1, .refl _⟩, ?_⟩
  rintro i m σ' H' ⟨rfl, hle, ρ', HF', hI, S', b', s'⟩
  have sr := src σ' ρ' HF' H' (fun _ z => nomatch z) trivial S' s'
  by_cases hlt : i < ds.length
  · refine .inr ⟨sr.go i hlt, fun σ3 H3 => i + 1 ≤ ds.length ∧ ∃ ρ3 HF3, I (i + 1) ρ3 ∧ Sl X.K ρ3 σ3 HF3 H3 ∧ Bn B ρ3 σ3 HF3 H3 ∧ Same HF1 HF3, fun σ3 H3 n3 => ⟨ds.length - (i + 1), by omega, rfl, n3.1, n3.2⟩, fun x H2 y => ?_⟩
    obtain ⟨v, e, y⟩ := sr.yld i x H2 hlt y
    obtain ⟨HF2, S2', f2, r2⟩ := yld_d S' y
    obtain ⟨ρ2, hg, hbd⟩ := hb i v ρ' e hI
    refine hg x σ' HF2 H2 S2' r2 _ fun σ2 S3 b3 => hbd σ2 HF2 H2 S3 (b3 (b'.fw f2)) _ ?_
    exact ok_body ((o.up f1.hf).up (s'.trans f2.hf)) fun ρ3 σ3 HF3 H3 i3 S4 b4 s4 => ⟨hlt, ρ3, HF3, i3, S4, b4, (s'.trans f2.hf).trans s4⟩
  · have e : i = ds.length := by omega
    subst e
    exact .inl ⟨sr.stop, o.nx ρ' σ' HF' H' (hd ρ' hI) S' b' (f1.hf.trans s')⟩

/-! ### a list comprehension -/
def wipeR (ρ : Rho) : List Nat → Rho
  | [] => ρ
  | v :: vs => (wipeR ρ vs).set v .any
theorem wipeR_len (ρ : Rho) : ∀ vs : List Nat, (wipeR ρ vs).length = ρ.length
  | [] => rfl
  | v :: vs => by unfold wipeR; rw [List.length_set, wipeR_len ρ vs]
theorem wipeR_get {ρ : Rho} {i : Nat} {a : A} : ∀ {vs : List Nat}, (wipeR ρ vs)[i]? = some a → (i ∉ vs ∧ ρ[i]? = some a) ∨ (i ∈ vs ∧ a = .any ∧ i < ρ.length)
  | [], h => .inl ⟨by simp, h⟩
  | v :: vs, h => by
    unfold wipeR at h
    by_cases hi : v = i
    · subst hi
      have hl := (List.getElem?_eq_some_iff.mp h).1
      rw [List.length_set] at hl
      rw [List.getElem?_set_self hl] at h
      rw [wipeR_len] at hl
      exact .inr ⟨List.mem_cons_self, (Option.some.inj h).symm, hl⟩
    · rw [List.getElem?_set_ne hi] at h
      rcases wipeR_get h with ⟨h1, h2⟩ | ⟨h1, h2⟩
      · exact .inl ⟨fun z => (List.mem_cons.mp z).elim (fun e => hi e.symm) h1, h2⟩
      · exact .inr ⟨List.mem_cons_of_mem _ h1, h2⟩
theorem wipeR_off {ρ : Rho} {i : Nat} : ∀ {vs : List Nat}, i ∉ vs → (wipeR ρ vs)[i]? = ρ[i]?
  | [], _ => rfl
  | v :: vs, h => by
    unfold wipeR
    rw [List.getElem?_set_ne fun e => h (by rw [e]; exact List.mem_cons_self)]
    exact wipeR_off fun z => h (List.mem_cons_of_mem _ z)
theorem wipe_off {σ : L2.St} {i : Nat} : ∀ {vs : List Nat}, i ∉ vs → (wipe σ vs)[i]? = σ[i]?
  | [], _ => rfl
  | v :: vs, h => by
    unfold wipe
    rw [List.getElem?_set_ne fun e => h (by rw [e]; exact List.mem_cons_self)]
    exact wipe_off fun z => h (List.mem_cons_of_mem _ z)
theorem wipe_on {σ : L2.St} {i : Nat} : ∀ {vs : List Nat}, i ∈ vs → i < σ.length → (wipe σ vs)[i]? = some none
  | [], h, _ => nomatch h
  | v :: vs, h, hl => by
    unfold wipe
    by_cases e : v = i
    · subst e
      rw [List.getElem?_set_self (by rw [wipe_length]; exact hl)]
    · rw [List.getElem?_set_ne e]
      exact wipe_on ((List.mem_cons.mp h).resolve_left fun z => e z.symm) hl
theorem wipe_set {σ : L2.St} {i : Nat} {x : Option V} : ∀ {vs : List Nat}, i ∈ vs → wipe (σ.set i x) vs = wipe σ vs := fun {vs} h => by
  apply List.ext_getElem?
  intro j
  by_cases hj : j ∈ vs
  · by_cases hl : j < σ.length
    · rw [wipe_on hj hl, wipe_on hj (by rw [List.length_set]; exact hl)]
    · rw [List.getElem?_eq_none (by rw [wipe_length, List.length_set]; omega), List.getElem?_eq_none (by rw [wipe_length]; omega)]
  · rw [wipe_off hj, wipe_off hj, List.getElem?_set_ne fun e => hj (by rw [← e]; exact h)]
theorem Sl.wipe {K : PySem.W.Frag} {σ : L2.St} {HF H : Hp} (S1 : Sl K ρ σ HF H) (vs : List Nat) : Sl K (wipeR ρ vs) (L2.wipe σ vs) HF H := by
  refine ⟨by rw [wipe_length, wipeR_len]; exact S1.len, S1.sub, fun i a h => ?_, fun i j a b p h1 h2 o1 o2 e1 e2 => ?_⟩
  · rcases wipeR_get h with ⟨h1, h2⟩ | ⟨h1, rfl, h3⟩
    · obtain ⟨s, e, z⟩ := S1.slot i a h2
      exact ⟨s, by rw [wipe_off h1]; exact e, z⟩
    · exact ⟨none, wipe_on h1 (by rw [S1.len]; exact h3), trivial⟩
  · rcases wipeR_get h1 with ⟨g1, g2⟩ | ⟨_, rfl, _⟩
    · rcases wipeR_get h2 with ⟨k1, k2⟩ | ⟨_, rfl, _⟩
      · rw [wipe_off g1] at e1
        rw [wipe_off k1] at e2
        exact S1.apart i j a b p g2 k2 o1 o2 e1 e2
      · cases o2
    · cases o1
/-- the targets of a comprehension: only its own slots are stored, by data -/
def Gc (K : PySem.W.Frag) (vs : List Nat) (g : TG) (v : PyData) (ρ ρ' : Rho) : Prop := (∀ i, i ∉ vs → ρ'[i]? = ρ[i]?) ∧ ρ'.length = ρ.length ∧ (∀ i a, i ∈ vs → ρ[i]? = some a → a.own = false) ∧ (∀ i a, i ∈ vs → ρ'[i]? = some a → a.own = false) ∧
  ∀ x σ HF H, Sl K ρ σ HF H → Dp K HF x v → ∀ Q : L2.St → Hp → Prop, (∀ σ', Sl K ρ' σ' HF H → L2.wipe σ' vs = L2.wipe σ vs → (∀ i, i ∉ vs → σ'[i]? = σ[i]?) → Q σ' H) → g x σ H Q
abbrev GC (X : Cx) (vs : List Nat) (tg : Expr) (v : PyData) (ρ ρ' : Rho) : Prop := Gc X.K vs (wG X tg) v ρ ρ'
theorem gc_name {vs : List Nat} (i : Nat) {x : Str} (ha : ∀ a, ρ[i]? = some a → a.own = false) (hv : ∀ j a, j ∈ vs → ρ[j]? = some a → a.own = false) (hm : i ∈ vs) (hN : X.N.Nodup) (hi : X.N[i]? = some x := by rfl) (hx : Loc X.env.scope x := by first | exact Or.inl rfl | exact Or.inr rfl) (hf : X.fn x = true ∨ X.env.scope.names.lookup x = some .local := by first | exact .inl rfl | exact .inr rfl) :
    GC X vs (.Name x pos) v ρ (ρ.set i (.d v)) := by
  refine ⟨fun j hj => List.getElem?_set_ne fun e => hj (by rw [← e]; exact hm), by rw [List.length_set], hv, fun j a hj e => ?_, fun y σ HF H Sl1 r Q q => ⟨_, pg_name hN hi hx hf, ?_⟩⟩
  · by_cases e2 : i = j
    · subst e2
      have hl := (List.getElem?_eq_some_iff.mp e).1
      rw [List.length_set] at hl
      rw [List.getElem?_set_self hl] at e
      rw [← Option.some.inj e]
      rfl
    · rw [List.getElem?_set_ne e2] at e
      exact hv j a hj e
  · have r1 : RRel X.K H HF H y (.d v) := r
    exact q _ (Sl.set (Hb := H) Sl1 r1 fun p hp z => Sl.notOwn Sl1 hp z) (wipe_set hm) fun j hj => List.getElem?_set_ne fun e => hj (by rw [← e]; exact hm)
def Gcs (K : PySem.W.Frag) (vs : List Nat) (g : TGs) (ws : List PyData) (ρ ρ' : Rho) : Prop := (∀ i, i ∉ vs → ρ'[i]? = ρ[i]?) ∧ ρ'.length = ρ.length ∧ (∀ i a, i ∈ vs → ρ[i]? = some a → a.own = false) ∧ (∀ i a, i ∈ vs → ρ'[i]? = some a → a.own = false) ∧
  ∀ xs σ HF H, Sl K ρ σ HF H → DpAll K HF xs ws → ∀ Q : L2.St → Hp → Prop, (∀ σ', Sl K ρ' σ' HF H → L2.wipe σ' vs = L2.wipe σ vs → (∀ i, i ∉ vs → σ'[i]? = σ[i]?) → Q σ' H) → g xs σ H Q
abbrev GCs (X : Cx) (vs : List Nat) (tgs : List Expr) (ws : List PyData) (ρ ρ' : Rho) : Prop := Gcs X.K vs (wGs X tgs) ws ρ ρ'
theorem gcs_nil {vs : List Nat} (hv : ∀ j a, j ∈ vs → ρ[j]? = some a → a.own = false) : GCs X vs [] [] ρ ρ := ⟨fun _ _ => rfl, rfl, hv, hv, fun xs σ HF H Sl1 r Q q => by
  cases r
  exact ⟨_, pgs_nil, rfl, q σ Sl1 rfl fun _ _ => rfl⟩⟩
theorem gcs_cons {vs : List Nat} {tgs : List Expr} {ws : List PyData} (h1 : GC X vs tg v ρ ρ1) (h2 : GCs X vs tgs ws ρ1 ρ2)
    (hs : (assignEach (tg :: tgs) X.env).map (·.2) = assign tg X.env :: (assignEach tgs X.env).map (·.2) := by rfl) : GCs X vs (tg :: tgs) (v :: ws) ρ ρ2 := by
  obtain ⟨a1, a2, a3, a4, a5⟩ := h1
  obtain ⟨b1, b2, b3, b4, b5⟩ := h2
  refine ⟨fun i hi => (b1 i hi).trans (a1 i hi), b2.trans a2, a3, b4, fun xs σ HF H Sl1 r Q q => ?_⟩
  cases r with
  | cons r rr =>
    exact ⟨_, pgs_cons pg_w pgs_w hs, _, _, rfl, a5 _ σ HF H Sl1 r _ fun σ1 S1 w1 o1 => b5 _ σ1 HF H S1 rr Q fun σ2 S2 w2 o2 => q σ2 S2 (w2.trans w1) fun i hi => (o2 i hi).trans (o1 i hi)⟩
theorem gc_tup {vs : List Nat} {k : Nat} {ws : List PyData} {n : Nat} (h : GCs X vs es ws ρ ρ1) (hz : ws.length = n := by rfl) (hc : X.calm = true := by rfl) (hn : (assignEach es X.env).length = n := by rfl) (hst : (assignEach es X.env).findIdx? (·.1) = none := by rfl) :
    GC X vs (.Tuple es k pos) (.tuple ws) ρ ρ1 := by
  obtain ⟨a1, a2, a3, a4, a5⟩ := h
  refine ⟨a1, a2, a3, a4, fun x σ HF H Sl1 r Q q => ⟨_, pg_tup hc pgs_w hn hst, ?_⟩⟩
  cases r with
  | tup h1 h2 => exact ⟨_, _, rfl, same_t Sl1.sub h1, (dpa_len h2).trans hz, a5 _ σ HF H Sl1 h2 Q q⟩
def wTs (X : Cx) (ifs : List Expr) : TT := fun σ H Q => ∃ t, PTs X ifs t ∧ t σ H Q
theorem pts_w {ifs : List Expr} : PTs X ifs (wTs X ifs) := ⟨fun pins s σ H Q I ⟨_, h, q⟩ => h.run pins s σ H Q I q⟩
abbrev EI (X : Cx) (ifs : List Expr) (ρ : Rho) (b : Bool) (ρ' : Rho) : Prop := EvT X.K (wTs X ifs) ρ b ρ'
theorem i_nil : EI X [] ρ true ρ := fun σ HF H S Q q => ⟨_, pts_nil, q HF H S (.refl ..)⟩
theorem i_one (h : ET X e ρ b ρ1) : EI X [e] ρ b ρ1 := fun σ HF H S Q q => ⟨_, pts_one pt_w, h σ HF H S Q q⟩
/-- the comprehension's own slots as they were, all else as it is behind the turns -/
def Unw (vs : List Nat) (ρ1 ρ' ρo : Rho) : Prop := ρo.length = ρ1.length ∧ (∀ i, i ∉ vs → ρo[i]? = ρ'[i]?) ∧ ∀ i, i ∈ vs → ρo[i]? = ρ1[i]? ∧ ∀ a, ρ1[i]? = some a → a.own = false
theorem unw_id {vs : List Nat} (h : ∀ i a, i ∈ vs → ρ1[i]? = some a → a.own = false) : Unw vs ρ1 (wipeR ρ1 vs) ρ1 := ⟨rfl, fun i hi => (wipeR_off hi).symm, fun i hi => ⟨rfl, fun a e => h i a hi e⟩⟩
/-- a list comprehension: its reading, also as one that is set to a name on its line -/
def ELc (X : Cx) (e : Expr) (ρ : Rho) (a : A) (ρ' : Rho) : Prop := ∀ σ HF H, Sl X.K ρ σ HF H → ∀ Q : VK, (∀ x HF' H', Sl X.K ρ' σ HF' H' → Fw ρ ρ' σ HF H HF' H' → RRel X.K H HF' H' x a → Q x H') →
  ∃ te : TE, PE X e te ∧ (∀ {i : Nat} {y : Str} {py spos : Pos}, X.N[i]? = some y → X.env.scope.names.lookup y = some .local → swapsWith e (some (.Name y py)) spos.line X.env = pure true → PS X (.Assign [.Name y py] e spos) (tAsg te (gName i))) ∧ te σ H Q
theorem e_el {X : Cx} {e : Expr} {ρ ρ' : Rho} {a : A} (h : ELc X e ρ a ρ') : E X e ρ a ρ' := fun σ HF H S1 Q q => by
  obtain ⟨te, h1, _, h2⟩ := h σ HF H S1 Q q
  exact ⟨te, h1, h2⟩
theorem s_setLc (i : Nat) {X : Cx} {B : Bs} {P : Pst} {e : Expr} {ρ ρ1 : Rho} {a : A} {x : Str} {pos pos' : Pos} (he : ELc X e ρ a ρ1) (h : P.nx (ρ1.set i a)) (hl : ∀ q ∈ B.L, q.1 ≠ i) (hi : X.N[i]? = some x := by rfl) (hx : X.env.scope.names.lookup x = some .local := by rfl)
    (hs : swapsWith e (some (.Name x pos')) pos.line X.env = pure true := by first | rfl | exact sw_true rfl rfl rfl (by decide +kernel)) : S X B (.Assign [.Name x pos'] e pos) ρ P := fun σ HF H Sl1 b D o => by
  obtain ⟨te, _, h1, h2⟩ := he σ HF H Sl1 (fun y H1 => gName i y σ H1 D.nx) (fun y HF1 H1 S1 f1 r1 => o.nx _ _ HF1 H1 h (S1.set r1 fun p hp z => Sl1.notOwn hp (f1.sh.own.mp z)) ((b.fw f1).set S1 (rrel_base b r1) hl) f1.hf)
  exact ⟨_, h1 hi hx hs, h2⟩
theorem el_lc {scope : Scope} {own : List (Str × Nat)} {elt : Expr} {ifs : List Expr} {out : List PyData} {ρo : Rho} {D0 : Rho}
    (ht : Src X tg iter ρ ds ρ1 k) (ok : BlkOk X.N X.env.scope scope own) (hN : X.N.Nodup)
    (I : Nat → Rho → List PyData → Prop) (h0 : I 0 (wipeR ρ1 (own.map (·.2))) []) (hk : ∀ i ρ' acc, I i ρ' acc → Kp k ρ1 ρ' ∧ (∀ j, k = some j → j ∉ own.map (·.2)))
    (hb : ∀ i v ρ' acc, ds[i]? = some v → I i ρ' acc → ∃ ρ2 b ρ3, (∀ (s : Shared) (H : Hp) (C : Addr) (cl : List (Str × Addr)) (fp : List Addr), GC (X.blk s H scope (compEnvC scope cl C X.env) fp) (own.map (·.2)) tg v ρ' ρ2) ∧
      (∀ (s : Shared) (H : Hp) (C : Addr) (cl : List (Str × Addr)) (fp : List Addr), EI (X.blk s H scope (compEnvC scope cl C X.env) fp) ifs ρ2 b ρ3) ∧
      (b = true → ∃ w ρ4, (∀ (s : Shared) (H : Hp) (C : Addr) (cl : List (Str × Addr)) (fp : List Addr), E (X.blk s H scope (compEnvC scope cl C X.env) fp) elt ρ3 (.d w) ρ4) ∧ I (i + 1) (wipeR ρ4 (own.map (·.2))) (acc ++ [w])) ∧ (b = false → I (i + 1) (wipeR ρ3 (own.map (·.2))) acc))
    (hd : ∀ ρ' acc, I ds.length ρ' acc → acc = out ∧ Unw (own.map (·.2)) ρ1 ρ' ρo) (hz : ds.length < sizeLine) (hz2 : ∀ i ρ' acc, I i ρ' acc → acc.length ≤ i)
    (hc : X.calm = true := by rfl) (hs : ∀ x, foldedSetIterable iter X.env x = pure x := by intro _; rfl) : ELc X (.ListComp elt [⟨tg, iter, ifs, 0⟩] scope pos) ρ (.ml out) ρo := by
  obtain ⟨wi, h1, h2⟩ := ht
  -- the readings, the same for every block
  let uG : TG := fun x σ H Q => ∀ (s : Shared) (H0 : Hp) (C : Addr) (cl : List (Str × Addr)) (fp : List Addr), wG (X.blk s H0 scope (compEnvC scope cl C X.env) fp) tg x σ H Q
  let uT : TT := fun σ H Q => ∀ (s : Shared) (H0 : Hp) (C : Addr) (cl : List (Str × Addr)) (fp : List Addr), wTs (X.blk s H0 scope (compEnvC scope cl C X.env) fp) ifs σ H Q
  let uE : TE := fun σ H Q => ∀ (s : Shared) (H0 : Hp) (C : Addr) (cl : List (Str × Addr)) (fp : List Addr), wE (X.blk s H0 scope (compEnvC scope cl C X.env) fp) elt σ H Q
  intro σ HF H S1 Q q
  refine ⟨_, pe_lc (g := uG) (tt := uT) (te := uE) hc hN h1 ok (fun s H0 C cl fp => ⟨fun pins s1 σ H v u Q I r h => pg_w.run pins s1 σ H v u Q I r (h s H0 C cl fp)⟩)
    (fun s H0 C cl fp => ⟨fun pins s1 σ H Q I h => pts_w.run pins s1 σ H Q I (h s H0 C cl fp)⟩) (fun s H0 C cl fp => ⟨fun pins s1 σ H Q I h => pe_w.run pins s1 σ H Q I (h s H0 C cl fp)⟩) hs,
    fun hy hyl hsw => ps_setLc (g := uG) (tt := uT) (te := uE) hc hN hy hyl hsw h1 ok (fun s H0 C cl fp => ⟨fun pins s1 σ H v u Q I r h => pg_w.run pins s1 σ H v u Q I r (h s H0 C cl fp)⟩)
    (fun s H0 C cl fp => ⟨fun pins s1 σ H Q I h => pts_w.run pins s1 σ H Q I (h s H0 C cl fp)⟩) (fun s H0 C cl fp => ⟨fun pins s1 σ H Q I h => pe_w.run pins s1 σ H Q I (h s H0 C cl fp)⟩) hs, ?_⟩
  refine h2 σ HF H S1 _ fun J HF1 H1 S2 f1 src => fun D hD => ?_
  have hDf := S2.hfNone hD
  generalize hvs : own.map (·.2) = vs at *
  have S2w := S2.wipe vs
  -- a turn's state
  let St : Nat → Hp → Prop := fun i H' => ∃ ρ' acc HF' ys, I i ρ' acc ∧ Sl X.K ρ' (L2.wipe σ vs) HF' H' ∧ Fw (wipeR ρ1 vs) ρ' (L2.wipe σ vs) HF1 H1 HF' H' ∧ HF' D = none ∧ H' D = some (.lst ys) ∧ DpAll X.K HF' ys acc
  refine ⟨fun i m H' => m = ds.length - i ∧ i ≤ ds.length ∧ St i H', ⟨ds.length, by simp, Nat.zero_le _, _, _, HF1, [], h0, ?_, ?_, hDf, upd_same, .nil⟩, ?_⟩
  · exact (S2w.allocO hD _).1
  · exact (S2w.allocO hD _).2
  rintro i m H' ⟨rfl, hle, ρ', acc, HF', ys, hI, S', f', d1, d2, d3⟩
  have kk := hk i ρ' acc hI
  have sr := src (L2.wipe σ vs) ρ' HF' H' (fun j e => wipe_off (kk.2 j e)) kk.1 S' f'.hf
  by_cases hlt : i < ds.length
  · refine .inr ⟨sr.go i hlt, fun H3 => i + 1 ≤ ds.length ∧ St (i + 1) H3, fun H3 n3 => ⟨ds.length - (i + 1), by omega, rfl, n3.1, n3.2⟩, fun x H2 y => ?_⟩
    obtain ⟨v, e, y⟩ := sr.yld i x H2 hlt y
    obtain ⟨HFy, Sy, fy, ry⟩ := yld_d S' y
    obtain ⟨ρ2, b, ρ3, hg, ht, hyes, hno⟩ := hb i v ρ' acc e hI
    have hD2 : H2 D = some (.lst ys) := fy.keep D _ d2 fun z => by
      have : OwnAt (wipeR ρ1 vs) (L2.wipe σ vs) D := f'.sh.own.mp z
      obtain ⟨_, o, e⟩ := S2w.ownAt' this
      rw [hD] at e
      cases e
    have notD : ¬ OwnAt ρ' (L2.wipe σ vs) D := fun z => by
      obtain ⟨_, o, e⟩ := S2w.ownAt' (f'.sh.own.mp z)
      rw [hD] at e
      cases e
    intro s0 H0 C0 cl0 fp0
    have gall := fun s H C cl fp => hg s H C cl fp
    have g0 := hg s0 H0 C0 cl0 fp0
    obtain ⟨g1, g2, g3, g4, g5⟩ := g0
    refine g5 x (L2.wipe σ vs) HFy H2 Sy ry _ fun σ2 S3 w3 o3 => ?_
    have w3' : L2.wipe σ2 vs = L2.wipe σ vs := by
      rw [w3]
      apply List.ext_getElem?
      intro j
      by_cases hj : j ∈ vs
      · by_cases hl : j < σ.length
        · rw [wipe_on hj (by rw [wipe_length]; exact hl), wipe_on hj hl]
        · rw [List.getElem?_eq_none (by rw [wipe_length, wipe_length]; omega), List.getElem?_eq_none (by rw [wipe_length]; omega)]
      · rw [wipe_off hj]
    refine ⟨w3', ?_⟩
    -- own places are the same ones
    have own23 : ∀ c, OwnAt ρ2 σ2 c ↔ OwnAt ρ' (L2.wipe σ vs) c := fun c => by
      constructor
      · rintro ⟨j, a, k1, k2, k3⟩
        by_cases hj : j ∈ vs
        · have := g4 j a hj k1
          rw [k2] at this
          cases this
        · exact ⟨j, a, by rw [← g1 j hj]; exact k1, k2, by rw [← o3 j hj]; exact k3⟩
      · rintro ⟨j, a, k1, k2, k3⟩
        by_cases hj : j ∈ vs
        · have := g3 j a hj k1
          rw [k2] at this
          cases this
        · exact ⟨j, a, by rw [g1 j hj]; exact k1, k2, by rw [o3 j hj]; exact k3⟩
    -- from the block's slots back to the wiped ones
    have backW : ∀ ρ4 HF4 H4, Sl X.K ρ4 σ2 HF4 H4 → Fw ρ2 ρ4 σ2 HFy H2 HF4 H4 → Sl X.K (wipeR ρ4 vs) (L2.wipe σ vs) HF4 H4 ∧ Fw (wipeR ρ1 vs) (wipeR ρ4 vs) (L2.wipe σ vs) HF1 H1 HF4 H4 := fun ρ4 HF4 H4 S4 f4 => by
      have S5 := S4.wipe vs
      rw [w3'] at S5
      refine ⟨S5, (f'.trans fy).trans ⟨⟨?_, fun j a h => ?_⟩, f4.hf, fun c o h n => f4.keep c o h fun z => n ((own23 c).mp z), f4.new, f4.pres⟩⟩
      · rw [wipeR_len, f4.sh.1, g2]
      · by_cases hj : j ∈ vs
        · have hl : j < ρ4.length := by rw [f4.sh.1, g2]; exact (List.getElem?_eq_some_iff.mp h).1
          have hl2 : j < (wipeR ρ4 vs).length := by rw [wipeR_len]; exact hl
          have e4 := List.getElem?_eq_getElem hl2
          rcases wipeR_get e4 with ⟨z, _⟩ | ⟨_, z, _⟩
          · exact (z hj).elim
          · -- the slot was wiped already
            have h5 : (wipeR ρ1 vs)[j]? = some .any := by
              have hl3 : j < (wipeR ρ1 vs).length := by rw [← f'.sh.1]; exact (List.getElem?_eq_some_iff.mp h).1
              have e5 := List.getElem?_eq_getElem hl3
              rcases wipeR_get e5 with ⟨z, _⟩ | ⟨_, z, _⟩
              · exact (z hj).elim
              · rw [e5, z]
            obtain ⟨a5, k1, k2, k3⟩ := f'.sh.2 j _ h5
            rw [h] at k1
            cases k1
            have k3 := k3 rfl
            subst k3
            exact ⟨.any, by rw [e4, z], rfl, fun _ => rfl⟩
        · obtain ⟨a4, k1, k2, k3⟩ := f4.sh.2 j a (by rw [g1 j hj]; exact h)
          exact ⟨a4, by rw [wipeR_off hj]; exact k1, k2, k3⟩
    have notD2 : ¬ OwnAt ρ2 σ2 D := fun z => notD ((own23 D).mp z)
    intro s1 H01 C1 cl1 fp1
    refine ht s1 H01 C1 cl1 fp1 σ2 HFy H2 S3 _ fun HF4 H4 S4 f4 => ?_
    have k1 : H4 D = some (.lst ys) := f4.keep D _ hD2 notD2
    have k2 : HF4 D = none := f4.hfn (fy.hfn d1 d2) hD2
    cases b with
    | true =>
      rw [if_pos rfl]
      obtain ⟨w, ρ4, he, hI4⟩ := hyes rfl
      intro s2 H02 C2 cl2 fp2
      refine he s2 H02 C2 cl2 fp2 σ2 HF4 H4 S4 _ fun y5 HF5 H5 S5 f5 r5 => ?_
      have f45 := f4.trans f5
      have notD4 : ¬ OwnAt ρ3 σ2 D := fun z => notD2 (f4.sh.own.mp z)
      have m1 : H5 D = some (.lst ys) := f5.keep D _ k1 notD4
      have m2 : HF5 D = none := f5.hfn k2 k1
      have hys : ys.length ≤ i := by
        have := dpa_len d3
        have h2 := hz2 i ρ' acc hI
        omega
      obtain ⟨S6, f6⟩ := backW ρ4 HF5 H5 S5 f45
      refine ⟨ys, m1, by omega, hlt, _, _, HF5, ys ++ [y5], hI4, ?_, ?_, m2, upd_same, dpa_app (dpa_mono (fy.hf.trans f45.hf) d3) (.cons r5 .nil)⟩
      · refine ⟨S6.len, fun c u e => ?_, fun j a h => ?_, S6.apart⟩
        · rw [upd_ne fun z => by rw [z, m2] at e; cases e]
          exact S6.sub c u e
        · obtain ⟨s, e, z⟩ := S6.slot j a h
          refine ⟨s, e, arel_mono z (.refl _) fun p o e1 h1 h2 ho => ⟨h1, ?_⟩⟩
          rw [upd_ne]
          · exact h2
          · intro z2
            exact notD2 (f45.sh.own.mp (by
              by_cases hj : j ∈ vs
              · rcases wipeR_get h with ⟨z3, _⟩ | ⟨_, z3, _⟩
                · exact (z3 hj).elim
                · rw [z3] at ho; cases ho
              · rcases wipeR_get h with ⟨_, z3⟩ | ⟨z3, _⟩
                · exact ⟨j, a, z3, ho, by rw [o3 j hj, e, e1, z2]⟩
                · exact (hj z3).elim))
      · refine ⟨f6.sh, f6.hf, fun c o h n => ?_, f6.new, fun c o h => ?_⟩
        · have := f6.keep c o h n
          rw [upd_ne fun z => by rw [z, hD] at h; cases h]
          exact this
        · obtain ⟨o', e⟩ := f6.pres c o h
          by_cases hcD : c = D
          · subst hcD
            exact ⟨_, upd_same⟩
          · exact ⟨o', by rw [upd_ne hcD]; exact e⟩
    | false =>
      rw [if_neg Bool.false_ne_true]
      obtain ⟨S6, f6⟩ := backW ρ3 HF4 H4 S4 f4
      exact ⟨hlt, _, _, HF4, ys, hno rfl, S6, f6, k2, k1, dpa_mono (fy.hf.trans f4.hf) d3⟩
  · have e : i = ds.length := by omega
    subst e
    obtain ⟨rfl, u1, u2, u3⟩ := hd ρ' acc hI
    refine .inl ⟨sr.stop, ?_⟩
    -- the slots as they were
    have ownO : ∀ c, OwnAt ρ' (L2.wipe σ vs) c ↔ OwnAt ρ1 σ c := fun c => by
      rw [f'.sh.own]
      constructor
      · rintro ⟨j, a, k1, k2, k3⟩
        rcases wipeR_get k1 with ⟨z1, z2⟩ | ⟨_, rfl, _⟩
        · exact ⟨j, a, z2, k2, by rw [← wipe_off z1]; exact k3⟩
        · cases k2
      · rintro ⟨j, a, k1, k2, k3⟩
        by_cases hj : j ∈ vs
        · have := (u3 j hj).2 a k1
          rw [k2] at this
          cases this
        · exact ⟨j, a, by rw [wipeR_off hj]; exact k1, k2, by rw [wipe_off hj]; exact k3⟩
    have fo : Fw ρ1 ρo σ HF1 H1 HF' H' := by
      refine ⟨⟨u1, fun j a h => ?_⟩, f'.hf, fun c o h n => f'.keep c o h fun z => n ((ownO c).mp (f'.sh.own.mpr z)), f'.new, f'.pres⟩
      by_cases hj : j ∈ vs
      · exact ⟨a, by rw [(u3 j hj).1]; exact h, rfl, fun _ => rfl⟩
      · obtain ⟨a', k1, k2, k3⟩ := f'.sh.2 j a (by rw [wipeR_off hj]; exact h)
        exact ⟨a', by rw [u2 j hj]; exact k1, k2, k3⟩
    have So : Sl X.K ρo σ HF' H' := by
      refine ⟨by rw [u1]; exact S2.len, S'.sub, fun j a h => ?_, fun i j a b p h1 h2 o1 o2 e1 e2 => ?_⟩
      · by_cases hj : j ∈ vs
        · rw [(u3 j hj).1] at h
          obtain ⟨s, e, z⟩ := S2.slot j a h
          have no := (u3 j hj).2 a h
          exact ⟨s, e, arel_mono z f'.hf fun _ _ _ _ _ ho => by rw [no] at ho; cases ho⟩
        · rw [u2 j hj] at h
          obtain ⟨s, e, z⟩ := S'.slot j a h
          exact ⟨s, by rw [← wipe_off hj]; exact e, z⟩
      · have off : ∀ (j : Nat) (a : A), ρo[j]? = some a → a.own = true → j ∉ vs := fun j a h o hj => by
          rw [(u3 j hj).1] at h
          have := (u3 j hj).2 a h
          rw [o] at this
          cases this
        have n1 := off i a h1 o1
        have n2 := off j b h2 o2
        rw [u2 i n1] at h1
        rw [u2 j n2] at h2
        exact S'.apart i j a b p h1 h2 o1 o2 (by rw [wipe_off n1]; exact e1) (by rw [wipe_off n2]; exact e2)
    exact q _ HF' H' So (f1.trans fo) ⟨D, _, rfl, f1.fresh hD, d1, d2, d3⟩
theorem ev_lc {scope : Scope} {own : List (Str × Nat)} {elt : Expr} {ifs : List Expr} {out : List PyData} {ρo : Rho} {D0 : Rho}
    (ht : Src X tg iter ρ ds ρ1 k) (ok : BlkOk X.N X.env.scope scope own) (hN : X.N.Nodup)
    (I : Nat → Rho → List PyData → Prop) (h0 : I 0 (wipeR ρ1 (own.map (·.2))) []) (hk : ∀ i ρ' acc, I i ρ' acc → Kp k ρ1 ρ' ∧ (∀ j, k = some j → j ∉ own.map (·.2)))
    (hb : ∀ i v ρ' acc, ds[i]? = some v → I i ρ' acc → ∃ ρ2 b ρ3, (∀ (s : Shared) (H : Hp) (C : Addr) (cl : List (Str × Addr)) (fp : List Addr), GC (X.blk s H scope (compEnvC scope cl C X.env) fp) (own.map (·.2)) tg v ρ' ρ2) ∧
      (∀ (s : Shared) (H : Hp) (C : Addr) (cl : List (Str × Addr)) (fp : List Addr), EI (X.blk s H scope (compEnvC scope cl C X.env) fp) ifs ρ2 b ρ3) ∧
      (b = true → ∃ w ρ4, (∀ (s : Shared) (H : Hp) (C : Addr) (cl : List (Str × Addr)) (fp : List Addr), E (X.blk s H scope (compEnvC scope cl C X.env) fp) elt ρ3 (.d w) ρ4) ∧ I (i + 1) (wipeR ρ4 (own.map (·.2))) (acc ++ [w])) ∧ (b = false → I (i + 1) (wipeR ρ3 (own.map (·.2))) acc))
    (hd : ∀ ρ' acc, I ds.length ρ' acc → acc = out ∧ Unw (own.map (·.2)) ρ1 ρ' ρo) (hz : ds.length < sizeLine) (hz2 : ∀ i ρ' acc, I i ρ' acc → acc.length ≤ i)
    (hc : X.calm = true := by rfl) (hs : ∀ x, foldedSetIterable iter X.env x = pure x := by intro _; rfl) : E X (.ListComp elt [⟨tg, iter, ifs, 0⟩] scope pos) ρ (.ml out) ρo := e_el (el_lc (D0 := D0) ht ok hN I h0 hk hb hd hz hz2 hc hs)
/-- the plain one: the slots stay, an item's value hangs on the item -/
theorem e_lc {scope : Scope} (own : List (Str × Nat)) {elt : Expr} {ifs : List Expr} (p : PyData → Bool) (g : PyData → PyData)
    (ht : Src X tg iter ρ ds ρ1 k) (hN : X.N.Nodup) (hz : ds.length < sizeLine)
    (hb : ∀ (i : Nat) (v : PyData), ds[i]? = some v → ∃ ρ2 : Rho, (∀ (s : Shared) (H : Hp) (C : Addr) (cl : List (Str × Addr)) (fp : List Addr), GC (X.blk s H scope (compEnvC scope cl C X.env) fp) (own.map (·.2)) tg v (wipeR ρ1 (own.map (·.2))) ρ2) ∧
      (∀ (s : Shared) (H : Hp) (C : Addr) (cl : List (Str × Addr)) (fp : List Addr), EI (X.blk s H scope (compEnvC scope cl C X.env) fp) ifs ρ2 (p v) ρ2) ∧
      (p v = true → ∀ (s : Shared) (H : Hp) (C : Addr) (cl : List (Str × Addr)) (fp : List Addr), E (X.blk s H scope (compEnvC scope cl C X.env) fp) elt ρ2 (.d (g v)) ρ2) ∧ wipeR ρ2 (own.map (·.2)) = wipeR ρ1 (own.map (·.2)))
    (hv : ∀ (i : Nat) (a : A), i ∈ own.map (·.2) → ρ1[i]? = some a → a.own = false) (hkk : ∀ j, k = some j → j ∉ own.map (·.2)) (ok : BlkOk X.N X.env.scope scope own)
    (hc : X.calm = true := by rfl) (hs : ∀ x, foldedSetIterable iter X.env x = pure x := by intro _; rfl) : E X (.ListComp elt [⟨tg, iter, ifs, 0⟩] scope pos) ρ (.ml ((ds.filter p).map g)) ρ1 := by
  refine ev_lc (out := (ds.filter p).map g) (D0 := []) ht ok hN (fun i ρ' acc => ρ' = wipeR ρ1 (own.map (·.2)) ∧ acc = ((ds.take i).filter p).map g) ⟨rfl, rfl⟩ (fun i ρ' acc ⟨e, _⟩ => ⟨?_, hkk⟩) (fun i v ρ' acc hi ⟨e1, e2⟩ => ?_) (fun ρ' acc ⟨e1, e2⟩ => ?_) hz (fun i ρ' acc ⟨_, e⟩ => ?_) hc hs
  · subst e
    cases k with
    | none => trivial
    | some j => exact wipeR_off (hkk j rfl)
  · subst e1
    obtain ⟨ρ2, h1, h2, h3, h4⟩ := hb i v hi
    have tk : ds.take (i + 1) = ds.take i ++ [v] := by rw [List.take_add_one, hi]; rfl
    refine ⟨ρ2, p v, ρ2, h1, h2, fun z => ⟨g v, ρ2, h3 z, h4, ?_⟩, fun z => ⟨h4, ?_⟩⟩
    · rw [e2, tk, List.filter_append, List.map_append]
      simp [z]
    · rw [e2, tk, List.filter_append, List.map_append]
      simp [z]
  · subst e1
    rw [List.take_length] at e2
    exact ⟨e2, unw_id hv⟩
  · rw [e, List.length_map]
    refine Nat.le_trans (List.length_filter_le _ _) ?_
    rw [List.length_take]
    exact Nat.min_le_left _ _
end
end Th

set_option Elab.async false
set_option linter.all false
set_option maxRecDepth 100000
namespace Th
open PySem PySem.Spec PyProof.Rows L2

/-! ### own objects change -/
section
variable {K : PySem.W.Frag} {ρ : Rho} {σ : L2.St} {HF H : Hp} {a a' : A} {i : Nat} {p : Addr} {o o' : HO}
theorem Sl.put (S1 : Sl K ρ σ HF H) (hi : ρ[i]? = some a) (ho : a.own = true) (hs : σ[i]? = some (some (V.ref p))) (hr : HRel K HF p o' a') : Sl K (ρ.set i a') σ HF (upd H p o') ∧ Fw ρ (ρ.set i a') σ HF H HF (upd H p o') := by
  have hlen : i < ρ.length := (List.getElem?_eq_some_iff.mp hi).1
  obtain ⟨p2, o2, e, h1, h2, h3⟩ := S1.ownAt hi ho
  rw [hs] at e
  cases e
  have ho' := hrel_own hr
  refine ⟨⟨by rw [List.length_set]; exact S1.len, fun b u hb => ?_, fun j c h => ?_, fun j k c d q g1 g2 o1 o2 e1 e2 => ?_⟩, ⟨⟨by rw [List.length_set], fun j c h => ?_⟩, .refl _, fun b u hb n => ?_, fun b u h => .inl h, fun b u h => ?_⟩⟩
  · rw [upd_ne fun z => by rw [z, h1] at hb; cases hb]
    exact S1.sub b u hb
  · by_cases hj : i = j
    · subst hj
      rw [List.getElem?_set_self hlen] at h
      cases h
      exact ⟨_, hs, (arel_own ho').mpr ⟨_, rfl, p, o', rfl, h1, upd_same, hr⟩⟩
    · rw [List.getElem?_set_ne hj] at h
      obtain ⟨s, e, q⟩ := S1.slot j c h
      refine ⟨s, e, arel_mono q (.refl _) fun b u e1 k1 k2 oc => ⟨k1, ?_⟩⟩
      rw [upd_ne fun z => hj (S1.apart i j a c p hi h ho oc hs (by rw [e, e1, z]))]
      exact k2
  · have f : ∀ (j : Nat) (c : A), (ρ.set i a')[j]? = some c → c.own = true → ∃ c', ρ[j]? = some c' ∧ c'.own = true := fun j c h oc => by
      by_cases hj : i = j
      · subst hj
        exact ⟨a, hi, ho⟩
      · rw [List.getElem?_set_ne hj] at h
        exact ⟨c, h, oc⟩
    obtain ⟨c', k1, k2⟩ := f j c g1 o1
    obtain ⟨d', k3, k4⟩ := f k d g2 o2
    exact S1.apart j k c' d' q k1 k3 k2 k4 e1 e2
  · by_cases hj : i = j
    · subst hj
      rw [hi] at h
      cases h
      exact ⟨a', List.getElem?_set_self hlen, ho'.trans ho.symm, fun z => by rw [ho] at z; cases z⟩
    · exact ⟨c, by rw [List.getElem?_set_ne hj]; exact h, rfl, fun _ => rfl⟩
  · rw [upd_ne fun z => n ⟨i, a, hi, ho, by rw [hs, z]⟩]
    exact hb
  · by_cases hb : b = p
    · subst hb
      exact ⟨_, upd_same⟩
    · exact ⟨u, by rw [upd_ne hb]; exact h⟩
end

/-! ### dicts as lists of pairs -/
section
variable {κ : Type} [DecidableEq κ]
def getK (kvs : List (κ × PyData)) (k : κ) : Option PyData := (kvs.find? fun kv => decide (kv.1 = k)).map (·.2)
def setK (kvs : List (κ × PyData)) (k : κ) (v : PyData) : List (κ × PyData) :=
  if (kvs.any fun kv => decide (kv.1 = k)) = true then kvs.map (fun kv => if kv.1 = k then (kv.1, v) else kv) else kvs ++ [(k, v)]
def delK (kvs : List (κ × PyData)) (k : κ) : List (κ × PyData) := kvs.filter fun kv => decide (kv.1 ≠ k)
variable {K : PySem.W.Frag} {HF : Hp}
theorem dpkv_len : ∀ {l : List (κ × V)} {m : List (κ × PyData)}, DpKV K HF l m → l.length = m.length
  | _, _, .nil => rfl
  | _, _, .cons _ t => congrArg (· + 1) (dpkv_len t)
theorem dpkv_keys : ∀ {l : List (κ × V)} {m : List (κ × PyData)}, DpKV K HF l m → l.map (·.1) = m.map (·.1)
  | _, _, .nil => rfl
  | _, _, .cons h t => by rw [List.map_cons, List.map_cons, dpkv_keys t, h.1]
theorem dpkv_val : ∀ {l : List (κ × V)} {m : List (κ × PyData)} (k : κ), DpKV K HF l m → (valV l k = none ∧ getK m k = none) ∨ ∃ v d, valV l k = some v ∧ getK m k = some d ∧ Dp K HF v d
  | _, _, k, .nil => .inl ⟨rfl, rfl⟩
  | p :: l, q :: m, k, .cons h t => by
    by_cases e : p.1 = k
    · refine .inr ⟨p.2, q.2, valV_pos e, ?_, h.2⟩
      unfold getK
      rw [List.find?_cons]
      have : decide (q.1 = k) = true := decide_eq_true (by rw [← h.1]; exact e)
      simp [this]
    · have e2 : getK (q :: m) k = getK m k := by
        unfold getK
        rw [List.find?_cons]
        have : decide (q.1 = k) = false := decide_eq_false (by rw [← h.1]; exact e)
        simp [this]
      rw [valV_neg e, e2]
      exact dpkv_val k t
theorem dpkv_any : ∀ {l : List (κ × V)} {m : List (κ × PyData)} (k : κ), DpKV K HF l m → (l.any fun kv => decide (kv.1 = k)) = (m.any fun kv => decide (kv.1 = k))
  | _, _, k, .nil => rfl
  | p :: l, q :: m, k, .cons h t => by rw [List.any_cons, List.any_cons, dpkv_any k t, h.1]
theorem dpkv_app : ∀ {l l' : List (κ × V)} {m m' : List (κ × PyData)}, DpKV K HF l m → DpKV K HF l' m' → DpKV K HF (l ++ l') (m ++ m')
  | _, _, _, _, .nil, h => h
  | _, _, _, _, .cons a t, h => .cons a (dpkv_app t h)
theorem dpkv_map {k : κ} {v : V} {d : PyData} (hv : Dp K HF v d) : ∀ {l : List (κ × V)} {m : List (κ × PyData)}, DpKV K HF l m → DpKV K HF (l.map fun kv => if kv.1 = k then (kv.1, v) else kv) (m.map fun kv => if kv.1 = k then (kv.1, d) else kv)
  | _, _, .nil => .nil
  | p :: l, q :: m, .cons h t => by
    refine .cons ?_ (dpkv_map hv t)
    dsimp only
    by_cases e : p.1 = k
    · rw [if_pos e, if_pos (by rw [← h.1]; exact e)]
      exact ⟨h.1, hv⟩
    · rw [if_neg e, if_neg (by rw [← h.1]; exact e)]
      exact h
theorem dpkv_put {l : List (κ × V)} {m : List (κ × PyData)} {k : κ} {v : V} {d : PyData} (h : DpKV K HF l m) (hv : Dp K HF v d) : DpKV K HF (putK l k v) (setK m k d) := by
  unfold putK setK
  rw [dpkv_any k h]
  split
  · exact dpkv_map hv h
  · exact dpkv_app h (.cons ⟨rfl, hv⟩ .nil)
theorem dpkv_drop (k : κ) : ∀ {l : List (κ × V)} {m : List (κ × PyData)}, DpKV K HF l m → DpKV K HF (dropK l k) (delK m k)
  | _, _, .nil => .nil
  | p :: l, q :: m, .cons h t => by
    unfold dropK delK
    rw [List.filter_cons, List.filter_cons, h.1]
    split
    · exact .cons h (dpkv_drop k t)
    · exact dpkv_drop k t
end
def kD : Key → PyData
  | .inl i => .int i
  | .inr x => .str x
theorem dp_key {K : PySem.W.Frag} {HF : Hp} {k : Key} {x : V} (h : Dp K HF x (kD k)) : x = kV k := by
  cases k <;> cases h <;> rfl

section
variable {X : Cx} {B : Bs} {P : Pst} {ρ ρ1 ρ2 ρ3 : Rho} {e e1 e2 : Expr} {es : List Expr} {pos pos' : Pos} {a : A} {b : Bool} {u v w z d : PyData} {ds xs : List PyData} {k : Option Nat} {kvs : List (Key × PyData)} {y : Key} {x : Str} {ta tb te : TE}

/-! ### dicts in a slot -/
theorem e_dget (i : Nat) (he : E X e ρ (.d (kD y)) ρ1) (hi0 : ∃ k0, ρ[i]? = some (.mk k0)) (hi : ρ1[i]? = some (.mk kvs)) (hg : getK kvs y = some d) (hu : X.A.units + 1 < cLine) (hs : NoSl e := by exact fun _ _ => rfl) (hN : X.N[i]? = some x := by rfl)
    (hv : Vis X.env.scope x := by first | exact Or.inl rfl | exact Or.inr (Or.inl rfl) | exact Or.inr (Or.inr rfl)) (hd : (x == ("__debug__" : Str)) = false := by decide) (hcd : (x == ("__classdict__" : Str)) = false := by decide) :
    E X (.Subscript (.Name x pos') e pos) ρ (.d d) ρ1 := .of (pe_dget hu (pe_var hN hv hd hcd) pe_w hs) fun σ HF H S1 Q q => by
  obtain ⟨k0, hk0⟩ := hi0
  obtain ⟨p, o, e0, _⟩ := S1.ownAt hk0 rfl
  refine ⟨.ref p, e0, he σ HF H S1 _ fun x1 HF1 H1 S2 f1 r1 => ?_⟩
  obtain ⟨p2, o2, e3, h1, h2, h3⟩ := S2.ownAt hi rfl
  rw [e0] at e3
  cases e3
  cases o2 <;> first | exact h3.elim | skip
  rename_i kws
  rcases dpkv_val y h3 with ⟨_, g⟩ | ⟨v1, d1, g1, g2, g3⟩
  · rw [hg] at g; cases g
  · rw [hg] at g2
    cases g2
    have hx := dp_key r1
    subst hx
    refine ⟨p, v1, rfl, ?_, q _ HF1 H1 S2 f1 g3⟩
    rw [← g1]
    exact .k h2
theorem e_dget2 (i : Nat) {apos : Pos} (he : E X e1 ρ (.d (kD y)) ρ1) (he2 : E X e2 ρ1 (.d w) ρ2) (hi0 : ∃ k0, ρ[i]? = some (.mk k0)) (hi : ρ2[i]? = some (.mk kvs)) (hu : X.A.units + 1 < cLine) (m : M2 X (.Name x pos') "get" apos e1 e2 pos := by exact ⟨rfl, rfl, rfl, rfl⟩) (hN : X.N[i]? = some x := by rfl)
    (hv : Vis X.env.scope x := by first | exact Or.inl rfl | exact Or.inr (Or.inl rfl) | exact Or.inr (Or.inr rfl)) (hd : (x == ("__debug__" : Str)) = false := by decide) (hcd : (x == ("__classdict__" : Str)) = false := by decide) :
    E X (.Call (.Attribute (.Name x pos') "get" apos) [e1, e2] [] pos) ρ (.d ((getK kvs y).getD w)) ρ2 := .of (pe_dget2 hu (pe_var hN hv hd hcd) pe_w pe_w m) fun σ HF H S1 Q q => by
  obtain ⟨k0, hk0⟩ := hi0
  obtain ⟨p, o, e0, _, k2, k3⟩ := S1.ownAt hk0 rfl
  cases o <;> first | exact k3.elim | skip
  refine ⟨.ref p, e0, p, rfl, .inl ⟨_, .inl k2⟩, he σ HF H S1 _ fun x1 HF1 H1 S2 f1 r1 => he2 σ HF1 H1 S2 _ fun x2 HF2 H2 S3 f2 r2 => ?_⟩
  obtain ⟨p2, o2, e3, h1, h2, h3⟩ := S3.ownAt hi rfl
  rw [e0] at e3
  cases e3
  cases o2 <;> first | exact h3.elim | skip
  have hx := dp_key r1
  subst hx
  refine ⟨_, .k h2, ?_⟩
  rcases dpkv_val y h3 with ⟨g1, g2⟩ | ⟨v1, d1, g1, g2, g3⟩
  · rw [g1]
    rw [g2] at q
    exact q _ HF2 H2 S3 (f1.trans f2) r2
  · rw [g1]
    rw [g2] at q
    exact q _ HF2 H2 S3 (f1.trans f2) g3
theorem e_din (i : Nat) (he : E X e ρ (.d (kD y)) ρ1) (hi : ρ1[i]? = some (.mk kvs)) (hu : X.A.units + 1 < cLine) (hN : X.N[i]? = some x := by rfl)
    (hv : Vis X.env.scope x := by first | exact Or.inl rfl | exact Or.inr (Or.inl rfl) | exact Or.inr (Or.inr rfl)) (hd : (x == ("__debug__" : Str)) = false := by decide) (hcd : (x == ("__classdict__" : Str)) = false := by decide)
    (hb : behindInMarks .In (.Name x pos') = false := by rfl) : E X (.Compare e [.In] [.Name x pos'] pos) ρ (.d (.bool (getK kvs y).isSome)) ρ1 := .of (pe_cmp (pc_din hu pe_w (pe_var hN hv hd hcd)) hb) fun σ HF H S1 Q q => he σ HF H S1 _ fun x1 HF1 H1 S2 f1 r1 => by
  obtain ⟨p2, o2, e3, h1, h2, h3⟩ := S2.ownAt hi rfl
  cases o2 <;> first | exact h3.elim | skip
  have hx := dp_key r1
  subst hx
  refine ⟨.ref p2, e3, p2, _, rfl, .k h2, ?_⟩
  rcases dpkv_val y h3 with ⟨g1, g2⟩ | ⟨v1, d1, g1, g2, g3⟩
  · rw [g1]; rw [g2] at q
    exact q _ HF1 H1 S2 f1 (.bl _)
  · rw [g1]; rw [g2] at q
    exact q _ HF1 H1 S2 f1 (.bl _)
theorem e_dnin (i : Nat) (he : E X e ρ (.d (kD y)) ρ1) (hi : ρ1[i]? = some (.mk kvs)) (hu : X.A.units + 1 < cLine) (hN : X.N[i]? = some x := by rfl)
    (hv : Vis X.env.scope x := by first | exact Or.inl rfl | exact Or.inr (Or.inl rfl) | exact Or.inr (Or.inr rfl)) (hd : (x == ("__debug__" : Str)) = false := by decide) (hcd : (x == ("__classdict__" : Str)) = false := by decide)
    (hb : behindInMarks .NotIn (.Name x pos') = false := by rfl) : E X (.Compare e [.NotIn] [.Name x pos'] pos) ρ (.d (.bool (!(getK kvs y).isSome))) ρ1 := .of (pe_cmp (pc_dnotin hu pe_w (pe_var hN hv hd hcd)) hb) fun σ HF H S1 Q q => he σ HF H S1 _ fun x1 HF1 H1 S2 f1 r1 => by
  obtain ⟨p2, o2, e3, h1, h2, h3⟩ := S2.ownAt hi rfl
  cases o2 <;> first | exact h3.elim | skip
  have hx := dp_key r1
  subst hx
  refine ⟨.ref p2, e3, p2, _, rfl, .k h2, ?_⟩
  rcases dpkv_val y h3 with ⟨g1, g2⟩ | ⟨v1, d1, g1, g2, g3⟩
  · rw [g1]; rw [g2] at q
    exact q _ HF1 H1 S2 f1 (.bl _)
  · rw [g1]; rw [g2] at q
    exact q _ HF1 H1 S2 f1 (.bl _)
theorem s_dput (i : Nat) {ev : Expr} {p0 : Pos} (hv : E X ev ρ (.d v) ρ1) (hk : E X e ρ1 (.d (kD y)) ρ2) (hi0 : ∃ k0, ρ1[i]? = some (.mk k0)) (hi : ρ2[i]? = some (.mk kvs)) (hz : kvs.length < 100000) (h : P.nx (ρ2.set i (.mk (setK kvs y v)))) (hu : X.A.units + 1 < cLine)
    (hs : swapsWith ev (some (.Subscript (.Name x p0) e pos')) pos.line X.env = pure false := by rfl) (hN : X.N[i]? = some x := by rfl)
    (hvs : Vis X.env.scope x := by first | exact Or.inl rfl | exact Or.inr (Or.inl rfl) | exact Or.inr (Or.inr rfl)) (hd : (x == ("__debug__" : Str)) = false := by decide) (hcd : (x == ("__classdict__" : Str)) = false := by decide) :
    S X B (.Assign [.Subscript (.Name x p0) e pos'] ev pos) ρ P := .of (ps_dput hu (pe_var hN hvs hd hcd) pe_w pe_w hs) fun σ HF H S1 bn D o => hv σ HF H S1 _ fun x1 HF1 H1 S2 f1 r1 => by
  obtain ⟨k0, hk0⟩ := hi0
  obtain ⟨p, o0, e0, _⟩ := S2.ownAt hk0 rfl
  refine ⟨.ref p, e0, hk σ HF1 H1 S2 _ fun x2 HF2 H2 S3 f2 r2 => ?_⟩
  obtain ⟨p2, o2, e3, h1, h2, h3⟩ := S3.ownAt hi rfl
  rw [e0] at e3
  cases e3
  cases o2 <;> first | exact h3.elim | skip
  have hx := dp_key r2
  subst hx
  have hl := dpkv_len h3
  obtain ⟨S4, f4⟩ := S3.put hi rfl e0 (o' := .dK (putK _ y x1)) (a' := .mk (setK kvs y v)) (dpkv_put h3 (dp_mono f2.hf r1))
  have f := (f1.trans f2).trans f4
  exact ⟨p, _, rfl, .k h2 (Nat.lt_of_lt_of_le (by rw [hl]; exact hz) (by decide)), o.nx _ _ _ _ h S4 (bn.fw f) f.hf⟩
theorem e_dlen (i : Nat) {pn : Pos} (hi : ρ[i]? = some (.mk kvs)) (hm : X.mg "len" = none) (hg : Gl X "len" := by rfl) (hN : X.N[i]? = some x := by rfl) (hv : Vis X.env.scope x := by first | exact Or.inl rfl | exact Or.inr (Or.inl rfl) | exact Or.inr (Or.inr rfl)) (hd : (x == ("__debug__" : Str)) = false := by decide) (hcd : (x == ("__classdict__" : Str)) = false := by decide)
    (he : starEach [.Name x pos'] X.env = (false, eval (.Name x pos') X.env) :: starEach [] X.env := by rfl) : E X (.Call (.Name "len" pn) [.Name x pos'] [] pos) ρ (.d (.int kvs.length)) ρ :=
  .of (pe_callB call_lenD hg hm PySem.boot_len (pa_cons (pe_var hN hv hd hcd) pa_nil he) (he := he)) fun σ HF H S1 Q q => by
    obtain ⟨p2, o2, e3, h1, h2, h3⟩ := S1.ownAt hi rfl
    cases o2 <;> first | exact h3.elim | skip
    refine ⟨.ref p2, e3, p2, _, rfl, h2, ?_⟩
    rw [dpkv_len h3]
    exact q _ HF H S1 (.refl ..) (.int _)
/-- sorted(d), its keys ints -/
def isort (ns : List Int) : List Int := ns.mergeSort (fun a b => decide (a ≤ b))
theorem isort_perm (ns : List Int) : (isort ns).Perm ns := List.mergeSort_perm _ _
theorem isort_pw (ns : List Int) : (isort ns).Pairwise (· ≤ ·) := by
  have h := List.pairwise_mergeSort (le := fun (a b : Int) => decide (a ≤ b)) (fun a b c h1 h2 => by simp at *; omega) (fun a b => by simp; omega) ns
  exact h.imp fun h => by simpa using h
theorem isort_eq {ns ms : List Int} (hp : ms.Perm ns) (hs : ms.Pairwise (· ≤ ·)) : ms = isort ns := PySem.W.ksm_same (hp.trans (isort_perm ns).symm) hs (isort_pw ns)
theorem dpa_ints {K : PySem.W.Frag} {HF : Hp} : ∀ (ns : List Int), DpAll K HF (ns.map V.int) (ns.map PyData.int)
  | [] => .nil
  | n :: ns => .cons (.int n) (dpa_ints ns)
theorem ints_dpa {K : PySem.W.Frag} {HF : Hp} : ∀ {ns : List Int} {ys : List V}, DpAll K HF ys (ns.map PyData.int) → ys = ns.map V.int
  | [], _, .nil => rfl
  | n :: ns, _, .cons h t => by
    cases h
    rw [List.map_cons, ints_dpa t]
theorem e_dsorted (i : Nat) {pn : Pos} {ks : List Int} (hi : ρ[i]? = some (.mk kvs)) (hks : kvs.map (·.1) = ks.map Sum.inl) (hz : ks.length < 64) (hm : X.mg "sorted" = none) (hg : Gl X "sorted" := by rfl) (hc : X.calm = true := by rfl) (hN : X.N[i]? = some x := by rfl)
    (hv : Vis X.env.scope x := by first | exact Or.inl rfl | exact Or.inr (Or.inl rfl) | exact Or.inr (Or.inr rfl)) (hd : (x == ("__debug__" : Str)) = false := by decide) (hcd : (x == ("__classdict__" : Str)) = false := by decide)
    (he : starEach [.Name x pos'] X.env = (false, eval (.Name x pos') X.env) :: starEach [] X.env := by rfl) : E X (.Call (.Name "sorted" pn) [.Name x pos'] [] pos) ρ (.ml ((isort ks).map .int)) ρ :=
  .of (pe_callB (call_sortedDI hc) hg hm (by decide +kernel) (pa_cons (pe_var hN hv hd hcd) pa_nil he) (he := he)) fun σ HF H S1 Q q => by
    obtain ⟨p2, o2, e3, h1, h2, h3⟩ := S1.ownAt hi rfl
    cases o2 <;> first | exact h3.elim | skip
    refine ⟨.ref p2, e3, p2, _, ks, rfl, .inl h2, (dpkv_keys h3).trans hks, hz, fun ys p hp hs hn => ?_⟩
    obtain ⟨S2, f2⟩ := S1.allocO hn (.lst (ys.map V.int))
    rw [← isort_eq hp hs] at q
    exact q _ _ _ S2 f2 ⟨p, _, rfl, hn, S1.hfNone hn, upd_same, dpa_ints ys⟩

/-! ### own lists change -/
theorem e_app (i : Nat) {apos : Pos} (he : E X e ρ (.d v) ρ1) (hi0 : ∃ x0, ρ[i]? = some (.ml x0)) (hi : ρ1[i]? = some (.ml xs)) (hz : xs.length < 100000) (hN : X.N[i]? = some x := by rfl)
    (hv : Vis X.env.scope x := by first | exact Or.inl rfl | exact Or.inr (Or.inl rfl) | exact Or.inr (Or.inr rfl)) (hd : (x == ("__debug__" : Str)) = false := by decide) (hcd : (x == ("__classdict__" : Str)) = false := by decide)
    (hbase : attributeBase (.Name x pos') "append" X.env (eval (.Name x pos') X.env) = eval (.Name x pos') X.env := by rfl)
    (hfew : ((backTo pos (starEach [e] X.env)).all (fun x => !x.1) && (backToKw pos (keywordEach [] X.env)).all (fun x => x.1.isSome) && decide (([e] : List Expr).length + ([] : List Keyword).length + (if ([] : List Keyword).isEmpty then 0 else 1) < 30)) = true := by rfl)
    (hline : (apos.endLine == pos.line) = true := by rfl) (hs : starEach [e] X.env = (false, eval e X.env) :: starEach [] X.env := by rfl) :
    E X (.Call (.Attribute (.Name x pos') "append" apos) [e] [] pos) ρ (.d .none) (ρ1.set i (.ml (xs ++ [v]))) :=
  .of (pe_bm PySem.F.plainAttrs_list PySem.F.slot_list_append PySem.F.type_list_append mt_append (pe_var hN hv hd hcd) (pa_cons pe_w pa_nil hs) hbase hfew hline hs) fun σ HF H S1 Q q => by
    obtain ⟨k0, hk0⟩ := hi0
    obtain ⟨p, o0, e0, _, k2, k3⟩ := S1.ownAt hk0 rfl
    cases o0 <;> first | exact k3.elim | skip
    refine ⟨.ref p, e0, .inl ⟨rfl, _, .inl (.inl k2)⟩, he σ HF H S1 _ fun x1 HF1 H1 S2 f1 r1 => ?_⟩
    obtain ⟨p2, o2, e3, h1, h2, h3⟩ := S2.ownAt hi rfl
    rw [e0] at e3
    cases e3
    cases o2 <;> first | exact h3.elim | skip
    rename_i ys
    have hl := dpa_len h3
    obtain ⟨S4, f4⟩ := S2.put hi rfl e0 (o' := .lst (ys ++ [x1])) (a' := .ml (xs ++ [v])) (dpa_app h3 (.cons r1 .nil))
    exact ⟨p, ys, x1, rfl, rfl, h2, Nat.lt_of_lt_of_le (by rw [hl]; exact hz) (by decide), q _ _ _ S4 (f1.trans f4) .non⟩
theorem ixN_map {α β : Type} {xs : List α} {ys : List β} (h : xs.length = ys.length) (i : Int) : ixN xs.length i = ixN ys.length i := by rw [h]
/-- xs[k] = e -/
theorem s_setL (i : Nat) {ev : Expr} {p0 : Pos} {n : Int} {j : Nat} (hv : E X ev ρ (.d v) ρ1) (hk : E X e ρ1 (.d (.int n)) ρ2) (hi0 : ∃ k0, ρ1[i]? = some (.ml k0)) (hi : ρ2[i]? = some (.ml xs)) (hj : ixN xs.length n = some j) (h : P.nx (ρ2.set i (.ml (xs.set j v))))
    (hN : X.N[i]? = some x := by rfl) (hvs : Vis X.env.scope x := by first | exact Or.inl rfl | exact Or.inr (Or.inl rfl) | exact Or.inr (Or.inr rfl)) (hd : (x == ("__debug__" : Str)) = false := by decide) (hcd : (x == ("__classdict__" : Str)) = false := by decide)
    (ha : ∀ v, assign (.Subscript (.Name x p0) e pos') X.env v = (do
      let ov ← holding [v] (eval (.Name x p0) X.env)
      let iv ← holding [v, ov] (eval e X.env)
      standAt pos'
      holding [v, ov, iv] (setItem ov iv v)
      release [v, ov, iv] []) := by intro _; rfl)
    (hs : swapsWithSole [.Subscript (.Name x p0) e pos'] ev pos.line X.env = pure false := by rfl) (hw : swappedStores [.Subscript (.Name x p0) e pos'] ev X.env = pure none := by rfl)
    (h1 : (assignEach [.Subscript (.Name x p0) e pos'] X.env).map (·.2) = [assign (.Subscript (.Name x p0) e pos') X.env] := by rfl) :
    S X B (.Assign [.Subscript (.Name x p0) e pos'] ev pos) ρ P := .of (ps_asg pe_w (pg_sub (pe_var hN hvs hd hcd) pe_w set_list ha) hs hw h1) fun σ HF H S1 bn D o => hv σ HF H S1 _ fun x1 HF1 H1 S2 f1 r1 => by
  obtain ⟨k0, hk0⟩ := hi0
  obtain ⟨p, o0, e0, _⟩ := S2.ownAt hk0 rfl
  refine ⟨.ref p, e0, hk σ HF1 H1 S2 _ fun x2 HF2 H2 S3 f2 r2 => ?_⟩
  obtain ⟨p2, o2, e3, h1, h2, h3⟩ := S3.ownAt hi rfl
  rw [e0] at e3
  cases e3
  cases o2 <;> first | exact h3.elim | skip
  rename_i ys
  cases r2
  have hl := dpa_len h3
  obtain ⟨S4, f4⟩ := S3.put hi rfl e0 (o' := .lst (ys.set j x1)) (a' := .ml (xs.set j v)) (dpa_set h3 (dp_mono f2.hf r1))
  have f := (f1.trans f2).trans f4
  exact ⟨p, ys, n, j, rfl, rfl, h2, by rw [hl]; exact hj, o.nx _ _ _ _ h S4 (bn.fw f) f.hf⟩
/-- xs[k] op= e, whole numbers -/
theorem get_list : PGet X (rIxL X.K) := by
  intro pins s σ H o i ov iv Q I ro ri h
  obtain ⟨p, xs, i, z, rfl, rfl, hq, he, q⟩ := h
  cases ro
  obtain ⟨t, rfl⟩ := ri
  obtain ⟨its, r, pl, hz⟩ := I.list hq
  obtain ⟨j, h1, h2, h3, h4, h5⟩ := atI_get he
  obtain ⟨w, ew, rw'⟩ := r.get h2
  have hl := r.length
  have hn := line63
  have fin : L2.EP X pins σ Q w s := ⟨z, H, I, rw', q⟩
  by_cases h0 : 0 ≤ i
  · have hj : i.toNat = j := by
      rw [seqIndex_of h0 h5] at h1
      exact Option.some.inj h1
    exact wpAny_getItem_list pl.isList h0 (by omega) (by rw [hj]; simpa using ew) fin
  · have hj : (i + (its.toArray.size : Int)).toNat = j := by
      rw [seqIndex_neg (by omega) h4] at h1
      rw [List.size_toArray, ← hl]
      exact Option.some.inj h1
    exact wpAny_getItem_list_neg pl.isList (by omega) (by rw [List.size_toArray] <;> omega) (by omega) (by rw [hj]; simpa using ew) fin
theorem s_augL (i : Nat) {ev : Expr} {op : Operator} {g : Int → Int → Int} {p0 : Pos} {n m m2 : Int} {j : Nat} (ho : PIp X op (ipI g)) (hk : E X e ρ (.d (.int n)) ρ1) (hv : E X ev ρ1 (.d (.int m2)) ρ2) (hi0 : ∃ k0, ρ[i]? = some (.ml k0)) (hi1 : ρ1[i]? = some (.ml xs)) (hi : ρ2[i]? = some (.ml xs)) (hj : ixN xs.length n = some j) (hx : xs[j]? = some (.int m)) (h : P.nx (ρ2.set i (.ml (xs.set j (.int (g m m2))))))
    (hN : X.N[i]? = some x := by rfl) (hvs : Vis X.env.scope x := by first | exact Or.inl rfl | exact Or.inr (Or.inl rfl) | exact Or.inr (Or.inr rfl)) (hd : (x == ("__debug__" : Str)) = false := by decide) (hcd : (x == ("__classdict__" : Str)) = false := by decide)
    (ha : ∀ ov iv new, augStore e ov iv new = (do holding [new, ov, iv] (setItem ov iv new); release [new, ov, iv] []; pure .next) := by intros; rfl) :
    S X B (.AugAssign (.Subscript (.Name x p0) e pos') op ev pos) ρ P := .of (ps_augS (pe_var hN hvs hd hcd) pe_w get_list pe_w ho set_list ha) fun σ HF H S1 bn D o => by
  obtain ⟨k0, hk0⟩ := hi0
  obtain ⟨p, o0, e0, _⟩ := S1.ownAt hk0 rfl
  refine ⟨.ref p, e0, hk σ HF H S1 _ fun x1 HF1 H1 S2 f1 r1 => ?_⟩
  cases r1
  obtain ⟨p1, o1, e1, g1, g2, g3⟩ := S2.ownAt hi1 rfl
  rw [e0] at e1
  cases e1
  cases o1 <;> first | exact g3.elim | skip
  rename_i ys
  have hl := dpa_len g3
  obtain ⟨y, ey, ry⟩ := dpa_get g3 hx
  cases ry
  refine ⟨p, ys, n, .int m, rfl, rfl, .inl (.inl g2), ?_, hv σ HF1 H1 S2 _ fun x2 HF2 H2 S3 f2 r2 => ?_⟩
  · unfold atI
    rw [hl, hj]
    exact ey
  cases r2
  obtain ⟨p2, o2, e3, h1, h2, h3⟩ := S3.ownAt hi rfl
  rw [e0] at e3
  cases e3
  cases o2 <;> first | exact h3.elim | skip
  rename_i ys2
  have hl2 := dpa_len h3
  obtain ⟨S4, f4⟩ := S3.put hi rfl e0 (o' := .lst (ys2.set j (.int (g m m2)))) (a' := .ml (xs.set j (.int (g m m2)))) (dpa_set h3 (.int _))
  have f := (f1.trans f2).trans f4
  exact ⟨m, m2, rfl, rfl, p, ys2, n, j, rfl, rfl, h2, by rw [hl2]; exact hj, o.nx _ _ _ _ h S4 (bn.fw f) f.hf⟩
/-- name op= e -/
theorem s_aug (i : Nat) {op : Operator} {g : Int → Int → Int} {m m2 : Int} (ho : PIp X op (ipI g)) (hi0 : ρ[i]? = some (.d (.int m))) (he : E X e ρ (.d (.int m2)) ρ1) (h : P.nx (ρ1.set i (.d (.int (g m m2))))) (hl : ∀ q ∈ B.L, q.1 ≠ i) (hN : X.N.Nodup) (hi : X.N[i]? = some x := by rfl) (hx : Loc X.env.scope x := by first | exact Or.inl rfl | exact Or.inr rfl) (hf : X.fn x = true ∨ X.env.scope.names.lookup x = some .local := by first | exact .inl rfl | exact .inr rfl) :
    S X B (.AugAssign (.Name x pos') op e pos) ρ P := .of (ps_aug hN hi hx pe_w ho hf) fun σ HF H S1 bn D o => by
  obtain ⟨y, e0, r0⟩ := S1.at hi0
  cases r0
  refine ⟨_, e0, he σ HF H S1 _ fun x1 HF1 H1 S2 f1 r1 => ?_⟩
  cases r1
  refine ⟨m, m2, rfl, rfl, ?_⟩
  have q1 : ∀ Hb, RRel X.K Hb HF1 H1 (V.int (g m m2)) (.d (.int (g m m2))) := fun Hb => Dp.int _
  exact o.nx _ _ HF1 H1 h (S2.set (q1 H1) fun p hp z => S2.notOwn hp z) ((bn.fw f1).set S2 (q1 _) hl) f1.hf

/-! ### built-ins by name -/
theorem ev_cb {K : PySem.W.Frag} {r : List V → Hp → VK → Prop} (ha : Op K ta ρ v ρ1 k) (hr : ∀ HF H x Q, ORel K HF H x v → Same HF H → (∀ y, Dp K HF y z → Q y H) → r [x] H Q) : Ev K (tCB r (tCons ta tNil)) ρ (.d z) ρ1 := fun σ HF H S1 Q q =>
  ha σ HF H S1 _ fun x HF1 H1 S2 f1 r1 => hr HF1 H1 x Q (r1 ρ1 HF1 H1 .refl S2 (.refl ..)) S2.sub fun y hy => q y HF1 H1 S2 f1 hy
theorem ev_cbN {K : PySem.W.Frag} {r : List V → Hp → VK → Prop} (ha : Op K ta ρ v ρ1 k) (hr : ∀ HF H x Q, ORel K HF H x v → Same HF H → (∀ p o, H p = none → HRel K HF p o a → Q (.ref p) (upd H p o)) → r [x] H Q) : Ev K (tCB r (tCons ta tNil)) ρ a ρ1 := fun σ HF H S1 Q q =>
  ha σ HF H S1 _ fun x HF1 H1 S2 f1 r1 => hr HF1 H1 x Q (r1 ρ1 HF1 H1 .refl S2 (.refl ..)) S2.sub fun p o hp ho => by
    obtain ⟨S3, f3⟩ := S2.allocO hp o
    exact q _ HF1 _ S3 (f1.trans f3) ((rrel_own (hrel_own ho)).mpr ⟨p, o, rfl, f1.fresh hp, S2.hfNone hp, upd_same, ho⟩)
theorem ev_cbT {K : PySem.W.Frag} {r : List V → Hp → VK → Prop} (ha : Op K ta ρ v ρ1 k) (hr : ∀ HF H x Q, ORel K HF H x v → Same HF H → (∀ y, Dp K HF y (.tuple ds) → Q y H) → (∀ p ys, H p = none → DpAll K HF ys ds → Q (.ref p) (upd H p (.tup ys))) → r [x] H Q) : Ev K (tCB r (tCons ta tNil)) ρ (.d (.tuple ds)) ρ1 := fun σ HF H S1 Q q =>
  ha σ HF H S1 _ fun x HF1 H1 S2 f1 r1 => hr HF1 H1 x Q (r1 ρ1 HF1 H1 .refl S2 (.refl ..)) S2.sub (fun y hy => q y HF1 H1 S2 f1 hy) fun p ys hp ho => by
    obtain ⟨S3, f3⟩ := S2.allocD hp (.tup ys)
    exact q _ _ _ S3 (f1.trans f3) (.tup (.inl (.inl upd_same)) (dpa_mono f3.hf ho))
variable {pn : Pos} {i j : Int}
section
variable (he : starEach [e] X.env = (false, eval e X.env) :: starEach [] X.env := by rfl)
theorem e_lenL (h : EO X e ρ (.list ds) ρ1 k) (hm : X.mg "len" = none) (hg : Gl X "len" := by rfl) (he : starEach [e] X.env = (false, eval e X.env) :: starEach [] X.env := by rfl) : E X (.Call (.Name "len" pn) [e] [] pos) ρ (.d (.int ds.length)) ρ1 :=
  .of (pe_callB call_len_seq hg hm PySem.boot_len (pa_cons pe_w pa_nil he) (he := he)) (ev_cb h fun HF H x Q r s q => by
    obtain ⟨p, ys, rfl, h1, h2⟩ := r
    exact ⟨p, ys, rfl, .inl h1, by rw [dpa_len h2]; exact q _ (.int _)⟩)
theorem e_lenT (h : E X e ρ (.d (.tuple ds)) ρ1) (hm : X.mg "len" = none) (hg : Gl X "len" := by rfl) (he : starEach [e] X.env = (false, eval e X.env) :: starEach [] X.env := by rfl) : E X (.Call (.Name "len" pn) [e] [] pos) ρ (.d (.int ds.length)) ρ1 :=
  .of (pe_callB call_len_seq hg hm PySem.boot_len (pa_cons pe_w pa_nil he) (he := he)) (ev_cb h.o fun HF H x Q r s q => by
    cases (show Dp X.K HF x (.tuple ds) from r) with
    | tup h1 h2 => exact ⟨_, _, rfl, .inr (same_t s h1), by rw [dpa_len h2]; exact q _ (.int _)⟩)
theorem e_tupL (h : EO X e ρ (.list ds) ρ1 k) (hm : X.mg "tuple" = none) (hg : Gl X "tuple" := by rfl) (he : starEach [e] X.env = (false, eval e X.env) :: starEach [] X.env := by rfl) : E X (.Call (.Name "tuple" pn) [e] [] pos) ρ (.d (.tuple ds)) ρ1 :=
  .of (pe_callTy call_tuple_of hg hm (by decide +kernel) (pa_cons pe_w pa_nil he) (he := he)) (ev_cbT h fun HF H x Q r s _ q => by
    obtain ⟨p, ys, rfl, h1, h2⟩ := r
    exact ⟨p, ys, rfl, .inl ⟨h1, fun l hl => q l ys hl h2⟩⟩)
theorem e_tupT (h : E X e ρ (.d (.tuple ds)) ρ1) (hm : X.mg "tuple" = none) (hg : Gl X "tuple" := by rfl) (he : starEach [e] X.env = (false, eval e X.env) :: starEach [] X.env := by rfl) : E X (.Call (.Name "tuple" pn) [e] [] pos) ρ (.d (.tuple ds)) ρ1 :=
  .of (pe_callTy call_tuple_of hg hm (by decide +kernel) (pa_cons pe_w pa_nil he) (he := he)) (ev_cbT h.o fun HF H x Q r s q _ => by
    have r : Dp X.K HF x (.tuple ds) := r
    cases r with
    | tup h1 h2 => exact ⟨_, _, rfl, .inr ⟨same_t s h1, q _ (.tup h1 h2)⟩⟩)
theorem e_lstL (h : EO X e ρ (.list ds) ρ1 k) (hm : X.mg "list" = none) (hg : Gl X "list" := by rfl) (he : starEach [e] X.env = (false, eval e X.env) :: starEach [] X.env := by rfl) : E X (.Call (.Name "list" pn) [e] [] pos) ρ (.ml ds) ρ1 :=
  .of (pe_callTy call_list_of hg hm (by decide +kernel) (pa_cons pe_w pa_nil he) (he := he)) (ev_cbN h fun HF H x Q r s q => by
    obtain ⟨p, ys, rfl, h1, h2⟩ := r
    exact ⟨p, ys, rfl, .inl h1, fun l hl => q l (.lst ys) hl h2⟩)
theorem e_lstT (h : E X e ρ (.d (.tuple ds)) ρ1) (hm : X.mg "list" = none) (hg : Gl X "list" := by rfl) (he : starEach [e] X.env = (false, eval e X.env) :: starEach [] X.env := by rfl) : E X (.Call (.Name "list" pn) [e] [] pos) ρ (.ml ds) ρ1 :=
  .of (pe_callTy call_list_of hg hm (by decide +kernel) (pa_cons pe_w pa_nil he) (he := he)) (ev_cbN h.o fun HF H x Q r s q => by
    cases (show Dp X.K HF x (.tuple ds) from r) with
    | tup h1 h2 => exact ⟨_, _, rfl, .inr (same_t s h1), fun l hl => q l (.lst _) hl h2⟩)
theorem e_sum {ns : List Int} (h : EO X e ρ (.list (ns.map .int)) ρ1 k) (hm : X.mg "sum" = none) (hg : Gl X "sum" := by rfl) (hc : X.calm = true := by rfl) (he : starEach [e] X.env = (false, eval e X.env) :: starEach [] X.env := by rfl) : E X (.Call (.Name "sum" pn) [e] [] pos) ρ (.d (.int ns.sum)) ρ1 :=
  .of (pe_callB (cr_sum hc) hg hm (by decide +kernel) (pa_cons pe_w pa_nil he) (he := he)) (ev_cb h fun HF H x Q r s q => by
    obtain ⟨p, ys, rfl, h1, h2⟩ := r
    have := ints_dpa h2
    subst this
    exact ⟨p, ns, rfl, h1, q _ (.int _)⟩)
theorem e_sorted {ns : List Int} (h : EO X e ρ (.list (ns.map .int)) ρ1 k) (hm : X.mg "sorted" = none) (hg : Gl X "sorted" := by rfl) (he : starEach [e] X.env = (false, eval e X.env) :: starEach [] X.env := by rfl) : E X (.Call (.Name "sorted" pn) [e] [] pos) ρ (.ml ((isort ns).map .int)) ρ1 :=
  .of (pe_callB cr_sortedI hg hm (by decide +kernel) (pa_cons pe_w pa_nil he) (he := he)) (ev_cbN h fun HF H x Q r s q => by
    obtain ⟨p, ys, rfl, h1, h2⟩ := r
    have := ints_dpa h2
    subst this
    refine ⟨p, ns, rfl, h1, fun ys l hp hs hl => ?_⟩
    rw [← isort_eq hp hs] at q
    exact q l (.lst _) hl (dpa_ints ys))
theorem e_abs (h : E X e ρ (.d (.int i)) ρ1) (hm : X.mg "abs" = none) (hg : Gl X "abs" := by rfl) (he : starEach [e] X.env = (false, eval e X.env) :: starEach [] X.env := by rfl) : E X (.Call (.Name "abs" pn) [e] [] pos) ρ (.d (.int (i.natAbs : Int))) ρ1 :=
  .of (pe_callB call_abs hg hm (by decide +kernel) (pa_cons pe_w pa_nil he) (he := he)) (ev_cb h.o fun HF H x Q r s q => by
    cases (show Dp X.K HF x (.int i) from r)
    exact ⟨i, rfl, by rw [show (if i < 0 then -i else i) = (i.natAbs : Int) by split <;> omega]; exact q _ (.int _)⟩)
theorem e_intI (h : E X e ρ (.d (.int i)) ρ1) (hm : X.mg "int" = none) (hg : Gl X "int" := by rfl) (he : starEach [e] X.env = (false, eval e X.env) :: starEach [] X.env := by rfl) : E X (.Call (.Name "int" pn) [e] [] pos) ρ (.d (.int i)) ρ1 :=
  .of (pe_callTy call_int1 hg hm (by decide +kernel) (pa_cons pe_w pa_nil he) (he := he)) (ev_cb h.o fun HF H x Q r s q => by
    cases (show Dp X.K HF x (.int i) from r)
    exact .inl ⟨i, rfl, q _ (.int _)⟩)
theorem e_intB {c : Bool} (h : E X e ρ (.d (.bool c)) ρ1) (hm : X.mg "int" = none) (hg : Gl X "int" := by rfl) (he : starEach [e] X.env = (false, eval e X.env) :: starEach [] X.env := by rfl) : E X (.Call (.Name "int" pn) [e] [] pos) ρ (.d (.int (if c then 1 else 0))) ρ1 :=
  .of (pe_callTy call_int1 hg hm (by decide +kernel) (pa_cons pe_w pa_nil he) (he := he)) (ev_cb h.o fun HF H x Q r s q => by
    cases (show Dp X.K HF x (.bool c) from r)
    exact .inr ⟨c, rfl, q _ (.int _)⟩)
def tyD : PyData → String
  | .none => "NoneType"
  | .bool _ => "bool"
  | .int _ => "int"
  | .str _ => "str"
  | .list _ => "list"
  | .tuple _ => "tuple"
  | .dict _ => "dict"
theorem tyX_of {K : PySem.W.Frag} {HF H : Hp} {x : V} (s : Same HF H) (r : ORel K HF H x v) : TyX K H x (.type (tyD v)) := by
  have hl : ∀ {p ys}, SqL K H p ys → TyX K H (.ref p) (.type "list") := fun {p ys} h => by
    rcases h with (h | ⟨o, h⟩) | ⟨o, _, _, h1, h2, _⟩
    · exact .base (.lst h)
    · exact .base (.frz h)
    · exact .kList h1 h2
  have ht : ∀ {p ys}, SqT K H p ys → TyX K H (.ref p) (.type "tuple") := fun {p ys} h => by
    rcases h with (h | ⟨o, h⟩) | ⟨o, _, _, h1, h2, _⟩
    · exact .base (.tup h)
    · exact .fTuple h
    · exact .kTuple h1 h2
  cases v with
  | list xs => obtain ⟨p, ys, rfl, h1, _⟩ := r; exact hl h1
  | none => cases (show Dp K HF x .none from r); exact .base .non
  | bool b => cases (show Dp K HF x (.bool b) from r); exact .base (.bl b)
  | int b => cases (show Dp K HF x (.int b) from r); exact .base (.int b)
  | str b => cases (show Dp K HF x (.str b) from r); exact .base (.str b)
  | tuple b => cases (show Dp K HF x (.tuple b) from r) with | tup h1 h2 => exact ht (same_t s h1)
  | dict b => cases (show Dp K HF x (.dict b) from r)
theorem e_isi {T : String} {tn : Str} {pt : Pos} (h : EO X e ρ v ρ1 k) (hk : kitB (tyD v) T = some b) (ht : bootBuiltins tn = some (.type T)) (hm : X.mg "isinstance" = none) (hmt : X.mg tn = none) (hg : Gl X "isinstance" := by rfl) (hgt : Gl X tn := by rfl) (hn : tn ≠ "__name__" := by decide) (hd : (tn == ("__debug__" : Str)) = false := by decide)
    (he : starEach [e, .Name tn pt] X.env = (false, eval e X.env) :: starEach [.Name tn pt] X.env := by rfl) (he2 : starEach [.Name tn pt] X.env = (false, eval (.Name tn pt) X.env) :: starEach [] X.env := by rfl) (hpl : (backTo pos (starEach [.Name tn pt] X.env)).any (·.1) = false := by rfl) : E X (.Call (.Name "isinstance" pn) [e, .Name tn pt] [] pos) ρ (.d (.bool b)) ρ1 :=
  .of (pe_callB call_isi hg hm (by decide +kernel) (pa_cons pe_w (pa_cons (pe_bltn (v := .ty T) hgt hmt ht rfl hn hd) pa_nil he2) he) (by decide) (by decide) he hpl) fun σ HF H S1 Q q => h σ HF H S1 _ fun x HF1 H1 S2 f1 r1 =>
    ⟨x, .ty T, _, _, b, rfl, .ty T, tyX_of S2.sub (r1 ρ1 HF1 H1 .refl S2 (.refl ..)), kit_ty hk, q _ HF1 H1 S2 f1 (.bl b)⟩
end
theorem op_catP {K : PySem.W.Frag} : True := trivial
/-- xs + ys of lists one has made oneself -/
def PlainL (X : Cx) (e : Expr) (ρ : Rho) (ds : List PyData) (ρ1 : Rho) (k : Option Nat) : Prop := ∀ σ HF H, Sl X.K ρ σ HF H → ∀ Q : VK,
  (∀ x HF' H', Sl X.K ρ1 σ HF' H' → Fw ρ ρ1 σ HF H HF' H' → (∀ ρ2 HF2 H2, Kp k ρ1 ρ2 → Sl X.K ρ2 σ HF2 H2 → Fw ρ1 ρ2 σ HF' H' HF2 H2 → ∃ p ys, x = .ref p ∧ H2 p = some (.lst ys) ∧ DpAll X.K HF2 ys ds) → Q x H') → wE X e σ H Q
theorem E.pl (h : E X e ρ (.ml ds) ρ1) : PlainL X e ρ ds ρ1 none := fun σ HF H S1 Q q => h σ HF H S1 Q fun x HF1 H1 S2 f1 r1 => by
  obtain ⟨p, o, rfl, h0, h1, h2, h3⟩ := r1
  refine q _ HF1 H1 S2 f1 fun ρ2 HF2 H2 _ S3 f2 => ?_
  cases o <;> first | exact h3.elim | skip
  exact ⟨p, _, rfl, f2.keep p _ h2 fun z => S1.notOwn h0 (f1.sh.own.mp z), dpa_mono f2.hf h3⟩
theorem pl_slot (i : Nat) (h : ρ[i]? = some (.ml ds)) (hN : X.N[i]? = some x := by rfl) (hv : Vis X.env.scope x := by first | exact Or.inl rfl | exact Or.inr (Or.inl rfl) | exact Or.inr (Or.inr rfl))
    (hd : (x == ("__debug__" : Str)) = false := by decide) (hcd : (x == ("__classdict__" : Str)) = false := by decide) : PlainL X (.Name x pos) ρ ds ρ (some i) := fun σ HF H S1 Q q => ⟨_, pe_var hN hv hd hcd, by
  obtain ⟨p, o, e, _⟩ := S1.ownAt h rfl
  refine ⟨.ref p, e, q _ HF H S1 (.refl ..) fun ρ2 HF2 H2 hk S2 f2 => ?_⟩
  obtain ⟨p2, o2, e2, h1, h2, h3⟩ := S2.ownAt ((show ρ2[i]? = ρ[i]? from hk).trans h) rfl
  rw [e] at e2
  cases e2
  cases o2 <;> first | exact h3.elim | skip
  exact ⟨p, _, rfl, h2, h3⟩⟩
theorem e_cat {es1 es2 : List PyData} {k1 k2 : Option Nat} (ha : PlainL X e1 ρ es1 ρ1 k1) (hb : PlainL X e2 ρ1 es2 ρ2 k2) (hz : es1.length + es2.length ≤ 100000) (hk : Kp k1 ρ1 ρ2 := by first | exact trivial | exact rfl) : E X (.BinOp e1 .Add e2 pos) ρ (.ml (es1 ++ es2)) ρ2 :=
  .of (pe_op op_cat pe_w pe_w) fun σ HF H S1 Q q => ha σ HF H S1 _ fun x HF1 H1 S2 f1 r1 => hb σ HF1 H1 S2 _ fun y HF2 H2 S3 f2 r2 => by
    obtain ⟨p, ys, rfl, g1, g2⟩ := r1 ρ2 HF2 H2 hk S3 f2
    obtain ⟨p', ys', rfl, g1', g2'⟩ := r2 ρ2 HF2 H2 .refl S3 (.refl ..)
    have l1 := dpa_len g2
    have l2 := dpa_len g2'
    refine ⟨p, p', ys, ys', rfl, rfl, g1, g1', Nat.le_trans (by omega) (show 100000 ≤ sizeLine by decide), fun r hr => ?_⟩
    obtain ⟨S4, f4⟩ := S3.allocO hr (.lst (ys ++ ys'))
    have f := f1.trans f2
    exact q _ _ _ S4 (f.trans f4) ⟨r, _, rfl, f.fresh hr, S3.hfNone hr, upd_same, dpa_app g2 g2'⟩
end
end Th

set_option Elab.async false
set_option linter.all false
set_option maxRecDepth 100000
namespace Th
open PySem PySem.Spec PyProof.Rows L2

theorem nl {B : Bs} {L : List Nat} {i : Nat} (hB : ∀ q ∈ B.L, q.1 ∈ L) (h : i ∉ L := by decide) : ∀ q ∈ B.L, q.1 ≠ i := fun q hq e => h (e ▸ hB q hq)
theorem Le.e {a b : A} {r r' : Rho} (h : a = b) (t : Le r r') : Le (a :: r) (b :: r') := h ▸ .eq t
theorem Le.dd {v w : PyData} {r r' : Rho} (h : v = w) (t : Le r r') : Le (.d v :: r) (.d w :: r') := h ▸ .eq t
theorem Le.ll {v w : List PyData} {r r' : Rho} (h : v = w) (t : Le r r') : Le (.ml v :: r) (.ml w :: r') := h ▸ .eq t
theorem Le.kk {v w : List (Key × PyData)} {r r' : Rho} (h : v = w) (t : Le r r') : Le (.mk v :: r) (.mk w :: r') := h ▸ .eq t
theorem Le.trans {a b c : Rho} (h : Le a b) (g : Le b c) : Le a c := by
  induction g generalizing a with
  | nil => exact h
  | eq g ih =>
    cases h with
    | eq h => exact .eq (ih h)
    | any h => exact .any (ih h)
  | any g ih =>
    cases h with
    | eq h => exact .any (ih h)
    | any h => exact .any (ih h)
section
variable {X : Cx} {B : Bs} {P : Pst} {ρ ρ1 ρ2 ρ3 : Rho} {tg iter e e1 e2 : Expr} {es : List Expr} {pos : Pos} {ds : List PyData} {t : TS}
theorem Ex.leP {K : PySem.W.Frag} {I I' : Rho → Prop} (h : Ex K B t ρ (bodyP P I)) (hi : ∀ ρ, I ρ → ∃ ρ', Le ρ ρ' ∧ I' ρ') : Ex K B t ρ (bodyP P I') := fun σ HF H S b D o => h σ HF H S b D
  ⟨fun ρ σ HF' H i S b s => by
    obtain ⟨ρ', l, i'⟩ := hi ρ i
    exact o.nx ρ' σ HF' H i' (S.le l) (b.le l) s, o.rt, o.bk, fun ρ σ HF' H i S b s => by
    obtain ⟨ρ', l, i'⟩ := hi ρ i
    exact o.ct ρ' σ HF' H i' (S.le l) (b.le l) s⟩
theorem Ex.toLe {K : PySem.W.Frag} (h : Ex K B t ρ1 P) (l : Le ρ ρ1) : Ex K B t ρ P := h.le l
/-- a for whose slots are told turn by turn -/
theorem s_forR {body : List Stmt} (hi : Src X tg iter ρ ds ρ1 none) (R : Nat → Rho) (h0 : Le ρ1 (R 0)) (hb : ∀ i v, ds[i]? = some v → ∃ ρ2, GT X B tg v (R i) ρ2 ∧ Ss X B body ρ2 (bodyP P fun ρ => Le ρ (R (i + 1)))) (hd : ∀ ρ', Le ρ' (R ds.length) → P.nx ρ')
    (hp : PassesOwn (model X.prog X.w) X.A X.env X.xe := by exact PassesOwn.never) (hc : X.calm = true := by rfl) (hs : ∀ x, foldedSetIterable iter X.env x = pure x := by intro _; rfl) : S X B (.For tg iter body [] pos) ρ P := by
  refine s_for hi (fun i ρ => Le ρ (R i)) h0 (fun i v ρ' hv hI => ?_) hd hp hc hs
  obtain ⟨ρ2, g, h⟩ := hb i v hv
  refine ⟨_, (show GT X B tg v ρ' ρ2 from fun x σ HF H S1 r Q q => g x σ HF H (S1.le hI) r Q fun σ' S' b' => q σ' S' fun b => b' (b.le hI)), h⟩
/-- a for that folds -/
theorem s_forF {body : List Stmt} {α T : Type} {xs : List α} (enc : α → PyData) (hi : Src X tg iter ρ (xs.map enc) ρ1 none) (t0 : T) (step : T → α → T) (emb : T → Rho) (J : T → Nat → Prop) (hJ : J t0 0) (h0 : Le ρ1 (emb t0))
    (hb : ∀ t (i : Nat) x, xs[i]? = some x → J t i → J (step t x) (i + 1) ∧ ∃ ρ2, GT X B tg (enc x) (emb t) ρ2 ∧ Ss X B body ρ2 (bodyP P fun ρ => Le ρ (emb (step t x)))) (hd : ∀ ρ', J (xs.foldl step t0) xs.length → Le ρ' (emb (xs.foldl step t0)) → P.nx ρ')
    (hp : PassesOwn (model X.prog X.w) X.A X.env X.xe := by exact PassesOwn.never) (hc : X.calm = true := by rfl) (hs : ∀ x, foldedSetIterable iter X.env x = pure x := by intro _; rfl) : S X B (.For tg iter body [] pos) ρ P := by
  have hJall : ∀ i, i ≤ xs.length → J ((xs.take i).foldl step t0) i := fun i => by
    induction i with
    | zero => intro _; exact hJ
    | succ i ih =>
      intro hi
      have e := List.getElem?_eq_getElem (show i < xs.length by omega)
      rw [List.take_add_one, e, List.foldl_append]
      exact (hb _ i _ e (ih (by omega))).1
  refine s_forR hi (fun i => emb ((xs.take i).foldl step t0)) h0 (fun i v hv => ?_) (fun ρ' l => ?_) hp hc hs
  · rw [List.getElem?_map] at hv
    cases q : xs[i]? with
    | none => rw [q] at hv; cases hv
    | some x =>
      rw [q] at hv
      cases hv
      have hlt := (List.getElem?_eq_some_iff.mp q).1
      obtain ⟨_, ρ2, g, h⟩ := hb _ i x q (hJall i (by omega))
      refine ⟨ρ2, g, ?_⟩
      have e2 : (xs.take (i + 1)).foldl step t0 = step ((xs.take i).foldl step t0) x := by rw [List.take_add_one, q, List.foldl_append]; rfl
      rw [e2]
      exact h
  · rw [List.length_map, List.take_length] at l
    exact hd ρ' (by have := hJall xs.length (Nat.le_refl _); rwa [List.take_length] at this) l
/-- a while by a state -/
theorem s_whileR {c : Expr} {body : List Stmt} {T : Type} (emb : T → Rho) (μ : T → Nat) (J : T → Prop) (t0 : T) (hJ : J t0) (h0 : Le ρ (emb t0)) (hs : ∀ t, J t → ∃ b ρ1, ET X c (emb t) b ρ1 ∧ (b = true → Ss X B body ρ1 (bodyP P fun ρ2 => ∃ t', J t' ∧ μ t' < μ t ∧ Le ρ2 (emb t'))) ∧ (b = false → ∀ ρ', Le ρ' ρ1 → P.nx ρ'))
    (hp : PassesOwn (model X.prog X.w) X.A X.env X.xe := by exact PassesOwn.never) : S X B (.While c body [] pos) ρ P := by
  refine s_while (fun m ρ => ∃ t, J t ∧ μ t = m ∧ ρ = emb t) (μ t0) ⟨t0, hJ, rfl, rfl⟩ ?_ hp |> fun h => Ex.toLe h h0
  rintro m ρ' ⟨t, hj, rfl, rfl⟩
  obtain ⟨b, ρ1, h1, h2, h3⟩ := hs t hj
  refine ⟨b, ρ1, h1, fun hb => (h2 hb).leP fun ρ ⟨t', j', m', l⟩ => ⟨emb t', l, μ t', m', t', j', rfl, rfl⟩, fun hb => h3 hb ρ1 (.refl _)⟩
end
theorem map_get {α β : Type} {f : α → β} {xs : List α} {i : Nat} {y : β} (h : (xs.map f)[i]? = some y) : ∃ x, xs[i]? = some x ∧ y = f x := by
  rw [List.getElem?_map] at h
  cases q : xs[i]? with
  | none => rw [q] at h; cases h
  | some x => rw [q] at h; exact ⟨x, rfl, (Option.some.inj h).symm⟩
theorem getD_of {xs : List Int} {i : Nat} (h : i < xs.length) : xs[i]? = some (xs.getD i 0) := by
  rw [List.getD_eq_getElem?_getD, List.getElem?_eq_getElem h]
  rfl
theorem ints_at {xs : List Int} {i : Nat} (h : i < xs.length) : (xs.map PyData.int)[i]? = some (.int (xs.getD i 0)) := by
  rw [List.getElem?_map, getD_of h]
  rfl
theorem ints_set (xs : List Int) (i : Nat) (v : Int) : (xs.map PyData.int).set i (.int v) = (xs.set i v).map PyData.int := by rw [List.map_set]

/-! dicts from ints -/
section
variable {α : Type} (f : α → PyData)
def getI (m : List (Int × α)) (k : Int) : Option α := (m.find? fun kv => decide (kv.1 = k)).map (·.2)
def setI (m : List (Int × α)) (k : Int) (v : α) : List (Int × α) := if (m.any fun kv => decide (kv.1 = k)) = true then m.map (fun kv => if kv.1 = k then (kv.1, v) else kv) else m ++ [(k, v)]
def delI (m : List (Int × α)) (k : Int) : List (Int × α) := m.filter fun kv => decide (kv.1 ≠ k)
def encD (m : List (Int × α)) : List (Key × PyData) := m.map fun p => (Sum.inl p.1, f p.2)
theorem getK_enc (m : List (Int × α)) (k : Int) : getK (encD f m) (Sum.inl k) = (getI m k).map f := by
  unfold getK getI encD
  induction m with
  | nil => rfl
  | cons p m ih =>
    rw [List.map_cons, List.find?_cons, List.find?_cons]
    by_cases e : p.1 = k
    · simp [e]
    · have h1 : decide ((Sum.inl p.1 : Key) = Sum.inl k) = false := by simp [e]
      have h2 : decide (p.1 = k) = false := by simp [e]
      simp only [h1, h2]
      exact ih
theorem any_enc (m : List (Int × α)) (k : Int) : ((encD f m).any fun kv => decide (kv.1 = (Sum.inl k : Key))) = (m.any fun kv => decide (kv.1 = k)) := by
  unfold encD
  induction m with
  | nil => rfl
  | cons p m ih =>
    rw [List.map_cons, List.any_cons, List.any_cons, ih]
    congr 1
    simp
theorem setK_enc (m : List (Int × α)) (k : Int) (v : α) : setK (encD f m) (Sum.inl k) (f v) = encD f (setI m k v) := by
  unfold setK setI
  rw [any_enc]
  split
  · unfold encD
    rw [List.map_map, List.map_map]
    apply List.map_congr_left
    intro p _
    simp only [Function.comp]
    by_cases e : p.1 = k
    · simp [e]
    · simp [e]
  · unfold encD
    rw [List.map_append]
    rfl
theorem delK_enc (m : List (Int × α)) (k : Int) : delK (encD f m) (Sum.inl k) = encD f (delI m k) := by
  unfold delK delI encD
  rw [List.filter_map]
  congr 1
  apply List.filter_congr
  intro p _
  simp
theorem keys_enc (m : List (Int × α)) : (encD f m).map (·.1) = (m.map (·.1)).map Sum.inl := by
  unfold encD
  rw [List.map_map, List.map_map]
  rfl
theorem len_enc (m : List (Int × α)) : (encD f m).length = m.length := by unfold encD; rw [List.length_map]
variable {f}
theorem setI_len (m : List (Int × α)) (k : Int) (v : α) : (setI m k v).length ≤ m.length + 1 := by
  unfold setI
  split
  · rw [List.length_map]; omega
  · rw [List.length_append]; simp
theorem getI_some {m : List (Int × α)} {k : Int} (h : k ∈ m.map (·.1)) : ∃ v, getI m k = some v := by
  unfold getI
  induction m with
  | nil => cases h
  | cons p m ih =>
    rw [List.find?_cons]
    by_cases e : p.1 = k
    · exact ⟨p.2, by simp [e]⟩
    · have h2 : decide (p.1 = k) = false := by simp [e]
      rw [h2]
      rw [List.map_cons, List.mem_cons] at h
      exact ih (h.resolve_left fun z => e z.symm)
theorem getI_mem {m : List (Int × α)} {k : Int} {v : α} (h : getI m k = some v) : (k, v) ∈ m := by
  unfold getI at h
  cases q : m.find? fun kv => decide (kv.1 = k) with
  | none => rw [q] at h; cases h
  | some p =>
    rw [q] at h
    have h1 := List.mem_of_find?_eq_some q
    have h2 := List.find?_some q
    simp at h2
    have h3 : p.2 = v := Option.some.inj h
    rw [← h2, ← h3]
    exact h1
end
/-- items by place -/
theorem atI_nat' {α : Type} {xs : List α} {i : Int} (h0 : 0 ≤ i) : atI xs i = xs[i.toNat]? := by
  unfold atI ixN
  rw [if_pos h0]
  by_cases h : i < xs.length
  · rw [if_pos h]; rfl
  · rw [if_neg h]
    exact (List.getElem?_eq_none (by omega)).symm
theorem ixN_nat {n : Nat} {i : Int} (h0 : 0 ≤ i) (h : i < n) : ixN n i = some i.toNat := by
  unfold ixN
  rw [if_pos h0, if_pos h]
theorem take_cut {α : Type} (xs : List α) (k : Nat) : cut xs none (some (k : Int)) = xs.take k := by
  unfold cut
  rw [HT.sIx_none, HT.sIx_nat]
  simp
theorem drop_cut {α : Type} (xs : List α) (k : Nat) : cut xs (some (k : Int)) none = xs.drop k := by
  unfold cut
  rw [HT.sIx_none, HT.sIx_nat]
  by_cases h : k ≤ xs.length
  · rw [Nat.min_eq_left h]
    exact List.take_of_length_le (by simp)
  · rw [Nat.min_eq_right (by omega)]
    simp
    omega
theorem cut_mid {α : Type} (xs : List α) (a b : Nat) : cut xs (some (a : Int)) (some (b : Int)) = (xs.take b).drop a := by
  unfold cut
  rw [HT.sIx_nat, HT.sIx_nat]
  apply List.ext_getElem?
  intro i
  rw [List.getElem?_drop, List.getElem?_take, List.getElem?_take, List.getElem?_drop]
  by_cases h : a ≤ xs.length
  · rw [Nat.min_eq_left h]
    by_cases h2 : b ≤ xs.length
    · rw [Nat.min_eq_left h2]
      by_cases h3 : i < b - a
      · rw [if_pos h3, if_pos (by omega)]
      · rw [if_neg h3, if_neg (by omega)]
    · rw [Nat.min_eq_right (show xs.length ≤ b by omega)]
      by_cases h3 : i < xs.length - a
      · rw [if_pos h3, if_pos (by omega)]
      · rw [if_neg h3]
        split
        · exact (List.getElem?_eq_none (by omega)).symm
        · rfl
  · rw [Nat.min_eq_right (show xs.length ≤ a by omega)]
    rw [List.getElem?_eq_none (show xs.length ≤ xs.length + i by omega), List.getElem?_eq_none (show xs.length ≤ a + i by omega)]
    split <;> split <;> rfl
end Th

set_option Elab.async false
set_option linter.all false
set_option maxRecDepth 100000
namespace Th
open PySem PySem.Spec PyProof.Rows L2

/-! data that can be compared -/
def Fit (n : Nat) (d : PyData) : Prop := d.canLay0 = true ∧ d.depth ≤ n
theorem Fit.shaped {n : Nat} {d : PyData} (h : Fit n d) (hn : n ≤ 64 := by decide) : SeqAt.shaped d = true := by
  unfold SeqAt.shaped
  rw [h.1, decide_eq_true (Nat.le_trans h.2 hn)]
  rfl
theorem fit_int {n : Nat} (i : Int) : Fit n (.int i) := ⟨rfl, Nat.zero_le _⟩
theorem fit_bool {n : Nat} (i : Bool) : Fit n (.bool i) := ⟨rfl, Nat.zero_le _⟩
theorem fit_none {n : Nat} : Fit n .none := ⟨rfl, Nat.zero_le _⟩
theorem fit_str {n : Nat} {x : Str} (h : PyData.strOk x = true) : Fit n (.str x) := ⟨h, Nat.zero_le _⟩
theorem fitAll {n : Nat} : ∀ {xs : List PyData}, (∀ x ∈ xs, Fit n x) → PyData.canLayAll0 xs = true ∧ PyData.depthAll xs ≤ n
  | [], _ => ⟨rfl, Nat.zero_le _⟩
  | x :: xs, h => by
    have h1 := h x List.mem_cons_self
    have h2 := fitAll (xs := xs) fun y hy => h y (List.mem_cons_of_mem _ hy)
    refine ⟨?_, ?_⟩
    · unfold PyData.canLayAll0
      rw [h1.1, h2.1]
      rfl
    · unfold PyData.depthAll
      exact Nat.max_le.mpr ⟨h1.2, h2.2⟩
theorem fit_list {n : Nat} {xs : List PyData} (h : ∀ x ∈ xs, Fit n x) : Fit (n + 1) (.list xs) := by
  have := fitAll h
  refine ⟨?_, ?_⟩
  · unfold PyData.canLay0; exact this.1
  · unfold PyData.depth; omega
theorem fit_tuple {n : Nat} {xs : List PyData} (h : ∀ x ∈ xs, Fit n x) : Fit (n + 1) (.tuple xs) := by
  have := fitAll h
  refine ⟨?_, ?_⟩
  · unfold PyData.canLay0; exact this.1
  · unfold PyData.depth; omega
theorem fit_mono {n m : Nat} {d : PyData} (h : Fit n d) (hm : n ≤ m) : Fit m d := ⟨h.1, Nat.le_trans h.2 hm⟩
theorem fit_lm {n : Nat} {α : Type} {f : α → PyData} {xs : List α} (h : ∀ x ∈ xs, Fit n (f x)) : Fit (n + 1) (.list (xs.map f)) := fit_list fun y hy => by
  obtain ⟨x, hx, rfl⟩ := List.mem_map.mp hy
  exact h x hx
theorem fit_tm {n : Nat} {α : Type} {f : α → PyData} {xs : List α} (h : ∀ x ∈ xs, Fit n (f x)) : Fit (n + 1) (.tuple (xs.map f)) := fit_tuple fun y hy => by
  obtain ⟨x, hx, rfl⟩ := List.mem_map.mp hy
  exact h x hx
theorem fit_t2 {n : Nat} {a b : PyData} (h1 : Fit n a) (h2 : Fit n b) : Fit (n + 1) (.tuple [a, b]) := fit_tuple fun y hy => by
  rcases List.mem_cons.mp hy with rfl | hy
  · exact h1
  · rcases List.mem_cons.mp hy with rfl | hy
    · exact h2
    · cases hy
/-- == tells the same as = -/
def EqE {α : Type} [DecidableEq α] (f : α → PyData) : Prop := ∀ a b, PyData.eqv (f a) (f b) = decide (a = b)
theorem eqE_int : EqE PyData.int := fun a b => by
  unfold PyData.eqv
  by_cases h : a = b <;> simp [h]
theorem eqE_str : EqE PyData.str := fun a b => by
  unfold PyData.eqv
  by_cases h : a = b <;> simp [h]
theorem eqE_all {α : Type} [DecidableEq α] {f : α → PyData} (h : EqE f) : ∀ xs ys : List α, PyData.eqvAll (xs.map f) (ys.map f) = decide (xs = ys)
  | [], [] => rfl
  | [], _ :: _ => rfl
  | _ :: _, [] => rfl
  | x :: xs, y :: ys => by
    rw [List.map_cons, List.map_cons]
    unfold PyData.eqvAll
    rw [h x y, eqE_all h xs ys]
    by_cases e : x = y <;> by_cases e2 : xs = ys <;> simp [e, e2]
theorem eqE_list {α : Type} [DecidableEq α] {f : α → PyData} (h : EqE f) : EqE fun xs : List α => PyData.list (xs.map f) := fun xs ys => by
  show PyData.eqv (.list _) (.list _) = _
  unfold PyData.eqv
  exact eqE_all h xs ys
theorem eqE_tuple {α : Type} [DecidableEq α] {f : α → PyData} (h : EqE f) : EqE fun xs : List α => PyData.tuple (xs.map f) := fun xs ys => by
  show PyData.eqv (.tuple _) (.tuple _) = _
  unfold PyData.eqv
  exact eqE_all h xs ys
theorem eqE_pair {α β : Type} [DecidableEq α] [DecidableEq β] {f : α → PyData} {g : β → PyData} (h1 : EqE f) (h2 : EqE g) : EqE fun p : α × β => PyData.tuple [f p.1, g p.2] := fun p q => by
  obtain ⟨a, b⟩ := p
  obtain ⟨c, d⟩ := q
  show PyData.eqv (.tuple _) (.tuple _) = _
  unfold PyData.eqv PyData.eqvAll PyData.eqvAll PyData.eqvAll
  simp only [h1 a c, h2 b d]
  by_cases e : a = c <;> by_cases e2 : b = d <;> simp [e, e2]
theorem eqE_triple {α β γ : Type} [DecidableEq α] [DecidableEq β] [DecidableEq γ] {f : α → PyData} {g : β → PyData} {k : γ → PyData} (h1 : EqE f) (h2 : EqE g) (h3 : EqE k) : EqE fun p : α × β × γ => PyData.tuple [f p.1, g p.2.1, k p.2.2] := fun p q => by
  obtain ⟨a, b, x⟩ := p
  obtain ⟨c, d, y⟩ := q
  show PyData.eqv (.tuple _) (.tuple _) = _
  unfold PyData.eqv PyData.eqvAll PyData.eqvAll PyData.eqvAll PyData.eqvAll
  simp only [h1 a c, h2 b d, h3 x y]
  by_cases e : a = c <;> by_cases e2 : b = d <;> by_cases e3 : x = y <;> simp [e, e2, e3]

/-! items of written lists -/
theorem at_ints {xs : List Int} {i : Int} (h0 : 0 ≤ i) (h : i < xs.length) : atI (xs.map PyData.int) i = some (.int (xs.getD i.toNat 0)) := by
  rw [atI_nat' h0]
  exact ints_at (by omega)
theorem at_i2 {a b i : Int} (h0 : 0 ≤ i) (h : i < 2) : atI [PyData.int a, .int b] i = some (.int ([a, b].getD i.toNat 0)) := at_ints (xs := [a, b]) h0 h
theorem at_i3 {a b c i : Int} (h0 : 0 ≤ i) (h : i < 3) : atI [PyData.int a, .int b, .int c] i = some (.int ([a, b, c].getD i.toNat 0)) := at_ints (xs := [a, b, c]) h0 h
theorem at_i4 {a b c d i : Int} (h0 : 0 ≤ i) (h : i < 4) : atI [PyData.int a, .int b, .int c, .int d] i = some (.int ([a, b, c, d].getD i.toNat 0)) := at_ints (xs := [a, b, c, d]) h0 h
theorem at_get {xs : List PyData} {i : Int} {v : PyData} (h0 : 0 ≤ i) (h : xs[i.toNat]? = some v) : atI xs i = some v := (atI_nat' h0).trans h
theorem emod_lo {a b : Int} (h : 0 < b := by decide) : 0 ≤ a % b := Int.emod_nonneg _ (by omega)
theorem emod_hi {a b : Int} (h : 0 < b := by decide) : a % b < b := Int.emod_lt_of_pos _ h

/-! isinstance -/
inductive Ty where
  | bool | int | str | list | tuple | dict
def Ty.nm : Ty → String
  | .bool => "bool"
  | .int => "int"
  | .str => "str"
  | .list => "list"
  | .tuple => "tuple"
  | .dict => "dict"
def isi : PyData → Ty → Bool
  | .bool _, .bool => true
  | .bool _, .int => true
  | .int _, .int => true
  | .str _, .str => true
  | .list _, .list => true
  | .tuple _, .tuple => true
  | .dict _, .dict => true
  | _, _ => false
theorem kit_isi (v : PyData) (T : Ty) : kitB (tyD v) T.nm = some (isi v T) := by
  have h : ∀ s ∈ ["NoneType", "bool", "int", "str", "list", "tuple", "dict"], ∀ t ∈ ["bool", "int", "str", "list", "tuple", "dict"], kitB s t = some (s == t || (s == "bool" && t == "int")) := by decide +kernel
  have hv : tyD v ∈ ["NoneType", "bool", "int", "str", "list", "tuple", "dict"] := by cases v <;> simp [tyD]
  have hT : T.nm ∈ ["bool", "int", "str", "list", "tuple", "dict"] := by cases T <;> simp [Ty.nm]
  rw [h _ hv _ hT]
  cases v <;> cases T <;> rfl
theorem boot_ty (T : Ty) : bootBuiltins (Str.ofString T.nm) = some (.type T.nm) := by
  cases T <;> decide +kernel
/-! slots that hold no own object -/
def noOwn (ρ : Rho) (vs : List Nat) : Bool := vs.all fun i => match ρ[i]? with
  | some a => !a.own
  | none => true
theorem no_own {ρ : Rho} {vs : List Nat} (h : noOwn ρ vs = true) : ∀ (j : Nat) (a : A), j ∈ vs → ρ[j]? = some a → a.own = false := fun j a hj e => by
  unfold noOwn at h
  have := List.all_eq_true.mp h j hj
  rw [e] at this
  simpa using this
section
variable {X : Cx} {B : Bs} {P : Pst} {ρ ρ1 ρ2 ρ3 : Rho} {tg iter e e1 e2 : Expr} {es : List Expr} {pos : Pos} {ds : List PyData} {k : Option Nat} {i j : Int}
theorem e_mulS (ha : E X e1 ρ (.d (.int i)) ρ1) (hb : E X e2 ρ1 (.d (.int j)) ρ2) (hc : CMul i j) : E X (.BinOp e1 .Mult e2 pos) ρ (.d (.int (i * j))) ρ2 := .of (pe_op op_mul pe_w pe_w) (ev_op ha hb (rv_I hc fun _ => .int _))
theorem e_is (T : Ty) {v : PyData} {pt pn : Pos} (h : EO X e ρ v ρ1 k) (hm : X.mg "isinstance" = none) (hmt : X.mg (Str.ofString T.nm) = none) (hg : Gl X "isinstance" := by rfl) (hgt : Gl X (Str.ofString T.nm) := by rfl) (hn : (Str.ofString T.nm) ≠ "__name__" := by decide) (hd : ((Str.ofString T.nm) == ("__debug__" : Str)) = false := by decide)
    (he : starEach [e, .Name (Str.ofString T.nm) pt] X.env = (false, eval e X.env) :: starEach [.Name (Str.ofString T.nm) pt] X.env := by rfl) (he2 : starEach [.Name (Str.ofString T.nm) pt] X.env = (false, eval (.Name (Str.ofString T.nm) pt) X.env) :: starEach [] X.env := by rfl) (hpl : (backTo pos (starEach [.Name (Str.ofString T.nm) pt] X.env)).any (·.1) = false := by rfl) : E X (.Call (.Name "isinstance" pn) [e, .Name (Str.ofString T.nm) pt] [] pos) ρ (.d (.bool (isi v T))) ρ1 :=
  e_isi (T := T.nm) h (kit_isi v T) (boot_ty T) hm hmt hg hgt hn hd he he2 hpl
/-- a comprehension over typed items -/
theorem e_lcF {α : Type} {xs : List α} {scope : Scope} (own : List (Str × Nat)) {elt : Expr} {ifs : List Expr} (enc : α → PyData) (p : α → Bool) (g : α → PyData)
    (ht : Src X tg iter ρ (xs.map enc) ρ1 k) (hN : X.N.Nodup) (hz : xs.length < 100000)
    (hb : ∀ (i : Nat) (x : α), xs[i]? = some x → ∃ ρ2 : Rho, (∀ (s : Shared) (H : Hp) (C : Addr) (cl : List (Str × Addr)) (fp : List Addr), GC (X.blk s H scope (compEnvC scope cl C X.env) fp) (own.map (·.2)) tg (enc x) (wipeR ρ1 (own.map (·.2))) ρ2) ∧
      (∀ (s : Shared) (H : Hp) (C : Addr) (cl : List (Str × Addr)) (fp : List Addr), EI (X.blk s H scope (compEnvC scope cl C X.env) fp) ifs ρ2 (p x) ρ2) ∧
      (p x = true → ∀ (s : Shared) (H : Hp) (C : Addr) (cl : List (Str × Addr)) (fp : List Addr), E (X.blk s H scope (compEnvC scope cl C X.env) fp) elt ρ2 (.d (g x)) ρ2) ∧ wipeR ρ2 (own.map (·.2)) = wipeR ρ1 (own.map (·.2)))
    (hv : noOwn ρ1 (own.map (·.2)) = true) (hkk : ∀ j, k = some j → j ∉ own.map (·.2)) (ok : BlkOk X.N X.env.scope scope own)
    (hc : X.calm = true := by rfl) (hs : ∀ x, foldedSetIterable iter X.env x = pure x := by intro _; rfl) : E X (.ListComp elt [⟨tg, iter, ifs, 0⟩] scope pos) ρ (.ml ((xs.filter p).map g)) ρ1 := by
  refine ev_lc (out := (xs.filter p).map g) (D0 := []) ht ok hN (fun i ρ' acc => ρ' = wipeR ρ1 (own.map (·.2)) ∧ acc = ((xs.take i).filter p).map g) ⟨rfl, rfl⟩ (fun i ρ' acc ⟨e, _⟩ => ⟨?_, hkk⟩) (fun i v ρ' acc hi ⟨e1, e2⟩ => ?_) (fun ρ' acc ⟨e1, e2⟩ => ?_) (by rw [List.length_map]; exact Nat.lt_of_lt_of_le hz (by decide)) (fun i ρ' acc ⟨_, e⟩ => ?_) hc hs
  · subst e
    cases k with
    | none => trivial
    | some j => exact wipeR_off (hkk j rfl)
  · subst e1
    obtain ⟨x, hx, rfl⟩ := map_get hi
    obtain ⟨ρ2, h1, h2, h3, h4⟩ := hb i x hx
    have tk : xs.take (i + 1) = xs.take i ++ [x] := by rw [List.take_add_one, hx]; rfl
    refine ⟨ρ2, p x, ρ2, h1, h2, fun z => ⟨g x, ρ2, h3 z, h4, ?_⟩, fun z => ⟨h4, ?_⟩⟩
    · rw [e2, tk, List.filter_append, List.map_append]
      simp [z]
    · rw [e2, tk, List.filter_append, List.map_append]
      simp [z]
  · subst e1
    rw [List.length_map, List.take_length] at e2
    exact ⟨e2, unw_id (no_own hv)⟩
  · rw [e, List.length_map]
    refine Nat.le_trans (List.length_filter_le _ _) ?_
    rw [List.length_take]
    exact Nat.min_le_left _ _
/-- .. without a test -/
theorem e_lcM {α : Type} {xs : List α} {scope : Scope} (own : List (Str × Nat)) {elt : Expr} (enc : α → PyData) (g : α → PyData)
    (ht : Src X tg iter ρ (xs.map enc) ρ1 k) (hN : X.N.Nodup) (hz : xs.length < 100000)
    (hb : ∀ (i : Nat) (x : α), xs[i]? = some x → ∃ ρ2 : Rho, (∀ (s : Shared) (H : Hp) (C : Addr) (cl : List (Str × Addr)) (fp : List Addr), GC (X.blk s H scope (compEnvC scope cl C X.env) fp) (own.map (·.2)) tg (enc x) (wipeR ρ1 (own.map (·.2))) ρ2) ∧
      (∀ (s : Shared) (H : Hp) (C : Addr) (cl : List (Str × Addr)) (fp : List Addr), E (X.blk s H scope (compEnvC scope cl C X.env) fp) elt ρ2 (.d (g x)) ρ2) ∧ wipeR ρ2 (own.map (·.2)) = wipeR ρ1 (own.map (·.2)))
    (hv : noOwn ρ1 (own.map (·.2)) = true) (hkk : ∀ j, k = some j → j ∉ own.map (·.2)) (ok : BlkOk X.N X.env.scope scope own)
    (hc : X.calm = true := by rfl) (hs : ∀ x, foldedSetIterable iter X.env x = pure x := by intro _; rfl) : E X (.ListComp elt [⟨tg, iter, [], 0⟩] scope pos) ρ (.ml (xs.map g)) ρ1 := by
  have h := e_lcF (pos := pos) (elt := elt) (ifs := []) own enc (fun _ => true) g ht hN hz (fun i x hx => by
    obtain ⟨ρ2, h1, h2, h3⟩ := hb i x hx
    exact ⟨ρ2, h1, fun s H C cl fp => i_nil, fun _ => h2, h3⟩) hv hkk ok hc hs
  rwa [List.filter_eq_self.mpr fun _ _ => rfl] at h
theorem gcn {vs : List Nat} (i : Nat) {x : Str} {v : PyData} (hv : noOwn ρ vs = true) (hm : i ∈ vs) (hN : X.N.Nodup) (hi : X.N[i]? = some x := by rfl) (hx : Loc X.env.scope x := by first | exact Or.inl rfl | exact Or.inr rfl) (hf : X.fn x = true ∨ X.env.scope.names.lookup x = some .local := by first | exact .inl rfl | exact .inr rfl) :
    GC X vs (.Name x pos) v ρ (ρ.set i (.d v)) := gc_name i (fun a h => no_own hv i a hm h) (no_own hv) hm hN hi hx hf
theorem gcsn {vs : List Nat} (hv : noOwn ρ vs = true) : GCs X vs [] [] ρ ρ := gcs_nil (no_own hv)
end
end Th

set_option Elab.async false
set_option linter.all false
set_option maxRecDepth 100000
namespace Th
open PySem PySem.Spec PyProof.Rows L2

theorem own_map {ds : List PyData} : ∀ a ∈ ds.map A.d, a.own = false := fun a h => by
  obtain ⟨d, _, rfl⟩ := List.mem_map.mp h
  rfl
theorem pr_pure {r : A} {ds : List PyData} {ρ : Rho} : PR r (ds.map A.d) r ρ := pr_data own_map
theorem pr_is {r a : A} {ds : List PyData} {ρ : Rho} (h : a = r) : PR r (ds.map A.d) a ρ := h ▸ pr_pure
section
variable {P : Program} {w : World} {K : PySem.W.Frag} {mg : Str → Option Value} {base : Heap}
/-- a def that takes data and changes nothing -/
theorem fn_pure {x qual : Str} {st : Stmt} {f : Addr} {fd : FuncData} {N ps : List Str} {k : Nat} {F : List PyData → A → Prop} (G : Fun K x qual st f fd) (S0 : FnScope N ps (defScope st)) (hn : ps.length ≤ N.length) (hF : ∀ ds r, F ds r → ds.length = ps.length)
    (hbody : ∀ (cdv : Value) (A1 : Around) (outer : List Env) (s : Shared) (H : Hp) (W : XK) (B : Bs) (ds : List PyData) (r : A), Room k (A1.deeper (envOfC qual (defScope st) s.heap.objs.size f cdv)) → F ds r → (∀ q ∈ B.L, q.1 ∈ ([] : List Nat)) →
      Ss (cxOf CX0 P w K mg base N qual (defScope st) f cdv A1 outer s H W).nox B (defBody st) (ds.map A.d ++ List.replicate (N.length - ps.length) .any) (PF r (ds.map A.d))) : FnOk P w K mg base CX0 (k + 1) f fd ps (spA K (pure_ F)) :=
  fn_ok G S0 (fun as r as' ⟨ds, e, _, h⟩ => by rw [e, List.length_map]; exact hF ds r h) hn [] (fun as r as' ⟨ds, e, _, h⟩ i a e2 o => by
    rw [e] at e2
    have := own_map a (List.mem_of_getElem? e2)
    rw [o] at this
    cases this) fun cdv A1 outer s H W B as r as' hr ⟨ds, e1, e2, h⟩ hB => by
    subst e1
    subst e2
    exact hbody cdv A1 outer s H W B ds r hr h hB
end
section
variable {X : Cx} {B : Bs} {P : Pst} {ρ ρ1 ρ2 ρ3 : Rho} {tg iter e e1 e2 : Expr} {es : List Expr} {pos : Pos} {ds es1 es2 : List PyData} {k : Option Nat} {i j : Int} {b : Bool} {v w : PyData}
theorem toA_dat (ρ : Rho) : ∀ ds : List PyData, (ds.map Arg.dat).map (toA ρ) = ds.map A.d
  | [] => rfl
  | d :: ds => congrArg (A.d d :: ·) (toA_dat ρ ds)
theorem back_dat (ρ : Rho) : ∀ ds : List PyData, back (ds.map Arg.dat) (ds.map A.d) ρ = ρ
  | [] => by simp [back]
  | d :: ds => back_dat ρ ds
theorem lents_dat : ∀ ds : List PyData, lents (ds.map Arg.dat) = []
  | [] => rfl
  | d :: ds => lents_dat ds
theorem e_callP {F : List PyData → A → Prop} {n : Nat} {f : Addr} {fd : FuncData} {ps : List Str} {x : Str} {p : Pos} {r : A} (G : FnOk X.prog X.w X.K X.mg X.base CX0 n f fd ps (spA X.K (pure_ F))) (hr : Room n X.A) (hm : X.mg x = some (.ref f)) (hk : PySem.W.keepIn X.K (.ref f) = true) (hb : Binds X.K fd ps [])
    (ha : ED X (e :: es) ρ ds ρ1) (hF : F ds r) (hg : Gl X x := by rfl) (hdb : (x == ("__debug__" : Str)) = false := by decide) (he : starEach (e :: es) X.env = (false, eval e X.env) :: starEach es X.env := by rfl) (hpl : (backTo pos (starEach es X.env)).any (·.1) = false := by rfl) :
    E X (.Call (.Name x p) (e :: es) [] pos) ρ r ρ1 := by
  have h := e_call (r := r) (as' := ds.map A.d) (pos := pos) (p := p) G hr hm hk hb ha.args ⟨ds, toA_dat _ ds, (toA_dat _ ds).symm, hF⟩ (by rw [toA_dat]; exact .refl _) (by rw [lents_dat]; exact List.nodup_nil) (fun _ _ z => z.elim) hg hdb he hpl
  rwa [back_dat] at h
/-- an if whose ways meet -/
theorem s_ifR (ρm : Rho) {c : Expr} {s1 s2 : List Stmt} (hc : ET X c ρ b ρ1) (h1 : b = true → Ss X B s1 ρ1 ⟨fun ρ' => Le ρ' ρm, P.rt, P.bk, P.ct⟩) (h2 : b = false → Ss X B s2 ρ1 ⟨fun ρ' => Le ρ' ρm, P.rt, P.bk, P.ct⟩) (hd : ∀ ρ', Le ρ' ρm → P.nx ρ') : S X B (.If c s1 s2 pos) ρ P := by
  have key : ∀ {s : List Stmt}, Ss X B s ρ1 ⟨fun ρ' => Le ρ' ρm, P.rt, P.bk, P.ct⟩ → Ss X B s ρ1 P := fun h σ HF H S1 bn D o => h σ HF H S1 bn D ⟨fun ρ' σ' HF' H' l S' b' s => o.nx ρ' σ' HF' H' (hd ρ' l) S' b' s, o.rt, o.bk, o.ct⟩
  exact s_if hc (fun h => key (h1 h)) fun h => key (h2 h)
/-- the same for a block: what follows is read once -/
theorem E.toA (h : E X e ρ (.ml ds) ρ1) (q : ds = es1) : E X e ρ (.ml es1) ρ1 := q ▸ h
theorem e_min2 {pn : Pos} (ha : ED X [e1, e2] ρ [.int i, .int j] ρ1) (hm : X.mg "min" = none) (hg : Gl X "min" := by rfl) (hc : X.calm = true := by rfl) (he : starEach [e1, e2] X.env = (false, eval e1 X.env) :: starEach [e2] X.env := by rfl) (hpl : (backTo pos (starEach [e2] X.env)).any (·.1) = false := by rfl) :
    E X (.Call (.Name "min" pn) [e1, e2] [] pos) ρ (.d (.int (min i j))) ρ1 := .of (pe_callB (call_min2 hc) hg hm (by decide +kernel) pa_w (by decide) (by decide) he hpl) fun σ HF H S1 Q q => ha σ HF H S1 _ fun xs HF1 H1 S2 f1 r1 => by
  cases r1 with
  | cons r1 r2 =>
    cases r2 with
    | cons r2 r3 =>
      cases r3; cases r1; cases r2
      exact ⟨i, j, rfl, by rw [show (if j < i then j else i) = min i j by split <;> omega]; exact q _ HF1 H1 S2 f1 (.int _)⟩
theorem e_max2 {pn : Pos} (ha : ED X [e1, e2] ρ [.int i, .int j] ρ1) (hm : X.mg "max" = none) (hg : Gl X "max" := by rfl) (hc : X.calm = true := by rfl) (he : starEach [e1, e2] X.env = (false, eval e1 X.env) :: starEach [e2] X.env := by rfl) (hpl : (backTo pos (starEach [e2] X.env)).any (·.1) = false := by rfl) :
    E X (.Call (.Name "max" pn) [e1, e2] [] pos) ρ (.d (.int (max i j))) ρ1 := .of (pe_callB (call_max2 hc) hg hm (by decide +kernel) pa_w (by decide) (by decide) he hpl) fun σ HF H S1 Q q => ha σ HF H S1 _ fun xs HF1 H1 S2 f1 r1 => by
  cases r1 with
  | cons r1 r2 =>
    cases r2 with
    | cons r2 r3 =>
      cases r3; cases r1; cases r2
      exact ⟨i, j, rfl, by rw [show (if j > i then j else i) = max i j by split <;> omega]; exact q _ HF1 H1 S2 f1 (.int _)⟩
theorem e_modN (ha : E X e1 ρ (.d (.int i)) ρ1) (hb : E X e2 ρ1 (.d (.int j)) ρ2) (hc : j ≠ 0) : E X (.BinOp e1 .Mod e2 pos) ρ (.d (.int (i.fmod j))) ρ2 := .of (pe_op op_modN pe_w pe_w) (ev_op ha hb (rv_I (C := fun _ j => j ≠ 0) hc fun _ => .int _))
theorem e_divN (ha : E X e1 ρ (.d (.int i)) ρ1) (hb : E X e2 ρ1 (.d (.int j)) ρ2) (hc : CDivN i j) : E X (.BinOp e1 .FloorDiv e2 pos) ρ (.d (.int (i.fdiv j))) ρ2 := .of (pe_op op_fdivN pe_w pe_w) (ev_op ha hb (rv_I hc fun _ => .int _))
/-- t + u of tuples -/
theorem e_catT (ha : E X e1 ρ (.d (.tuple es1)) ρ1) (hb : E X e2 ρ1 (.d (.tuple es2)) ρ2) (hz : es1.length + es2.length ≤ 100000) : E X (.BinOp e1 .Add e2 pos) ρ (.d (.tuple (es1 ++ es2))) ρ2 :=
  .of (pe_op op_catA pe_w pe_w) fun σ HF H S1 Q q => ha σ HF H S1 _ fun x HF1 H1 S2 f1 r1 => hb σ HF1 H1 S2 _ fun y HF2 H2 S3 f2 r2 => by
    have r1' := dp_mono f2.hf r1
    have f := f1.trans f2
    cases r1' with
    | @tup a xs _ h1 h2 =>
      cases r2 with
      | @tup b ys _ g1 g2 =>
        have l1 := dpa_len h2
        have l2 := dpa_len g2
        refine ⟨a, b, xs, ys, rfl, rfl, same_t S3.sub h1, same_t S3.sub g1, Nat.le_trans (by omega) (show 100000 ≤ sizeLine by decide), fun e => ?_, fun _ e => ?_, fun _ _ p hp => ?_⟩
        · subst e
          cases h2
          exact q _ HF2 H2 S3 f (.tup g1 g2)
        · subst e
          cases g2
          rw [List.append_nil] at q
          exact q _ HF2 H2 S3 f (.tup h1 h2)
        · obtain ⟨S4, f4⟩ := S3.allocD hp (.tup (xs ++ ys))
          exact q _ _ _ S4 (f.trans f4) (.tup (.inl (.inl upd_same)) (dpa_mono f4.hf (dpa_app h2 g2)))
end
/-- the script -/
theorem law_in {K : PySem.W.Frag} {F : List PyData → A → Prop} {H : Hp} {a : Addr} {ms : List Int} (hF : ∃ ns : List Int, ns.length ≤ 63 ∧ ms = ns ∧ [PyData.list (ms.map .int)] = [PyData.list (ns.map .int)] ∧ (A.d (.bool true)) = .d (.bool true)) (hS : SqL K H a (ms.map V.int)) {E : XK}
    (hf : F [.list (ms.map .int)] (.d (.bool true)) := by assumption) : spA K (pure_ F) [.ref a] H (fun v _ => v = .bl true) E := by
  refine ⟨H, [.d (.list (ms.map .int))], .d (.bool true), [.d (.list (ms.map .int))], ⟨rfl, .refl _, fun i a h => ?_, fun i j a b p h1 h2 o1 o2 e1 e2 => ?_⟩, ⟨_, rfl, rfl, hf⟩, .refl _, fun x HF' H' _ _ r => ?_⟩
  · have hi : i = 0 := by
      have := (List.getElem?_eq_some_iff.mp h).1
      simp at this
      exact this
    subst hi
    cases h
    exact ⟨_, rfl, _, rfl, .lst hS (dpa_ints ms)⟩
  · have := List.mem_of_getElem? h1
    rw [List.mem_singleton] at this
    subst this
    cases o1
  · cases (show Dp K HF' x (.bool true) from r)
    rfl
/-- every law: a script of at most 63 ints, and True -/
def lawF : List PyData → A → Prop := fun ds r => ∃ ns : List Int, ns.length ≤ 63 ∧ ds = [.list (ns.map .int)] ∧ r = .d (.bool true)
theorem law_go {K : PySem.W.Frag} {H : Hp} {a : Addr} {ns : List Int} (hl : ns.length ≤ 63) (hS : SqL K H a (ns.map V.int)) {E : XK} : spA K (pure_ lawF) [.ref a] H (fun v _ => v = .bl true) E :=
  law_in ⟨ns, hl, rfl, rfl, rfl⟩ hS ⟨ns, hl, rfl, rfl⟩
end Th

set_option Elab.async false
set_option linter.all false
set_option maxRecDepth 100000
namespace Th
open PySem PySem.Spec PyProof.Rows L2

/-! own lists handed over to be read -/
mutual
def noL : PyData → Bool
  | .list _ => false
  | .tuple xs => noLs xs
  | .dict _ => false
  | _ => true
def noLs : List PyData → Bool
  | [] => true
  | x :: xs => noL x && noLs xs
end
def noA : A → Bool
  | .d v => noL v
  | .ml xs => noLs xs
  | .tw l => l.all fun z => match z with | .inl zs => noLs zs | .inr v => noL v
  | _ => false
section
variable {K : PySem.W.Frag} {HF HF2 : Hp}
mutual
theorem dp_noL (h : ∀ b o, HF b = some o → (∀ ys, o ≠ .lst ys) → HF2 b = some o) : ∀ {v : V} {d : PyData}, noL d = true → Dp K HF v d → Dp K HF2 v d
  | _, _, _, .non => .non
  | _, _, _, .bl b => .bl b
  | _, _, _, .int i => .int i
  | _, _, _, .str x => .str x
  | _, _, e, .lst _ _ => by cases e
  | _, _, e, .tup a b => by
    refine .tup ?_ (dpa_noL h (by unfold noL at e; exact e) b)
    rcases a with (a | ⟨o, a⟩) | a
    · exact .inl (.inl (h _ _ a fun _ z => nomatch z))
    · exact .inl (.inr ⟨o, h _ _ a fun _ z => nomatch z⟩)
    · exact .inr a
theorem dpa_noL (h : ∀ b o, HF b = some o → (∀ ys, o ≠ .lst ys) → HF2 b = some o) : ∀ {vs : List V} {ds : List PyData}, noLs ds = true → DpAll K HF vs ds → DpAll K HF2 vs ds
  | _, _, _, .nil => .nil
  | _, _, e, .cons a b => by
    unfold noLs at e
    rw [Bool.and_eq_true] at e
    exact .cons (dp_noL h e.1 a) (dpa_noL h e.2 b)
end
end
inductive Pk : List A → List PyData → Prop
  | nil : Pk [] []
  | d {v : PyData} {as : List A} {ds : List PyData} (h : Pk as ds) : Pk (.d v :: as) (v :: ds)
  | ml {xs : List PyData} {as : List A} {ds : List PyData} (h : Pk as ds) : Pk (.ml xs :: as) (.list xs :: ds)
theorem Pk.len : ∀ {as : List A} {ds : List PyData}, Pk as ds → as.length = ds.length
  | _, _, .nil => rfl
  | _, _, .d h => congrArg (· + 1) h.len
  | _, _, .ml h => congrArg (· + 1) h.len
theorem Pk.get : ∀ {as : List A} {ds : List PyData} {i : Nat} {d : PyData}, Pk as ds → ds[i]? = some d → as[i]? = some (.d d) ∨ ∃ xs, as[i]? = some (.ml xs) ∧ d = .list xs
  | _, _, _, _, .nil, h => by simp at h
  | _, _, 0, _, .d _, h => .inl (by simp at h; subst h; rfl)
  | _, _, 0, _, .ml _, h => .inr ⟨_, rfl, by simp at h; exact h.symm⟩
  | _, _, i + 1, _, .d t, h => Pk.get (i := i) t (by simpa using h)
  | _, _, i + 1, _, .ml t, h => Pk.get (i := i) t (by simpa using h)
theorem Pk.own : ∀ {as : List A} {ds : List PyData} {i : Nat} {a : A}, Pk as ds → as[i]? = some a → a.own = true → ∃ xs, a = .ml xs ∧ ds[i]? = some (.list xs)
  | _, _, _, _, .nil, h, _ => by simp at h
  | _, _, 0, _, .d _, h, o => by simp at h; subst h; cases o
  | _, _, 0, _, .ml _, h, o => by simp at h; subst h; exact ⟨_, rfl, rfl⟩
  | _, _, i + 1, _, .d t, h, o => Pk.own (i := i) t (by simpa using h) o
  | _, _, i + 1, _, .ml t, h, o => Pk.own (i := i) t (by simpa using h) o
def peek (F : List PyData → A → Prop) : Fs := fun as r as' => ∃ ds, as' = as ∧ Pk as ds ∧ F ds r ∧ noA r = true
open Classical in
theorem peek_pure {K : PySem.W.Frag} {F : List PyData → A → Prop} (vs : List V) (H : Hp) (Q : VK) (E : XK) (h : spA K (peek F) vs H Q E) : spA K (pure_ F) vs H Q E := by
  obtain ⟨HF, as0, r, as, S1, ⟨ds, rfl, pk, hF, hn⟩, hsh, q⟩ := h
  let O : Addr → Prop := fun b => OwnAt as (vs.map some) b
  let HF1 : Hp := fun b => if O b then H b else HF b
  have hs1 : Same HF HF1 := fun b o e => by
    show (if O b then H b else HF b) = some o
    split
    · exact S1.sub b o e
    · exact e
  have olst : ∀ b, O b → ∃ ys, H b = some (.lst ys) := fun b ⟨i, a, h1, h2, h3⟩ => by
    obtain ⟨xs, rfl, _⟩ := pk.own h1 h2
    obtain ⟨p, o, e, _, g2, g3⟩ := S1.ownAt h1 h2
    rw [h3] at e
    cases e
    cases o <;> first | exact g3.elim | skip
    exact ⟨_, g2⟩
  have onone : ∀ b, O b → HF b = none := fun b z => (S1.ownAt' (show OwnAt as (vs.map some) b from z)).1
  have Sp : Sl K (ds.map A.d) (vs.map some) HF1 H := by
    refine ⟨by rw [S1.len, List.length_map]; exact pk.len, fun b o e => ?_, fun i a h => ?_, fun i j a b p h1 _ o1 _ _ _ => ?_⟩
    · have e : (if O b then H b else HF b) = some o := e
      split at e
      · exact e
      · exact S1.sub b o e
    · rw [List.getElem?_map] at h
      cases hd : ds[i]? with
      | none => rw [hd] at h; cases h
      | some d =>
        rw [hd] at h
        cases h
        rcases pk.get hd with h1 | ⟨xs, h1, rfl⟩
        · obtain ⟨s, e, x, rfl, g⟩ := S1.slot i _ h1
          exact ⟨_, e, x, rfl, dp_mono hs1 g⟩
        · obtain ⟨p, o, e, g1, g2, g3⟩ := S1.ownAt h1 rfl
          cases o <;> first | exact g3.elim | skip
          rename_i ys
          refine ⟨_, e, .ref p, rfl, .lst (.inl (.inl ?_)) (dpa_mono hs1 g3)⟩
          show (if O p then H p else HF p) = _
          rw [if_pos (show O p from ⟨i, .ml xs, h1, rfl, e⟩)]
          exact g2
    · have := own_map a (List.mem_of_getElem? h1)
      rw [o1] at this
      cases this
  refine ⟨HF1, ds.map A.d, r, ds.map A.d, Sp, ⟨ds, rfl, rfl, hF⟩, .refl _, fun x HF' H' S2 f2 rr => ?_⟩
  let HF2 : Hp := fun b => if O b then none else HF' b
  have noO : ∀ b, ¬ OwnAt (ds.map A.d) (vs.map some) b := fun b ⟨i, a, h1, h2, _⟩ => by
    have := own_map a (List.mem_of_getElem? h1)
    rw [h2] at this
    cases this
  have keepH : ∀ b o, H b = some o → H' b = some o := fun b o e => f2.keep b o e (noO b)
  have ho' : ∀ b, O b → ∃ ys, HF' b = some (.lst ys) := fun b z => by
    obtain ⟨ys, e⟩ := olst b z
    refine ⟨ys, f2.hf b _ ?_⟩
    show (if O b then H b else HF b) = _
    rw [if_pos z]
    exact e
  have lift : ∀ b o, HF' b = some o → (∀ ys, o ≠ .lst ys) → HF2 b = some o := fun b o e n => by
    show (if O b then none else HF' b) = some o
    rw [if_neg]
    · exact e
    · intro z
      obtain ⟨ys, e2⟩ := ho' b z
      rw [e2] at e
      exact n ys (Option.some.inj e).symm
  have hs2 : Same HF HF2 := fun b o e => by
    show (if O b then none else HF' b) = some o
    rw [if_neg fun z => by rw [onone b z] at e; cases e]
    exact f2.hf b o (hs1 b o e)
  refine q x HF2 H' ⟨S1.len, fun b o e => ?_, fun i a h => ?_, S1.apart⟩ ⟨.refl _, hs2, fun b o e _ => keepH b o e, fun b o e => ?_, fun b o e => ⟨o, keepH b o e⟩⟩ ?_
  · have e : (if O b then none else HF' b) = some o := e
    split at e
    · cases e
    · exact S2.sub b o e
  · obtain ⟨s, e, z⟩ := S1.slot i a h
    refine ⟨s, e, arel_mono z hs2 fun p o e1 g1 g2 oa => ⟨?_, keepH p o g2⟩⟩
    show (if O p then none else HF' p) = none
    rw [if_pos (show O p from ⟨i, a, h, oa, by rw [e, e1]⟩)]
  · have e : (if O b then none else HF' b) = some o := e
    split at e
    · cases e
    · rename_i hb
      rcases f2.new b o e with z | z
      · left
        have z : (if O b then H b else HF b) = some o := z
        rw [if_neg hb] at z
        exact z
      · exact .inr z
  · cases r with
    | d v => exact dp_noL lift hn rr
    | ml xs =>
      obtain ⟨p, o, e1, e2, e3, e4, e5⟩ := rr
      cases o <;> first | exact e5.elim | skip
      refine ⟨p, _, e1, e2, ?_, e4, dpa_noL lift hn e5⟩
      show (if O p then none else HF' p) = none
      split
      · rfl
      · exact e3
    | mk _ => cases hn
    | mt _ => cases hn
    | fk _ => cases hn
    | ft _ => cases hn
    | gn _ => cases hn
    | go _ => cases hn
    | any => cases hn
    | pin _ => cases hn
    | dl _ => cases hn
    | nw _ => cases hn
    | rk _ => cases hn
    | tw l =>
      have nn : ∀ b, HF' b = none → HF2 b = none := fun b e => by
        show (if O b then none else HF' b) = none
        split
        · rfl
        · exact e
      obtain ⟨t, ys, e1, e2, e3, e4, e5⟩ := rr
      have key : ∀ {ys : List V} {l : List (List PyData ⊕ PyData)}, Paired (TwR K H HF' H') ys l → (∀ z ∈ l, (match z with | .inl zs => noLs zs | .inr v => noL v) = true) → Paired (TwR K H HF2 H') ys l := fun {ys l} hp => by
        induction hp with
        | nil => intro _; exact .nil
        | @cons y a ys l z _ ih =>
          intro hall
          refine .cons ?_ (ih fun b hb => hall b (List.mem_cons_of_mem _ hb))
          have h0 := hall a List.mem_cons_self
          cases a with
          | inl zs => obtain ⟨q, us, g1, g2, g3, g4, g5⟩ := z; exact ⟨q, us, g1, g2, nn q g3, g4, dpa_noL lift h0 g5⟩
          | inr v => exact dp_noL lift h0 z
      exact ⟨t, ys, e1, e2, nn t e3, e4, key e5 (List.all_eq_true.mp hn)⟩
theorem fn_peek {P : Program} {w : World} {K : PySem.W.Frag} {mg : Str → Option Value} {base : Heap} {CX : CXT} {k : Nat} {f : Addr} {fd : FuncData} {ps : List Str} {F : List PyData → A → Prop} (G : FnOk P w K mg base CX k f fd ps (spA K (pure_ F))) : FnOk P w K mg base CX k f fd ps (spA K (peek F)) := G.imp peek_pure
theorem noLs_ints : ∀ ns : List Int, noLs (ns.map .int) = true
  | [] => rfl
  | _ :: ns => noLs_ints ns
section
variable {X : Cx} {B : Bs} {P : Pst} {ρ ρ1 ρ2 ρ3 : Rho} {e e1 e2 : Expr} {es : List Expr} {pos : Pos} {ds : List PyData} {k : Option Nat}
/-- xs[::-1] -/
theorem e_revL {j : Nat} {p1 p2 p3 : Pos} (h : EO X e ρ (.list ds) ρ1 k) : E X (.Subscript e (.Slice none none (some (.UnaryOp .USub (.Constant (.int 1) j p1) p2)) p3) pos) ρ (.ml ds.reverse) ρ1 := .of (pe_revL pe_w) fun σ HF H S1 Q q => h σ HF H S1 _ fun x HF1 H1 S2 f1 r1 => by
  obtain ⟨p, ys, rfl, h1, h2⟩ := r1 ρ1 HF1 H1 .refl S2 (.refl ..)
  refine ⟨p, ys, rfl, h1, fun r hr => ?_⟩
  obtain ⟨S4, f4⟩ := S2.allocO hr (.lst ys.reverse)
  exact q _ _ _ S4 (f1.trans f4) ⟨r, _, rfl, f1.fresh hr, S2.hfNone hr, upd_same, dpa_rev h2⟩
/-- a call that reads own lists -/
theorem e_peek {F : List PyData → A → Prop} {n : Nat} {f : Addr} {fd : FuncData} {ps : List Str} {x : Str} {p : Pos} {r : A} {l : List Arg} (G : FnOk X.prog X.w X.K X.mg X.base CX0 n f fd ps (spA X.K (pure_ F))) (hr : Room n X.A) (hm : X.mg x = some (.ref f)) (hk : PySem.W.keepIn X.K (.ref f) = true) (hb : Binds X.K fd ps [])
    (ha : EA X (e :: es) ρ l ρ1) (pk : Pk (l.map (toA ρ1)) ds) (hF : F ds r) (hn : noA r = true) (nd : (lents l).Nodup) (hg : Gl X x := by rfl) (hdb : (x == ("__debug__" : Str)) = false := by decide) (he : starEach (e :: es) X.env = (false, eval e X.env) :: starEach es X.env := by rfl) (hpl : (backTo pos (starEach es X.env)).any (·.1) = false := by rfl) :
    E X (.Call (.Name x p) (e :: es) [] pos) ρ r (back l (l.map (toA ρ1)) ρ1) :=
  e_call (fn_peek G) hr hm hk hb ha ⟨ds, rfl, pk, hF, hn⟩ (.refl _) nd (fun _ _ z => z.elim) hg hdb he hpl
end
theorem cut_dropLast {α : Type} (xs : List α) : cut xs none (some (-1)) = xs.dropLast := by
  have h : HT.sIx xs.length xs.length (some (-1)) = xs.length - 1 := by
    unfold HT.sIx
    simp
    omega
  unfold cut
  rw [h, HT.sIx_none, List.dropLast_eq_take]
  simp
end Th

set_option Elab.async false
set_option linter.all false
set_option maxRecDepth 100000
namespace Th
open PySem PySem.Spec PyProof.Rows L2

/-! dicts are frozen -/
section
variable {X : Cx}
theorem pe_frz {e : Expr} {te : TE} (h : PE X e te) : PE X e (fun σ H Q => te σ H fun x H1 => ∃ d u, x = .ref d ∧ H1 d = some u ∧ Mut (some u) ∧ ∀ od, Q x (upd H1 d (.frz od u))) := by
  refine ⟨fun pins s σ H Q I hw => ?_⟩
  refine thn (h.run pins s σ H _ I hw) fun v s1 ⟨x, H1, I1, r1, d, u, e1, hd, mu, q⟩ => ?_
  obtain ⟨od, I2⟩ := I1.lock hd mu
  exact ⟨x, _, I2, r1, q od⟩
theorem pss_frz {st : List Stmt} {t : TS} (h : PSs X st t) : PSs X st (fun D σ H => ∃ d u, H d = some u ∧ Mut (some u) ∧ ∀ od, t D σ (upd H d (.frz od u))) := by
  refine ⟨fun pins s σ H D I hw => ?_⟩
  obtain ⟨d, u, hd, mu, q⟩ := hw
  obtain ⟨od, I2⟩ := I.lock hd mu
  exact h.run pins s σ _ D I2 (q od)
end
section
variable {K : PySem.W.Frag} {ρ : Rho} {σ : L2.St} {HF H : Hp} {p : Addr} {o : HO}
/-- an object in no slot is locked for good -/
theorem Sl.lockN (S : Sl K ρ σ HF H) (hp : H p = some o) (hn : HF p = none) (hw : ¬ OwnAt ρ σ p) (u : HO) : Sl K ρ σ (upd HF p u) (upd H p u) := by
  refine ⟨S.len, fun b v e => ?_, fun i a h => ?_, S.apart⟩
  · by_cases hb : b = p
    · subst hb
      rw [upd_same] at e ⊢
      exact e
    · rw [upd_ne hb] at e ⊢
      exact S.sub b v e
  · obtain ⟨s, e, q⟩ := S.slot i a h
    refine ⟨s, e, arel_mono q (same_upd hn) fun b v e1 h1 h2 ho => ?_⟩
    have hb : b ≠ p := fun z => hw ⟨i, a, h, ho, by rw [← z, e, e1]⟩
    rw [upd_ne hb, upd_ne hb]
    exact ⟨h1, h2⟩
end
section
variable {X : Cx} {B : Bs} {P : Pst} {ρ ρ1 ρ2 ρ3 : Rho} {tg iter e e1 e2 : Expr} {es : List Expr} {pos pos' : Pos} {ds xs : List PyData} {k : Option Nat} {i j : Int} {b : Bool} {v w d : PyData} {a : A} {kvs : List (Key × PyData)} {kts : List (NestedKey × PyData)} {y : Key} {x : Str}
theorem e_frzK (h : E X e ρ (.mk kvs) ρ1) : E X e ρ (.fk kvs) ρ1 := .of (pe_frz pe_w) fun σ HF H S1 Q q => h σ HF H S1 _ fun x HF1 H1 S2 f1 r1 => by
  obtain ⟨p, o, rfl, h0, h1, h2, h3⟩ := r1
  have nw : ¬ OwnAt ρ1 σ p := fun z => S1.notOwn h0 (f1.sh.own.mp z)
  cases o <;> first | exact h3.elim | skip
  rename_i kws
  refine ⟨p, _, rfl, h2, trivial, fun od => q _ (upd HF1 p (.frz od (.dK kws))) _ (S2.lockN h2 h1 nw _) ⟨f1.sh, f1.hf.trans (same_upd h1), fun b u e n => ?_, fun b u e => ?_, fun b u e => ?_⟩ ⟨p, kws, od, rfl, upd_same, dpkv_mono (same_upd h1) h3⟩⟩
  · rw [upd_ne fun z => by rw [z, h0] at e; cases e]
    exact f1.keep b u e n
  · by_cases hb : b = p
    · subst hb
      exact .inr h0
    · rw [upd_ne hb] at e
      exact f1.new b u e
  · by_cases hb : b = p
    · subst hb
      exact ⟨_, upd_same⟩
    · rw [upd_ne hb]
      exact f1.pres b u e
theorem e_frzT (h : E X e ρ (.mt kts) ρ1) : E X e ρ (.ft kts) ρ1 := fun σ HF H S1 Q q => h σ HF H S1 _ fun x HF1 H1 S2 f1 r1 => by
  obtain ⟨p, o, rfl, h0, h1, h2, h3⟩ := r1
  have nw : ¬ OwnAt ρ1 σ p := fun z => S1.notOwn h0 (f1.sh.own.mp z)
  cases o <;> first | exact h3.elim | skip
  refine q _ (upd HF1 p (.ext _)) H1 (S2.frz h2 h1 nw) ⟨f1.sh, f1.hf.trans (same_upd h1), f1.keep, fun b u e => ?_, f1.pres⟩ ⟨p, _, rfl, upd_same, trel_mono (same_upd h1) h3⟩
  by_cases hb : b = p
  · subst hb
    exact .inr h0
  · rw [upd_ne hb] at e
    exact f1.new b u e
/-- an own dict in a slot becomes one that stays -/
theorem ss_frzK (i : Nat) {sts : List Stmt} (hi : ρ[i]? = some (.mk kvs)) (hl : ∀ q ∈ B.L, q.1 ≠ i) (h : Ss X B sts (ρ.set i (.fk kvs)) P) : Ss X B sts ρ P := fun σ HF H S1 b1 D o => by
  obtain ⟨p, u, e, h1, h2, h3⟩ := S1.ownAt hi rfl
  cases u <;> first | exact h3.elim | skip
  rename_i kws
  have hb : B.H0 p = none := (b1.mine i _ p hi rfl e).elim (fun z => (hl _ z rfl).elim) id
  have hlen : i < ρ.length := (List.getElem?_eq_some_iff.mp hi).1
  refine ⟨_, pss_frz pss_w, p, _, h2, trivial, fun od => ?_⟩
  have own : ∀ (j : Nat) (a : A), (ρ.set i (.fk kvs))[j]? = some a → a.own = true → i ≠ j ∧ ρ[j]? = some a := fun j a h o => by
    by_cases hj : i = j
    · subst hj
      rw [List.getElem?_set_self hlen] at h
      cases h
      cases o
    · rw [List.getElem?_set_ne hj] at h
      exact ⟨hj, h⟩
  have apart' : ∀ (j : Nat) (a : A) (q : Addr), i ≠ j → ρ[j]? = some a → a.own = true → σ[j]? = some (some (V.ref q)) → q ≠ p := fun j a q hj h oa e' z => hj (S1.apart i j _ a p hi h rfl oa e (by rw [e', z]))
  have S2 : Sl X.K (ρ.set i (.fk kvs)) σ (upd HF p (.frz od (.dK kws))) (upd H p (.frz od (.dK kws))) := by
    refine ⟨by rw [List.length_set]; exact S1.len, fun b v e => ?_, fun j a h => ?_, fun j k a b q g1 g2 o1 o2 e1 e2 => S1.apart j k a b q (own j a g1 o1).2 (own k b g2 o2).2 o1 o2 e1 e2⟩
    · by_cases hb : b = p
      · subst hb
        rw [upd_same] at e ⊢
        exact e
      · rw [upd_ne hb] at e ⊢
        exact S1.sub b v e
    · by_cases hj : i = j
      · subst hj
        rw [List.getElem?_set_self hlen] at h
        cases h
        exact ⟨_, e, _, rfl, p, kws, od, rfl, upd_same, dpkv_mono (same_upd h1) h3⟩
      · rw [List.getElem?_set_ne hj] at h
        obtain ⟨s, e', q⟩ := S1.slot j a h
        refine ⟨s, e', arel_mono q (same_upd h1) fun b v e1 g1 g2 oa => ?_⟩
        have hb := apart' j a b hj h oa (by rw [e', e1])
        rw [upd_ne hb, upd_ne hb]
        exact ⟨g1, g2⟩
  refine h σ _ _ S2 ⟨b1.hf.trans (same_upd h1), fun b v hn e => ?_, fun b v e => ?_, fun b v e => ?_, fun j a q g oa e' => b1.mine j a q (own j a g oa).2 oa e', b1.lent⟩ D (o.up (same_upd h1))
  · rw [upd_ne fun z => by rw [z, hb] at e; cases e]
    exact b1.keep b v hn e
  · by_cases hc : b = p
    · subst hc
      exact .inr hb
    · rw [upd_ne hc] at e
      exact b1.new b v e
  · by_cases hc : b = p
    · subst hc
      exact ⟨_, upd_same⟩
    · rw [upd_ne hc]
      exact b1.pres b v e
/-- a slot that holds what stays -/
theorem e_varF (i : Nat) (h : ρ[i]? = some (.fk kvs)) (hN : X.N[i]? = some x := by rfl) (hv : Vis X.env.scope x := by first | exact Or.inl rfl | exact Or.inr (Or.inl rfl) | exact Or.inr (Or.inr rfl))
    (hd : (x == ("__debug__" : Str)) = false := by decide) (hcd : (x == ("__classdict__" : Str)) = false := by decide) : E X (.Name x pos) ρ (.fk kvs) ρ := .of (pe_var hN hv hd hcd) fun σ HF H S1 Q q => by
  obtain ⟨s, e, y, rfl, r⟩ := S1.slot i _ h
  exact ⟨y, e, q y HF H S1 (.refl ..) r⟩
theorem e_varFt (i : Nat) (h : ρ[i]? = some (.ft kts)) (hN : X.N[i]? = some x := by rfl) (hv : Vis X.env.scope x := by first | exact Or.inl rfl | exact Or.inr (Or.inl rfl) | exact Or.inr (Or.inr rfl))
    (hd : (x == ("__debug__" : Str)) = false := by decide) (hcd : (x == ("__classdict__" : Str)) = false := by decide) : E X (.Name x pos) ρ (.ft kts) ρ := .of (pe_var hN hv hd hcd) fun σ HF H S1 Q q => by
  obtain ⟨s, e, y, rfl, r⟩ := S1.slot i _ h
  exact ⟨y, e, q y HF H S1 (.refl ..) r⟩
theorem fk_get {K : PySem.W.Frag} {HF H : Hp} {z : V} (s : Same HF H) (r : FkRel K HF z kvs) (y : Key) : ∃ p o, z = .ref p ∧ DGet H p (kV y) o ∧ ((o = none ∧ getK kvs y = none) ∨ ∃ v1 d1, o = some v1 ∧ getK kvs y = some d1 ∧ Dp K HF v1 d1) := by
  obtain ⟨p, kws, od, rfl, h1, h2⟩ := r
  refine ⟨p, valV kws y, rfl, .inl ⟨kws, y, .inr ⟨od, s _ _ h1⟩, rfl, rfl⟩, ?_⟩
  rcases dpkv_val y h2 with ⟨g1, g2⟩ | ⟨v1, d1, g1, g2, g3⟩
  · exact .inl ⟨g1, g2⟩
  · exact .inr ⟨v1, d1, g1, g2, g3⟩
/-- d[k] of such a one -/
theorem e_dgetF (hd : E X e1 ρ (.fk kvs) ρ1) (he : E X e2 ρ1 (.d (kD y)) ρ2) (hg : getK kvs y = some d) (hu : X.A.units + 1 < cLine) (hs : NoSl e2 := by exact fun _ _ => rfl) : E X (.Subscript e1 e2 pos) ρ (.d d) ρ2 := .of (pe_dget hu pe_w pe_w hs) fun σ HF H S1 Q q => hd σ HF H S1 _ fun z HF1 H1 S2 f1 r1 => he σ HF1 H1 S2 _ fun x2 HF2 H2 S3 f2 r2 => by
  have hx := dp_key r2
  subst hx
  obtain ⟨p, o, rfl, g1, g2⟩ := fk_get S3.sub (fk_mono f2.hf r1) y
  rcases g2 with ⟨_, g⟩ | ⟨v1, d1, rfl, g, g3⟩
  · rw [hg] at g; cases g
  · rw [hg] at g
    cases g
    exact ⟨p, v1, rfl, g1, q _ HF2 H2 S3 (f1.trans f2) g3⟩
theorem e_dinF (he : E X e1 ρ (.d (kD y)) ρ1) (hd : E X e2 ρ1 (.fk kvs) ρ2) (hu : X.A.units + 1 < cLine) (hb : behindInMarks .In e2 = false := by rfl) : E X (.Compare e1 [.In] [e2] pos) ρ (.d (.bool (getK kvs y).isSome)) ρ2 := .of (pe_cmp (pc_din hu pe_w pe_w) hb) fun σ HF H S1 Q q => he σ HF H S1 _ fun z HF1 H1 S2 f1 r1 => hd σ HF1 H1 S2 _ fun x2 HF2 H2 S3 f2 r2 => by
  have hx := dp_key r1
  subst hx
  obtain ⟨p, o, rfl, g1, g2⟩ := fk_get S3.sub r2 y
  refine ⟨p, o, rfl, g1, ?_⟩
  rcases g2 with ⟨rfl, g⟩ | ⟨v1, d1, rfl, g, g3⟩
  · rw [g] at q; exact q _ HF2 H2 S3 (f1.trans f2) (.bl _)
  · rw [g] at q; exact q _ HF2 H2 S3 (f1.trans f2) (.bl _)
theorem e_dget2F {apos : Pos} {e3 : Expr} (hd : E X e1 ρ (.fk kvs) ρ1) (he : E X e2 ρ1 (.d (kD y)) ρ2) (he3 : E X e3 ρ2 (.d w) ρ3) (hu : X.A.units + 1 < cLine) (m : M2 X e1 "get" apos e2 e3 pos := by exact ⟨rfl, rfl, rfl, rfl⟩) : E X (.Call (.Attribute e1 "get" apos) [e2, e3] [] pos) ρ (.d ((getK kvs y).getD w)) ρ3 := .of (pe_dget2 hu pe_w pe_w pe_w m) fun σ HF H S1 Q q => hd σ HF H S1 _ fun z HF1 H1 S2 f1 r1 => by
  obtain ⟨p, kws, od, rfl, h1, h2⟩ := id r1
  refine ⟨p, rfl, .inl ⟨kws, .inr ⟨od, S2.sub _ _ h1⟩⟩, he σ HF1 H1 S2 _ fun x2 HF2 H2 S3 f2 r2 => he3 σ HF2 H2 S3 _ fun x3 HF3 H3 S4 f3 r3 => ?_⟩
  have hx := dp_key r2
  subst hx
  obtain ⟨p', o, e', g1, g2⟩ := fk_get S4.sub (fk_mono (f2.hf.trans f3.hf) r1) y
  cases e'
  refine ⟨o, g1, ?_⟩
  rcases g2 with ⟨rfl, g⟩ | ⟨v1, d1, rfl, g, g3⟩
  · rw [g] at q; exact q _ HF3 H3 S4 ((f1.trans f2).trans f3) r3
  · rw [g] at q; exact q _ HF3 H3 S4 ((f1.trans f2).trans f3) g3
/-- walked: keys, items, values -/
theorem dpkv_get : ∀ {κ : Type} {K : PySem.W.Frag} {HF : Hp} {l : List (κ × V)} {m : List (κ × PyData)} {i : Nat} {k : κ} {v : V}, DpKV K HF l m → l[i]? = some (k, v) → ∃ d, m[i]? = some (k, d) ∧ Dp K HF v d
  | _, _, _, _, _, _, _, _, .nil, h => by simp at h
  | _, _, _, _, _, 0, _, _, .cons (a := p) (b := q) r _, h => by
    simp at h
    subst h
    exact ⟨q.2, by rw [List.getElem?_cons_zero]; exact congrArg some (Prod.ext r.1.symm rfl), r.2⟩
  | _, _, _, _, _, i + 1, _, _, .cons _ t, h => by
    obtain ⟨d, h1, h2⟩ := dpkv_get (i := i) t (by simpa using h)
    exact ⟨d, by simpa using h1, h2⟩
theorem dp_kD {K : PySem.W.Frag} {HF : Hp} (k : Key) : Dp K HF (kV k) (kD k) := by cases k; exact .int _; exact .str _
theorem src_keys (h : E X iter ρ (.fk kvs) ρ1) : Src X tg iter ρ (kvs.map fun kv => kD kv.1) ρ1 none := ⟨_, pi_keys pe_w, fun σ HF H S1 R q => h σ HF H S1 _ fun x HF1 H1 S2 f1 r1 => by
  obtain ⟨p, kws, od, rfl, h1, h2⟩ := r1
  refine ⟨p, od, rfl, .inl ⟨kws, S2.sub _ _ h1, q _ HF1 H1 S2 f1 fun σ2 ρ2 HF2 H2 _ _ S3 s3 => ⟨fun i hi => ⟨S3.sub _ _ (s3 _ _ h1), ?_⟩, ⟨S3.sub _ _ (s3 _ _ h1), ?_⟩, fun i x H3 hi ⟨e, k, v, e2, e3⟩ => ?_⟩⟩⟩
  · rw [List.length_map] at hi
    rw [dpkv_len h2]
    exact hi
  · rw [List.length_map, dpkv_len h2]
    exact Nat.le_refl _
  · obtain ⟨d, g1, _⟩ := dpkv_get h2 e2
    refine ⟨kD k, by rw [List.getElem?_map, g1]; rfl, .inl ⟨e, by rw [e3]; exact dp_kD k⟩⟩⟩
theorem src_items {apos cpos : Pos} {elts : List Expr} {kk : Nat} {tpos : Pos} (h : E X e ρ (.fk kvs) ρ1) (hbase : attributeBase e "items" X.env (eval e X.env) = eval e X.env := by rfl) (hline : (apos.endLine == cpos.line) = true := by rfl) :
    Src X (.Tuple elts kk tpos) (.Call (.Attribute e "items" apos) [] [] cpos) ρ (kvs.map fun kv => .tuple [kD kv.1, kv.2]) ρ1 none := ⟨_, pi_items pe_w hbase hline, fun σ HF H S1 R q => h σ HF H S1 _ fun x HF1 H1 S2 f1 r1 => by
  obtain ⟨p, kws, od, rfl, h1, h2⟩ := r1
  refine ⟨p, od, kws, rfl, S2.sub _ _ h1, q _ HF1 H1 S2 f1 fun σ2 ρ2 HF2 H2 _ _ S3 s3 => ⟨fun i hi => ⟨S3.sub _ _ (s3 _ _ h1), ?_⟩, ⟨S3.sub _ _ (s3 _ _ h1), ?_⟩, fun i x H3 hi ⟨T, k, v, e2, e3, e4, e5⟩ => ?_⟩⟩
  · rw [List.length_map] at hi
    rw [dpkv_len h2]
    exact hi
  · rw [List.length_map, dpkv_len h2]
    exact Nat.le_refl _
  · obtain ⟨d, g1, g2⟩ := dpkv_get h2 e2
    exact ⟨.tuple [kD k, d], by rw [List.getElem?_map, g1]; rfl, .inr ⟨T, _, _, e4, e5, e3, rfl, .cons (dp_kD k) (.cons (dp_mono s3 g2) .nil)⟩⟩⟩
theorem src_values {apos cpos : Pos} (h : E X e ρ (.fk kvs) ρ1) (hbase : attributeBase e "values" X.env (eval e X.env) = eval e X.env := by rfl) (hline : (apos.endLine == cpos.line) = true := by rfl) :
    Src X tg (.Call (.Attribute e "values" apos) [] [] cpos) ρ (kvs.map fun kv => kv.2) ρ1 none := ⟨_, pi_values pe_w hbase hline, fun σ HF H S1 R q => h σ HF H S1 _ fun x HF1 H1 S2 f1 r1 => by
  obtain ⟨p, kws, od, rfl, h1, h2⟩ := r1
  refine ⟨p, od, kws, rfl, S2.sub _ _ h1, q _ HF1 H1 S2 f1 fun σ2 ρ2 HF2 H2 _ _ S3 s3 => ⟨fun i hi => ⟨S3.sub _ _ (s3 _ _ h1), ?_⟩, ⟨S3.sub _ _ (s3 _ _ h1), ?_⟩, fun i x H3 hi ⟨e, k, e2⟩ => ?_⟩⟩
  · rw [List.length_map] at hi
    rw [dpkv_len h2]
    exact hi
  · rw [List.length_map, dpkv_len h2]
    exact Nat.le_refl _
  · obtain ⟨d, g1, g2⟩ := dpkv_get h2 e2
    exact ⟨d, by rw [List.getElem?_map, g1]; rfl, .inl ⟨e, dp_mono s3 g2⟩⟩⟩

/-! a dict of one written entry; lists repeated, extended -/
theorem e_disp1 (hk : E X e1 ρ (.d (kD y)) ρ1) (hv : E X e2 ρ1 (.d v) ρ2) : E X (.Dict [some e1] [e2] pos) ρ (.mk [(y, v)]) ρ2 := .of (pe_disp (pps_cons pe_w pe_w pps_nil) rfl rfl (fun z => by cases z) (show 1 ≤ 15 by decide)) fun σ HF H S1 Q q => fun p hp => by
  obtain ⟨S0, f0⟩ := S1.allocO hp (.dK [])
  refine hk σ HF _ S0 _ fun x HF1 H1 S2 f1 r1 => hv σ HF1 H1 S2 _ fun z HF2 H2 S3 f2 r2 => ?_
  have hx := dp_key r1
  subst hx
  have f12 := f1.trans f2
  have nw : ¬ OwnAt ρ σ p := fun z => S1.notOwn hp z
  have hpn : HF p = none := S1.hfNone hp
  have e2 : H2 p = some (.dK []) := f12.keep p _ upd_same nw
  have e3 : HF2 p = none := f12.hfn hpn upd_same
  show H2 p = some (.dK []) ∧ _
  refine ⟨e2, [(y, z)], rfl, (show 1 ≤ 15 by decide), ?_⟩
  have nw2 : ¬ OwnAt ρ2 σ p := fun w => nw (f12.sh.own.mp w)
  refine q _ HF2 _ ⟨S3.len, fun b u e => ?_, fun i a h => ?_, S3.apart⟩ ⟨f12.sh, f12.hf, fun b u e n => ?_, fun b u e => ?_, fun b u e => ?_⟩ ⟨p, _, rfl, hp, e3, upd_same, ?_⟩
  · rw [upd_ne fun w => by rw [w, e3] at e; cases e]
    exact S3.sub b u e
  · obtain ⟨s, e, g⟩ := S3.slot i a h
    refine ⟨s, e, arel_mono g (.refl _) fun b u e1 h1 h2 ho => ⟨h1, ?_⟩⟩
    rw [upd_ne fun w => nw2 ⟨i, a, h, ho, by rw [e, e1, w]⟩]
    exact h2
  · have hb : b ≠ p := fun w => by rw [w, hp] at e; cases e
    rw [upd_ne hb]
    exact f12.keep b u (by rw [upd_ne hb]; exact e) n
  · rcases f12.new b u e with w | w
    · exact .inl w
    · by_cases hb : b = p
      · subst hb
        exact .inr hp
      · rw [upd_ne hb] at w
        exact .inr w
  · by_cases hb : b = p
    · subst hb
      exact ⟨_, upd_same⟩
    · rw [upd_ne hb]
      exact f12.pres b u (by rw [upd_ne hb]; exact e)
  · exact .cons ⟨rfl, r2⟩ .nil
theorem dpa_rep {K : PySem.W.Frag} {HF : Hp} {ys : List V} (h : DpAll K HF ys ds) : ∀ n : Nat, DpAll K HF (List.replicate n ys).flatten (List.replicate n ds).flatten
  | 0 => .nil
  | n + 1 => by
    rw [List.replicate_succ, List.replicate_succ, List.flatten_cons, List.flatten_cons]
    exact dpa_app h (dpa_rep h n)
theorem e_rep (ha : PlainL X e1 ρ ds ρ1 k) (hb : E X e2 ρ1 (.d (.int i)) ρ2) (h0 : -100000 ≤ i ∧ i ≤ 100000) (hz : ds.length * i.toNat ≤ 100000) (hk : Kp k ρ1 ρ2 := by first | exact trivial | exact rfl) : E X (.BinOp e1 .Mult e2 pos) ρ (.ml (List.replicate i.toNat ds).flatten) ρ2 :=
  .of (pe_op op_rep pe_w pe_w) fun σ HF H S1 Q q => ha σ HF H S1 _ fun x HF1 H1 S2 f1 r1 => hb σ HF1 H1 S2 _ fun z HF2 H2 S3 f2 r2 => by
    obtain ⟨p, ys, rfl, g1, g2⟩ := r1 ρ2 HF2 H2 hk S3 f2
    cases r2
    have l1 := dpa_len g2
    refine ⟨p, i, ys, rfl, rfl, g1, by omega, by omega, Nat.le_trans (by rw [l1]; exact hz) (show 100000 ≤ sizeLine by decide), fun r hr => ?_⟩
    obtain ⟨S4, f4⟩ := S3.allocO hr (.lst (List.replicate i.toNat ys).flatten)
    have f := f1.trans f2
    exact q _ _ _ S4 (f.trans f4) ⟨r, _, rfl, f.fresh hr, S3.hfNone hr, upd_same, dpa_rep g2 _⟩
theorem e_ext (i : Nat) {apos : Pos} (he : E X e ρ (.ml ds) ρ1) (hi0 : ∃ x0, ρ[i]? = some (.ml x0)) (hi : ρ1[i]? = some (.ml xs)) (hz : xs.length + ds.length ≤ 100000) (hN : X.N[i]? = some x := by rfl)
    (hv : Vis X.env.scope x := by first | exact Or.inl rfl | exact Or.inr (Or.inl rfl) | exact Or.inr (Or.inr rfl)) (hd : (x == ("__debug__" : Str)) = false := by decide) (hcd : (x == ("__classdict__" : Str)) = false := by decide)
    (hbase : attributeBase (.Name x pos') "extend" X.env (eval (.Name x pos') X.env) = eval (.Name x pos') X.env := by rfl)
    (hfew : ((backTo pos (starEach [e] X.env)).all (fun x => !x.1) && (backToKw pos (keywordEach [] X.env)).all (fun x => x.1.isSome) && decide (([e] : List Expr).length + ([] : List Keyword).length + (if ([] : List Keyword).isEmpty then 0 else 1) < 30)) = true := by rfl)
    (hline : (apos.endLine == pos.line) = true := by rfl) (hs : starEach [e] X.env = (false, eval e X.env) :: starEach [] X.env := by rfl) :
    E X (.Call (.Attribute (.Name x pos') "extend" apos) [e] [] pos) ρ (.d .none) (ρ1.set i (.ml (xs ++ ds))) :=
  .of (pe_bm PySem.F.plainAttrs_list PySem.F.slot_list_extend PySem.F.type_list_extend mt_extend (pe_var hN hv hd hcd) (pa_cons pe_w pa_nil hs) hbase hfew hline hs) fun σ HF H S1 Q q => by
    obtain ⟨k0, hk0⟩ := hi0
    obtain ⟨p, o0, e0, _, k2, k3⟩ := S1.ownAt hk0 rfl
    cases o0 <;> first | exact k3.elim | skip
    refine ⟨.ref p, e0, .inl ⟨rfl, _, .inl (.inl k2)⟩, he σ HF H S1 _ fun x1 HF1 H1 S2 f1 r1 => ?_⟩
    obtain ⟨p2, o2, e3, h1, h2, h3⟩ := S2.ownAt hi rfl
    rw [e0] at e3
    cases e3
    cases o2 <;> first | exact h3.elim | skip
    rename_i ys
    obtain ⟨r, o, rfl, g0, g1, g2, g3⟩ := r1
    cases o <;> first | exact g3.elim | skip
    rename_i zs
    have hl := dpa_len h3
    have hl2 := dpa_len g3
    obtain ⟨S4, f4⟩ := S2.put hi rfl e0 (o' := .lst (ys ++ zs)) (a' := .ml (xs ++ ds)) (dpa_app h3 g3)
    exact ⟨p, r, ys, zs, rfl, rfl, h2, g2, Nat.le_trans (by omega) (show 100000 ≤ sizeLine by decide), q _ _ _ S4 (f1.trans f4) .non⟩
/-- a comprehension that carries a state along -/
theorem e_lcS {α T : Type} {xs : List α} {scope : Scope} (own : List (Str × Nat)) {elt : Expr} (enc : α → PyData) (t0 : T) (step : T → α → T) (g : T → α → PyData) (emb : T → Rho) (J : T → Nat → Prop) (hJ : J t0 0)
    (ht : Src X tg iter ρ (xs.map enc) (emb t0) none) (hN : X.N.Nodup) (hz : xs.length < 100000)
    (hb : ∀ t (i : Nat) (x : α), xs[i]? = some x → J t i → J (step t x) (i + 1) ∧ ∃ ρ2 ρ4 : Rho, (∀ (s : Shared) (H : Hp) (C : Addr) (cl : List (Str × Addr)) (fp : List Addr), GC (X.blk s H scope (compEnvC scope cl C X.env) fp) (own.map (·.2)) tg (enc x) (wipeR (emb t) (own.map (·.2))) ρ2) ∧
      (∀ (s : Shared) (H : Hp) (C : Addr) (cl : List (Str × Addr)) (fp : List Addr), E (X.blk s H scope (compEnvC scope cl C X.env) fp) elt ρ2 (.d (g t x)) ρ4) ∧ wipeR ρ4 (own.map (·.2)) = wipeR (emb (step t x)) (own.map (·.2)))
    (hv : ∀ t, noOwn (emb t) (own.map (·.2)) = true) (hem : ∀ t t', (emb t).length = (emb t').length ∧ ∀ i, i ∈ own.map (·.2) → (emb t)[i]? = (emb t')[i]?) (ok : BlkOk X.N X.env.scope scope own)
    (hc : X.calm = true := by rfl) (hs : ∀ x, foldedSetIterable iter X.env x = pure x := by intro _; rfl) :
    E X (.ListComp elt [⟨tg, iter, [], 0⟩] scope pos) ρ (.ml ((xs.foldl (fun (p : T × List PyData) x => (step p.1 x, p.2 ++ [g p.1 x])) (t0, [])).2)) (emb (xs.foldl step t0)) := by
  have hfst : ∀ (ys : List α) (t : T) (acc : List PyData), (ys.foldl (fun (p : T × List PyData) x => (step p.1 x, p.2 ++ [g p.1 x])) (t, acc)).1 = ys.foldl step t := fun ys => by
    induction ys with
    | nil => intro t acc; rfl
    | cons y ys ih => intro t acc; rw [List.foldl_cons, List.foldl_cons]; exact ih _ _
  have hlen : ∀ (ys : List α) (t : T) (acc : List PyData), (ys.foldl (fun (p : T × List PyData) x => (step p.1 x, p.2 ++ [g p.1 x])) (t, acc)).2.length = acc.length + ys.length := fun ys => by
    induction ys with
    | nil => intro t acc; rfl
    | cons y ys ih => intro t acc; rw [List.foldl_cons, ih]; simp; omega
  have hJall : ∀ i, i ≤ xs.length → J ((xs.take i).foldl step t0) i := fun i => by
    induction i with
    | zero => intro _; exact hJ
    | succ i ih =>
      intro hi
      have e := List.getElem?_eq_getElem (show i < xs.length by omega)
      rw [List.take_add_one, e, List.foldl_append]
      exact (hb _ i _ e (ih (by omega))).1
  refine ev_lc (D0 := []) (k := none) ht ok hN (fun i ρ' acc => ρ' = wipeR (emb ((xs.take i).foldl step t0)) (own.map (·.2)) ∧ acc = ((xs.take i).foldl (fun (p : T × List PyData) x => (step p.1 x, p.2 ++ [g p.1 x])) (t0, [])).2) ⟨rfl, rfl⟩ (fun _ _ _ _ => ⟨trivial, fun _ z => nomatch z⟩) (fun i v ρ' acc hi ⟨e1, e2⟩ => ?_) (fun ρ' acc ⟨e1, e2⟩ => ?_) (by rw [List.length_map]; exact Nat.lt_of_lt_of_le hz (by decide)) (fun i ρ' acc ⟨_, e⟩ => ?_) hc hs
  · subst e1
    obtain ⟨x, hx, rfl⟩ := map_get hi
    have hlt := (List.getElem?_eq_some_iff.mp hx).1
    obtain ⟨_, ρ2, ρ4, h1, h2, h3⟩ := hb _ i x hx (hJall i (by omega))
    have tk : xs.take (i + 1) = xs.take i ++ [x] := by rw [List.take_add_one, hx]; rfl
    refine ⟨ρ2, true, ρ2, h1, fun s H C cl fp => i_nil, fun _ => ⟨_, ρ4, h2, ?_, ?_⟩, fun z => nomatch z⟩
    · rw [h3, tk, List.foldl_append]
      rfl
    · rw [e2, tk, List.foldl_append]
      show _ = _ ++ [g _ x]
      rw [hfst]
  · subst e1
    rw [List.length_map, List.take_length] at *
    refine ⟨e2, (hem _ _).1, fun i hi => (wipeR_off hi).symm, fun i hi => ⟨(hem _ _).2 i hi, fun a e => no_own (hv t0) i a hi e⟩⟩
  · rw [e, hlen]
    simp
    exact Nat.min_le_left _ _
end
end Th

set_option Elab.async false
set_option linter.all false
set_option maxRecDepth 100000
namespace Th
open PySem PySem.Spec PyProof.Rows L2

/-! sorted(d), int keys, any number of them -/
section
variable {X : Cx}
theorem call_sortedDA (hcalm : X.calm = true) : CallR X (.builtin "sorted") (fun xs H Q => ∃ (a : Addr) (kvs : List (Key × V)) (ks : List Int), xs = [.ref a] ∧ Rd H a (.dK kvs) ∧ kvs.map (·.1) = ks.map Sum.inl ∧
    ∀ (ys : List Int) (p : Addr), ys.Perm ks → ys.Pairwise (· ≤ ·) → H p = none → Q (.ref p) (upd H p (.lst (ys.map V.int)))) := by
  intro pins s σ H xs us Q I r q
  obtain ⟨a, kvs, ks, ex, hd, hks, q⟩ := q
  subst ex
  obtain ⟨u, eu, rx⟩ := vals1 r
  subst eu
  cases rx
  obtain ⟨z, lo, vs, rel, dd⟩ := dk_rd I.hok hd
  obtain ⟨ep, hat⟩ := dd.dictAt
  have hkeys : vs.map (·.1) = ks.map Sum.inl := rel.keys.symm.trans hks
  have hl : vs.length = ks.length := by
    have e := congrArg List.length hkeys
    rwa [List.length_map, List.length_map] at e
  have h16 : vs.length ≤ sizeLine := by
    have e := congrArg List.length rel.keys
    rw [List.length_map, List.length_map] at e
    omega
  refine Calls.call_function_entry PyProof.Rows.kind_sorted PyProof.Rows.plain_sorted PyProof.Rows.entry_sorted (PyProof.Rows.args_sorted1 _) ?_
  unfold Builtin.«sorted»
  refine wpAny_bind (m := checkCount "sorted" 1 1 _) (wpAny_pure ?_)
  refine wpAny_bind (PySem.W.kdu_collect (A := X.A.in1) (PySem.W.kdl_dict (knd := mixKind X.prog X.w) (kvs := vs) (ep := ep) lo) (I.ok.hd hcalm) hat h16 fun h' tk acc hk hacc => ?_)
  have hal : acc.toList.length = ks.length := by rw [Array.length_toList, hacc.1, hl]
  have hS : IntsAre acc.toList ks := ints_each hal fun j v e => by
    obtain ⟨k, x, e1, e2⟩ := hacc.2 j v (by rw [← Array.getElem?_toList]; exact e)
    have e3 : (vs.map (·.1))[j]? = some k := by rw [List.getElem?_map, e1]; rfl
    rw [hkeys, List.getElem?_map] at e3
    cases e4 : ks[j]? with
    | none => rw [e4] at e3; cases e3
    | some y =>
      rw [e4] at e3
      have e5 : Sum.inl y = k := Option.some.inj e3
      subst e5
      rcases keyIs_shape (show keyIs (Sum.inl y) v = true from e2) with ⟨i, t, ek, ev⟩ | ⟨z, t, ek, ev⟩
      · cases ek
        exact ⟨y, t, rfl, ev⟩
      · cases ek
  have I1 : Inv X pins σ H { s with heap := h', toks := tk } := I.kept hk
  have hz : acc.toList.length ≤ sizeLine := by omega
  refine wpAny_bind (wpAny_newList ?_ hz)
  have hoL : (h'.push (seqObj "list" acc.toList.toArray 0)).get? h'.objs.size = some (seqObj "list" acc.toList.toArray 0) := Heap.get?_push_size _ rfl
  show wpAny _ _ _ _ _ { s with heap := h'.push (seqObj "list" acc.toList.toArray 0), toks := tk }
  refine wpAny_bind (wpAny_holding (wpAny_call_entry PyProof.Rows.slot_list_sort ⟨_, hoL, rfl⟩ PyProof.Rows.entry_list_sort
    (SrtO.list_sort_ord (s := { s with heap := h'.push (seqObj "list" acc.toList.toArray 0), toks := tk }) SrtO.swo_int hoL hz (fun h2 => SrtO.ints_sortable hS h2) fun out h1 h2 => ⟨_, rfl, ?_⟩) (PyProof.Rows.args_list_sort _)))
  obtain ⟨g1, g2, g3⟩ := SrtO.ints_out hS h1 h2
  obtain ⟨e', he'⟩ := PyProof.Rows.sortedHeap_at (vs := acc.toList) (out := out.toArray) hoL
  have hlen : ((out.map SrtO.iv).map V.int).length ≤ sizeLine := by
    rw [List.length_map, g2.length_eq]
    omega
  refine wpAny_pure ⟨_, rfl, .ref h'.objs.size, upd H h'.objs.size (.lst ((out.map SrtO.iv).map V.int)), I1.laid (t' := tk) (fun b u e => ?_) (Nat.le_refl _)
    (show ObjOk X.prog X.w _ _ _ (.lst ((out.map SrtO.iv).map V.int)) from ⟨hlen, out, e', vals_of_ints g1, he'⟩), rfl, q _ _ g2 g3 (I1.hok.fresh (Nat.le_refl _))⟩
  have hb : b < h'.objs.size := Heap.lt_size e
  rw [PyProof.Rows.sortedHeap_old (Nat.ne_of_lt hb) (by rw [size_push']; exact Nat.lt_succ_of_lt hb)]
  exact Heap.get?_push_of_some _ e
end
section
variable {X : Cx} {ρ ρ1 : Rho} {e : Expr} {es : List Expr} {pos pos' : Pos} {kvs : List (Key × PyData)} {x : Str}
theorem e_dsortA (i : Nat) {pn : Pos} {ks : List Int} (hi : ρ[i]? = some (.mk kvs)) (hks : kvs.map (·.1) = ks.map Sum.inl) (hm : X.mg "sorted" = none) (hg : Gl X "sorted" := by rfl) (hc : X.calm = true := by rfl) (hN : X.N[i]? = some x := by rfl)
    (hv : Vis X.env.scope x := by first | exact Or.inl rfl | exact Or.inr (Or.inl rfl) | exact Or.inr (Or.inr rfl)) (hd : (x == ("__debug__" : Str)) = false := by decide) (hcd : (x == ("__classdict__" : Str)) = false := by decide)
    (he : starEach [.Name x pos'] X.env = (false, eval (.Name x pos') X.env) :: starEach [] X.env := by rfl) : E X (.Call (.Name "sorted" pn) [.Name x pos'] [] pos) ρ (.ml ((isort ks).map .int)) ρ :=
  .of (pe_callB (call_sortedDA hc) hg hm (by decide +kernel) (pa_cons (pe_var hN hv hd hcd) pa_nil he) (he := he)) fun σ HF H S1 Q q => by
    obtain ⟨p2, o2, e3, h1, h2, h3⟩ := S1.ownAt hi rfl
    cases o2 <;> first | exact h3.elim | skip
    refine ⟨.ref p2, e3, p2, _, ks, rfl, .inl h2, (dpkv_keys h3).trans hks, fun ys p hp hs hn => ?_⟩
    obtain ⟨S2, f2⟩ := S1.allocO hn (.lst (ys.map V.int))
    rw [← isort_eq hp hs] at q
    exact q _ _ _ S2 f2 ⟨p, _, rfl, hn, S1.hfNone hn, upd_same, dpa_ints ys⟩

/-! sum of a tuple -/
theorem cr_sumT (hc : X.calm = true) : CallR X (.builtin "sum") (fun vs H Q => ∃ (a : Addr) (ns : List Int), vs = [V.ref a] ∧ SqT X.K H a (ns.map V.int) ∧ Q (.int ns.sum) H) := by
  intro pins s σ H vs us Q I r h
  obtain ⟨a, ns, rfl, hs, q⟩ := h
  obtain ⟨its, rv, hl, _⟩ := I.tuple hs
  rw [Vals.ref1 r]
  obtain ⟨xs, e⟩ := rv.ints.allInts.items
  have hn : numsOf (intItems xs).toList = ns := by rw [← e]; exact rv.ints.numsOf
  rw [nums_intItems] at hn
  rw [e] at hl
  have hlt : a < s.heap.objs.size := by obtain ⟨_, e, _⟩ := hl; exact Heap.lt_size e
  have hT : s.heap.IsTuple a (intItems xs) := hl
  refine PySem.call_sum_walkG (PySem.wpAny_pyIter_tuple hT ?_)
  refine ⟨_, _, _, _, _, _, numAt xs, rfl, PySem.Walks.tuple (A := X.A.in1) (I.ok.hd hc) _ a (Nat.ne_of_lt hlt) (intItems xs), ⟨⟨_, Heap.get?_push_size _ rfl, rfl, rfl⟩, ?_⟩, fun b hb => ?_, fun _ _ => intItems_at, fun h' tk t' hk => ?_⟩
  · obtain ⟨o, e1, e2⟩ := hT
    exact ⟨o, Heap.get?_push_of_some _ e1, e2⟩
  · show b < (s.heap.push _).objs.size
    rw [Heap.size_push]
    rcases List.mem_cons.mp hb with rfl | hb
    · exact Nat.lt_succ_self _
    · rcases List.mem_cons.mp hb with rfl | hb
      · exact Nat.lt_succ_of_lt hlt
      · cases hb
  · have hk2 : ∀ b o, s.heap.get? b = some o → h'.get? b = some o := fun b o e => by
      refine hk b o (fun hm => ?_) (Heap.get?_push_of_some _ e)
      exact absurd (Heap.lt_size e) ((List.mem_singleton.mp hm) ▸ Nat.lt_irrefl _)
    refine ⟨.int ns.sum, H, I.kept hk2, ⟨t', ?_⟩, q⟩
    rw [preSum_eq, List.take_of_length_le (by simp [intItems]), hn]
theorem e_sumT {pn : Pos} {ns : List Int} (h : E X e ρ (.d (.tuple (ns.map .int))) ρ1) (hm : X.mg "sum" = none) (hg : Gl X "sum" := by rfl) (hc : X.calm = true := by rfl) (he : starEach [e] X.env = (false, eval e X.env) :: starEach [] X.env := by rfl) : E X (.Call (.Name "sum" pn) [e] [] pos) ρ (.d (.int ns.sum)) ρ1 :=
  .of (pe_callB (cr_sumT hc) hg hm (by decide +kernel) (pa_cons pe_w pa_nil he) (he := he)) (ev_cb h.o fun HF H x Q r s q => by
    have r : Dp X.K HF x (.tuple (ns.map .int)) := r
    cases r with
    | tup h1 h2 =>
      have := ints_dpa h2
      subst this
      exact ⟨_, ns, rfl, same_t s h1, q _ (.int _)⟩)

/-! constants of the module -/
def KD (K : PySem.W.Frag) (u : Value) (d : PyData) : Prop := ∃ x, RelV x u ∧ ∀ HF, Dp K HF x d
inductive KDs (K : PySem.W.Frag) : List Value → List PyData → Prop
  | nil : KDs K [] []
  | cons {u : Value} {us : List Value} {d : PyData} {ds : List PyData} (h : KD K u d) (t : KDs K us ds) : KDs K (u :: us) (d :: ds)
theorem KDs.vals {K : PySem.W.Frag} : ∀ {us : List Value} {ds : List PyData}, KDs K us ds → ∃ xs, Vals xs us ∧ ∀ HF, DpAll K HF xs ds
  | _, _, .nil => ⟨[], .nil, fun _ => .nil⟩
  | _, _, .cons ⟨x, r, h⟩ t => by
    obtain ⟨xs, rs, hs⟩ := t.vals
    exact ⟨x :: xs, .cons r rs, fun HF => .cons (h HF) (hs HF)⟩
theorem kd_int {K : PySem.W.Frag} {i : Int} {t : Tok} : KD K (.int i t) (.int i) := ⟨.int i, ⟨t, rfl⟩, fun _ => .int i⟩
theorem kd_str {K : PySem.W.Frag} {i : Str} {t : Tok} : KD K (.str i t) (.str i) := ⟨.str i, ⟨t, rfl⟩, fun _ => .str i⟩
theorem kd_tup {K : PySem.W.Frag} {a : Addr} {od : Option Addr} {its : Array Value} {n : Nat} {sl : Array (Option Value)} {ds : List PyData} (hl : K.lookup a = some ⟨.type "tuple", od, .seq its n, sl⟩) (h : KDs K its.toList ds) (hz : ds.length < 1000) : KD K (.ref a) (.tuple ds) := by
  obtain ⟨xs, rs, hs⟩ := h.vals
  refine ⟨.ref a, rfl, fun HF => .tup (.inr ⟨_, its, n, hl, rfl, rfl, ?_, rs⟩) (hs HF)⟩
  have e1 : xs.length = its.size := rs.length.trans Array.length_toList
  rw [← e1, dpa_len (hs HF)]
  exact Nat.le_trans (Nat.le_of_lt hz) (show 1000 ≤ sizeLine by decide)
def GCst (K : PySem.W.Frag) (mg : Str → Option Value) (n : Str) (d : PyData) : Prop := ∃ u, mg n = some u ∧ KD K u d
theorem e_glob {d : PyData} (h : GCst X.K X.mg x d) (hg : Gl X x := by rfl) (hd : (x == ("__debug__" : Str)) = false := by decide) : E X (.Name x pos) ρ (.d d) ρ := by
  obtain ⟨u, hm, y, r, h⟩ := h
  exact .of (pe_glob hg hm r hd) (ev_c h)
end
end Th

set_option Elab.async false
set_option linter.all false
set_option maxRecDepth 100000
namespace Th
open PySem PySem.Spec PyProof.Rows L2

/-! ### drawing from a cell -/
def tkU (s : Int × Int) : Int := (s.1 * 48271 + 7919 * (s.2 + 1) * (s.2 + 1) + 11) % 2147483629
def tkW (s : Int × Int) : Int := (tkU s * tkU s + 69621 * (s.2 + 1) + 7) % 2147483587
def tkV (s : Int × Int) (b : Int) : Int := if 10 ^ 18 < s.1 then (s.1 - 10 ^ 18) % b else tkW s / 5 % b
def tkC (s : Int × Int) (b : Int) : Int := if 10 ^ 18 < s.1 then 10 ^ 18 + (s.1 - 10 ^ 18) / b else s.1
def tkS (s : Int × Int) (b : Int) : Int × Int := (tkC s b, s.2 + 1)
theorem tkS_n (s : Int × Int) (b : Int) : (tkS s b).2 = s.2 + 1 := rfl
theorem tkV_lo {s : Int × Int} {b : Int} (h : 0 < b) : 0 ≤ tkV s b := by
  unfold tkV
  split
  · exact emod_lo h
  · exact emod_lo h
theorem tkV_hi {s : Int × Int} {b : Int} (h : 0 < b) : tkV s b < b := by
  unfold tkV
  split
  · exact emod_hi h
  · exact emod_hi h
abbrev rowA (s : Int × Int) : A := .ml [.int s.1, .int s.2]
def fTake : Fs := fun as r as' => ∃ (s : Int × Int) (b : Int), (0 ≤ s.2 ∧ s.2 ≤ 1000000) ∧ (0 < b ∧ b.natAbs < 2 ^ 250) ∧ as = [rowA s, .d (.int b)] ∧ r = .d (.int (tkV s b)) ∧ as' = [rowA (tkS s b), .d (.int b)]
theorem tkU_lo (s : Int × Int) : 0 ≤ tkU s := emod_lo (by decide)
theorem tkU_hi (s : Int × Int) : tkU s < 2147483629 := emod_hi (by decide)

/-! ### dicts by whole numbers -/
section
variable {α : Type} {m : List (Int × α)} {k q : Int} {v : α}
theorem getI_nil : getI ([] : List (Int × α)) k = none := rfl
theorem getI_cons {p : Int × α} : getI (p :: m) k = if p.1 = k then some p.2 else getI m k := by
  unfold getI
  rw [List.find?_cons]
  by_cases h : p.1 = k
  · rw [if_pos h, show decide (p.1 = k) = true from decide_eq_true h]
    rfl
  · rw [if_neg h, show decide (p.1 = k) = false from decide_eq_false h]
theorem getI_none (h : k ∉ m.map (·.1)) : getI m k = none := by
  induction m with
  | nil => rfl
  | cons p m ih =>
    rw [getI_cons, if_neg fun z => h (by rw [List.map_cons, ← z]; exact List.mem_cons_self), ih fun z => h (by rw [List.map_cons]; exact List.mem_cons_of_mem _ z)]
theorem getI_app {l : List (Int × α)} : getI (m ++ l) k = (getI m k).or (getI l k) := by
  induction m with
  | nil => rfl
  | cons p m ih =>
    rw [List.cons_append, getI_cons, getI_cons]
    split
    · rfl
    · exact ih
theorem any_iff : (m.any fun kv => decide (kv.1 = k)) = true ↔ k ∈ m.map (·.1) := by
  rw [List.any_eq_true, List.mem_map]
  constructor
  · rintro ⟨x, h, e⟩
    exact ⟨x, h, of_decide_eq_true e⟩
  · rintro ⟨x, h, e⟩
    exact ⟨x, h, decide_eq_true e⟩
theorem getI_map : ∀ (m : List (Int × α)), k ∈ m.map (·.1) → getI (m.map fun kv => if kv.1 = k then (kv.1, v) else kv) k = some v
  | [], h => nomatch h
  | p :: m, h => by
    rw [List.map_cons, getI_cons]
    by_cases g : p.1 = k
    · rw [if_pos g]
      dsimp only
      rw [if_pos g]
    · rw [if_neg g, if_neg g]
      refine getI_map m ?_
      rw [List.map_cons] at h
      rcases List.mem_cons.mp h with z | z
      · exact absurd z.symm g
      · exact z
theorem getI_map2 (e : k ≠ q) : ∀ (m : List (Int × α)), getI (m.map fun kv => if kv.1 = k then (kv.1, v) else kv) q = getI m q
  | [] => rfl
  | p :: m => by
    rw [List.map_cons, getI_cons, getI_cons, getI_map2 e m]
    by_cases g : p.1 = k
    · rw [if_pos g]
      dsimp only
      rw [if_neg (by rw [g]; exact e), if_neg (by rw [g]; exact e)]
    · rw [if_neg g]
theorem getI_set : getI (setI m k v) q = if k = q then some v else getI m q := by
  unfold setI
  split
  · rename_i h
    have h := any_iff.mp h
    by_cases e : k = q
    · subst e
      rw [if_pos rfl, getI_map m h]
    · rw [if_neg e, getI_map2 e m]
  · rename_i h
    have h : k ∉ m.map (·.1) := fun z => h (any_iff.mpr z)
    rw [getI_app]
    by_cases e : k = q
    · subst e
      rw [if_pos rfl, getI_none h, getI_cons, if_pos rfl]
      rfl
    · rw [if_neg e, getI_cons, if_neg e, getI_nil]
      cases getI m q <;> rfl
theorem keys_set : (setI m k v).map (·.1) = if k ∈ m.map (·.1) then m.map (·.1) else m.map (·.1) ++ [k] := by
  unfold setI
  by_cases h : k ∈ m.map (·.1)
  · rw [if_pos (any_iff.mpr h), if_pos h, List.map_map]
    refine List.map_congr_left fun p _ => ?_
    show (if p.1 = k then (p.1, v) else p).1 = p.1
    split <;> rfl
  · rw [if_neg fun z => h (any_iff.mp z), if_neg h, List.map_append]
    rfl
theorem nodup_set (h : (m.map (·.1)).Nodup) : ((setI m k v).map (·.1)).Nodup := by
  rw [keys_set]
  split
  · exact h
  · rename_i g
    rw [List.nodup_append]
    refine ⟨h, List.nodup_cons.mpr ⟨List.not_mem_nil, List.nodup_nil⟩, fun a ha b hb z => ?_⟩
    rw [List.mem_singleton] at hb
    exact g (by rw [← hb, ← z]; exact ha)
theorem mem_keys_set : q ∈ (setI m k v).map (·.1) ↔ q = k ∨ q ∈ m.map (·.1) := by
  rw [keys_set]
  split
  · rename_i g
    exact ⟨.inr, fun z => z.elim (fun e => e ▸ g) id⟩
  · rw [List.mem_append, List.mem_singleton]
    exact Or.comm
end
/-! ### polynomials: lists of terms -/
abbrev Tm := Int × Int
def cf : List Tm → Int → Int
  | [], _ => 0
  | t :: ts, p => (if t.1 = p then t.2 else 0) + cf ts p
def Can (ts : List Tm) : Prop := (ts.map (·.1)).Pairwise (· < ·) ∧ ∀ t ∈ ts, t.2 ≠ 0
theorem cf_app (a b : List Tm) (p : Int) : cf (a ++ b) p = cf a p + cf b p := by
  induction a with
  | nil => rw [List.nil_append, cf]; omega
  | cons t a ih => rw [List.cons_append, cf, cf, ih]; omega
theorem cf_off {a : List Tm} {p : Int} (h : p ∉ a.map (·.1)) : cf a p = 0 := by
  induction a with
  | nil => rfl
  | cons t a ih =>
    rw [List.map_cons, List.mem_cons, not_or] at h
    rw [cf, if_neg fun z => h.1 z.symm, ih h.2]
    rfl
theorem cf_mem {a : List Tm} (hn : (a.map (·.1)).Nodup) {t : Tm} (h : t ∈ a) : cf a t.1 = t.2 := by
  induction a with
  | nil => cases h
  | cons u a ih =>
    rw [List.map_cons, List.nodup_cons] at hn
    rw [cf]
    rcases List.mem_cons.mp h with e | h
    · subst e
      rw [if_pos rfl, cf_off hn.1]
      omega
    · have hm : t.1 ∈ a.map (·.1) := List.mem_map_of_mem h
      rw [if_neg (fun z => hn.1 (by rw [z]; exact hm)), ih hn.2 h]
      omega
theorem pw_nodup {xs : List Int} (h : xs.Pairwise (· < ·)) : xs.Nodup := h.imp fun h => by omega
theorem Can.nodup {a : List Tm} (h : Can a) : (a.map (·.1)).Nodup := pw_nodup h.1
theorem can_ext : ∀ {a b : List Tm}, Can a → Can b → (∀ p, cf a p = cf b p) → a = b
  | [], [], _, _, _ => rfl
  | [], y :: b, _, hb, h => by
    have := h y.1
    rw [cf_mem hb.nodup List.mem_cons_self] at this
    exact absurd this.symm (hb.2 y List.mem_cons_self)
  | x :: a, [], ha, _, h => by
    have := h x.1
    rw [cf_mem ha.nodup List.mem_cons_self] at this
    exact absurd this (ha.2 x List.mem_cons_self)
  | x :: a, y :: b, ha, hb, h => by
    have ha1 := List.pairwise_cons.mp (show (x.1 :: a.map (·.1)).Pairwise (· < ·) from ha.1)
    have hb1 := List.pairwise_cons.mp (show (y.1 :: b.map (·.1)).Pairwise (· < ·) from hb.1)
    have e1 := h x.1
    have e2 := h y.1
    rw [cf_mem ha.nodup List.mem_cons_self] at e1
    rw [cf_mem hb.nodup List.mem_cons_self] at e2
    have hx : x.1 = y.1 := by
      rcases Int.lt_trichotomy x.1 y.1 with g | g | g
      · rw [cf_off] at e1
        · exact absurd e1 (ha.2 x List.mem_cons_self)
        · rw [List.map_cons, List.mem_cons]
          rintro (z | z)
          · omega
          · have := hb1.1 _ z; omega
      · exact g
      · rw [cf_off] at e2
        · exact absurd e2.symm (hb.2 y List.mem_cons_self)
        · rw [List.map_cons, List.mem_cons]
          rintro (z | z)
          · omega
          · have := ha1.1 _ z; omega
    have hxy : x = y := by
      rw [hx, cf_mem hb.nodup List.mem_cons_self] at e1
      exact Prod.ext hx e1
    subst hxy
    refine congrArg _ (can_ext ⟨ha1.2, fun t ht => ha.2 t (List.mem_cons_of_mem _ ht)⟩ ⟨hb1.2, fun t ht => hb.2 t (List.mem_cons_of_mem _ ht)⟩ fun p => ?_)
    have := h p
    rw [cf, cf] at this
    omega
/-- the terms of a dict, in order -/
abbrev keysI (d : List Tm) : List Int := d.map (·.1)
def valI (d : List Tm) (p : Int) : Int := (getI d p).getD 0
def canD (d : List Tm) : List Tm := ((isort (d.map (·.1))).filter fun p => !decide (valI d p = 0)).map fun p => (p, valI d p)
theorem isort_lt {ns : List Int} (h : ns.Nodup) : (isort ns).Pairwise (· < ·) := by
  have h2 : (isort ns).Nodup := (isort_perm ns).nodup_iff.mpr h
  exact ((isort_pw ns).and h2).imp fun ⟨a, b⟩ => by omega
theorem canD_keys (d : List Tm) : (canD d).map (·.1) = (isort (d.map (·.1))).filter fun p => !decide (valI d p = 0) := by
  unfold canD
  rw [List.map_map]
  exact List.map_id _
theorem canD_can {d : List Tm} (h : (d.map (·.1)).Nodup) : Can (canD d) := by
  refine ⟨?_, fun t ht => ?_⟩
  · rw [canD_keys]
    exact (isort_lt h).filter _
  · unfold canD at ht
    obtain ⟨p, hp, rfl⟩ := List.mem_map.mp ht
    have := (List.mem_filter.mp hp).2
    simpa using this
theorem canD_cf {d : List Tm} (h : (d.map (·.1)).Nodup) (p : Int) : cf (canD d) p = valI d p := by
  by_cases hp : p ∈ (canD d).map (·.1)
  · obtain ⟨t, ht, rfl⟩ := List.mem_map.mp hp
    rw [cf_mem (canD_can h).nodup ht]
    unfold canD at ht
    obtain ⟨q, _, rfl⟩ := List.mem_map.mp ht
    rfl
  · rw [cf_off hp]
    rw [canD_keys, List.mem_filter] at hp
    by_cases hz : valI d p = 0
    · exact hz.symm
    · have : p ∉ d.map (·.1) := fun z => hp ⟨(isort_perm _).mem_iff.mpr z, by simpa using hz⟩
      exact (show valI d p = 0 by unfold valI; rw [getI_none this]; rfl).symm
theorem canD_pow {d : List Tm} {t : Tm} (h : t ∈ canD d) : t.1 ∈ d.map (·.1) := by
  have : t.1 ∈ (canD d).map (·.1) := List.mem_map_of_mem h
  rw [canD_keys, List.mem_filter] at this
  exact (isort_perm _).mem_iff.mp this.1
theorem canD_len (d : List Tm) : (canD d).length ≤ d.length := by
  have e : (canD d).length = ((canD d).map (·.1)).length := (List.length_map _).symm
  rw [e, canD_keys]
  refine Nat.le_trans (List.length_filter_le _ _) ?_
  rw [(isort_perm _).length_eq, List.length_map]
  exact Nat.le_refl _
theorem valI_set {d : List Tm} {k q n : Int} : valI (setI d k n) q = if k = q then n else valI d q := by
  unfold valI
  rw [getI_set]
  split <;> rfl
/-- a number put in -/
def addI (d : List Tm) (t : Tm) : List Tm := setI d t.1 (valI d t.1 + t.2)
def gatD (ts : List Tm) : List Tm := ts.foldl addI []
theorem addI_val (d : List Tm) (t : Tm) (p : Int) : valI (addI d t) p = valI d p + (if t.1 = p then t.2 else 0) := by
  unfold addI
  rw [valI_set]
  split
  · rename_i h; rw [h]
  · omega
theorem addI_nodup {d : List Tm} {t : Tm} (h : (d.map (·.1)).Nodup) : ((addI d t).map (·.1)).Nodup := nodup_set h
theorem addI_len (d : List Tm) (t : Tm) : (addI d t).length ≤ d.length + 1 := setI_len _ _ _
theorem fold_val (ts : List Tm) : ∀ (d : List Tm) (p : Int), valI (ts.foldl addI d) p = valI d p + cf ts p := by
  induction ts with
  | nil => intro d p; show _ = _ + 0; rw [Int.add_zero]; rfl
  | cons t ts ih =>
    intro d p
    rw [List.foldl_cons, ih, addI_val, cf]
    omega
theorem fold_nodup (ts : List Tm) : ∀ {d : List Tm}, (d.map (·.1)).Nodup → ((ts.foldl addI d).map (·.1)).Nodup := by
  induction ts with
  | nil => intro d h; exact h
  | cons t ts ih => intro d h; exact ih (addI_nodup h)
theorem fold_keys (ts : List Tm) : ∀ {d : List Tm} {p : Int}, p ∈ (ts.foldl addI d).map (·.1) ↔ p ∈ d.map (·.1) ∨ p ∈ ts.map (·.1) := by
  induction ts with
  | nil => intro d p; simp
  | cons t ts ih =>
    intro d p
    rw [List.foldl_cons, ih, List.map_cons, List.mem_cons]
    unfold addI
    rw [mem_keys_set]
    constructor
    · rintro ((h | h) | h)
      · exact .inr (.inl h)
      · exact .inl h
      · exact .inr (.inr h)
    · rintro (h | h | h)
      · exact .inl (.inr h)
      · exact .inl (.inl h)
      · exact .inr h
theorem gatD_val (ts : List Tm) (p : Int) : valI (gatD ts) p = cf ts p := by
  unfold gatD
  rw [fold_val]
  show 0 + _ = _
  omega
theorem gatD_nodup (ts : List Tm) : ((gatD ts).map (·.1)).Nodup := fold_nodup ts List.nodup_nil
theorem gatD_keys {ts : List Tm} {p : Int} : p ∈ (gatD ts).map (·.1) ↔ p ∈ ts.map (·.1) := by
  unfold gatD
  rw [fold_keys]
  simp
theorem fold_len (ts : List Tm) : ∀ (d : List Tm), (ts.foldl addI d).length ≤ d.length + ts.length := by
  induction ts with
  | nil => intro d; exact Nat.le_refl _
  | cons t ts ih =>
    intro d
    have h1 := ih (addI d t)
    have h2 := addI_len d t
    rw [List.foldl_cons, List.length_cons]
    omega
def gat (ts : List Tm) : List Tm := canD (gatD ts)
theorem gat_can (ts : List Tm) : Can (gat ts) := canD_can (gatD_nodup ts)
theorem gat_cf (ts : List Tm) (p : Int) : cf (gat ts) p = cf ts p := by
  unfold gat
  rw [canD_cf (gatD_nodup ts), gatD_val]
theorem gat_pow {ts : List Tm} {t : Tm} (h : t ∈ gat ts) : t.1 ∈ ts.map (·.1) := gatD_keys.mp (canD_pow h)
theorem gat_len (ts : List Tm) : (gat ts).length ≤ ts.length := by
  refine Nat.le_trans (canD_len _) ?_
  have := fold_len ts []
  unfold gatD
  simpa using this
theorem gat_val {ts : List Tm} {t : Tm} (h : t ∈ gat ts) : t.2 = cf ts t.1 := by rw [← gat_cf, cf_mem (gat_can ts).nodup h]
theorem gat_is {ts a : List Tm} (ha : Can a) (h : ∀ p, cf ts p = cf a p) : gat ts = a := can_ext (gat_can ts) ha fun p => (gat_cf ts p).trans (h p)
theorem gat_id {a : List Tm} (ha : Can a) : gat a = a := gat_is ha fun _ => rfl
theorem gat_congr {a b : List Tm} (h : ∀ p, cf a p = cf b p) : gat a = gat b := gat_is (gat_can b) fun p => (h p).trans (gat_cf b p).symm

/-! products -/
def liftT (k : Int) (a : List Tm) : List Tm := a.map fun t => (t.1 + k, t.2)
def rowT (t : Tm) (b : List Tm) : List Tm := b.map fun u => (t.1 + u.1, t.2 * u.2)
def prodT (a b : List Tm) : List Tm := (a.map fun t => rowT t b).flatten
theorem prodT_cons (t : Tm) (a b : List Tm) : prodT (t :: a) b = rowT t b ++ prodT a b := by
  unfold prodT
  rw [List.map_cons, List.flatten_cons]
theorem prodT_len (a b : List Tm) : (prodT a b).length = a.length * b.length := by
  induction a with
  | nil => rw [List.length_nil, Nat.zero_mul]; rfl
  | cons t a ih =>
    rw [prodT_cons, List.length_append, ih, List.length_cons, Nat.succ_mul]
    unfold rowT
    rw [List.length_map]
    omega
theorem cf_row (t : Tm) (b : List Tm) (p : Int) : cf (rowT t b) p = t.2 * cf b (p - t.1) := by
  induction b with
  | nil => show 0 = t.2 * 0; rw [Int.mul_zero]
  | cons u b ih =>
    show (if t.1 + u.1 = p then t.2 * u.2 else 0) + cf (rowT t b) p = _
    rw [cf, Int.mul_add, ih]
    by_cases h : t.1 + u.1 = p
    · rw [if_pos h, if_pos (by omega)]
    · rw [if_neg h, if_neg (by omega), Int.mul_zero]
theorem cf_prod_cons (t : Tm) (a b : List Tm) (p : Int) : cf (prodT (t :: a) b) p = t.2 * cf b (p - t.1) + cf (prodT a b) p := by rw [prodT_cons, cf_app, cf_row]
theorem cf_lift (k : Int) (a : List Tm) (p : Int) : cf (liftT k a) p = cf a (p - k) := by
  induction a with
  | nil => rfl
  | cons t a ih =>
    show (if t.1 + k = p then t.2 else 0) + cf (liftT k a) p = _
    rw [cf, ih]
    by_cases h : t.1 + k = p
    · rw [if_pos h, if_pos (by omega)]
    · rw [if_neg h, if_neg (by omega)]
theorem lift_can {k : Int} {a : List Tm} (h : Can a) : Can (liftT k a) := by
  refine ⟨?_, fun t ht => ?_⟩
  · unfold liftT
    rw [List.map_map, List.pairwise_map]
    exact (List.pairwise_map.mp h.1).imp fun {a b} (h : a.1 < b.1) => (show a.1 + k < b.1 + k by omega)
  · obtain ⟨u, hu, rfl⟩ := List.mem_map.mp ht
    exact h.2 u hu
/-- how many terms lie between two powers -/
theorem pw_len : ∀ {xs : List Int} {lo hi : Int}, xs.Pairwise (· < ·) → (∀ x ∈ xs, lo ≤ x ∧ x ≤ hi) → (xs.length : Int) ≤ max 0 (hi - lo + 1)
  | [], _, _, _, _ => by simp; omega
  | x :: xs, lo, hi, h, hb => by
    have h1 := List.pairwise_cons.mp h
    have h2 := hb x List.mem_cons_self
    have := pw_len (lo := x + 1) (hi := hi) h1.2 fun y hy => ⟨h1.1 y hy, (hb y (List.mem_cons_of_mem _ hy)).2⟩
    rw [List.length_cons]
    omega
theorem nodup_len {xs : List Int} {lo hi : Int} (h : xs.Nodup) (hb : ∀ x ∈ xs, lo ≤ x ∧ x ≤ hi) : (xs.length : Int) ≤ max 0 (hi - lo + 1) := by
  rw [← (isort_perm xs).length_eq]
  exact pw_len (isort_lt h) fun x hx => hb x ((isort_perm xs).mem_iff.mp hx)
/-! as data -/
abbrev encT (t : Tm) : PyData := .tuple [.int t.1, .int t.2]
abbrev encP (ts : List Tm) : PyData := .tuple (ts.map encT)
theorem eqE_T : EqE encT := eqE_pair eqE_int eqE_int
theorem eqE_P : EqE encP := eqE_tuple eqE_T
theorem fit_T {n : Nat} (t : Tm) : Fit (n + 1) (encT t) := fit_t2 (fit_int _) (fit_int _)
theorem fit_P {n : Nat} (a : List Tm) : Fit (n + 2) (encP a) := fit_tm fun t _ => fit_T t
abbrev encDI (d : List Tm) : List (Key × PyData) := encD PyData.int d
theorem getK_val (d : List Tm) (p : Int) : (getK (encDI d) (Sum.inl p)).getD (.int 0) = .int (valI d p) := by
  rw [getK_enc]
  unfold valI
  cases getI d p <;> rfl
theorem getK_in {d : List Tm} {p : Int} (h : p ∈ d.map (·.1)) : getK (encDI d) (Sum.inl p) = some (.int (valI d p)) := by
  obtain ⟨v, e⟩ := getI_some h
  rw [getK_enc]
  unfold valI
  rw [e]
  rfl
theorem encDI_set (d : List Tm) (p n : Int) : setK (encDI d) (Sum.inl p) (.int n) = encDI (setI d p n) := setK_enc (f := PyData.int) d p n
theorem encDI_keys (d : List Tm) : (encDI d).map (·.1) = (keysI d).map Sum.inl := keys_enc (f := PyData.int) d
end Th
namespace Th
open PySem PySem.Spec PyProof.Rows L2
/-- a def that changes its first argument -/
theorem pr_1 {r a x : A} {ds : List PyData} {ρ : Rho} (h : a = r) (h2 : ρ[0]? = some x) : PR r (x :: ds.map A.d) a ρ := ⟨h, fun i a' e o => by
  cases i with
  | zero => rw [List.getElem?_cons_zero] at e; cases e; exact h2
  | succ i =>
    rw [List.getElem?_cons_succ] at e
    have := own_map a' (List.mem_of_getElem? e)
    rw [o] at this
    cases this⟩
theorem own_1 {x : A} {ds : List PyData} {i : Nat} {a : A} (e : (x :: ds.map A.d)[i]? = some a) (o : a.own = true) : i ∈ [0] := by
  cases i with
  | zero => exact List.mem_singleton.mpr rfl
  | succ i =>
    rw [List.getElem?_cons_succ] at e
    have := own_map a (List.mem_of_getElem? e)
    rw [o] at this
    cases this
end Th
namespace Th
open PySem PySem.Spec PyProof.Rows L2
def fGathered : List PyData → A → Prop := fun ds r => ∃ (tup : Bool) (ts : List Tm), ts.length < 100000 ∧ ds = [if tup then encP ts else .list (ts.map encT)] ∧ r = .d (encP (gat ts))
def fTimes : List PyData → A → Prop := fun ds r => ∃ a b : List Tm, a.length * b.length < 100000 ∧ a.length < 100000 ∧ b.length < 100000 ∧ (∀ t ∈ a, ∀ u ∈ b, CMulW t.2 u.2) ∧ ds = [encP a, encP b] ∧ r = .d (encP (gat (prodT a b)))
def fLifted : List PyData → A → Prop := fun ds r => ∃ (a : List Tm) (k : Int), a.length < 100000 ∧ ds = [encP a, .int k] ∧ r = .d (encP (liftT k a))
def fTold : List PyData → A → Prop := fun ds r => ∃ a : List Tm, ds = [encP a] ∧ r = .d (.bool true)
def fPolyD : Fs := fun as r as' => ∃ d : List Tm, d.length < 100000 ∧ as = [.mk (encDI d)] ∧ r = .d (encP (canD d)) ∧ as' = as
theorem prodT_take {a b : List Tm} {i : Nat} {t : Tm} (h : a[i]? = some t) : prodT (a.take (i + 1)) b = prodT (a.take i) b ++ rowT t b := by
  unfold prodT
  rw [List.take_add_one, h, List.map_append, List.flatten_append]
  simp
end Th
namespace Th
open PySem PySem.Spec PyProof.Rows L2
theorem shape_1 {x y : A} {l : List A} (hx : x.own = true := by rfl) (hy : y.own = true := by rfl) : Shape (x :: l) (y :: l) := ⟨rfl, fun i a e => by
  cases i with
  | zero => rw [List.getElem?_cons_zero] at e; cases e; exact ⟨y, rfl, by rw [hx, hy], fun z => by rw [hx] at z; cases z⟩
  | succ i => exact ⟨a, e, rfl, fun _ => rfl⟩⟩
theorem e_take (i : Nat) {X : Cx} {ρ ρ1 : Rho} {k : Nat} {f : Addr} {fd : FuncData} {ps : List Str} {x y : Str} {p py pos : Pos} {eb : Expr} {s : Int × Int} {b : Int} (G : FnOk X.prog X.w X.K X.mg X.base CX0 k f fd ps (spA X.K fTake)) (hr : Room k X.A) (hm : X.mg x = some (.ref f)) (hk : PySem.W.keepIn X.K (.ref f) = true) (hb : Binds X.K fd ps [])
    (he : E X eb ρ (.d (.int b)) ρ1) (hi0 : ∃ a, ρ[i]? = some a ∧ a.own = true) (hi : ρ1[i]? = some (rowA s)) (hs : 0 ≤ s.2 ∧ s.2 ≤ 1000000 := by (refine ⟨?_, ?_⟩ <;> (try simp only [tkS_n]) <;> omega)) (h0 : 0 < b ∧ b.natAbs < 2 ^ 250 := by exact ⟨by decide, by decide⟩) (hN : X.N[i]? = some y := by rfl) (hv : Vis X.env.scope y := by first | exact Or.inl rfl | exact Or.inr (Or.inl rfl) | exact Or.inr (Or.inr rfl))
    (hd : (y == ("__debug__" : Str)) = false := by decide) (hcd : (y == ("__classdict__" : Str)) = false := by decide) (hs2 : starEach (.Name y py :: [eb]) X.env = (false, eval (.Name y py) X.env) :: starEach [eb] X.env := by rfl) (hs3 : starEach (eb :: []) X.env = (false, eval eb X.env) :: starEach [] X.env := by rfl) (hg : Gl X x := by rfl) (hdb : (x == ("__debug__" : Str)) = false := by decide) (hpl : (backTo pos (starEach [eb] X.env)).any (·.1) = false := by rfl) :
    E X (.Call (.Name x p) [.Name y py, eb] [] pos) ρ (.d (.int (tkV s b))) (ρ1.set i (rowA (tkS s b))) := by
  obtain ⟨a, h1, h2⟩ := hi0
  have e : ρ1.getD i .any = rowA s := by rw [List.getD_eq_getElem?_getD, hi]; rfl
  have h := e_call (r := .d (.int (tkV s b))) (as' := [rowA (tkS s b), .d (.int b)]) (pos := pos) (p := p) G hr hm hk hb (a_lent (pos := py) i h1 h2 (a_dat he a_nil hs3) hN hv hd hcd hs2) ⟨s, b, hs, h0, by simp only [List.map_cons, List.map_nil, toA, e], rfl, rfl⟩ (by simp only [List.map_cons, List.map_nil, toA, e]; exact shape_1) (by simp [lents]) (fun _ _ z => z.elim) hg hdb hs2 hpl
  exact h
theorem src_keysI {X : Cx} {ρ ρ1 : Rho} {tg iter : Expr} {d : List Tm} (h : E X iter ρ (.fk (encDI d)) ρ1) : Src X tg iter ρ (d.map fun t => .int t.1) ρ1 none := by
  have g := src_keys (tg := tg) h
  have : (encDI d).map (fun kv => kD kv.1) = d.map fun t => PyData.int t.1 := by
    unfold encDI encD
    rw [List.map_map]
    rfl
  rwa [this] at g
end Th
namespace Th
open PySem PySem.Spec PyProof.Rows L2
/-! draws: one of two; rows of them -/
def pick2 (s : Int × Int) (a b c : Int) : Int := if decide (tkV (tkS (tkS s a) b) c = 1) = true then tkV (tkS s a) b else tkV s a
theorem at_b2 {a b : PyData} {c : Bool} : atI [a, b] (if c = true then 1 else 0) = some (if c = true then b else a) := by cases c <;> rfl
theorem at_b2i {a b : Int} {c : Bool} : atI [PyData.int a, .int b] (if c = true then 1 else 0) = some (.int (if c = true then b else a)) := by cases c <;> rfl
theorem pick2_bd {s : Int × Int} {a b c m : Int} (ha : 0 < a) (hb : 0 < b) (h1 : a ≤ m) (h2 : b ≤ m) : 0 ≤ pick2 s a b c ∧ pick2 s a b c < m := by
  unfold pick2
  have := tkV_lo (s := s) ha
  have := tkV_hi (s := s) ha
  have := tkV_lo (s := tkS s a) hb
  have := tkV_hi (s := tkS s a) hb
  split <;> omega
def drawL (b : Int) : Nat → Int × Int → List Int
  | 0, _ => []
  | n + 1, s => tkV s b :: drawL b n (tkS s b)
theorem drawL_len (b : Int) : ∀ (n : Nat) (s : Int × Int), (drawL b n s).length = n
  | 0, _ => rfl
  | n + 1, s => congrArg (· + 1) (drawL_len b n _)
theorem drawL_bd {b : Int} (hb : 0 < b) : ∀ (n : Nat) (s : Int × Int), ∀ x ∈ drawL b n s, 0 ≤ x ∧ x < b
  | 0, _, x, h => nomatch h
  | n + 1, s, x, h => by
    rcases List.mem_cons.mp h with rfl | h
    · exact ⟨tkV_lo hb, tkV_hi hb⟩
    · exact drawL_bd hb n _ x h
theorem fold_draw {α : Type} (b : Int) : ∀ (xs : List α) (t : Int × Int) (acc : List PyData), (xs.foldl (fun (p : (Int × Int) × List PyData) (_ : α) => (tkS p.1 b, p.2 ++ [PyData.int (tkV p.1 b)])) (t, acc)).2 = acc ++ (drawL b xs.length t).map .int
  | [], t, acc => by show acc = acc ++ []; rw [List.append_nil]
  | x :: xs, t, acc => by
    rw [List.foldl_cons, fold_draw b xs]
    show (acc ++ [_]) ++ _ = acc ++ (_ :: _)
    rw [List.append_assoc]
    rfl
theorem fold_drawS {α : Type} (b : Int) : ∀ (xs : List α) (t : Int × Int), (xs.foldl (fun (p : Int × Int) (_ : α) => tkS p b) t).2 = t.2 + xs.length
  | [], t => by show t.2 = t.2 + 0; omega
  | x :: xs, t => by
    rw [List.foldl_cons, fold_drawS b xs, tkS_n, List.length_cons]
    omega
theorem rep_one {α : Type} (x : α) : ∀ n : Nat, (List.replicate n [x]).flatten = List.replicate n x
  | 0 => rfl
  | n + 1 => by rw [List.replicate_succ, List.flatten_cons, rep_one x n]; rfl
end Th
namespace Th
open PySem PySem.Spec PyProof.Rows L2
abbrev encN (i : Nat) : PyData := .int (i : Int)
theorem src_rN {X : Cx} {ρ ρ1 : Rho} {tg e : Expr} {px pc : Pos} {n : Nat} (h : E X e ρ (.d (.int n)) ρ1) (hm : X.mg "range" = none) (hn : n < 2 ^ 62) (hg : Gl X "range" := by rfl) (hse : starEach [e] X.env = [(false, eval e X.env)] := by rfl) :
    Src X tg (.Call (.Name "range" px) [e] [] pc) ρ ((List.range n).map encN) ρ1 none := by
  have g := src_r1 (tg := tg) (px := px) (pc := pc) h hm ⟨by omega, by omega⟩ hg hse
  have : rangeD 0 (n : Int).toNat = (List.range n).map encN := by
    unfold rangeD
    rw [Int.toNat_natCast]
    refine List.map_congr_left fun i _ => ?_
    rw [Int.zero_add]
  rwa [this] at g
theorem range_get {n i x : Nat} (h : (List.range n)[i]? = some x) : i < n ∧ x = i := by
  have := (List.getElem?_eq_some_iff.mp h)
  obtain ⟨h1, h2⟩ := this
  rw [List.length_range] at h1
  rw [List.getElem_range] at h2
  exact ⟨h1, h2.symm⟩
end Th
namespace Th
open PySem PySem.Spec PyProof.Rows L2
section
variable {X : Cx} {B : Bs} {P : Pst} {ρ ρ1 ρ2 ρ3 : Rho} {tg iter e e1 e2 : Expr} {es : List Expr} {pos pos' : Pos} {ds : List PyData} {k : Option Nat}
theorem l_lcF {α : Type} {xs : List α} {scope : Scope} (own : List (Str × Nat)) {elt : Expr} {ifs : List Expr} (enc : α → PyData) (p : α → Bool) (g : α → PyData)
    (ht : Src X tg iter ρ (xs.map enc) ρ1 k) (hN : X.N.Nodup) (hz : xs.length < 100000)
    (hb : ∀ (i : Nat) (x : α), xs[i]? = some x → ∃ ρ2 : Rho, (∀ (s : Shared) (H : Hp) (C : Addr) (cl : List (Str × Addr)) (fp : List Addr), GC (X.blk s H scope (compEnvC scope cl C X.env) fp) (own.map (·.2)) tg (enc x) (wipeR ρ1 (own.map (·.2))) ρ2) ∧
      (∀ (s : Shared) (H : Hp) (C : Addr) (cl : List (Str × Addr)) (fp : List Addr), EI (X.blk s H scope (compEnvC scope cl C X.env) fp) ifs ρ2 (p x) ρ2) ∧
      (p x = true → ∀ (s : Shared) (H : Hp) (C : Addr) (cl : List (Str × Addr)) (fp : List Addr), E (X.blk s H scope (compEnvC scope cl C X.env) fp) elt ρ2 (.d (g x)) ρ2) ∧ wipeR ρ2 (own.map (·.2)) = wipeR ρ1 (own.map (·.2)))
    (hv : noOwn ρ1 (own.map (·.2)) = true) (hkk : ∀ j, k = some j → j ∉ own.map (·.2)) (ok : BlkOk X.N X.env.scope scope own)
    (hc : X.calm = true := by rfl) (hs : ∀ x, foldedSetIterable iter X.env x = pure x := by intro _; rfl) : ELc X (.ListComp elt [⟨tg, iter, ifs, 0⟩] scope pos) ρ (.ml ((xs.filter p).map g)) ρ1 := by
  refine el_lc (out := (xs.filter p).map g) (D0 := []) ht ok hN (fun i ρ' acc => ρ' = wipeR ρ1 (own.map (·.2)) ∧ acc = ((xs.take i).filter p).map g) ⟨rfl, rfl⟩ (fun i ρ' acc ⟨e, _⟩ => ⟨?_, hkk⟩) (fun i v ρ' acc hi ⟨e1, e2⟩ => ?_) (fun ρ' acc ⟨e1, e2⟩ => ?_) (by rw [List.length_map]; exact Nat.lt_of_lt_of_le hz (by decide)) (fun i ρ' acc ⟨_, e⟩ => ?_) hc hs
  · subst e
    cases k with
    | none => trivial
    | some j => exact wipeR_off (hkk j rfl)
  · subst e1
    obtain ⟨x, hx, rfl⟩ := map_get hi
    obtain ⟨ρ2, h1, h2, h3, h4⟩ := hb i x hx
    have tk : xs.take (i + 1) = xs.take i ++ [x] := by rw [List.take_add_one, hx]; rfl
    refine ⟨ρ2, p x, ρ2, h1, h2, fun z => ⟨g x, ρ2, h3 z, h4, ?_⟩, fun z => ⟨h4, ?_⟩⟩
    · rw [e2, tk, List.filter_append, List.map_append]
      simp [z]
    · rw [e2, tk, List.filter_append, List.map_append]
      simp [z]
  · subst e1
    rw [List.length_map, List.take_length] at e2
    exact ⟨e2, unw_id (no_own hv)⟩
  · rw [e, List.length_map]
    refine Nat.le_trans (List.length_filter_le _ _) ?_
    rw [List.length_take]
    exact Nat.min_le_left _ _
theorem l_lcM {α : Type} {xs : List α} {scope : Scope} (own : List (Str × Nat)) {elt : Expr} (enc : α → PyData) (g : α → PyData)
    (ht : Src X tg iter ρ (xs.map enc) ρ1 k) (hN : X.N.Nodup) (hz : xs.length < 100000)
    (hb : ∀ (i : Nat) (x : α), xs[i]? = some x → ∃ ρ2 : Rho, (∀ (s : Shared) (H : Hp) (C : Addr) (cl : List (Str × Addr)) (fp : List Addr), GC (X.blk s H scope (compEnvC scope cl C X.env) fp) (own.map (·.2)) tg (enc x) (wipeR ρ1 (own.map (·.2))) ρ2) ∧
      (∀ (s : Shared) (H : Hp) (C : Addr) (cl : List (Str × Addr)) (fp : List Addr), E (X.blk s H scope (compEnvC scope cl C X.env) fp) elt ρ2 (.d (g x)) ρ2) ∧ wipeR ρ2 (own.map (·.2)) = wipeR ρ1 (own.map (·.2)))
    (hv : noOwn ρ1 (own.map (·.2)) = true) (hkk : ∀ j, k = some j → j ∉ own.map (·.2)) (ok : BlkOk X.N X.env.scope scope own)
    (hc : X.calm = true := by rfl) (hs : ∀ x, foldedSetIterable iter X.env x = pure x := by intro _; rfl) : ELc X (.ListComp elt [⟨tg, iter, [], 0⟩] scope pos) ρ (.ml (xs.map g)) ρ1 := by
  have h := l_lcF (pos := pos) (elt := elt) (ifs := []) own enc (fun _ => true) g ht hN hz (fun i x hx => by
    obtain ⟨ρ2, h1, h2, h3⟩ := hb i x hx
    exact ⟨ρ2, h1, fun s H C cl fp => i_nil, fun _ => h2, h3⟩) hv hkk ok hc hs
  rwa [List.filter_eq_self.mpr fun _ _ => rfl] at h
theorem l_lcS {α T : Type} {xs : List α} {scope : Scope} (own : List (Str × Nat)) {elt : Expr} (enc : α → PyData) (t0 : T) (step : T → α → T) (g : T → α → PyData) (emb : T → Rho) (J : T → Nat → Prop) (hJ : J t0 0)
    (ht : Src X tg iter ρ (xs.map enc) (emb t0) none) (hN : X.N.Nodup) (hz : xs.length < 100000)
    (hb : ∀ t (i : Nat) (x : α), xs[i]? = some x → J t i → J (step t x) (i + 1) ∧ ∃ ρ2 ρ4 : Rho, (∀ (s : Shared) (H : Hp) (C : Addr) (cl : List (Str × Addr)) (fp : List Addr), GC (X.blk s H scope (compEnvC scope cl C X.env) fp) (own.map (·.2)) tg (enc x) (wipeR (emb t) (own.map (·.2))) ρ2) ∧
      (∀ (s : Shared) (H : Hp) (C : Addr) (cl : List (Str × Addr)) (fp : List Addr), E (X.blk s H scope (compEnvC scope cl C X.env) fp) elt ρ2 (.d (g t x)) ρ4) ∧ wipeR ρ4 (own.map (·.2)) = wipeR (emb (step t x)) (own.map (·.2)))
    (hv : ∀ t, noOwn (emb t) (own.map (·.2)) = true) (hem : ∀ t t', (emb t).length = (emb t').length ∧ ∀ i, i ∈ own.map (·.2) → (emb t)[i]? = (emb t')[i]?) (ok : BlkOk X.N X.env.scope scope own)
    (hc : X.calm = true := by rfl) (hs : ∀ x, foldedSetIterable iter X.env x = pure x := by intro _; rfl) :
    ELc X (.ListComp elt [⟨tg, iter, [], 0⟩] scope pos) ρ (.ml ((xs.foldl (fun (p : T × List PyData) x => (step p.1 x, p.2 ++ [g p.1 x])) (t0, [])).2)) (emb (xs.foldl step t0)) := by
  have hfst : ∀ (ys : List α) (t : T) (acc : List PyData), (ys.foldl (fun (p : T × List PyData) x => (step p.1 x, p.2 ++ [g p.1 x])) (t, acc)).1 = ys.foldl step t := fun ys => by
    induction ys with
    | nil => intro t acc; rfl
    | cons y ys ih => intro t acc; rw [List.foldl_cons, List.foldl_cons]; exact ih _ _
  have hlen : ∀ (ys : List α) (t : T) (acc : List PyData), (ys.foldl (fun (p : T × List PyData) x => (step p.1 x, p.2 ++ [g p.1 x])) (t, acc)).2.length = acc.length + ys.length := fun ys => by
    induction ys with
    | nil => intro t acc; rfl
    | cons y ys ih => intro t acc; rw [List.foldl_cons, ih]; simp; omega
  have hJall : ∀ i, i ≤ xs.length → J ((xs.take i).foldl step t0) i := fun i => by
    induction i with
    | zero => intro _; exact hJ
    | succ i ih =>
      intro hi
      have e := List.getElem?_eq_getElem (show i < xs.length by omega)
      rw [List.take_add_one, e, List.foldl_append]
      exact (hb _ i _ e (ih (by omega))).1
  refine el_lc (D0 := []) (k := none) ht ok hN (fun i ρ' acc => ρ' = wipeR (emb ((xs.take i).foldl step t0)) (own.map (·.2)) ∧ acc = ((xs.take i).foldl (fun (p : T × List PyData) x => (step p.1 x, p.2 ++ [g p.1 x])) (t0, [])).2) ⟨rfl, rfl⟩ (fun _ _ _ _ => ⟨trivial, fun _ z => nomatch z⟩) (fun i v ρ' acc hi ⟨e1, e2⟩ => ?_) (fun ρ' acc ⟨e1, e2⟩ => ?_) (by rw [List.length_map]; exact Nat.lt_of_lt_of_le hz (by decide)) (fun i ρ' acc ⟨_, e⟩ => ?_) hc hs
  · subst e1
    obtain ⟨x, hx, rfl⟩ := map_get hi
    have hlt := (List.getElem?_eq_some_iff.mp hx).1
    obtain ⟨_, ρ2, ρ4, h1, h2, h3⟩ := hb _ i x hx (hJall i (by omega))
    have tk : xs.take (i + 1) = xs.take i ++ [x] := by rw [List.take_add_one, hx]; rfl
    refine ⟨ρ2, true, ρ2, h1, fun s H C cl fp => i_nil, fun _ => ⟨_, ρ4, h2, ?_, ?_⟩, fun z => nomatch z⟩
    · rw [h3, tk, List.foldl_append]
      rfl
    · rw [e2, tk, List.foldl_append]
      show _ = _ ++ [g _ x]
      rw [hfst]
  · subst e1
    rw [List.length_map, List.take_length] at *
    refine ⟨e2, (hem _ _).1, fun i hi => (wipeR_off hi).symm, fun i hi => ⟨(hem _ _).2 i hi, fun a e => no_own (hv t0) i a hi e⟩⟩
  · rw [e, hlen]
    simp
    exact Nat.min_le_left _ _
end
end Th

set_option Elab.async false
set_option linter.all false
set_option maxRecDepth 100000
namespace Th
open PySem PySem.Spec PyProof.Rows L2

/-! ### drawn numbers and polynomials -/
def nmStep (t : Int × (Int × Int)) : Int × (Int × Int) := (t.1 * 10 ^ 9 + tkV t.2 (10 ^ 9), tkS t.2 (10 ^ 9))
def nm7 (s : Int × Int) : Int × (Int × Int) := (List.range 7).foldl (fun t _ => nmStep t) (0, tkS s 3)
def nmDiv (i : Int) : Int := [1, 10 ^ 9, 10 ^ 30].getD i.toNat 0
def nmQ (s : Int × Int) (m : Int) : Int := (nm7 s).1 % (m + 1) / nmDiv (tkV (nm7 s).2 3)
def numV (s : Int × Int) (m : Int) : Int := if 0 < tkV s 3 then tkV (tkS s 3) 9 - 4 else [nmQ s m, 0 - nmQ s m].getD (tkV (tkS (nm7 s).2 3) 2).toNat 0
def numS (s : Int × Int) (m : Int) : Int × Int := if 0 < tkV s 3 then tkS (tkS s 3) 9 else tkS (tkS (nm7 s).2 3) 2
theorem nm7_n (s : Int × Int) : (nm7 s).2.2 = s.2 + 8 := by
  show s.2 + 1 + 1 + 1 + 1 + 1 + 1 + 1 + 1 = s.2 + 8
  omega
theorem numS_n (s : Int × Int) (m : Int) : s.2 ≤ (numS s m).2 ∧ (numS s m).2 ≤ s.2 + 10 := by
  unfold numS
  split
  · simp only [tkS_n]; omega
  · simp only [tkS_n, nm7_n]; omega
theorem nmDiv_pos {i : Int} (h0 : 0 ≤ i) (h : i < 3) : 1 ≤ nmDiv i ∧ (nmDiv i).natAbs < 2 ^ 110 := by
  have : i = 0 ∨ i = 1 ∨ i = 2 := by omega
  rcases this with rfl | rfl | rfl <;> exact ⟨by decide, by decide⟩
theorem numV_bd {s : Int × Int} {m : Int} (hm : 0 ≤ m) : -(m + 4) ≤ numV s m ∧ numV s m ≤ m + 4 := by
  unfold numV
  split
  · have := tkV_lo (s := tkS s 3) (b := 9) (by decide)
    have := tkV_hi (s := tkS s 3) (b := 9) (by decide)
    omega
  · have h1 := emod_lo (a := (nm7 s).1) (b := m + 1) (by omega)
    have h2 := emod_hi (a := (nm7 s).1) (b := m + 1) (by omega)
    have hd := (nmDiv_pos (tkV_lo (s := (nm7 s).2) (b := 3) (by decide)) (tkV_hi (by decide))).1
    have h3 : 0 ≤ nmQ s m := Int.ediv_nonneg h1 (by omega)
    have h4 : nmQ s m ≤ m := by
      unfold nmQ
      refine Int.le_trans (Int.ediv_le_self _ h1) (by omega)
    have hi0 := tkV_lo (s := tkS (nm7 s).2 3) (b := 2) (by decide)
    have hi1 := tkV_hi (s := tkS (nm7 s).2 3) (b := 2) (by decide)
    generalize tkV (tkS (nm7 s).2 3) 2 = i at *
    have : i = 0 ∨ i = 1 := by omega
    rcases this with rfl | rfl
    · show -(m + 4) ≤ nmQ s m ∧ nmQ s m ≤ m + 4
      omega
    · show -(m + 4) ≤ 0 - nmQ s m ∧ 0 - nmQ s m ≤ m + 4
      omega
def mostOk (m : Int) : Prop := 0 ≤ m ∧ m < 10 ^ 61
def fNumber : Fs := fun as r as' => ∃ (s : Int × Int) (m : Int), (0 ≤ s.2 ∧ s.2 ≤ 900000) ∧ mostOk m ∧ as = [rowA s, .d (.int m)] ∧ r = .d (.int (numV s m)) ∧ as' = [rowA (numS s m), .d (.int m)]
/-- a polynomial's terms as drawn -/
structure PSt where
  acc : List (Int × Int)
  p : Int
  s : Int × Int
def gapS (s : Int × Int) (m : Int) : Int × Int := tkS (tkS (tkS s 4) (1 + m / 1000)) 4
def gapV (s : Int × Int) (m : Int) : Int := [0, 1, tkV s 4, tkV (tkS s 4) (1 + m / 1000)].getD (tkV (tkS (tkS s 4) (1 + m / 1000)) 4).toNat 0
def polyStep (m : Int) (t : PSt) : PSt := ⟨if numV t.s m = 0 then t.acc else t.acc ++ [(t.p, numV t.s m)], t.p + 1 + gapV (numS t.s m) m, gapS (numS t.s m) m⟩
def poly0 (s : Int × Int) (m t : Int) : PSt := ⟨[], numV s (m / 1000), tkS (numS s (m / 1000)) (t + 1)⟩
def polyN (s : Int × Int) (m t : Int) : Nat := (tkV (numS s (m / 1000)) (t + 1)).toNat
def polyR (s : Int × Int) (m t : Int) : PSt := (List.range (polyN s m t)).foldl (fun u _ => polyStep m u) (poly0 s m t)
theorem gapV_lo {s : Int × Int} {m : Int} (hm : 0 ≤ m) : 0 ≤ gapV s m := by
  unfold gapV
  have h1 := tkV_lo (s := s) (b := 4) (by decide)
  have h2 := tkV_lo (s := tkS s 4) (b := 1 + m / 1000) (by omega)
  have h3 := tkV_lo (s := tkS (tkS s 4) (1 + m / 1000)) (b := 4) (by decide)
  have h4 := tkV_hi (s := tkS (tkS s 4) (1 + m / 1000)) (b := 4) (by decide)
  generalize tkV (tkS (tkS s 4) (1 + m / 1000)) 4 = i at *
  have : i = 0 ∨ i = 1 ∨ i = 2 ∨ i = 3 := by omega
  rcases this with rfl | rfl | rfl | rfl
  · exact Int.le_refl _
  · exact show (0 : Int) ≤ 1 by decide
  · exact h1
  · exact h2
theorem gapS_n (s : Int × Int) (m : Int) : (gapS s m).2 = s.2 + 3 := by
  unfold gapS
  simp only [tkS_n]
  omega
structure POk (m s0 : Int) (i : Nat) (t : PSt) : Prop where
  can : Can t.acc
  below : ∀ u ∈ t.acc, u.1 < t.p
  small : ∀ u ∈ t.acc, -(m + 4) ≤ u.2 ∧ u.2 ≤ m + 4
  len : t.acc.length ≤ i
  sn : s0 ≤ t.s.2 ∧ t.s.2 ≤ s0 + 13 * i
theorem can_snoc {a : List (Int × Int)} {u : Int × Int} (h : Can a) (h2 : ∀ v ∈ a, v.1 < u.1) (h3 : u.2 ≠ 0) : Can (a ++ [u]) := by
  refine ⟨?_, fun v hv => ?_⟩
  · rw [List.map_append, List.pairwise_append]
    refine ⟨h.1, List.pairwise_singleton _ _, fun x hx y hy => ?_⟩
    obtain ⟨v, hv, rfl⟩ := List.mem_map.mp hx
    rw [List.mem_singleton.mp hy]
    exact h2 v hv
  · rcases List.mem_append.mp hv with hv | hv
    · exact h.2 v hv
    · rw [List.mem_singleton.mp hv]
      exact h3
theorem pok_step {m s0 : Int} {i : Nat} {t : PSt} (hm : 0 ≤ m) (h : POk m s0 i t) : POk m s0 (i + 1) (polyStep m t) := by
  have hg := gapV_lo (s := numS t.s m) hm
  have hn := numS_n t.s m
  have hs := h.sn
  have hv := numV_bd (s := t.s) hm
  have hgn := gapS_n (numS t.s m) m
  refine ⟨?_, ?_, ?_, ?_, ?_⟩
  · show Can (if numV t.s m = 0 then _ else _)
    split
    · exact h.can
    · rename_i g; exact can_snoc h.can h.below g
  · show ∀ u ∈ (if numV t.s m = 0 then t.acc else _), u.1 < t.p + 1 + gapV (numS t.s m) m
    split
    · intro u hu
      have := h.below u hu
      omega
    · intro u hu
      rcases List.mem_append.mp hu with hu | hu
      · have := h.below u hu
        omega
      · rw [List.mem_singleton.mp hu]
        dsimp only
        omega
  · show ∀ u ∈ (if numV t.s m = 0 then t.acc else _), _
    split
    · exact h.small
    · intro u hu
      rcases List.mem_append.mp hu with hu | hu
      · exact h.small u hu
      · rw [List.mem_singleton.mp hu]
        exact hv
  · show (if numV t.s m = 0 then t.acc else _).length ≤ i + 1
    have := h.len
    split
    · omega
    · rw [List.length_append, List.length_singleton]; omega
  · show s0 ≤ (gapS (numS t.s m) m).2 ∧ _
    constructor
    · omega
    · show (gapS (numS t.s m) m).2 ≤ _
      push_cast
      omega
theorem pok_fold {m s0 : Int} (hm : 0 ≤ m) {t0 : PSt} (h : POk m s0 0 t0) : ∀ n : Nat, POk m s0 n ((List.range n).foldl (fun u _ => polyStep m u) t0)
  | 0 => h
  | n + 1 => by
    rw [List.range_succ, List.foldl_append]
    exact pok_step hm (pok_fold hm h n)
theorem pok_poly0 (s : Int × Int) (m t : Int) : POk m ((numS s (m / 1000)).2 + 1) 0 (poly0 s m t) :=
  ⟨⟨List.Pairwise.nil, (fun _ z => nomatch z)⟩, (fun _ z => nomatch z), (fun _ z => nomatch z), Nat.le_refl _, by
    show _ ≤ (numS s (m / 1000)).2 + 1 ∧ (numS s (m / 1000)).2 + 1 ≤ _
    push_cast
    omega⟩
theorem polyN_le {s : Int × Int} {m t : Int} (ht : 0 ≤ t) : (polyN s m t : Int) ≤ t := by
  have h1 := tkV_lo (s := numS s (m / 1000)) (b := t + 1) (by omega)
  have h2 := tkV_hi (s := numS s (m / 1000)) (b := t + 1) (by omega)
  unfold polyN
  omega
def polyL (s : Int × Int) (m t : Int) : List (Int × Int) := (polyR s m t).acc
def polyS (s : Int × Int) (m t : Int) : Int × Int := (polyR s m t).s
structure DrawnP (a : List (Int × Int)) (n : Nat) : Prop where
  can : Can a
  len : a.length ≤ n
  small : ∀ u ∈ a, u.2.natAbs < 2 ^ 210
theorem small_of {m : Int} (hm : mostOk m) {x : Int} (h : -(m + 4) ≤ x ∧ x ≤ m + 4) : x.natAbs < 2 ^ 210 := by
  have := hm.2
  have h0 : (10 : Int) ^ 61 + 4 < 2 ^ 210 := by decide
  have h1 : ((x.natAbs : Nat) : Int) < 2 ^ 210 := by omega
  have h2 : ((2 ^ 210 : Nat) : Int) = 2 ^ 210 := by decide
  omega
theorem polyL_ok {s : Int × Int} {m t : Int} (hm : mostOk m) (ht : 0 ≤ t) : DrawnP (polyL s m t) t.toNat := by
  have h := pok_fold hm.1 (pok_poly0 s m t) (polyN s m t)
  have hn := polyN_le (s := s) (m := m) ht
  have hl := h.len
  exact ⟨h.can, by show (polyR s m t).acc.length ≤ _; unfold polyR; omega, fun u hu => small_of hm (h.small u hu)⟩
theorem polyS_n {s : Int × Int} {m t : Int} (hm : 0 ≤ m) (ht : 0 ≤ t) : s.2 ≤ (polyS s m t).2 ∧ (polyS s m t).2 ≤ s.2 + 11 + 13 * t := by
  have h := (pok_fold hm (pok_poly0 s m t) (polyN s m t)).sn
  have hn := polyN_le (s := s) (m := m) ht
  have h2 := numS_n s (m / 1000)
  unfold polyS polyR
  omega
def fPolynomial : Fs := fun as r as' => ∃ (s : Int × Int) (m t : Int), (0 ≤ s.2 ∧ s.2 ≤ 800000) ∧ mostOk m ∧ (0 ≤ t ∧ t ≤ 100) ∧ as = [rowA s, .d (.int m), .d (.int t)] ∧ r = .d (encP (polyL s m t)) ∧ as' = [rowA (polyS s m t), .d (.int m), .d (.int t)]
def fCellAt : List PyData → A → Prop := fun ds r => ∃ (ns : List Int) (k : Nat), ds = [.list (ns.map .int), .int k] ∧ r = .d (.int (ns.getD k 0))
end Th

set_option Elab.async false
set_option linter.all false
set_option maxRecDepth 100000
namespace Th
open PySem PySem.Spec PyProof.Rows L2 RT RZ
section
variable {X : Cx} {ρ ρ1 ρ2 : Rho} {tg iter e e1 e2 : Expr} {es : List Expr} {pos : Pos} {ds xs ys : List PyData} {k : Option Nat}
/-- reversed(t) of a tuple -/
theorem srcAt_rt {K : PySem.W.Frag} {HF H : Hp} {p : Addr} {ys : List V} (s : Same HF H) (h1 : SqT K H p ys) (h2 : DpAll K HF ys ds) : SrcAt K (ItvT K p ys.length) ds.reverse HF H := by
  have hl := dpa_len h2
  refine ⟨fun i hi => ?_, ?_, fun i x H2 hi ⟨e, y⟩ => ?_⟩
  · rw [List.length_reverse] at hi
    obtain ⟨y, g, _⟩ := dpa_get h2 (List.getElem?_eq_getElem (show ds.length - 1 - i < ds.length by omega))
    rw [← hl] at g
    exact ⟨by omega, ys, y, h1, g⟩
  · show ys.length ≤ ds.reverse.length
    rw [List.length_reverse, hl]
    exact Nat.le_refl _
  · rw [List.length_reverse] at hi
    obtain ⟨v, g1, g2⟩ := dpa_get' h2 (y ys h1)
    refine ⟨v, ?_, .inl ⟨e, g2⟩⟩
    rw [List.getElem?_reverse hi, ← hl]
    exact g1
theorem src_revT {p : Pos} (h : E X e ρ (.d (.tuple ds)) ρ1) (hm : X.mg "reversed" = none) (hg : Gl X "reversed" := by rfl) (hs : starEach [e] X.env = (false, eval e X.env) :: starEach [] X.env := by rfl) : Src X tg (.Call (.Name "reversed" p) [e] [] pos) ρ ds.reverse ρ1 none :=
  ⟨_, pi_revA hg hm pe_w hs, fun σ HF H S1 R q => h σ HF H S1 _ fun x HF1 H1 S2 f1 r1 => by
  cases (show Dp X.K HF1 x (.tuple ds) from r1) with
  | @tup p ys _ h1 h2 => exact ⟨p, ys, rfl, .inr ⟨same_t S2.sub h1, q _ HF1 H1 S2 f1 fun σ2 ρ2 HF2 H2 _ _ S3 s3 => srcAt_rt S3.sub (same_t S3.sub (same_t s3 h1)) (dpa_mono s3 h2)⟩⟩⟩
/-- zip of two tuples -/
def zipD (xs ys : List PyData) : List PyData := (xs.zip ys).map fun p => .tuple [p.1, p.2]
theorem zipD_len : (zipD xs ys).length = min xs.length ys.length := by unfold zipD; rw [List.length_map, List.length_zip]
theorem zipD_get {i : Nat} {x y : PyData} (h1 : xs[i]? = some x) (h2 : ys[i]? = some y) : (zipD xs ys)[i]? = some (.tuple [x, y]) := by
  unfold zipD
  rw [List.getElem?_map, show (xs.zip ys)[i]? = some (x, y) from List.getElem?_zip_eq_some.mpr ⟨h1, h2⟩]
  rfl
theorem srcAt_zt {K : PySem.W.Frag} {HF H : Hp} {p q : Addr} {vs ws : List V} (s : Same HF H) (h1 : SqT K H p vs) (g1 : SqT K H q ws) (h2 : DpAll K HF vs xs) (g2 : DpAll K HF ws ys) : SrcAt K (ItzT K p q) (zipD xs ys) HF H := by
  have l1 := dpa_len h2
  have l2 := dpa_len g2
  refine ⟨fun i hi => ?_, ⟨vs, ws, h1, g1, ?_⟩, fun i x H2 hi ⟨T, v, w, e1, e2, e3, y1, y2⟩ => ?_⟩
  · rw [zipD_len] at hi
    obtain ⟨v, e1, _⟩ := dpa_get h2 (List.getElem?_eq_getElem (show i < xs.length by omega))
    obtain ⟨w, e2, _⟩ := dpa_get g2 (List.getElem?_eq_getElem (show i < ys.length by omega))
    exact ⟨vs, ws, v, w, h1, g1, e1, e2⟩
  · rw [zipD_len]
    omega
  · obtain ⟨a, a1, a2⟩ := dpa_get' h2 (y1 vs h1)
    obtain ⟨b, b1, b2⟩ := dpa_get' g2 (y2 ws g1)
    exact ⟨_, zipD_get a1 b1, .inr ⟨T, _, _, e2, e3, e1, rfl, .cons a2 (.cons b2 .nil)⟩⟩
theorem src_zipT {p : Pos} {elts : List Expr} {kk : Nat} {tpos : Pos} (h : E X e1 ρ (.d (.tuple xs)) ρ1) (h2 : E X e2 ρ1 (.d (.tuple ys)) ρ2) (hm : X.mg "zip" = none) (hg : Gl X "zip" := by rfl) (hs : starEach [e1, e2] X.env = (false, eval e1 X.env) :: starEach [e2] X.env := by rfl)
    (hs2 : starEach [e2] X.env = (false, eval e2 X.env) :: starEach [] X.env := by rfl) (hpl : (backTo pos (starEach [e2] X.env)).any (·.1) = false := by rfl) : Src X (.Tuple elts kk tpos) (.Call (.Name "zip" p) [e1, e2] [] pos) ρ (zipD xs ys) ρ2 none :=
  ⟨_, pi_zipA hg hm (pa_cons pe_w (pa_cons pe_w pa_nil hs2) hs) hs hpl, fun σ HF H S1 R q => h σ HF H S1 _ fun x HF1 H1 S2 f1 r1 => h2 σ HF1 H1 S2 _ fun y HF2 H2 S3 f2 r2 => by
  cases (show Dp X.K HF1 x (.tuple xs) from r1) with
  | @tup p vs _ a1 a2 =>
    cases (show Dp X.K HF2 y (.tuple ys) from r2) with
    | @tup p2 ws _ b1 b2 =>
      exact ⟨p, p2, vs, ws, rfl, .inr ⟨same_t S3.sub (same_t f2.hf a1), same_t S3.sub b1, q _ HF2 H2 S3 (f1.trans f2) fun σ2 ρ2 HF3 H3 _ _ S4 s4 =>
        srcAt_zt S4.sub (same_t S4.sub (same_t s4 (same_t f2.hf a1))) (same_t S4.sub (same_t s4 b1)) (dpa_mono s4 (dpa_mono f2.hf a2)) (dpa_mono s4 b2)⟩⟩⟩
/-- range(a, b, c) -/
theorem src_r3 {e3 : Expr} {ρ3 : Rho} {px : Pos} {a b c : Int} {n : Nat} (h : E X e1 ρ (.d (.int a)) ρ1) (h2 : E X e2 ρ1 (.d (.int b)) ρ2) (h3 : E X e3 ρ2 (.d (.int c)) ρ3) (hm : X.mg "range" = none) (hn : RgC a b c n) (hg : Gl X "range" := by rfl)
    (hs : starEach [e1, e2, e3] X.env = (false, eval e1 X.env) :: starEach [e2, e3] X.env := by rfl) (hs2 : starEach [e2, e3] X.env = (false, eval e2 X.env) :: starEach [e3] X.env := by rfl) (hs3 : starEach [e3] X.env = (false, eval e3 X.env) :: starEach [] X.env := by rfl) (hpl : (backTo pos (starEach [e2, e3] X.env)).any (·.1) = false := by rfl) :
    Src X tg (.Call (.Name "range" px) [e1, e2, e3] [] pos) ρ ((List.range n).map fun i : Nat => .int (a + (i : Int) * c)) ρ3 none :=
  ⟨_, pi_range3 hg hm (pa_cons pe_w (pa_cons pe_w (pa_cons pe_w pa_nil hs3) hs2) hs) hs hpl, fun σ HF H S1 R q => h σ HF H S1 _ fun x HF1 H1 S2 f1 r1 => h2 σ HF1 H1 S2 _ fun y HF2 H2 S3 f2 r2 => h3 σ HF2 H2 S3 _ fun z HF3 H3 S4 f3 r3 => by
  cases r1
  cases r2
  cases r3
  refine ⟨a, b, c, n, rfl, hn, q _ HF3 H3 S4 ((f1.trans f2).trans f3) fun σ2 ρ2 HF2 H2 _ _ _ _ => ⟨fun i hi => ?_, ?_, fun i x H2 hi ⟨e, y⟩ => ?_⟩⟩
  · rw [List.length_map, List.length_range] at hi
    exact hi
  · rw [List.length_map, List.length_range]
    exact Nat.le_refl _
  · rw [List.length_map, List.length_range] at hi
    refine ⟨_, by rw [List.getElem?_map, List.getElem?_range hi]; rfl, .inl ⟨e, by rw [y]; exact .int _⟩⟩⟩
end
/-! terms of a polynomial, turned -/
def negT (a : List (Int × Int)) : List (Int × Int) := a.map fun t => (t.1, 0 - t.2)
def turnT (a : List (Int × Int)) : List (Int × Int) := a.reverse.map fun t => (0 - t.1, t.2)
def fPlus : List PyData → A → Prop := fun ds r => ∃ a b : List (Int × Int), a.length + b.length < 100000 ∧ ds = [encP a, encP b] ∧ r = .d (encP (gat (a ++ b)))
def fMinus : List PyData → A → Prop := fun ds r => ∃ a b : List (Int × Int), a.length + b.length < 100000 ∧ ds = [encP a, encP b] ∧ r = .d (encP (gat (a ++ negT b)))
def fTurned : List PyData → A → Prop := fun ds r => ∃ a : List (Int × Int), a.length < 100000 ∧ ds = [encP a] ∧ r = .d (encP (turnT a))
theorem cf_neg (a : List (Int × Int)) (p : Int) : cf (negT a) p = -cf a p := by
  induction a with
  | nil => rfl
  | cons t a ih =>
    show (if t.1 = p then 0 - t.2 else 0) + cf (negT a) p = _
    rw [cf, ih]
    split <;> omega
theorem cf_rev (a : List (Int × Int)) (p : Int) : cf a.reverse p = cf a p := by
  induction a with
  | nil => rfl
  | cons t a ih =>
    rw [List.reverse_cons, cf_app, ih]
    show cf a p + ((if t.1 = p then t.2 else 0) + 0) = (if t.1 = p then t.2 else 0) + cf a p
    omega
def flipT (a : List (Int × Int)) : List (Int × Int) := a.map fun t => (0 - t.1, t.2)
theorem cf_flip (a : List (Int × Int)) (p : Int) : cf (flipT a) p = cf a (-p) := by
  induction a with
  | nil => rfl
  | cons t a ih =>
    show (if 0 - t.1 = p then t.2 else 0) + cf (flipT a) p = _
    rw [cf, ih]
    by_cases h : t.1 = -p
    · rw [if_pos (by omega), if_pos h]
    · rw [if_neg (by omega), if_neg h]
theorem cf_turn (a : List (Int × Int)) (p : Int) : cf (turnT a) p = cf a (-p) := (cf_flip a.reverse p).trans (cf_rev a (-p))
theorem turn_can {a : List (Int × Int)} (h : Can a) : Can (turnT a) := by
  refine ⟨?_, fun t ht => ?_⟩
  · unfold turnT
    rw [List.map_map, List.map_reverse, List.pairwise_reverse, List.pairwise_map]
    exact (List.pairwise_map.mp h.1).imp fun {a b} (h : a.1 < b.1) => (show (0 : Int) - b.1 < 0 - a.1 by omega)
  · obtain ⟨u, hu, rfl⟩ := List.mem_map.mp ht
    exact h.2 u (List.mem_reverse.mp hu)
end Th
namespace Th
open PySem PySem.Spec PyProof.Rows L2
def fProduct : List PyData → A → Prop := fun ds r => ∃ a b : List (Int × Int), a.length * b.length < 100000 ∧ a.length < 100000 ∧ b.length < 100000 ∧ (∀ t ∈ a, ∀ u ∈ b, CMulW t.2 u.2) ∧ ds = [encP a, encP b] ∧ r = .ml ((prodT a b).map encT)
/-! long ones -/
def longV (s : Int × Int) : Int := [1, -1].getD (tkV s 2).toNat 0 * (1 + tkV (tkS s 2) 9)
def longStep (t : PSt) : PSt := ⟨t.acc ++ [(t.p, longV t.s)], t.p + 1 + tkV (tkS (tkS t.s 2) 9) 3, tkS (tkS (tkS t.s 2) 9) 3⟩
def long0 (s : Int × Int) (a b : Int) : PSt := ⟨[], numV s (10 ^ 9), tkS (numS s (10 ^ 9)) (b - a + 1)⟩
def longN (s : Int × Int) (a b : Int) : Nat := (a + tkV (numS s (10 ^ 9)) (b - a + 1)).toNat
def longR (s : Int × Int) (a b : Int) : PSt := (List.range (longN s a b)).foldl (fun u _ => longStep u) (long0 s a b)
theorem longV_bd (s : Int × Int) : longV s ≠ 0 ∧ -9 ≤ longV s ∧ longV s ≤ 9 := by
  unfold longV
  have h0 := tkV_lo (s := s) (b := 2) (by decide)
  have h1 := tkV_hi (s := s) (b := 2) (by decide)
  have g0 := tkV_lo (s := tkS s 2) (b := 9) (by decide)
  have g1 := tkV_hi (s := tkS s 2) (b := 9) (by decide)
  generalize tkV (tkS s 2) 9 = x at *
  generalize tkV s 2 = i at *
  have : i = 0 ∨ i = 1 := by omega
  rcases this with rfl | rfl
  · show (1 : Int) * (1 + x) ≠ 0 ∧ -9 ≤ (1 : Int) * (1 + x) ∧ (1 : Int) * (1 + x) ≤ 9
    omega
  · show (-1 : Int) * (1 + x) ≠ 0 ∧ -9 ≤ (-1 : Int) * (1 + x) ∧ (-1 : Int) * (1 + x) ≤ 9
    omega
theorem pok_long {s0 : Int} {i : Nat} {t : PSt} (h : POk 5 s0 i t) : POk 5 s0 (i + 1) (longStep t) := by
  have hs := h.sn
  obtain ⟨h1, h2, h3⟩ := longV_bd t.s
  have hg := tkV_lo (s := tkS (tkS t.s 2) 9) (b := 3) (by decide)
  refine ⟨can_snoc h.can h.below h1, fun u hu => ?_, fun u hu => ?_, ?_, ?_⟩
  · show u.1 < t.p + 1 + tkV (tkS (tkS t.s 2) 9) 3
    rcases List.mem_append.mp hu with hu | hu
    · have := h.below u hu
      omega
    · rw [List.mem_singleton.mp hu]
      dsimp only
      omega
  · rcases List.mem_append.mp hu with hu | hu
    · exact h.small u hu
    · rw [List.mem_singleton.mp hu]
      dsimp only
      omega
  · have := h.len
    show (t.acc ++ _).length ≤ _
    rw [List.length_append, List.length_singleton]
    omega
  · show s0 ≤ (tkS (tkS (tkS t.s 2) 9) 3).2 ∧ (tkS (tkS (tkS t.s 2) 9) 3).2 ≤ _
    simp only [tkS_n]
    push_cast
    omega
theorem pok_long0 (s : Int × Int) (a b : Int) : POk 5 ((numS s (10 ^ 9)).2 + 1) 0 (long0 s a b) :=
  ⟨⟨List.Pairwise.nil, (fun _ z => nomatch z)⟩, (fun _ z => nomatch z), (fun _ z => nomatch z), Nat.le_refl _, by
    show _ ≤ (numS s (10 ^ 9)).2 + 1 ∧ (numS s (10 ^ 9)).2 + 1 ≤ _
    push_cast
    omega⟩
theorem pok_longF {s0 : Int} {t0 : PSt} (h : POk 5 s0 0 t0) : ∀ n : Nat, POk 5 s0 n ((List.range n).foldl (fun u _ => longStep u) t0)
  | 0 => h
  | n + 1 => by
    rw [List.range_succ, List.foldl_append]
    exact pok_long (pok_longF h n)
theorem longN_le {s : Int × Int} {a b : Int} (h : 0 ≤ a ∧ a ≤ b) : (longN s a b : Int) ≤ b := by
  have h1 := tkV_lo (s := numS s (10 ^ 9)) (b := b - a + 1) (by omega)
  have h2 := tkV_hi (s := numS s (10 ^ 9)) (b := b - a + 1) (by omega)
  unfold longN
  omega
def longL (s : Int × Int) (a b : Int) : List (Int × Int) := (longR s a b).acc
def longS (s : Int × Int) (a b : Int) : Int × Int := (longR s a b).s
theorem longL_ok {s : Int × Int} {a b : Int} (h : 0 ≤ a ∧ a ≤ b) : DrawnP (longL s a b) b.toNat := by
  have g := pok_longF (pok_long0 s a b) (longN s a b)
  have hn := longN_le (s := s) h
  have hl := g.len
  exact ⟨g.can, by show (longR s a b).acc.length ≤ _; unfold longR; omega, fun u hu => small_of (m := 5) ⟨by decide, by decide⟩ (g.small u hu)⟩
theorem longS_n {s : Int × Int} {a b : Int} (h : 0 ≤ a ∧ a ≤ b) : s.2 ≤ (longS s a b).2 ∧ (longS s a b).2 ≤ s.2 + 11 + 13 * b := by
  have g := (pok_longF (pok_long0 s a b) (longN s a b)).sn
  have hn := longN_le (s := s) h
  have h2 := numS_n s (10 ^ 9)
  unfold longS longR
  omega
def fLong : Fs := fun as r as' => ∃ (s : Int × Int) (a b : Int), (0 ≤ s.2 ∧ s.2 ≤ 800000) ∧ (0 ≤ a ∧ a ≤ b ∧ b ≤ 200) ∧ as = [rowA s, .d (.int a), .d (.int b)] ∧ r = .d (encP (longL s a b)) ∧ as' = [rowA (longS s a b), .d (.int a), .d (.int b)]
/-! the second one -/
def signT (g : Int) (a : List (Int × Int)) : List (Int × Int) := a.map fun t => (t.1, g * t.2)
def secL (s : Int × Int) (a : List (Int × Int)) : List (Int × Int) := if 0 < tkV s 3 then polyL (tkS s 3) (10 ^ 60 - 1) 8 else signT (1 - 2 * tkV (tkS s 3) 2) (a.drop (tkV (tkS (tkS s 3) 2) 3).toNat)
def secS (s : Int × Int) : Int × Int := if 0 < tkV s 3 then polyS (tkS s 3) (10 ^ 60 - 1) 8 else tkS (tkS (tkS s 3) 2) 3
def fSecond : Fs := fun as r as' => ∃ (s : Int × Int) (a : List (Int × Int)), (0 ≤ s.2 ∧ s.2 ≤ 700000) ∧ a.length < 100000 ∧ as = [rowA s, .d (encP a)] ∧ r = .d (encP (secL s a)) ∧ as' = [rowA (secS s), .d (encP a)]
theorem secS_n {s : Int × Int} : s.2 ≤ (secS s).2 ∧ (secS s).2 ≤ s.2 + 200 := by
  unfold secS
  split
  · have := polyS_n (s := tkS s 3) (m := 10 ^ 60 - 1) (t := 8) (by decide) (by decide)
    rw [tkS_n] at this
    omega
  · simp only [tkS_n]; omega
theorem secL_small {s : Int × Int} {a : List (Int × Int)} {n : Nat} (h : DrawnP a n) : ∀ u ∈ secL s a, u.2.natAbs < 2 ^ 211 := by
  unfold secL
  split
  · intro u hu
    exact Nat.lt_trans ((polyL_ok (m := 10 ^ 60 - 1) (t := 8) ⟨by decide, by decide⟩ (by decide)).small u hu) (by decide)
  · intro u hu
    obtain ⟨v, hv, rfl⟩ := List.mem_map.mp hu
    have h1 := h.small v (List.mem_of_mem_drop hv)
    have h0 := tkV_lo (s := tkS s 3) (b := 2) (by decide)
    have h2 := tkV_hi (s := tkS s 3) (b := 2) (by decide)
    generalize tkV (tkS s 3) 2 = i at *
    have : i = 0 ∨ i = 1 := by omega
    have e : 2 ^ 211 = 2 * 2 ^ 210 := by decide
    rcases this with rfl | rfl
    · show ((1 : Int) - 2 * 0) * v.2 |>.natAbs |> (· < 2 ^ 211)
      omega
    · show ((1 : Int) - 2 * 1) * v.2 |>.natAbs |> (· < 2 ^ 211)
      omega
end Th
namespace Th
open PySem PySem.Spec PyProof.Rows L2
theorem cf_prod_nilR (a : List (Int × Int)) (p : Int) : cf (prodT a []) p = 0 := by
  induction a with
  | nil => rfl
  | cons t a ih =>
    rw [cf_prod_cons, ih]
    show t.2 * 0 + 0 = 0
    omega
theorem cf_prod_consR (u : Int × Int) (a b : List (Int × Int)) (p : Int) : cf (prodT a (u :: b)) p = u.2 * cf a (p - u.1) + cf (prodT a b) p := by
  induction a with
  | nil => show (0 : Int) = u.2 * 0 + 0; omega
  | cons t a ih =>
    rw [cf_prod_cons, cf_prod_cons, ih, cf, cf, Int.mul_add, Int.mul_add]
    by_cases h : u.1 = p - t.1
    · rw [if_pos h, if_pos (by omega), Int.mul_comm t.2 u.2]
      omega
    · rw [if_neg h, if_neg (by omega), Int.mul_zero, Int.mul_zero]
      omega
theorem cf_prod_comm (a b : List (Int × Int)) (p : Int) : cf (prodT a b) p = cf (prodT b a) p := by
  induction a with
  | nil => rw [cf_prod_nilR]; rfl
  | cons t a ih => rw [cf_prod_cons, cf_prod_consR, ih]
end Th

set_option Elab.async false
set_option linter.all false
set_option maxRecDepth 100000
namespace Th
open PySem PySem.Spec PyProof.Rows L2 RT RZ

/-! ### an own object made for a call and lent to it -/
section
variable {X : Cx} {ρ ρ1 ρ2 : Rho} {e e1 : Expr} {es : List Expr} {pos : Pos} {a r : A} {ds : List PyData} {as' : List A}
theorem e_callT {Fx : Fs} {k : Nat} {f : Addr} {fd : FuncData} {ps : List Str} {x : Str} {p : Pos} (G : FnOk X.prog X.w X.K X.mg X.base CX0 k f fd ps (spA X.K Fx)) (hr : Room k X.A) (hm : X.mg x = some (.ref f)) (hk : PySem.W.keepIn X.K (.ref f) = true) (hb : Binds X.K fd ps [])
    (h1 : E X e ρ a ρ1) (ho : a.own = true) (hD : ED X es ρ1 ds ρ2) (hF : Fx (a :: ds.map A.d) r as') (hsh : Shape (a :: ds.map A.d) as') (hs : starEach (e :: es) X.env = (false, eval e X.env) :: starEach es X.env := by rfl) (hg : Gl X x := by rfl) (hdb : (x == ("__debug__" : Str)) = false := by decide) (hpl : (backTo pos (starEach es X.env)).any (·.1) = false := by rfl) :
    E X (.Call (.Name x p) (e :: es) [] pos) ρ r ρ2 :=
  .of (pe_call (E := fun _ _ _ => False) G hr hg hm hk hb .nil (fun _ _ _ _ _ _ _ h => h.elim) pa_w hdb hs hpl) fun σ HF H S0 Q q => ⟨_, pa_cons pe_w pa_w hs, h1 σ HF H S0 _ fun x1 HF1 H1 S1 f1 r1 => hD σ HF1 H1 S1 _ fun ys HF2 H2 S2 f2 r2 => by
    show spA X.K Fx ((x1 :: ys) ++ []) H2 Q _
    rw [List.append_nil]
    obtain ⟨p, o, rfl, h0, hf1, hh1, hrel⟩ := (rrel_own ho).mp r1
    have nw1 : ¬ OwnAt ρ1 σ p := fun z => S0.notOwn h0 (f1.sh.own.mp z)
    have nw2 : ¬ OwnAt ρ2 σ p := fun z => nw1 (f2.sh.own.mp z)
    have hh2 : H2 p = some o := f2.keep p o hh1 nw1
    have hf2 : HF2 p = none := f2.hfn hf1 hh1
    have hrel2 : HRel X.K HF2 _ o a := hrel_mono f2.hf hrel
    have onlyP : ∀ b, OwnAt (a :: ds.map A.d) ((V.ref p :: ys).map some) b → b = p := by
      rintro b ⟨i, c, e1, e2, e3⟩
      cases i with
      | zero =>
        have : some (some (V.ref p)) = some (some (V.ref b)) := e3
        cases this
        rfl
      | succ i =>
        have := own_map c (List.mem_of_getElem? (show (ds.map A.d)[i]? = some c from e1))
        rw [e2] at this
        cases this
    have hl := dpa_len r2
    have SA : Sl X.K (a :: ds.map A.d) ((V.ref p :: ys).map some) HF2 H2 := by
      refine ⟨by simp [hl], S2.sub, fun i c e1 => ?_, fun i j c d b e1 e2 o1 o2 e3 e4 => ?_⟩
      · cases i with
        | zero =>
          have e1 : some a = some c := e1
          cases e1
          exact ⟨_, rfl, (arel_own ho).mpr ⟨_, rfl, p, o, rfl, hf2, hh2, hrel2⟩⟩
        | succ i =>
          have e1 : (ds.map A.d)[i]? = some c := e1
          rw [List.getElem?_map] at e1
          cases hd : ds[i]? with
          | none => rw [hd] at e1; cases e1
          | some d =>
            rw [hd] at e1
            cases e1
            obtain ⟨y, g1, g2⟩ := dpa_get r2 hd
            refine ⟨some y, ?_, y, rfl, g2⟩
            show (ys.map some)[i]? = _
            rw [List.getElem?_map, g1]
            rfl
      · have z : ∀ (i : Nat) (c : A), (a :: ds.map A.d)[i]? = some c → c.own = true → i = 0 := fun i c e o => by
          cases i with
          | zero => rfl
          | succ i =>
            have := own_map c (List.mem_of_getElem? (show (ds.map A.d)[i]? = some c from e))
            rw [o] at this
            cases this
        rw [z i c e1 o1, z j d e2 o2]
    refine ⟨HF2, _, r, as', SA, hF, hsh, fun y HF3 H3 S3 f3 rr => ?_⟩
    have f12 := f1.trans f2
    have keep3 : ∀ b o', H2 b = some o' → b ≠ p → H3 b = some o' := fun b o' e n => f3.keep b o' e fun z => n (onlyP b z)
    refine q y HF3 H3 ⟨S2.len, S3.sub, fun i c e => ?_, S2.apart⟩ ⟨f12.sh, f12.hf.trans f3.hf, fun b o' e n => ?_, fun b o' e => ?_, fun b o' e => ?_⟩ (rrel_fresh (fun b e => f12.fresh e) rr)
    · obtain ⟨s, e2, g⟩ := S2.slot i c e
      refine ⟨s, e2, arel_mono g f3.hf fun b o' e3 g1 g2 oc => ⟨f3.hfn g1 g2, keep3 b o' g2 fun z => ?_⟩⟩
      subst z
      exact nw2 ⟨i, c, e, oc, by rw [e2, e3]⟩
    · exact keep3 b o' (f12.keep b o' e n) fun z => by rw [z, h0] at e; cases e
    · rcases f3.new b o' e with z | z
      · exact f12.new b o' z
      · exact .inr (f12.fresh z)
    · obtain ⟨o2, e2⟩ := f12.pres b o' e
      exact f3.pres b o2 e2⟩
/-- all(list) -/
theorem e_all {bs : List Bool} {k : Option Nat} {pn : Pos} (h : EO X e ρ (.list (bs.map .bool)) ρ1 k) (hm : X.mg "all" = none) (hg : Gl X "all" := by rfl) (hc : X.calm = true := by rfl) (he : starEach [e] X.env = (false, eval e X.env) :: starEach [] X.env := by rfl) : E X (.Call (.Name "all" pn) [e] [] pos) ρ (.d (.bool (bs.all id))) ρ1 :=
  .of (pe_callB (cr_all hc) hg hm (by decide +kernel) (pa_cons pe_w pa_nil he) (he := he)) (ev_cb h fun HF H x Q r s q => by
    obtain ⟨p, ys, rfl, h1, h2⟩ := r
    have : ∀ {bs : List Bool} {ys : List V}, DpAll X.K HF ys (bs.map .bool) → ys = bs.map V.bl := fun {bs} => by
      induction bs with
      | nil => intro ys h; cases h; rfl
      | cons b bs ih =>
        intro ys h
        cases h with
        | cons h t => cases h; rw [ih t]; rfl
    have := this h2
    subst this
    exact ⟨p, bs, rfl, h1, q _ (.bl _)⟩)
end
/-! ### what a polynomial is -/
def isWholeD : PyData → Bool
  | .int _ => true
  | _ => false
def isTermD : PyData → Bool
  | .tuple [.int _, .int b] => !decide (b = 0)
  | _ => false
def powD : PyData → Int
  | .tuple [.int a, _] => a
  | _ => 0
def riseD (ds : List PyData) : Bool := (ds.zip (ds.drop 1)).all fun p => decide (powD p.1 < powD p.2)
def isPolyD : PyData → Bool
  | .tuple ds => ds.all isTermD && riseD ds
  | _ => false
def fIsWhole : List PyData → A → Prop := fun ds r => ∃ v, ds = [v] ∧ r = .d (.bool (isWholeD v))
def fIsTerm : List PyData → A → Prop := fun ds r => ∃ v, ds = [v] ∧ r = .d (.bool (isTermD v))
def fIsPoly : List PyData → A → Prop := fun ds r => ∃ v, (∀ xs, v = .tuple xs → xs.length < 100000) ∧ ds = [v] ∧ r = .d (.bool (isPolyD v))
theorem isWhole_eq (v : PyData) : (isi v .int && !isi v .bool) = isWholeD v := by cases v <;> rfl
theorem isTerm_of {v : PyData} (h : isTermD v = true) : ∃ a b : Int, v = .tuple [.int a, .int b] ∧ b ≠ 0 := by
  unfold isTermD at h
  split at h
  · rename_i a b
    exact ⟨a, b, rfl, by simpa using h⟩
  · cases h
theorem rise_can : ∀ {a : List (Int × Int)}, (a.map (·.1)).Pairwise (· < ·) → riseD (a.map encT) = true
  | [], _ => rfl
  | [_], _ => rfl
  | x :: y :: a, h => by
    have h1 := List.pairwise_cons.mp (show (x.1 :: y.1 :: a.map (·.1)).Pairwise (· < ·) from h)
    have ih := rise_can (a := y :: a) h1.2
    have e : riseD ((x :: y :: a).map encT) = (decide (x.1 < y.1) && riseD ((y :: a).map encT)) := rfl
    rw [e, ih, decide_eq_true (h1.1 y.1 List.mem_cons_self)]
    rfl
theorem isPoly_can {a : List (Int × Int)} (h : Can a) : isPolyD (encP a) = true := by
  show ((a.map encT).all isTermD && riseD (a.map encT)) = true
  rw [rise_can h.1, Bool.and_true, List.all_eq_true]
  intro x hx
  obtain ⟨t, ht, rfl⟩ := List.mem_map.mp hx
  have := h.2 t ht
  show (!decide (t.2 = 0)) = true
  simpa using this
/-! ### sizes -/
structure Sm (a : List (Int × Int)) (n k : Nat) : Prop where
  len : a.length ≤ n
  small : ∀ u ∈ a, u.2.natAbs ≤ 2 ^ k
theorem DrawnP.sm {a : List (Int × Int)} {n : Nat} (h : DrawnP a n) : Sm a n 210 := ⟨h.len, fun u hu => Nat.le_of_lt (h.small u hu)⟩
theorem cf_bd {a : List (Int × Int)} {M : Nat} (h : ∀ u ∈ a, u.2.natAbs ≤ M) (p : Int) : (cf a p).natAbs ≤ a.length * M := by
  induction a with
  | nil => exact Nat.zero_le _
  | cons t a ih =>
    have ih := ih fun u hu => h u (List.mem_cons_of_mem _ hu)
    have ht := h t List.mem_cons_self
    rw [cf, List.length_cons, Nat.succ_mul]
    split <;> omega
theorem sm_gat {a : List (Int × Int)} {n k : Nat} (h : Sm a n k) (hn : n ≤ 1024 := by decide) : Sm (gat a) n (k + 10) := by
  refine ⟨Nat.le_trans (gat_len a) h.len, fun u hu => ?_⟩
  rw [gat_val hu]
  refine Nat.le_trans (cf_bd h.small _) ?_
  rw [Nat.pow_add, Nat.mul_comm (2 ^ k)]
  exact Nat.mul_le_mul_right _ (Nat.le_trans h.len hn)
theorem sm_app {a b : List (Int × Int)} {n m k : Nat} (h : Sm a n k) (g : Sm b m k) : Sm (a ++ b) (n + m) k := by
  refine ⟨by rw [List.length_append]; have := h.len; have := g.len; omega, fun u hu => ?_⟩
  rcases List.mem_append.mp hu with hu | hu
  · exact h.small u hu
  · exact g.small u hu
theorem Sm.up {a : List (Int × Int)} {n k : Nat} (h : Sm a n k) {l : Nat} (hl : k ≤ l := by decide) : Sm a n l := ⟨h.len, fun u hu => Nat.le_trans (h.small u hu) (Nat.pow_le_pow_right (by decide) hl)⟩
theorem sm_prod {a b : List (Int × Int)} {n m k l : Nat} (h : Sm a n k) (g : Sm b m l) : Sm (prodT a b) (n * m) (k + l) := by
  refine ⟨by rw [prodT_len]; exact Nat.mul_le_mul h.len g.len, fun u hu => ?_⟩
  unfold prodT at hu
  obtain ⟨r, hr, hu⟩ := List.mem_flatten.mp hu
  obtain ⟨t, ht, rfl⟩ := List.mem_map.mp hr
  obtain ⟨v, hv, rfl⟩ := List.mem_map.mp hu
  show (t.2 * v.2).natAbs ≤ _
  rw [Int.natAbs_mul, Nat.pow_add]
  exact Nat.mul_le_mul (h.small t ht) (g.small v hv)
theorem sm_neg {a : List (Int × Int)} {n k : Nat} (h : Sm a n k) : Sm (negT a) n k := by
  refine ⟨by unfold negT; rw [List.length_map]; exact h.len, fun u hu => ?_⟩
  obtain ⟨v, hv, rfl⟩ := List.mem_map.mp hu
  have := h.small v hv
  show (0 - v.2).natAbs ≤ _
  omega
theorem sm_turn {a : List (Int × Int)} {n k : Nat} (h : Sm a n k) : Sm (turnT a) n k := by
  refine ⟨by unfold turnT; rw [List.length_map, List.length_reverse]; exact h.len, fun u hu => ?_⟩
  obtain ⟨v, hv, rfl⟩ := List.mem_map.mp hu
  exact h.small v (List.mem_reverse.mp hv)
theorem sm_lift {m : Int} {a : List (Int × Int)} {n k : Nat} (h : Sm a n k) : Sm (liftT m a) n k := by
  refine ⟨by unfold liftT; rw [List.length_map]; exact h.len, fun u hu => ?_⟩
  obtain ⟨v, hv, rfl⟩ := List.mem_map.mp hu
  exact h.small v hv
theorem times_sp {a b : List (Int × Int)} {n m k l : Nat} (h : Sm a n k) (g : Sm b m l) (hk : k + l ≤ 9000 := by decide) (hn : n * m < 100000 := by decide) (hn1 : n < 100000 := by decide) (hm1 : m < 100000 := by decide) : fTimes [encP a, encP b] (.d (encP (gat (prodT a b)))) :=
  ⟨a, b, Nat.lt_of_le_of_lt (Nat.mul_le_mul h.len g.len) hn, Nat.lt_of_le_of_lt h.len hn1, Nat.lt_of_le_of_lt g.len hm1, fun t ht u hu => wide_mul (a := k + 1) (b := l + 1) (Nat.lt_of_le_of_lt (h.small t ht) (Nat.pow_lt_pow_right (by decide) (Nat.lt_succ_self k))) (Nat.lt_of_le_of_lt (g.small u hu) (Nat.pow_lt_pow_right (by decide) (Nat.lt_succ_self l))) (by omega) (by omega) (by omega), rfl, rfl⟩
theorem plus_sp {a b : List (Int × Int)} {n m k l : Nat} (h : Sm a n k) (g : Sm b m l) (hn : n + m < 100000 := by decide) : fPlus [encP a, encP b] (.d (encP (gat (a ++ b)))) := ⟨a, b, by have := h.len; have := g.len; omega, rfl, rfl⟩
theorem minus_sp {a b : List (Int × Int)} {n m k l : Nat} (h : Sm a n k) (g : Sm b m l) (hn : n + m < 100000 := by decide) : fMinus [encP a, encP b] (.d (encP (gat (a ++ negT b)))) := ⟨a, b, by have := h.len; have := g.len; omega, rfl, rfl⟩
theorem lift_sp {a : List (Int × Int)} {n k : Nat} {m : Int} (h : Sm a n k) (hn : n < 100000 := by decide) : fLifted [encP a, .int m] (.d (encP (liftT m a))) := ⟨a, m, by have := h.len; omega, rfl, rfl⟩
theorem turn_sp {a : List (Int × Int)} {n k : Nat} (h : Sm a n k) (hn : n < 100000 := by decide) : fTurned [encP a] (.d (encP (turnT a))) := ⟨a, by have := h.len; omega, rfl, rfl⟩
end Th
namespace Th
open PySem PySem.Spec PyProof.Rows L2 RT RZ
/-! ### the rules of reckoning -/
abbrev Pl := List (Int × Int)
theorem cf_prod_congrR (a : Pl) {b b' : Pl} (h : ∀ p, cf b p = cf b' p) (p : Int) : cf (prodT a b) p = cf (prodT a b') p := by
  induction a with
  | nil => rfl
  | cons t a ih => rw [cf_prod_cons, cf_prod_cons, ih, h]
theorem cf_prod_congrL {a a' : Pl} (b : Pl) (h : ∀ p, cf a p = cf a' p) (p : Int) : cf (prodT a b) p = cf (prodT a' b) p := by
  rw [cf_prod_comm, cf_prod_congrR b h, cf_prod_comm]
theorem cf_prod_appL (a a' b : Pl) (p : Int) : cf (prodT (a ++ a') b) p = cf (prodT a b) p + cf (prodT a' b) p := by
  induction a with
  | nil => show _ = 0 + _; rw [Int.zero_add]; rfl
  | cons t a ih => rw [List.cons_append, cf_prod_cons, cf_prod_cons, ih]; omega
theorem cf_prod_appR (a b b' : Pl) (p : Int) : cf (prodT a (b ++ b')) p = cf (prodT a b) p + cf (prodT a b') p := by
  rw [cf_prod_comm, cf_prod_appL, cf_prod_comm b, cf_prod_comm b']
theorem cf_prod_row (t : Int × Int) (b c : Pl) (p : Int) : cf (prodT (rowT t b) c) p = t.2 * cf (prodT b c) (p - t.1) := by
  induction b with
  | nil => show (0 : Int) = t.2 * 0; omega
  | cons u b ih =>
    show cf (prodT ((t.1 + u.1, t.2 * u.2) :: rowT t b) c) p = _
    rw [cf_prod_cons, cf_prod_cons, ih, Int.mul_add, ← Int.mul_assoc]
    dsimp only
    rw [show p - (t.1 + u.1) = p - t.1 - u.1 by omega]
theorem cf_prod_assoc (a b c : Pl) (p : Int) : cf (prodT (prodT a b) c) p = cf (prodT a (prodT b c)) p := by
  induction a generalizing p with
  | nil => rfl
  | cons t a ih => rw [prodT_cons, cf_prod_appL, cf_prod_row, ih, cf_prod_cons]
theorem cf_one (a : Pl) (m p : Int) : cf (prodT a [(m, 1)]) p = cf a (p - m) := by
  rw [cf_prod_consR, cf_prod_nilR]
  show 1 * cf a (p - m) + 0 = _
  omega
theorem cf_prod_flip (a b : Pl) (p : Int) : cf (prodT (flipT a) (flipT b)) p = cf (prodT a b) (-p) := by
  induction a with
  | nil => rfl
  | cons t a ih =>
    show cf (prodT ((0 - t.1, t.2) :: flipT a) (flipT b)) p = _
    rw [cf_prod_cons, cf_prod_cons, ih, cf_flip]
    dsimp only
    rw [show -(p - (0 - t.1)) = -p - t.1 by omega]
section
variable {a b c : Pl} {m : Int}
theorem r_dist : gat (prodT a (gat (b ++ c))) = gat (gat (prodT a b) ++ gat (prodT a c)) := gat_congr fun p => by
  rw [cf_prod_congrR a (gat_cf (b ++ c)), cf_prod_appR, cf_app, gat_cf, gat_cf]
theorem r_plus : gat (a ++ b) = gat (b ++ a) := gat_congr fun p => by rw [cf_app, cf_app]; omega
theorem r_times : gat (prodT a b) = gat (prodT b a) := gat_congr (cf_prod_comm a b)
theorem r_tassoc : gat (prodT (gat (prodT a b)) c) = gat (prodT a (gat (prodT b c))) := gat_congr fun p => by
  rw [cf_prod_congrL c (gat_cf (prodT a b)), cf_prod_assoc, cf_prod_congrR a (gat_cf (prodT b c))]
theorem r_passoc : gat (gat (a ++ b) ++ c) = gat (a ++ gat (b ++ c)) := gat_congr fun p => by
  rw [cf_app, cf_app, gat_cf, gat_cf, cf_app, cf_app]; omega
theorem r_back (ha : Can a) : gat (gat (a ++ b) ++ negT b) = a := gat_is ha fun p => by
  rw [cf_app, gat_cf, cf_app, cf_neg]; omega
theorem can_nil : Can [] := ⟨List.Pairwise.nil, (fun _ z => nomatch z)⟩
theorem r_self : gat (a ++ negT a) = [] := gat_is can_nil fun p => by
  rw [cf_app, cf_neg]
  show _ = (0 : Int)
  omega
theorem r_one (ha : Can a) : gat (prodT a [(0, 1)]) = a := gat_is ha fun p => by rw [cf_one, Int.sub_zero]
theorem r_nil (ha : Can a) : gat (a ++ []) = a := by rw [List.append_nil]; exact gat_id ha
theorem r_nought : gat (prodT a []) = [] := gat_is can_nil fun p => cf_prod_nilR a p
theorem r_lift (ha : Can a) : liftT m a = gat (prodT a [(m, 1)]) := (gat_is (lift_can ha) fun p => by rw [cf_one, cf_lift]).symm
theorem r_lift2 : liftT (0 - m) (liftT m a) = a := by
  unfold liftT
  rw [List.map_map]
  refine (List.map_congr_left fun t _ => ?_).trans (List.map_id a)
  show (t.1 + m + (0 - m), t.2) = t
  rw [show t.1 + m + (0 - m) = t.1 by omega]
theorem r_turn2 : turnT (turnT a) = a := by
  unfold turnT
  rw [← List.map_reverse, List.map_map, List.reverse_reverse]
  refine (List.map_congr_left fun t _ => ?_).trans (List.map_id a)
  show (0 - (0 - t.1), t.2) = t
  rw [show 0 - (0 - t.1) = t.1 by omega]
theorem r_turnL : turnT (liftT m a) = liftT (0 - m) (turnT a) := by
  unfold turnT liftT
  rw [← List.map_reverse, List.map_map, List.map_map]
  refine List.map_congr_left fun t _ => ?_
  show (0 - (t.1 + m), t.2) = (0 - t.1 + (0 - m), t.2)
  rw [show 0 - (t.1 + m) = 0 - t.1 + (0 - m) by omega]
theorem r_turnT : turnT (gat (prodT a b)) = gat (prodT (turnT a) (turnT b)) := can_ext (turn_can (gat_can _)) (gat_can _) fun p => by
  rw [cf_turn, gat_cf, gat_cf, cf_prod_congrL (turnT b) (fun q => (cf_turn a q).trans (cf_flip a q).symm), cf_prod_congrR (flipT a) (fun q => (cf_turn b q).trans (cf_flip b q).symm), cf_prod_flip]
end
end Th
namespace Th
open PySem PySem.Spec PyProof.Rows L2 RT RZ
/-- a for that may return early: the state behind a turn is chosen at its end -/
theorem s_forS {X : Cx} {B : Bs} {P : Pst} {ρ ρ1 : Rho} {tg iter : Expr} {pos : Pos} {body : List Stmt} {α T : Type} {xs : List α} (enc : α → PyData) (hi : Src X tg iter ρ (xs.map enc) ρ1 none) (t0 : T) (emb : T → Rho) (J : T → Nat → Prop) (hJ : J t0 0) (h0 : Le ρ1 (emb t0))
    (hb : ∀ t (i : Nat) x, xs[i]? = some x → J t i → ∃ ρ2, GT X B tg (enc x) (emb t) ρ2 ∧ Ss X B body ρ2 (bodyP P fun ρ => ∃ t', J t' (i + 1) ∧ Le ρ (emb t'))) (hd : ∀ t ρ', J t xs.length → Le ρ' (emb t) → P.nx ρ')
    (hp : PassesOwn (model X.prog X.w) X.A X.env X.xe := by exact PassesOwn.never) (hc : X.calm = true := by rfl) (hs : ∀ x, foldedSetIterable iter X.env x = pure x := by intro _; rfl) : S X B (.For tg iter body [] pos) ρ P := by
  refine s_for hi (fun i ρ => ∃ t, J t i ∧ Le ρ (emb t)) ⟨t0, hJ, h0⟩ (fun i v ρ' hv ⟨t, hj, hI⟩ => ?_) (fun ρ' ⟨t, hj, l⟩ => ?_) hp hc hs
  · obtain ⟨x, hx, rfl⟩ := map_get hv
    obtain ⟨ρ2, g, h⟩ := hb t i x hx hj
    exact ⟨_, (show GT X B tg (enc x) ρ' ρ2 from fun x σ HF H S1 r Q q => g x σ HF H (S1.le hI) r Q fun σ' S' b' => q σ' S' fun b => b' (b.le hI)), h⟩
  · rw [List.length_map] at hj
    exact hd t ρ' hj l
end Th
namespace Th
open PySem PySem.Spec PyProof.Rows L2 RT RZ
theorem EO.tol {X : Cx} {e : Expr} {ρ ρ1 : Rho} {k : Option Nat} {xs ys : List PyData} (h : EO X e ρ (.list xs) ρ1 k) (q : xs = ys) : EO X e ρ (.list ys) ρ1 k := q ▸ h
end Th

set_option Elab.async false
set_option linter.all false
set_option maxRecDepth 100000
namespace Th
open PySem PySem.Spec PyProof.Rows L2 RT RZ
section
variable {X : Cx} {ρ ρ1 ρ2 : Rho} {e e1 e2 : Expr} {es : List Expr} {pos pos' : Pos} {a r : A} {ds : List PyData} {as : List A} {v : PyData} {i : Int} {x : Str} {kvs : List (Key × PyData)}
/-! ### one of a written list, its items of any kind -/
theorem RRel.later {K : PySem.W.Frag} {σ : L2.St} {HF H HF1 H1 HF2 H2 : Hp} {x : V} (S0 : Sl K ρ σ HF H) (f1 : Fw ρ ρ1 σ HF H HF1 H1) (f2 : Fw ρ1 ρ2 σ HF1 H1 HF2 H2) (r : RRel K H HF1 H1 x a) : RRel K H HF2 H2 x a := by
  cases ho : a.own with
  | true =>
    obtain ⟨p, o, e, h0, h1, h2, h3⟩ := (rrel_own ho).mp r
    refine (rrel_own ho).mpr ⟨p, o, e, h0, f2.hfn h1 h2, f2.keep p o h2 fun z => S0.notOwn h0 (f1.sh.own.mp z), hrel_mono f2.hf h3⟩
  | false =>
    cases a with
    | d v => exact dp_mono f2.hf r
    | any => trivial
    | tw l =>
      obtain ⟨t, ys, e, h0, h1, h2, h3⟩ := r
      refine ⟨t, ys, e, h0, f2.hfn h1 h2, f2.keep t _ h2 fun z => S0.notOwn h0 (f1.sh.own.mp z), Paired.mapP h3 fun y a z => ?_⟩
      cases a with
      | inl zs => obtain ⟨q, us, g1, g2, g3, g4, g5⟩ := z; exact ⟨q, us, g1, g2, f2.hfn g3 g4, f2.keep q _ g4 fun w => S0.notOwn g2 (f1.sh.own.mp w), dpa_mono f2.hf g5⟩
      | inr v => exact dp_mono f2.hf z
    | pin _ => exact r
    | rk v => exact rk_mono f2.hf r
    | dl m =>
      obtain ⟨p, kws, e, g⟩ := r
      have kp : ∀ b o, H1 b = some o → H b = none → H2 b = some o := fun b o q n => f2.keep b o q fun z => S0.notOwn n (f1.sh.own.mp z)
      exact ⟨p, kws, e, kp _ _ g.at_ g.base, g.base, f2.hfn g.fr g.at_, Paired.mapP g.its fun w kv z => by
        obtain ⟨z1, q, us, z2, z3, z4, z5, z6⟩ := z
        exact ⟨z1, q, us, z2, z3, f2.hfn z4 z5, kp _ _ z5 z3, dpa_mono f2.hf z6⟩, g.nk, g.na⟩
    | nw g => exact g.later f2.hf (fun b o e n => ⟨f2.keep b o e fun z => S0.notOwn n (f1.sh.own.mp z), fun h => f2.hfn h e⟩) r
    | fk v => exact fk_mono f2.hf r
    | ft v => exact ft_mono f2.hf r
    | gn g => exact g.mono f2.hf r
    | go _ => cases ho
    | ml _ => cases ho
    | mk _ => cases ho
    | mt _ => cases ho
def EM (X : Cx) (es : List Expr) (ρ : Rho) (as : List A) (ρ' : Rho) : Prop := ∀ σ HF H, Sl X.K ρ σ HF H → ∀ Q : List V → Hp → Prop,
  (∀ xs HF' H', Sl X.K ρ' σ HF' H' → Fw ρ ρ' σ HF H HF' H' → Paired (RRel X.K H HF' H') xs as → Q xs H') → wA X es σ H Q
theorem m_nil : EM X [] ρ [] ρ := fun σ HF H S Q q => ⟨_, pa_nil, q [] HF H S (.refl ..) .nil⟩
theorem m_cons (h : E X e ρ a ρ1) (hr : EM X es ρ1 as ρ2) (hs : starEach (e :: es) X.env = (false, eval e X.env) :: starEach es X.env := by rfl) : EM X (e :: es) ρ (a :: as) ρ2 := fun σ HF H S Q q =>
  ⟨_, pa_cons pe_w pa_w hs, h σ HF H S _ fun x HF1 H1 S1 f1 r1 => hr σ HF1 H1 S1 _ fun xs HF2 H2 S2 f2 r2 => q _ HF2 H2 S2 (f1.trans f2) (.cons (RRel.later S f1 f2 r1) (Paired.mapP r2 fun x a r => rrel_fresh (fun p h => f1.fresh h) r))⟩
theorem paired_get {α β : Type} {R : α → β → Prop} : ∀ {xs : List α} {ys : List β} {i : Nat} {y : β}, Paired R xs ys → ys[i]? = some y → ∃ x, xs[i]? = some x ∧ R x y
  | _, _, _, _, .nil, h => by simp at h
  | _, _, 0, _, .cons r _, h => by simp at h; subst h; exact ⟨_, rfl, r⟩
  | _, _, i + 1, _, .cons _ t, h => by
    obtain ⟨x, h1, h2⟩ := paired_get (i := i) t (by simpa using h)
    exact ⟨x, by simpa using h1, h2⟩
theorem e_pick (h : EM X es ρ as ρ1) (h2 : E X e2 ρ1 (.d (.int i)) ρ2) (h0 : 0 ≤ i) (hg : as[i.toNat]? = some a) (hz : as.length ≤ 1000 := by exact Nat.le_of_ble_eq_true rfl) (hp : PlainIx e2 := by exact fun _ _ => rfl) : E X (.Subscript (.List es pos') e2 pos) ρ a ρ2 :=
  .of (pe_ix ix_list (pe_lst pa_w) pe_w hp) fun σ HF H S Q q => h σ HF H S _ fun xs HF1 H1 S1 f1 r1 => by
    have hl := Paired.length r1
    refine ⟨by rw [hl]; exact Nat.le_of_lt (small1000 hz), fun p hpn => ?_⟩
    obtain ⟨S2, f2⟩ := S1.allocO hpn (.lst xs)
    have nw : ¬ OwnAt ρ1 σ p := S1.notOwn hpn
    refine h2 σ HF1 _ S2 _ fun z HF2 H2 S3 f3 r3 => ?_
    cases r3
    obtain ⟨y, g1, g2⟩ := paired_get r1 hg
    have hH : H2 p = some (.lst xs) := f3.keep p _ upd_same nw
    refine ⟨p, xs, i, y, rfl, rfl, .inl (.inl hH), ?_, q y HF2 H2 S3 ((f1.trans f2).trans f3) (RRel.later S f1 (f2.trans f3) g2)⟩
    exact (atI_nat' h0).trans g1
/-- isinstance of an own dict -/
theorem e_isM (T : Ty) (j : Nat) {pt pn : Pos} (hi : ρ[j]? = some (.mk kvs)) (hm : X.mg "isinstance" = none) (hmt : X.mg (Str.ofString T.nm) = none) (hg : Gl X "isinstance" := by rfl) (hgt : Gl X (Str.ofString T.nm) := by rfl) (hn : (Str.ofString T.nm) ≠ "__name__" := by decide) (hd : ((Str.ofString T.nm) == ("__debug__" : Str)) = false := by decide)
    (hN : X.N[j]? = some x := by rfl) (hv : Vis X.env.scope x := by first | exact Or.inl rfl | exact Or.inr (Or.inl rfl) | exact Or.inr (Or.inr rfl)) (hdx : (x == ("__debug__" : Str)) = false := by decide) (hcd : (x == ("__classdict__" : Str)) = false := by decide)
    (he : starEach [.Name x pos', .Name (Str.ofString T.nm) pt] X.env = (false, eval (.Name x pos') X.env) :: starEach [.Name (Str.ofString T.nm) pt] X.env := by rfl) (he2 : starEach [.Name (Str.ofString T.nm) pt] X.env = (false, eval (.Name (Str.ofString T.nm) pt) X.env) :: starEach [] X.env := by rfl) (hpl : (backTo pos (starEach [.Name (Str.ofString T.nm) pt] X.env)).any (·.1) = false := by rfl) :
    E X (.Call (.Name "isinstance" pn) [.Name x pos', .Name (Str.ofString T.nm) pt] [] pos) ρ (.d (.bool (isi (.dict []) T))) ρ :=
  .of (pe_callB call_isi hg hm (by decide +kernel) (pa_cons (pe_var hN hv hdx hcd) (pa_cons (pe_bltn (v := .ty T.nm) hgt hmt (boot_ty T) rfl hn hd) pa_nil he2) he) (by decide) (by decide) he hpl) fun σ HF H S1 Q q => by
    obtain ⟨p, o, e, h1, h2, h3⟩ := S1.ownAt hi rfl
    cases o <;> first | exact h3.elim | skip
    exact ⟨.ref p, e, .ref p, .ty T.nm, _, _, isi (.dict []) T, rfl, .ty T.nm, .base (.dK h2), kit_ty (kit_isi (.dict []) T), q _ HF H S1 (.refl ..) (.bl _)⟩
/-- x is not None -/
def someB : PyData → Bool
  | .none => false
  | _ => true
theorem t_notN {j : Nat} {p1 : Pos} (h : E X e ρ (.d v) ρ1) : ET X (.Compare e [.IsNot] [.Constant .none j p1] pos) ρ (someB v) ρ1 :=
  t_cmp op_notN (ev_op h e_non fun HF H x y Q hx hy _ q => by
    cases hy
    refine ⟨rfl, ?_⟩
    have : (!decide (x = V.non)) = someB v := by cases hx <;> rfl
    rw [this]
    exact q _ (.bl _)) (nomark _)
end
/-! ### the same, from one to the next -/
def leO : Option Int → PyData → Bool
  | none, _ => true
  | some p, x => decide (p < powD x)
def chk : Option Int → List PyData → Bool
  | _, [] => true
  | o, x :: xs => isTermD x && leO o x && chk (some (powD x)) xs
theorem chk_some : ∀ (x : PyData) (ds : List PyData), (ds.all isTermD && riseD (x :: ds)) = chk (some (powD x)) ds
  | _, [] => rfl
  | x, y :: ds => by
    have e : riseD (x :: y :: ds) = (decide (powD x < powD y) && riseD (y :: ds)) := rfl
    rw [e, List.all_cons, chk, ← chk_some y ds]
    show _ = (isTermD y && decide (powD x < powD y) && _)
    cases isTermD y <;> cases decide (powD x < powD y) <;> simp
theorem chk_none (ds : List PyData) : (ds.all isTermD && riseD ds) = chk none ds := by
  cases ds with
  | nil => rfl
  | cons x ds =>
    rw [chk, ← chk_some x ds, List.all_cons]
    show _ = (isTermD x && true && _)
    rw [Bool.and_true, Bool.and_assoc]
def encO : Option Int → PyData
  | none => .none
  | some i => .int i
def fIsM : Fs := fun as r as' => as = [.mk []] ∧ r = .d (.bool false) ∧ as' = as
end Th

set_option Elab.async false
set_option linter.all false
set_option maxRecDepth 100000
namespace Th
open PySem PySem.Spec PyProof.Rows L2 RT RZ

/-! ### enumerate(tuple) -/
section
variable {prog : Program} {w : World} {A : Around} {E : Value → Shared → Prop} {s : Shared}
theorem nextOf_tup_item {it t : Addr} {i : Nat} {items} {x : Value} {Q : Value → Shared → Prop} (hit : s.heap.IsTupleIter it t i)
    (ht : s.heap.IsTuple t items) (hx : items[i]? = some x)
    (hQ : ∀ h', h'.IsTupleIter it t (i + 1) → Heap.SameBut it s.heap h' → Q x { s with heap := h' }) :
    wpAny (model prog w) A (Builtin.SmallTypes.nextOf (.ref it)) Q E s := by
  obtain ⟨o, ho, hc, hd⟩ := id hit
  obtain ⟨ol, hol, _, nl, hdl⟩ := ht
  unfold Builtin.SmallTypes.nextOf
  refine wpAny_bind (wpAny_callSpecial?_slot (name := Str.ofString "__next__") hit.typeIs F.slot_tuple_iterator_next
    (wpAny_call_entry F.slot_tuple_iterator_next hit.typeIs F.entry_tuple_iterator_next ?_ (F.args_tuple_iterator_next_1 _)))
  show wpAny _ _ (field (.ref it) 0 >>= _) _ _ s
  refine wpAny_bind (wpAny_field ho hd (x := .ref t) rfl ?_)
  show wpAny _ _ (if (Value.ref t == Value.none) = true then _ else _) _ _ s
  rw [if_neg (show ¬ ((Value.ref t == Value.none) = true) from Bool.false_ne_true)]
  show wpAny _ _ (field (.ref it) 1 >>= _) _ _ s
  refine wpAny_bind (wpAny_field ho hd (x := .int i 0) rfl ?_)
  show wpAny _ _ (seqItems? (.ref t) >>= _) _ _ s
  refine wpAny_bind (wpAny_seqItems hol hdl ?_)
  simp only [Int.toNat_natCast, hx]
  refine wpAny_bind (wpAny_setField ho hd (by simp) (wpAny_pure ⟨x, rfl, wpAny_pure (hQ _ ?_ (Heap.SameBut.update ..))⟩))
  exact ⟨_, Heap.get?_update_self _ ho (Obj.isFreed_of_fields (Obj.data_mapFields hd _)), (Obj.cls_mapFields ..).trans hc, by
    rw [Obj.data_mapFields hd]; simp [rawInt]⟩
theorem nextOf_tup_end {it t : Addr} {i : Nat} {items} {Q : Value → Shared → Prop} (hh : A.handled = none)
    (hit : s.heap.IsTupleIter it t i) (ht : s.heap.IsTuple t items) (hx : items[i]? = none)
    (hE : ∀ h' e, Heap.ExtBut it s.heap h' → (∃ o, h'.get? e = some o ∧ o.cls = .type "StopIteration") → E (.ref e) { s with heap := h' }) :
    wpAny (model prog w) A (Builtin.SmallTypes.nextOf (.ref it)) Q E s := by
  obtain ⟨o, ho, hc, hd⟩ := id hit
  obtain ⟨ol, hol, _, nl, hdl⟩ := ht
  unfold Builtin.SmallTypes.nextOf
  refine wpAny_bind (wpAny_callSpecial?_slot (name := Str.ofString "__next__") hit.typeIs F.slot_tuple_iterator_next
    (wpAny_call_entry F.slot_tuple_iterator_next hit.typeIs F.entry_tuple_iterator_next ?_ (F.args_tuple_iterator_next_1 _)))
  show wpAny _ _ (field (.ref it) 0 >>= _) _ _ s
  refine wpAny_bind (wpAny_field ho hd (x := .ref t) rfl ?_)
  show wpAny _ _ (if (Value.ref t == Value.none) = true then _ else _) _ _ s
  rw [if_neg (show ¬ ((Value.ref t == Value.none) = true) from Bool.false_ne_true)]
  show wpAny _ _ (field (.ref it) 1 >>= _) _ _ s
  refine wpAny_bind (wpAny_field ho hd (x := .int i 0) rfl ?_)
  show wpAny _ _ (seqItems? (.ref t) >>= _) _ _ s
  refine wpAny_bind (wpAny_seqItems hol hdl ?_)
  simp only [Int.toNat_natCast, hx]
  refine wpAny_bind (wpAny_rule (wpAny_bind (wpAny_setField ho hd (by simp) ?_)))
  show wpAny _ _ (newExc (.type "StopIteration") [] >>= _) _ _ _
  refine wpAny_bind ?_
  simp only [newExc, newTuple]
  refine wpAny_bind (wpAny_newObj_type ?_ (by size_fits))
  refine wpAny_bind (m := firstArgMember _ _) (wpAny_of_eq (a := Value.none) (by first | rfl | (simp only [firstArgMember]; rfl)) ?_)
  refine wpAny_newObj_type ?_ (by size_fits)
  simp only [raiseNew]
  refine wpAny_bind (wpAny_handled ?_)
  first | rw [show A.in1.handled = none from hh] | rw [hh]
  refine wpAny_bind (wpAny_pure (wpAny_throw ?_))
  exact hE _ _ (((Heap.SameBut.update ..).extBut.push _).push _) ⟨_, Heap.get?_push_size _ rfl, rfl⟩
end
theorem draws_tup {prog : Program} {w : World} {A : Around} (hh : A.handled = none) (it l : Addr) (hne : l ≠ it) (items : Array Value) :
    Draws prog w A it [it, l] items.size (fun i v => items[i]? = some v) (fun i h => h.IsTupleIter it l i ∧ h.IsTuple l items) where
  live := fun _ _ st => let ⟨o, ho, _⟩ := st.1; ⟨o, ho⟩
  frame := fun _ _ _ st hk => ⟨st.1.at fun o e => hk it (by simp) o e, st.2.at fun o e => hk l (by simp) o e⟩
  item := fun i s Q E hi st hQ => by
    refine nextOf_tup_item st.1 st.2 (x := items[i]) (by simp [hi]) fun h' hit' hs' => ?_
    exact hQ _ h' s.toks (by simp [hi]) ⟨hit', st.2.extBut hs'.extBut hne⟩ hs'
  done := fun s Q E st hE => nextOf_tup_end hh st.1 st.2 (by simp) hE
set_option maxHeartbeats 1000000 in
theorem meets_enum_tup (l : Addr) (items : Array Value) (n : Nat) (dct : Option Addr) (sl : Array (Option Value)) :
    Meets (Builtin.«enumerate.__new__» ⟨[.type "enumerate", .ref l], []⟩) (fun _ R s => s.heap.get? l = some { cls := .type "tuple", dict := dct, data := .seq items n, slots := sl } ∧
      R (.ok (.ret (.ref (s.heap.push { cls := .type "tuple_iterator", data := .fields #[.ref l, .int 0 0] }).objs.size)))
        { s with heap := (s.heap.push { cls := .type "tuple_iterator", data := .fields #[.ref l, .int 0 0] }).push { cls := .type "enumerate", data := .fields #[.none, .bool false, .ref s.heap.objs.size, rawInt 0, .none, .none] } }) :=
  .of_wp fun prog w A R s h => by
    obtain ⟨hp, g, d, tk, os⟩ := s; obtain ⟨hl, h⟩ := h
    have hsub := sub_enumerate
    have hL : Heap.IsTuple (Shared.heap ⟨hp, g, d, tk, os⟩) l items := ⟨_, hl, rfl, n, rfl⟩
    wp_walk using PySem.AutoSeq1.wpAny_loadPart' hl
    refine wpAny_stack_any fun st => wpAny_pure ?_
    split
    · rename_i c _ _ _ _ _
      cases (c == Value.type "enumerate")
      · wp_walk using PySem.AutoSeq1.wpAny_loadPart' hl, wpAny_pyIter_tuple hL
        exact ⟨_, rfl, h⟩
      · wp_walk using PySem.AutoSeq1.wpAny_loadPart' hl, wpAny_pyIter_tuple hL
        exact ⟨_, rfl, h⟩
    · wp_walk using PySem.AutoSeq1.wpAny_loadPart' hl, wpAny_pyIter_tuple hL
      exact ⟨_, rfl, h⟩
section
variable {prog : Program} {w : World} {A : Around} {E : Value → Shared → Prop} {s : Shared}
theorem call_enum_tup {l : Addr} {items : Array Value} {Q : Value → Shared → Prop} (hL : s.heap.IsTuple l items)
    (h : ∀ h', IsEnum h' (s.heap.objs.size + 1) s.heap.objs.size 0 .none → h'.IsTupleIter s.heap.objs.size l 0 → h'.objs.size = s.heap.objs.size + 2 →
      (∀ b o, s.heap.get? b = some o → h'.get? b = some o) → Q (.ref (s.heap.objs.size + 1)) { s with heap := h' }) :
    wpAny (model prog w) A (call (.type "enumerate") [.ref l]) Q E s := by
  obtain ⟨⟨c, dct, dt, sl⟩, hl, hc, n, hd⟩ := hL
  replace hc : c = .type "tuple" := hc
  replace hd : dt = .seq items n := hd
  subst hc hd
  refine callType_new F.called_enumerate (by decide) (F.typeCall_enumerate_1 _) (F.newCall_enumerate_1 _) (fun obj => F.args_object_init_2 obj _) F.entry_enumerate_new
    (meets_enum_tup l items n dct sl) ⟨hl, ?_⟩
  have hz : (s.heap.push { cls := .type "tuple_iterator", data := .fields #[.ref l, .int 0 0] }).objs.size = s.heap.objs.size + 1 := Heap.size_push ..
  show _ ∧ _
  rw [hz]
  have he : IsEnum ((s.heap.push { cls := .type "tuple_iterator", data := .fields #[.ref l, .int 0 0] }).push
      { cls := .type "enumerate", data := .fields #[.none, .bool false, .ref s.heap.objs.size, rawInt 0, .none, .none] }) (s.heap.objs.size + 1) s.heap.objs.size 0 .none := by
    have := Heap.get?_push_size (s.heap.push { cls := .type "tuple_iterator", data := .fields #[.ref l, .int 0 0] })
      (o := { cls := .type "enumerate", data := .fields #[.none, .bool false, .ref s.heap.objs.size, rawInt 0, .none, .none] }) rfl
    rw [hz] at this; exact this
  refine ⟨⟨_, he, rfl⟩, h _ he ⟨_, Heap.get?_push_of_some _ (Heap.get?_push_size _ rfl), rfl, rfl⟩ (by rw [Heap.size_push, hz]) fun b o x => Heap.get?_push_of_some _ (Heap.get?_push_of_some _ x)⟩
end
theorem enum_end_tup {prog : Program} {w : World} {A : Around} {E : Value → Shared → Prop} {s : Shared} {e it l : Addr} {i : Nat} {items : Array Value} {old : Value} {Q : Option Value → Shared → Prop} (hh : A.handled = none)
    (he : IsEnum s.heap e it i old) (hit : s.heap.IsTupleIter it l i) (hl : s.heap.IsTuple l items) (hx : items[i]? = none)
    (hQ : ∀ h', Heap.ExtBut it s.heap h' → Q none { s with heap := h' }) : wpAny (model prog w) A (pyNext (.ref e)) Q E s := by
  have hT : s.TypeIs (.ref e) "enumerate" := ⟨_, he, rfl⟩
  unfold pyNext
  refine wpAny_bind (wpAny_attempt (wpAny_callSpecial?_slot (name := Str.ofString "__next__") hT F.slot_enumerate_next
    (wpAny_call_entry F.slot_enumerate_next hT F.entry_enumerate_next ?_ (F.args_enumerate_next_1 _))))
  show wpAny _ _ (field (.ref e) 2 >>= _) _ _ _
  refine wpAny_bind (wpAny_field he rfl (x := .ref it) rfl ?_)
  refine wpAny_bind (nextOf_tup_end hh hit hl hx fun h' x he' hx' => ?_)
  obtain ⟨o, ho, hc⟩ := hx'
  refine wpAny_bind (wpAny_isInstance (T := "StopIteration") (b := true) ⟨o, ho, hc⟩ isSubtype_stop ?_)
  exact wpAny_pure (hQ _ he')
/-- the tuple at a as it stands at each turn, each item in a new pair -/
def ItE (K : PySem.W.Frag) (a : Addr) : It :=
  ⟨fun i H => ∃ (xs : List V) (x : V), SqT K H a xs ∧ xs[i]? = some x, fun i H v H' => ∃ T x, v = .ref T ∧ H T = none ∧ H' = upd H T (.tup [.int (i : Nat), x]) ∧ ∀ xs, SqT K H a xs → xs[i]? = some x, fun i H => ∃ xs : List V, SqT K H a xs ∧ xs.length ≤ i⟩
theorem turn_enumT {P : Program} {w : World} {K : PySem.W.Frag} {elts : List Expr} {kk : Nat} {tpos : Pos} (a e it : Addr) :
    Turn P w K (.Tuple elts kk tpos) (ItE K a) [e, it] e (fun i h => (∃ old, IsEnum h e it ((i : Nat) : Int) old) ∧ h.IsTupleIter it a i ∧ e ≠ it ∧ a ≠ it ∧ a ≠ e) where
  mem := by simp
  obj := fun i h st b hb => by
    obtain ⟨⟨old, he⟩, ⟨o, ho, hc, hd⟩, _⟩ := st
    have e' : b = e ∨ b = it := by simpa using hb
    rcases e' with z | z
    · rw [z]; exact ⟨_, he, fun v q => nomatch q⟩
    · rw [z]; exact ⟨o, ho, fun v q => by rw [hd] at q; cases q⟩
  keep := fun i h h' st k => let ⟨⟨old, he⟩, hi, hne, h1, h2⟩ := st; ⟨⟨old, k e (by simp) _ he⟩, hi.at fun o q => k it (by simp) o q, hne, h1, h2⟩
  item := by
    intro X hP hw hK hc i pins s σ H E I hf st hg
    subst hP hw hK
    obtain ⟨⟨old, he⟩, hit, hne, hai, hae⟩ := st
    obtain ⟨xs, x, hq, hx⟩ := hg
    obtain ⟨its, rv, p, hz⟩ := I.tuple hq
    have hT : s.heap.IsTuple a its.toArray := p
    obtain ⟨u, hu, ru⟩ := rv.get hx
    have hel : e < s.heap.objs.size := Heap.lt_size he
    have hil : it < s.heap.objs.size := by obtain ⟨_, q, _⟩ := hit; exact Heap.lt_size q
    have hlt : i < its.toArray.size := by
      have := (List.getElem?_eq_some_iff.mp hu).1
      simpa using this
    refine wpAny_pyNext_enum_itemD (draws_tup (A := X.A.in1) (I.ok.hd hc) it a hai its.toArray) he ⟨hit, hT⟩ hlt hne (by simp [hne, Ne.symm hae]) fun y h' tk hy ho hst hT2 hsz hk => ?_
    have hyu : y = u := by
      have : its.toArray[i]? = some y := hy
      rw [show its.toArray[i]? = its[i]? by simp, hu] at this
      exact (Option.some.inj this).symm
    subst hyu
    refine ⟨_, rfl, wpAny_letOwnedTupleGo_enum (s := { s with heap := h', toks := tk + 1 }) ho fun h'' he' sb => ?_⟩
    have hT3 : h''.get? s.heap.objs.size = some { cls := .type "tuple", data := .seq #[.int i tk, y] } := (sb.2 _ (Nat.ne_of_gt hel)).trans hT2
    have new : ObjOk X.prog X.w (upd H s.heap.objs.size (.tup [.int (i : Nat), x])) h'' s.heap.objs.size (.tup [.int (i : Nat), x]) :=
      ⟨by show 2 ≤ sizeLine; decide, [.int i tk, y], .cons ⟨_, rfl⟩ (.cons ru .nil), ⟨_, hT3, rfl, _, rfl⟩⟩
    have I1 : Inv X pins σ (upd H s.heap.objs.size (.tup [.int (i : Nat), x])) { s with heap := h'', toks := tk + 1 } :=
      I.turnedNew (ch := [e, it]) (fun b ob hb q => (sb.2 b (fun z => hb (by simp [z]))).trans (hk b ob (fun z => hb (by simp [z])) (fun z => hb (by simp [z])) q)) hf (Nat.le_refl _) new
    refine ⟨.ref s.heap.objs.size, _, I1, rfl, ⟨_, x, rfl, I.hok.fresh (Nat.le_refl _), rfl, fun ys hy => by rw [I.tuple_inj hy hq]; exact hx⟩, ⟨⟨y, ?_⟩, hst.1.at fun o q => (sb.2 it (Ne.symm hne)).trans q, hne, hai, hae⟩, fun b hb => ?_⟩
    · have e1 : ((i + 1 : Nat) : Int) = (i : Int) + 1 := by omega
      rw [e1]; exact he'
    · have hb' : b < s.heap.objs.size := by
        have e' : b = e ∨ b = it := by simpa using hb
        rcases e' with z | z
        · rw [z]; exact hel
        · rw [z]; exact hil
      rw [upd_ne (Nat.ne_of_lt hb')]
      exact (hf b hb).1
  done := by
    intro X hP hw hK hc i pins s σ H E I hf st hg
    subst hP hw hK
    obtain ⟨⟨old, he⟩, hit, hne, hai, hae⟩ := st
    obtain ⟨xs, hq, hx⟩ := hg
    obtain ⟨its, rv, p, hz⟩ := I.tuple hq
    have hT : s.heap.IsTuple a its.toArray := p
    obtain ⟨f0, f1, f2, f3, f4, f5⟩ := hf it (by simp)
    have hl := rv.length
    exact enum_end_tup (I.ok.hd hc) he hit hT (by simp; omega) fun h' eb => ⟨rfl, I.turned (t' := s.toks) (fun b o hb q => eb b o hb q) f0 f1 f3 f4 f5⟩
  self := fun A i s Q E st h => let ⟨⟨_, he⟩, _⟩ := st; wpAny_pyIter_enum he h
def iEnumT (K : PySem.W.Frag) (ta : TA) : TI := fun σ H R => ta σ H fun vs H1 => ∃ a xs, vs = [.ref a] ∧ SqT K H1 a xs ∧ R (ItE K a) H1
theorem pi_enumT {X : Cx} {e : Expr} {ta : TA} {p pos tpos : Pos} {elts : List Expr} {kk : Nat} (hg : Gl X "enumerate") (hm : X.mg "enumerate" = none) (ha : PA X [e] ta) (hs : starEach [e] X.env = [(false, eval e X.env)] := by rfl) :
    PI X (.Tuple elts kk tpos) (.Call (.Name "enumerate" p) [e] [] pos) (iEnumT X.K ta) := by
  refine ⟨fun pins s σ H R I h => ?_⟩
  refine Call_ (ld_blt I hg hm boot_enumerate (PyProof.Rows.callWith_type1 (thn (ha.run pos pins s σ H _ I h) fun us s1 ⟨vs, H1, I1, r1, q1⟩ => ?_) hs rfl))
  obtain ⟨a, xs, ex, hq, q⟩ := q1
  subst ex
  cases r1 with
  | cons r rr =>
    cases rr
    cases r
    obtain ⟨its, rv, p', hz⟩ := I1.tuple hq
    have hT : s1.heap.IsTuple a its.toArray := p'
    have hal : a < s1.heap.objs.size := by obtain ⟨_, e, _⟩ := hT; exact Heap.lt_size e
    refine call_enum_tup hT fun h' he hit hsz hk => wpAny_pyIter_enum he ?_
    have I2 : Inv X pins σ H1 { s1 with heap := h' } := I1.kept (t' := s1.toks) hk
    refine ⟨s1.heap.objs.size + 1, [s1.heap.objs.size + 1, s1.heap.objs.size], _, _, H1, rfl, I2, turn_enumT a (s1.heap.objs.size + 1) s1.heap.objs.size, ⟨⟨.none, he⟩, hit, Nat.succ_ne_self _, Nat.ne_of_lt hal, Nat.ne_of_lt (Nat.lt_succ_of_lt hal)⟩, fun b hb => ?_, q⟩
    have e' : b = s1.heap.objs.size + 1 ∨ b = s1.heap.objs.size := by simpa using hb
    have hle : s1.heap.objs.size ≤ b := by
      rcases e' with z | z
      · rw [z]; exact Nat.le_add_right _ _
      · rw [z]; exact Nat.le_refl _
    exact I1.fpOk hle (I1.hok.fresh hle)
/-- enumerate(t), t a tuple; enumerate(xs), xs a list -/
def enumD (ds : List PyData) : List PyData := ds.zipIdx.map fun p => .tuple [.int (p.2 : Nat), p.1]
theorem enumD_len (ds : List PyData) : (enumD ds).length = ds.length := by unfold enumD; rw [List.length_map, List.length_zipIdx]
theorem enumD_get {ds : List PyData} {i : Nat} {d : PyData} (h : ds[i]? = some d) : (enumD ds)[i]? = some (.tuple [.int (i : Nat), d]) := by
  unfold enumD
  rw [List.getElem?_map, List.getElem?_zipIdx, h]
  simp
section
variable {X : Cx} {ρ ρ1 : Rho} {e : Expr} {pos : Pos} {ds : List PyData}
theorem src_enumT {p : Pos} {elts : List Expr} {kk : Nat} {tpos : Pos} (h : E X e ρ (.d (.tuple ds)) ρ1) (hm : X.mg "enumerate" = none) (hg : Gl X "enumerate" := by rfl) (hs : starEach [e] X.env = [(false, eval e X.env)] := by rfl) :
    Src X (.Tuple elts kk tpos) (.Call (.Name "enumerate" p) [e] [] pos) ρ (enumD ds) ρ1 none :=
  ⟨_, pi_enumT hg hm (pa_cons pe_w pa_nil hs) hs, fun σ HF H S1 R q => h σ HF H S1 _ fun x HF1 H1 S2 f1 r1 => by
  cases (show Dp X.K HF1 x (.tuple ds) from r1) with
  | @tup p ys _ h1 h2 =>
    refine ⟨p, ys, rfl, same_t S2.sub h1, q _ HF1 H1 S2 f1 fun σ2 ρ2 HF2 H2 _ _ S3 s3 => ?_⟩
    have t3 := same_t S3.sub (same_t s3 h1)
    have d3 := dpa_mono s3 h2
    have hl := dpa_len h2
    refine ⟨fun i hi => ?_, ⟨ys, t3, by rw [enumD_len, hl]; exact Nat.le_refl _⟩, fun i x H3 hi ⟨T, y, e1, e2, e3, e4⟩ => ?_⟩
    · rw [enumD_len] at hi
      obtain ⟨y, g, _⟩ := dpa_get d3 (List.getElem?_eq_getElem hi)
      exact ⟨ys, y, t3, g⟩
    · obtain ⟨d, g1, g2⟩ := dpa_get' d3 (e4 ys t3)
      exact ⟨_, enumD_get g1, .inr ⟨T, _, _, e2, e3, e1, rfl, .cons (.int _) (.cons g2 .nil)⟩⟩⟩
end
end Th

set_option Elab.async false
set_option linter.all false
set_option maxRecDepth 100000
namespace Th
open PySem PySem.Spec PyProof.Rows L2 RT RZ
theorem dpa_erase {K : PySem.W.Frag} {HF : Hp} : ∀ {vs : List V} {ds : List PyData} (j : Nat), DpAll K HF vs ds → DpAll K HF (vs.eraseIdx j) (ds.eraseIdx j)
  | _, _, _, .nil => .nil
  | _, _, 0, .cons _ t => t
  | _, _, j + 1, .cons h t => .cons h (dpa_erase j t)
theorem seqIndex_ixN {n : Nat} {i : Int} {j : Nat} (h : ixN n i = some j) : seqIndex? i n = some j := (ixN_seq h).1
section
variable {X : Cx} {ρ ρ1 ρ2 ρ3 : Rho} {e e2 : Expr} {pos pos' : Pos} {xs : List PyData} {v : PyData} {x : Str} {n : Int} {j : Nat}
/-- xs.pop(k), xs an own list in a slot -/
theorem e_popAt (i : Nat) {apos : Pos} (he : E X e ρ (.d (.int n)) ρ1) (hi0 : ∃ x0, ρ[i]? = some (.ml x0)) (hi : ρ1[i]? = some (.ml xs)) (hz : xs.length < 100000) (hj : ixN xs.length n = some j) (hv0 : xs[j]? = some v) (hN : X.N[i]? = some x := by rfl)
    (hv : Vis X.env.scope x := by first | exact Or.inl rfl | exact Or.inr (Or.inl rfl) | exact Or.inr (Or.inr rfl)) (hd : (x == ("__debug__" : Str)) = false := by decide) (hcd : (x == ("__classdict__" : Str)) = false := by decide)
    (hbase : attributeBase (.Name x pos') "pop" X.env (eval (.Name x pos') X.env) = eval (.Name x pos') X.env := by rfl)
    (hfew : ((backTo pos (starEach [e] X.env)).all (fun x => !x.1) && (backToKw pos (keywordEach [] X.env)).all (fun x => x.1.isSome) && decide (([e] : List Expr).length + ([] : List Keyword).length + (if ([] : List Keyword).isEmpty then 0 else 1) < 30)) = true := by rfl)
    (hline : (apos.endLine == pos.line) = true := by rfl) (hs : starEach [e] X.env = (false, eval e X.env) :: starEach [] X.env := by rfl) :
    E X (.Call (.Attribute (.Name x pos') "pop" apos) [e] [] pos) ρ (.d v) (ρ1.set i (.ml (xs.eraseIdx j))) :=
  .of (pe_bm PySem.F.plainAttrs_list PySem.F.slot_list_pop PySem.F.type_list_pop mt_popAt (pe_var hN hv hd hcd) (pa_cons pe_w pa_nil hs) hbase hfew hline hs) fun σ HF H S1 Q q => by
    obtain ⟨k0, hk0⟩ := hi0
    obtain ⟨p, o0, e0, _, k2, k3⟩ := S1.ownAt hk0 rfl
    cases o0 <;> first | exact k3.elim | skip
    refine ⟨.ref p, e0, .inl ⟨rfl, _, .inl (.inl k2)⟩, he σ HF H S1 _ fun x1 HF1 H1 S2 f1 r1 => ?_⟩
    obtain ⟨p2, o2, e3, h1, h2, h3⟩ := S2.ownAt hi rfl
    rw [e0] at e3
    cases e3
    cases r1
    cases o2 <;> first | exact h3.elim | skip
    rename_i ys
    have hl := dpa_len h3
    obtain ⟨w, g1, g2⟩ := dpa_get h3 hv0
    obtain ⟨S4, f4⟩ := S2.put hi rfl e0 (o' := .lst (ys.eraseIdx j)) (a' := .ml (xs.eraseIdx j)) (dpa_erase j h3)
    obtain ⟨a1, a2, a3, a4⟩ := ixN_seq hj
    exact ⟨p, ys, n, j, w, rfl, rfl, h2, by omega, by omega, by rw [hl]; exact a1, g1, q _ _ _ S4 (f1.trans f4) g2⟩
variable {kvs : List (Key × PyData)} {y : Key} {d w : PyData} {e1 : Expr}
/-- d.pop(k), d.pop(k, z), d an own dict in a slot -/
theorem e_dpop1 (i : Nat) {apos : Pos} (he : E X e ρ (.d (kD y)) ρ1) (hi0 : ∃ k0, ρ[i]? = some (.mk k0)) (hi : ρ1[i]? = some (.mk kvs)) (hg : getK kvs y = some d) (m : M1 X (.Name x pos') "pop" apos e pos := by exact ⟨rfl, rfl, rfl, rfl⟩) (hN : X.N[i]? = some x := by rfl)
    (hv : Vis X.env.scope x := by first | exact Or.inl rfl | exact Or.inr (Or.inl rfl) | exact Or.inr (Or.inr rfl)) (hd : (x == ("__debug__" : Str)) = false := by decide) (hcd : (x == ("__classdict__" : Str)) = false := by decide) :
    E X (.Call (.Attribute (.Name x pos') "pop" apos) [e] [] pos) ρ (.d d) (ρ1.set i (.mk (delK kvs y))) := .of (pe_dpop1 (pe_var hN hv hd hcd) pe_w m) fun σ HF H S1 Q q => by
  obtain ⟨k0, hk0⟩ := hi0
  obtain ⟨p, o, e0, _, k2, k3⟩ := S1.ownAt hk0 rfl
  cases o <;> first | exact k3.elim | skip
  refine ⟨.ref p, e0, p, rfl, .inl ⟨_, .inl k2⟩, he σ HF H S1 _ fun x1 HF1 H1 S2 f1 r1 => ?_⟩
  obtain ⟨p2, o2, e3, h1, h2, h3⟩ := S2.ownAt hi rfl
  rw [e0] at e3
  cases e3
  cases o2 <;> first | exact h3.elim | skip
  rename_i kws
  have hx := dp_key r1
  subst hx
  rcases dpkv_val y h3 with ⟨_, g2⟩ | ⟨v1, d1, g1, g2, g3⟩
  · rw [hg] at g2; cases g2
  · rw [hg] at g2
    cases g2
    obtain ⟨S4, f4⟩ := S2.put hi rfl e0 (o' := .dK (dropK kws y)) (a' := .mk (delK kvs y)) (dpkv_drop y h3)
    exact ⟨kws, y, v1, h2, rfl, g1, q _ _ _ S4 (f1.trans f4) g3⟩
theorem e_dpop2 (i : Nat) {apos : Pos} (he : E X e ρ (.d (kD y)) ρ1) (he2 : E X e2 ρ1 (.d w) ρ2) (hi0 : ∃ k0, ρ[i]? = some (.mk k0)) (hi : ρ2[i]? = some (.mk kvs)) (m : M2 X (.Name x pos') "pop" apos e e2 pos := by exact ⟨rfl, rfl, rfl, rfl⟩) (hN : X.N[i]? = some x := by rfl)
    (hv : Vis X.env.scope x := by first | exact Or.inl rfl | exact Or.inr (Or.inl rfl) | exact Or.inr (Or.inr rfl)) (hd : (x == ("__debug__" : Str)) = false := by decide) (hcd : (x == ("__classdict__" : Str)) = false := by decide) :
    E X (.Call (.Attribute (.Name x pos') "pop" apos) [e, e2] [] pos) ρ (.d ((getK kvs y).getD w)) (ρ2.set i (.mk (delK kvs y))) := .of (pe_dpop2 (pe_var hN hv hd hcd) pe_w pe_w m) fun σ HF H S1 Q q => by
  obtain ⟨k0, hk0⟩ := hi0
  obtain ⟨p, o, e0, _, k2, k3⟩ := S1.ownAt hk0 rfl
  cases o <;> first | exact k3.elim | skip
  refine ⟨.ref p, e0, p, rfl, .inl ⟨_, .inl k2⟩, he σ HF H S1 _ fun x1 HF1 H1 S2 f1 r1 => he2 σ HF1 H1 S2 _ fun x2 HF2 H2 S3 f2 r2 => ?_⟩
  obtain ⟨p2, o2, e3, h1, h2, h3⟩ := S3.ownAt hi rfl
  rw [e0] at e3
  cases e3
  cases o2 <;> first | exact h3.elim | skip
  rename_i kws
  have hx := dp_key r1
  subst hx
  refine ⟨kws, y, h2, rfl, fun v1 g1 => ?_, fun g1 => ?_⟩
  · rcases dpkv_val y h3 with ⟨g, _⟩ | ⟨v2, d1, g, g2, g3⟩
    · rw [g1] at g; cases g
    · rw [g1] at g
      cases g
      rw [g2] at q
      obtain ⟨S4, f4⟩ := S3.put hi rfl e0 (o' := .dK (dropK kws y)) (a' := .mk (delK kvs y)) (dpkv_drop y h3)
      exact q _ _ _ S4 ((f1.trans f2).trans f4) g3
  · rcases dpkv_val y h3 with ⟨g, g2⟩ | ⟨v2, d1, g, g2, g3⟩
    · have hdel : delK kvs y = kvs := by
        unfold delK
        refine List.filter_eq_self.mpr fun kv hkv => ?_
        refine decide_eq_true fun z => ?_
        unfold getK at g2
        rw [Option.map_eq_none_iff, List.find?_eq_none] at g2
        exact g2 kv hkv (decide_eq_true z)
      rw [hdel, g2] at q
      have hset : ρ2.set i (.mk kvs) = ρ2 := by
        refine List.ext_getElem? fun j => ?_
        by_cases hj : i = j
        · subst hj
          rw [List.getElem?_set_self (List.getElem?_eq_some_iff.mp hi).1, hi]
        · rw [List.getElem?_set_ne hj]
      rw [hset] at q
      exact q _ HF2 H2 S3 (f1.trans f2) r2
    · rw [g1] at g; cases g
/-- xs.remove(k) of an own list of ints -/
theorem e_remI (i : Nat) {apos : Pos} {ns : List Int} {k : Int} (he : E X e ρ (.d (.int k)) ρ1) (hi0 : ∃ x0, ρ[i]? = some (.ml x0)) (hi : ρ1[i]? = some (.ml (ns.map .int))) (hj : ns[j]? = some k) (hno : ∀ m : Nat, m < j → ns[m]? ≠ some k) (hN : X.N[i]? = some x := by rfl)
    (hv : Vis X.env.scope x := by first | exact Or.inl rfl | exact Or.inr (Or.inl rfl) | exact Or.inr (Or.inr rfl)) (hd : (x == ("__debug__" : Str)) = false := by decide) (hcd : (x == ("__classdict__" : Str)) = false := by decide)
    (hbase : attributeBase (.Name x pos') "remove" X.env (eval (.Name x pos') X.env) = eval (.Name x pos') X.env := by rfl)
    (hfew : ((backTo pos (starEach [e] X.env)).all (fun x => !x.1) && (backToKw pos (keywordEach [] X.env)).all (fun x => x.1.isSome) && decide (([e] : List Expr).length + ([] : List Keyword).length + (if ([] : List Keyword).isEmpty then 0 else 1) < 30)) = true := by rfl)
    (hline : (apos.endLine == pos.line) = true := by rfl) (hs : starEach [e] X.env = (false, eval e X.env) :: starEach [] X.env := by rfl) :
    E X (.Call (.Attribute (.Name x pos') "remove" apos) [e] [] pos) ρ (.d .none) (ρ1.set i (.ml ((ns.eraseIdx j).map .int))) :=
  .of (pe_bm PySem.F.plainAttrs_list PySem.F.slot_list_remove PySem.F.type_list_remove mt_remove (pe_var hN hv hd hcd) (pa_cons pe_w pa_nil hs) hbase hfew hline hs) fun σ HF H S1 Q q => by
    obtain ⟨k0, hk0⟩ := hi0
    obtain ⟨p, o0, e0, _, k2, k3⟩ := S1.ownAt hk0 rfl
    cases o0 <;> first | exact k3.elim | skip
    refine ⟨.ref p, e0, .inl ⟨rfl, _, .inl (.inl k2)⟩, he σ HF H S1 _ fun x1 HF1 H1 S2 f1 r1 => ?_⟩
    obtain ⟨p2, o2, e3, h1, h2, h3⟩ := S2.ownAt hi rfl
    rw [e0] at e3
    cases e3
    cases r1
    cases o2 <;> first | exact h3.elim | skip
    rename_i ys
    have hy := ints_dpa h3
    subst hy
    obtain ⟨S4, f4⟩ := S2.put hi rfl e0 (o' := .lst ((ns.eraseIdx j).map V.int)) (a' := .ml ((ns.eraseIdx j).map .int)) (dpa_ints _)
    exact ⟨p, ns, k, j, rfl, rfl, h2, hj, hno, q _ _ _ S4 (f1.trans f4) .non⟩
end
end Th

set_option Elab.async false
set_option linter.all false
set_option maxRecDepth 100000
namespace Th
open PySem PySem.Spec PyProof.Rows L2 RT RZ
section
variable {X : Cx} {ρ ρ1 ρ2 ρ3 : Rho} {e e2 : Expr} {pos p1 p2 p3 : Pos}
theorem dpa_encN {K : PySem.W.Frag} {HF : Hp} : ∀ (f : Nat → Int) (ns : List Nat), DpAll K HF (ns.map fun i => V.int (f i)) (ns.map fun i => PyData.int (f i))
  | _, [] => .nil
  | f, n :: ns => .cons (.int _) (dpa_encN f ns)
/-- list(range(n)) -/
theorem e_lrange {n : Nat} (h : E X e ρ (.d (.int n)) ρ1) (hm : X.mg "list" = none) (hr : X.mg "range" = none) (hn : n ≤ 1000000) (hg : Gl X "list" := by rfl) (hgr : Gl X "range" := by rfl) (hc : X.calm = true := by rfl) (na : starEach [e] X.env = (false, eval e X.env) :: starEach [] X.env := by rfl)
    (nb : starEach [.Call (.Name "range" p2) [e] [] p3] X.env = (false, eval (.Call (.Name "range" p2) [e] [] p3) X.env) :: starEach [] X.env := by rfl) : E X (.Call (.Name "list" p1) [.Call (.Name "range" p2) [e] [] p3] [] pos) ρ (.ml ((List.range n).map encN)) ρ1 :=
  .of (pe_listRg hc hg hm (prg_1 hgr hr pe_w na) nb) fun σ HF H S1 Q q => h σ HF H S1 _ fun x HF1 H1 S2 f1 r1 => by
    cases r1
    refine ⟨n, rfl, .of_le (Int.le_refl _) (by omega) (by decide) (by omega), fun r hr => ?_⟩
    have e : rgV 0 (n : Int) = (List.range n).map fun i => V.int ((i : Nat) : Int) := by
      unfold rgV
      rw [Int.sub_zero, Int.toNat_natCast]
      refine List.map_congr_left fun i _ => ?_
      rw [Int.zero_add]
    rw [e]
    obtain ⟨S4, f4⟩ := S2.allocO hr (.lst ((List.range n).map fun i => V.int ((i : Nat) : Int)))
    exact q _ _ _ S4 (f1.trans f4) ⟨r, _, rfl, f1.fresh hr, S2.hfNone hr, upd_same, dpa_encN (fun i => (i : Int)) _⟩
end
/-! ### webs as they are drawn -/
def primeF (i : Int) : Int := [101, 10007, 999999937].getD i.toNat 0
theorem primeF_pos {i : Int} (h0 : 0 ≤ i) (h : i < 3) : 101 ≤ primeF i ∧ primeF i < 10 ^ 9 := by
  have : i = 0 ∨ i = 1 ∨ i = 2 := by omega
  rcases this with rfl | rfl | rfl <;> exact ⟨by decide, by decide⟩
def arcP (s : Int × Int) : Int := primeF (tkV s 3)
def arcLeap (s : Int × Int) : Int := 1 + tkV (tkS s 3) (arcP s - 1)
def arcOff (s : Int × Int) : Int := tkV (tkS (tkS s 3) (arcP s - 1)) (arcP s)
def arcsS (s : Int × Int) : Int × Int := tkS (tkS (tkS s 3) (arcP s - 1)) (arcP s)
def arcsL (s : Int × Int) (n : Nat) : List Int := (List.range n).map fun k : Nat => (arcOff s + (k : Int) * arcLeap s) % arcP s
theorem arcP_bd (s : Int × Int) : 101 ≤ arcP s ∧ arcP s < 10 ^ 9 := primeF_pos (tkV_lo (by decide)) (tkV_hi (by decide))
theorem arcLeap_bd (s : Int × Int) : 1 ≤ arcLeap s ∧ arcLeap s < arcP s := by
  have hp := arcP_bd s
  unfold arcLeap
  have := tkV_lo (s := tkS s 3) (b := arcP s - 1) (by omega)
  have := tkV_hi (s := tkS s 3) (b := arcP s - 1) (by omega)
  omega
theorem arcsS_n (s : Int × Int) : (arcsS s).2 = s.2 + 3 := by
  unfold arcsS
  simp only [tkS_n]
  omega
theorem arcsL_len (s : Int × Int) (n : Nat) : (arcsL s n).length = n := by unfold arcsL; rw [List.length_map, List.length_range]
def fArcs : Fs := fun as r as' => ∃ (s : Int × Int) (n : Nat), (0 ≤ s.2 ∧ s.2 ≤ 900000) ∧ n ≤ 10000 ∧ as = [rowA s, .d (.int n)] ∧ r = .ml ((arcsL s n).map .int) ∧ as' = [rowA (arcsS s), .d (.int n)]
/-- small numbers have no divisor with the three primes -/
theorem prime_gcd {i : Int} (h0 : 0 ≤ i) (h : i < 3) : ∀ d : Nat, 1 ≤ d → d ≤ 100 → Nat.gcd d (primeF i).toNat = 1 := by
  have : i = 0 ∨ i = 1 ∨ i = 2 := by omega
  rcases this with rfl | rfl | rfl
  · have h : ∀ d : Fin 101, 1 ≤ d.1 → Nat.gcd d.1 101 = 1 := by decide +kernel
    exact fun d h1 h2 => h ⟨d, by omega⟩ h1
  · have h : ∀ d : Fin 101, 1 ≤ d.1 → Nat.gcd d.1 10007 = 1 := by decide +kernel
    exact fun d h1 h2 => h ⟨d, by omega⟩ h1
  · have h : ∀ d : Fin 101, 1 ≤ d.1 → Nat.gcd d.1 999999937 = 1 := by decide +kernel
    exact fun d h1 h2 => h ⟨d, by omega⟩ h1
theorem arcs_ne (s : Int × Int) {j k : Nat} (hjk : j < k) (hk : k ≤ 100) : (arcOff s + (j : Int) * arcLeap s) % arcP s ≠ (arcOff s + (k : Int) * arcLeap s) % arcP s := fun h => by
  have hp := arcP_bd s
  have hl := arcLeap_bd s
  have hd : arcP s ∣ (arcOff s + (k : Int) * arcLeap s) - (arcOff s + (j : Int) * arcLeap s) := by
    have := Int.emod_eq_emod_iff_emod_sub_eq_zero.mp h.symm
    exact Int.dvd_of_emod_eq_zero this
  have e : (arcOff s + (k : Int) * arcLeap s) - (arcOff s + (j : Int) * arcLeap s) = ((k - j : Nat) : Int) * arcLeap s := by
    rw [Int.ofNat_sub (Nat.le_of_lt hjk), Int.sub_mul]
    omega
  rw [e] at hd
  have hpn : arcP s = ((arcP s).toNat : Int) := (Int.toNat_of_nonneg (by omega)).symm
  have hln : arcLeap s = ((arcLeap s).toNat : Int) := (Int.toNat_of_nonneg (by omega)).symm
  have hd2 : (arcP s).toNat ∣ (k - j) * (arcLeap s).toNat := by
    refine Int.natCast_dvd_natCast.mp ?_
    rw [← hpn]
    push_cast
    rw [← hln]
    exact hd
  have hg : Nat.gcd (arcP s).toNat (k - j) = 1 := by
    rw [Nat.gcd_comm]
    exact prime_gcd (tkV_lo (by decide)) (tkV_hi (by decide)) (k - j) (by omega) (by omega)
  have hd3 : (arcP s).toNat ∣ (arcLeap s).toNat := (Nat.Coprime.dvd_of_dvd_mul_left hg hd2)
  have := Nat.le_of_dvd (by omega) hd3
  omega
theorem arcs_nodup (s : Int × Int) {n : Nat} (hn : n ≤ 101) : (arcsL s n).Nodup := by
  unfold arcsL
  refine List.pairwise_map.mpr ?_
  refine List.Pairwise.imp_of_mem (R := fun a b => a < b) ?_ List.pairwise_lt_range
  intro a b ha hb hab
  exact arcs_ne s hab (by have := List.mem_range.mp hb; omega)
end Th
namespace Th
open PySem PySem.Spec PyProof.Rows L2 RT RZ
structure WSt where
  A : List Int
  L : List Nat
  s : Int × Int
def webStep (t : WSt) (arc : Int) : WSt :=
  ⟨(t.A.set (t.L.headD 0) arc).set (t.L.tail.getD (tkV t.s t.L.tail.length).toNat 0) arc, t.L.tail.eraseIdx (tkV t.s t.L.tail.length).toNat, tkS t.s t.L.tail.length⟩
def web0 (s : Int × Int) (m h : Nat) : WSt := ⟨List.replicate (4 * m + 2 * h) 0, List.range (4 * m + 2 * h), arcsS s⟩
def webR (s : Int × Int) (m h : Nat) : WSt := (arcsL s (2 * m + h)).foldl webStep (web0 s m h)
structure WOk (N : Nat) (s0 : Int) (i : Nat) (t : WSt) : Prop where
  len : t.A.length = N
  bd : ∀ x ∈ t.L, x < N
  left : t.L.length + 2 * i = N
  sn : t.s.2 = s0 + i
theorem wok_0 (s : Int × Int) (m h : Nat) : WOk (4 * m + 2 * h) (s.2 + 3) 0 (web0 s m h) :=
  ⟨List.length_replicate, fun x hx => List.mem_range.mp hx, by show (List.range _).length + _ = _; rw [List.length_range]; omega, by show (arcsS s).2 = _; rw [arcsS_n]; omega⟩
theorem wok_step {N : Nat} {s0 : Int} {i : Nat} {t : WSt} {arc : Int} (h : WOk N s0 i t) (hi : 2 * (i + 1) ≤ N) : WOk N s0 (i + 1) (webStep t arc) := by
  have hl := h.left
  have hs := h.sn
  have htl : t.L.tail.length = t.L.length - 1 := List.length_tail
  have h0 := tkV_lo (s := t.s) (b := (t.L.tail.length : Int)) (by omega)
  have h1 := tkV_hi (s := t.s) (b := (t.L.tail.length : Int)) (by omega)
  refine ⟨?_, fun x hx => ?_, ?_, ?_⟩
  · show (List.set _ _ _).length = N
    rw [List.length_set, List.length_set]
    exact h.len
  · exact h.bd x (List.mem_of_mem_tail (List.mem_of_mem_eraseIdx hx))
  · show (List.eraseIdx _ _).length + _ = _
    rw [List.length_eraseIdx_of_lt (by omega)]
    omega
  · show t.s.2 + 1 = _
    push_cast
    omega
/-- a web -/
structure Wb where
  cs : List (List Int)
  ends : List Int
  rings : Int
abbrev encR (c : List Int) : PyData := .tuple (c.map .int)
abbrev encW (w : Wb) : PyData := .tuple [.tuple (w.cs.map encR), encR w.ends, .int w.rings]
def ringsF4 (i : Int) : Int := [0, 1, 2, 20].getD i.toNat 0
def webCs (A : List Int) (m : Nat) : List (List Int) := (List.range m).map fun k => (A.take (4 * k + 4)).drop (4 * k)
def webF (s : Int × Int) (m h : Nat) : Wb := ⟨webCs (webR s m h).A m, (webR s m h).A.drop (4 * m), ringsF4 (tkV (webR s m h).s 4)⟩
def webS (s : Int × Int) (m h : Nat) : Int × Int := tkS (webR s m h).s 4
def fWeb : Fs := fun as r as' => ∃ (s : Int × Int) (m h : Nat), (0 ≤ s.2 ∧ s.2 ≤ 800000) ∧ m ≤ 1000 ∧ h ≤ 1000 ∧ as = [rowA s, .d (.int m), .d (.int ((2 * h : Nat) : Int))] ∧ r = .d (encW (webF s m h)) ∧ as' = [rowA (webS s m h), .d (.int m), .d (.int ((2 * h : Nat) : Int))]
theorem wok_fold {N : Nat} {s0 : Int} {t0 : WSt} (h : WOk N s0 0 t0) : ∀ (xs : List Int), 2 * xs.length ≤ N → WOk N s0 xs.length (xs.foldl webStep t0) := fun xs => by
  have key : ∀ (xs : List Int) (i : Nat) (t : WSt), WOk N s0 i t → 2 * (i + xs.length) ≤ N → WOk N s0 (i + xs.length) (xs.foldl webStep t) := fun xs => by
    induction xs with
    | nil => intro i t h _; exact h
    | cons x xs ih =>
      intro i t h hn
      rw [List.length_cons] at hn ⊢
      have := ih (i + 1) (webStep t x) (wok_step h (by omega)) (by omega)
      rw [show i + (xs.length + 1) = i + 1 + xs.length by omega]
      exact this
  intro hn
  have := key xs 0 t0 h (by omega)
  rwa [Nat.zero_add] at this
end Th
namespace Th
theorem map_erase {α β : Type} (f : α → β) : ∀ (xs : List α) (i : Nat), (xs.map f).eraseIdx i = (xs.eraseIdx i).map f
  | [], _ => rfl
  | _ :: _, 0 => rfl
  | x :: xs, i + 1 => congrArg (f x :: ·) (map_erase f xs i)
end Th
namespace Th
open PySem PySem.Spec PyProof.Rows L2 RT RZ
/-- range(a, b) of naturals -/
theorem src_r2N {X : Cx} {ρ ρ1 ρ2 : Rho} {tg e1 e2 : Expr} {px pc : Pos} {a b : Nat} (h : E X e1 ρ (.d (.int a)) ρ1) (h2 : E X e2 ρ1 (.d (.int b)) ρ2) (hm : X.mg "range" = none) (hn : a < 2 ^ 60 ∧ b < 2 ^ 60) (hg : Gl X "range" := by rfl)
    (hse : starEach [e1, e2] X.env = [(false, eval e1 X.env), (false, eval e2 X.env)] := by rfl) (hse2 : starEach [e2] X.env = [(false, eval e2 X.env)] := by rfl) :
    Src X tg (.Call (.Name "range" px) [e1, e2] [] pc) ρ ((List.range' a (b - a)).map encN) ρ2 none := by
  have g := src_r2 (tg := tg) (px := px) (pc := pc) h h2 hm ⟨by omega, by omega, by omega, by omega⟩ hg hse hse2
  have : rangeD (a : Int) ((b : Int) - (a : Int)).toNat = (List.range' a (b - a)).map encN := by
    unfold rangeD
    rw [show ((b : Int) - (a : Int)).toNat = b - a by omega, List.range'_eq_map_range, List.map_map]
    refine List.map_congr_left fun i _ => ?_
    show PyData.int _ = PyData.int _
    congr 1
  rwa [this] at g
/-- enumerate(t), typed -/
theorem src_enumI {X : Cx} {ρ ρ1 : Rho} {e : Expr} {pos p : Pos} {elts : List Expr} {kk : Nat} {tpos : Pos} {α : Type} {xs : List α} {enc : α → PyData} (h : E X e ρ (.d (.tuple (xs.map enc))) ρ1) (hm : X.mg "enumerate" = none) (hg : Gl X "enumerate" := by rfl) (hs : starEach [e] X.env = [(false, eval e X.env)] := by rfl) :
    Src X (.Tuple elts kk tpos) (.Call (.Name "enumerate" p) [e] [] pos) ρ (xs.zipIdx.map fun q => .tuple [.int (q.2 : Nat), enc q.1]) ρ1 none := by
  have g := src_enumT (pos := pos) (p := p) (elts := elts) (kk := kk) (tpos := tpos) h hm hg hs
  have : enumD (xs.map enc) = xs.zipIdx.map fun q => .tuple [.int (q.2 : Nat), enc q.1] := by
    unfold enumD
    rw [List.zipIdx_map, List.map_map]
    rfl
  rwa [this] at g
theorem zipIdx_get {α : Type} {xs : List α} {i : Nat} {q : α × Nat} (h : xs.zipIdx[i]? = some q) : q.2 = i ∧ xs[i]? = some q.1 := by
  rw [List.getElem?_zipIdx] at h
  cases hx : xs[i]? with
  | none => rw [hx] at h; cases h
  | some x =>
    rw [hx] at h
    cases h
    exact ⟨Nat.zero_add i, rfl⟩
end Th
namespace Th
open PySem PySem.Spec PyProof.Rows L2 RT RZ
/-- zip of two tuples, typed -/
theorem src_zipI {X : Cx} {ρ ρ1 ρ2 : Rho} {e1 e2 : Expr} {pos p : Pos} {elts : List Expr} {kk : Nat} {tpos : Pos} {α β : Type} {xs : List α} {ys : List β} {enc1 : α → PyData} {enc2 : β → PyData} (h : E X e1 ρ (.d (.tuple (xs.map enc1))) ρ1) (h2 : E X e2 ρ1 (.d (.tuple (ys.map enc2))) ρ2) (hm : X.mg "zip" = none) (hg : Gl X "zip" := by rfl) (hs : starEach [e1, e2] X.env = (false, eval e1 X.env) :: starEach [e2] X.env := by rfl)
    (hs2 : starEach [e2] X.env = (false, eval e2 X.env) :: starEach [] X.env := by rfl) (hpl : (backTo pos (starEach [e2] X.env)).any (·.1) = false := by rfl) : Src X (.Tuple elts kk tpos) (.Call (.Name "zip" p) [e1, e2] [] pos) ρ ((xs.zip ys).map fun p => .tuple [enc1 p.1, enc2 p.2]) ρ2 none := by
  have g := src_zipT (pos := pos) (p := p) (elts := elts) (kk := kk) (tpos := tpos) h h2 hm hg hs hs2 hpl
  have : zipD (xs.map enc1) (ys.map enc2) = (xs.zip ys).map fun p => .tuple [enc1 p.1, enc2 p.2] := by
    unfold zipD
    rw [List.zip_map, List.map_map]
    rfl
  rwa [this] at g
end Th

set_option Elab.async false
set_option linter.all false
set_option maxRecDepth 100000
namespace Th
open PySem PySem.Spec PyProof.Rows L2

/-! ### new tuples that hold new lists -/
def twD : List PyData ⊕ PyData → PyData
  | .inl zs => .list zs
  | .inr v => v
def twA : List PyData ⊕ PyData → A
  | .inl zs => .ml zs
  | .inr v => .d v
section
variable {K : PySem.W.Frag} {ρ ρ1 : Rho} {σ : L2.St} {HF H : Hp} {te : TE} {l : List (List PyData ⊕ PyData)}
def TwS (K : PySem.W.Frag) (H HF' H' : Hp) (x : V) : List PyData ⊕ PyData → Prop
  | .inl zs => ∃ q us, x = .ref q ∧ H q = none ∧ (HF' q = none ∨ HF' q = some (.lst us)) ∧ H' q = some (.lst us) ∧ DpAll K HF' us zs
  | .inr v => Dp K HF' x v
theorem tws_of {HF' H' : Hp} {ys : List V} (h : Paired (TwR K H HF' H') ys l) : Paired (TwS K H HF' H') ys l := Paired.mapP h fun y a z => by
  cases a with
  | inl zs => obtain ⟨q, us, g1, g2, g3, g4⟩ := z; exact ⟨q, us, g1, g2, .inl g3, g4⟩
  | inr v => exact z
theorem tws_mono {H HF' HF2 H' : Hp} {y : V} {a : List PyData ⊕ PyData} (s : Same HF' HF2) (hn : ∀ q us, HF' q = none → H' q = some (.lst us) → HF2 q = none ∨ HF2 q = some (.lst us)) (z : TwS K H HF' H' y a) : TwS K H HF2 H' y a := by
  cases a with
  | inl zs =>
    obtain ⟨q, us, g1, g2, g3, g4, g5⟩ := z
    refine ⟨q, us, g1, g2, ?_, g4, dpa_mono s g5⟩
    rcases g3 with g3 | g3
    · exact hn q us g3 g4
    · exact .inr (s _ _ g3)
  | inr v => exact dp_mono s z
theorem tw_frz' (S0 : Sl K ρ σ HF H) {H' : Hp} {ys : List V} : ∀ {ys : List V} {l : List (List PyData ⊕ PyData)} {HF' : Hp}, Paired (TwS K H HF' H') ys l → Sl K ρ1 σ HF' H' → Fw ρ ρ1 σ HF H HF' H' →
    ∃ HF2, Sl K ρ1 σ HF2 H' ∧ Fw ρ ρ1 σ HF H HF2 H' ∧ Same HF' HF2 ∧ DpAll K HF2 ys (l.map twD) ∧ ∀ b o, HF2 b = some o → HF' b = some o ∨ ∃ us, H' b = some (.lst us)
  | _, _, HF', .nil, S1, f1 => ⟨HF', S1, f1, .refl _, .nil, fun _ _ h => .inl h⟩
  | _, _, HF', .cons (a := y) (b := a) z t, S1, f1 => by
    cases a with
    | inr v =>
      obtain ⟨HF2, S2, f2, s2, d2, n2⟩ := tw_frz' S0 (ys := []) t S1 f1
      exact ⟨HF2, S2, f2, s2, .cons (dp_mono s2 z) d2, n2⟩
    | inl zs =>
      obtain ⟨q, us, rfl, g2, g3, g4, g5⟩ := z
      rcases g3 with g3 | g3
      · have nw : ¬ OwnAt ρ1 σ q := fun w => S0.notOwn g2 (f1.sh.own.mp w)
        have s1 : Same HF' (upd HF' q (.lst us)) := same_upd g3
        have S1' := S1.frz g4 g3 nw
        have f1' : Fw ρ ρ1 σ HF H (upd HF' q (.lst us)) H' := ⟨f1.sh, f1.hf.trans s1, f1.keep, fun b u e => by
          by_cases hb : b = q
          · subst hb
            exact .inr g2
          · rw [upd_ne hb] at e
            exact f1.new b u e, f1.pres⟩
        obtain ⟨HF2, S2, f2, s2, d2, n2⟩ := tw_frz' S0 (ys := []) (Paired.mapP t fun y a z => tws_mono s1 (fun q' us' h1 h2 => by
          by_cases hb : q' = q
          · subst hb
            rw [h2] at g4
            cases g4
            exact .inr upd_same
          · exact .inl (by rw [upd_ne hb]; exact h1)) z) S1' f1'
        refine ⟨HF2, S2, f2, s1.trans s2, .cons (.lst (.inl (.inl (s2 _ _ upd_same))) (dpa_mono (s1.trans s2) g5)) d2, fun b o e => ?_⟩
        rcases n2 b o e with e | e
        · by_cases hb : b = q
          · subst hb
            exact .inr ⟨_, g4⟩
          · rw [upd_ne hb] at e
            exact .inl e
        · exact .inr e
      · obtain ⟨HF2, S2, f2, s2, d2, n2⟩ := tw_frz' S0 (ys := []) t S1 f1
        exact ⟨HF2, S2, f2, s2, .cons (.lst (.inl (.inl (s2 _ _ g3))) (dpa_mono s2 g5)) d2, n2⟩
theorem Ev.tw (h : Ev K te ρ (.tw l) ρ1) : Ev K te ρ (.d (.tuple (l.map twD))) ρ1 := fun σ HF H S Q q => h σ HF H S Q fun x HF1 H1 S1 f1 r1 => by
  obtain ⟨t, ys, rfl, h0, h1, h2, h3⟩ := r1
  obtain ⟨HF2, S2, f2, s2, d2, n2⟩ := tw_frz' S (ys := []) (tws_of h3) S1 f1
  have hn : HF2 t = none := by
    cases e : HF2 t with
    | none => rfl
    | some o =>
      rcases n2 t o e with e | ⟨us, e⟩
      · rw [h1] at e; cases e
      · rw [h2] at e; cases e
  have nw : ¬ OwnAt ρ1 σ t := fun z => S.notOwn h0 (f1.sh.own.mp z)
  have s3 := same_upd (o := .tup ys) hn
  refine q _ (upd HF2 t (.tup ys)) H1 (S2.frz h2 hn nw) ⟨f2.sh, f2.hf.trans s3, f2.keep, fun b u e => ?_, f2.pres⟩ (.tup (.inl (.inl upd_same)) (dpa_mono s3 d2))
  by_cases hb : b = t
  · subst hb
    exact .inr h0
  · rw [upd_ne hb] at e
    exact f2.new b u e
end
section
variable {X : Cx} {B : Bs} {P : Pst} {ρ ρ1 ρ2 ρ3 : Rho} {e e0 e1 e2 : Expr} {es : List Expr} {pos pos' : Pos} {a : A} {l : List (List PyData ⊕ PyData)} {v : PyData} {i : Int} {zs ds : List PyData} {x : Str}
theorem E.tw (h : E X e ρ (.tw l) ρ1) : E X e ρ (.d (.tuple (l.map twD))) ρ1 := Ev.tw h
theorem tw_item {K : PySem.W.Frag} {H HF' H' : Hp} {x : V} {z : List PyData ⊕ PyData} (r : TwR K H HF' H' x z) : RRel K H HF' H' x (twA z) := by
  cases z with
  | inl zs => obtain ⟨q, us, g1, g2, g3, g4, g5⟩ := r; exact ⟨q, _, g1, g2, g3, g4, g5⟩
  | inr v => exact r
theorem e_twIx {z : List PyData ⊕ PyData} (h : E X e ρ (.tw l) ρ1) (h2 : E X e2 ρ1 (.d (.int i)) ρ2) (h0 : 0 ≤ i) (hg : l[i.toNat]? = some z) (hp : PlainIx e2 := by exact fun _ _ => rfl) : E X (.Subscript e e2 pos) ρ (twA z) ρ2 :=
  .of (pe_ix ix_tup pe_w pe_w hp) fun σ HF H S1 Q q => h σ HF H S1 _ fun x HF1 H1 S2 f1 r1 => h2 σ HF1 H1 S2 _ fun y HF2 H2 S3 f2 r2 => by
    cases r2
    have r3 : RRel X.K H HF2 H2 x (.tw l) := RRel.later S1 f1 f2 r1
    obtain ⟨t, ys, rfl, g0, g1, g2, g3⟩ := r3
    obtain ⟨y, k1, k2⟩ := paired_get g3 hg
    exact ⟨t, ys, i, y, rfl, rfl, .inl (.inl g2), (atI_nat' h0).trans k1, q y HF2 H2 S3 (f1.trans f2) (tw_item k2)⟩
/-- an own list that stands in no slot is appended to -/
theorem e_appE {apos : Pos} (h0 : E X e0 ρ (.ml zs) ρ1) (he : E X e ρ1 (.d v) ρ2) (hz : zs.length < 100000)
    (hbase : attributeBase e0 "append" X.env (eval e0 X.env) = eval e0 X.env := by rfl)
    (hfew : ((backTo pos (starEach [e] X.env)).all (fun x => !x.1) && (backToKw pos (keywordEach [] X.env)).all (fun x => x.1.isSome) && decide (([e] : List Expr).length + ([] : List Keyword).length + (if ([] : List Keyword).isEmpty then 0 else 1) < 30)) = true := by rfl)
    (hline : (apos.endLine == pos.line) = true := by rfl) (hs : starEach [e] X.env = (false, eval e X.env) :: starEach [] X.env := by rfl) :
    E X (.Call (.Attribute e0 "append" apos) [e] [] pos) ρ (.d .none) ρ2 :=
  .of (pe_bm PySem.F.plainAttrs_list PySem.F.slot_list_append PySem.F.type_list_append mt_append pe_w (pa_cons pe_w pa_nil hs) hbase hfew hline hs) fun σ HF H S1 Q q => h0 σ HF H S1 _ fun y HF1 H1 S2 f1 r1 => by
    obtain ⟨p, o, rfl, g0, g1, g2, g3⟩ := r1
    cases o <;> first | exact g3.elim | skip
    rename_i ys
    refine .inl ⟨rfl, _, .inl (.inl g2)⟩ |> fun w => ⟨w, he σ HF1 H1 S2 _ fun x1 HF2 H2 S3 f2 r2 => ?_⟩
    have nw : ¬ OwnAt ρ1 σ p := fun z => S1.notOwn g0 (f1.sh.own.mp z)
    have nw2 : ¬ OwnAt ρ2 σ p := fun z => nw (f2.sh.own.mp z)
    have k2 := f2.keep p _ g2 nw
    have k1 := f2.hfn g1 g2
    have f12 := f1.trans f2
    refine ⟨p, ys, x1, rfl, rfl, k2, Nat.lt_of_lt_of_le (by rw [dpa_len g3]; exact hz) (by decide), q _ HF2 _ ⟨S3.len, fun b u e => ?_, fun i a h => ?_, S3.apart⟩ ⟨f12.sh, f12.hf, fun b u e n => ?_, f12.new, fun b u e => ?_⟩ .non⟩
    · rw [upd_ne fun w => by rw [w, k1] at e; cases e]
      exact S3.sub b u e
    · obtain ⟨s, e, g⟩ := S3.slot i a h
      refine ⟨s, e, arel_mono g (.refl _) fun b u e1 h1 h2 ho => ⟨h1, ?_⟩⟩
      rw [upd_ne fun w => nw2 ⟨i, a, h, ho, by rw [e, e1, w]⟩]
      exact h2
    · have hb : b ≠ p := fun w => by rw [w, g0] at e; cases e
      rw [upd_ne hb]
      exact f12.keep b u e n
    · have hb : b ≠ p := fun w => by rw [w, g0] at e; cases e
      rw [upd_ne hb]
      exact f12.pres b u e

/-! handed back -/
def EvR (X : Cx) (B : Bs) (ta : TA) (ρ : Rho) (l : List (List PyData ⊕ PyData)) (ρ' : Rho) : Prop := ∀ σ HF H, Sl X.K ρ σ HF H → Bn B ρ σ HF H → ∀ Q : List V → Hp → Prop,
  (∀ xs HF' H', Sl X.K ρ' σ HF' H' → Fw ρ ρ' σ HF H HF' H' → Paired (TwR X.K B.H0 HF' H') xs l → Q xs H') → ta σ H Q
abbrev ER (X : Cx) (B : Bs) (es : List Expr) (ρ : Rho) (l : List (List PyData ⊕ PyData)) (ρ' : Rho) : Prop := EvR X B (wA X es) ρ l ρ'
theorem er_nil : ER X B [] ρ [] ρ := fun σ HF H S b Q q => ⟨_, pa_nil, q [] HF H S (.refl ..) .nil⟩
theorem er_d (h : E X e ρ (.d v) ρ1) (hr : ER X B es ρ1 l ρ2) (hs : starEach (e :: es) X.env = (false, eval e X.env) :: starEach es X.env := by rfl) : ER X B (e :: es) ρ (.inr v :: l) ρ2 := fun σ HF H S b Q q =>
  ⟨_, pa_cons pe_w pa_w hs, h σ HF H S _ fun x HF1 H1 S1 f1 r1 => hr σ HF1 H1 S1 (b.fw f1) _ fun xs HF2 H2 S2 f2 r2 => q _ HF2 H2 S2 (f1.trans f2) (.cons (a := x) (b := .inr v) (show Dp X.K HF2 x v from dp_mono f2.hf r1) r2)⟩
theorem er_l (h : E X e ρ (.ml zs) ρ1) (hr : ER X B es ρ1 l ρ2) (hs : starEach (e :: es) X.env = (false, eval e X.env) :: starEach es X.env := by rfl) : ER X B (e :: es) ρ (.inl zs :: l) ρ2 := fun σ HF H S b Q q =>
  ⟨_, pa_cons pe_w pa_w hs, h σ HF H S _ fun x HF1 H1 S1 f1 r1 => hr σ HF1 H1 S1 (b.fw f1) _ fun xs HF2 H2 S2 f2 r2 => by
    have r3 : RRel X.K H HF2 H2 x (.ml zs) := RRel.later S f1 f2 r1
    obtain ⟨p, o, rfl, g0, g1, g2, g3⟩ := r3
    cases o <;> first | exact g3.elim | skip
    exact q _ HF2 H2 S2 (f1.trans f2) (.cons (a := .ref p) (b := .inl zs) ⟨p, _, rfl, b.free g0, g1, g2, g3⟩ r2)⟩
theorem er_o (i : Nat) (hi0 : ∃ z0, ρ[i]? = some (.ml z0)) (hr : ER X B es ρ l ρ2) (hi : ρ2[i]? = some (.ml zs)) (hl : ∀ q ∈ B.L, q.1 ≠ i) (hN : X.N[i]? = some x := by rfl) (hv : Vis X.env.scope x := by first | exact Or.inl rfl | exact Or.inr (Or.inl rfl) | exact Or.inr (Or.inr rfl))
    (hd : (x == ("__debug__" : Str)) = false := by decide) (hcd : (x == ("__classdict__" : Str)) = false := by decide) (hs : starEach (.Name x pos' :: es) X.env = (false, eval (.Name x pos') X.env) :: starEach es X.env := by rfl) : ER X B (.Name x pos' :: es) ρ (.inl zs :: l) ρ2 := fun σ HF H S b Q q =>
  ⟨_, pa_cons (pe_var hN hv hd hcd) pa_w hs, by
    obtain ⟨z0, hi0⟩ := hi0
    obtain ⟨p, o, e, _⟩ := S.ownAt hi0 rfl
    refine ⟨.ref p, e, hr σ HF H S b _ fun xs HF2 H2 S2 f2 r2 => ?_⟩
    obtain ⟨p2, o2, e2, h1, h2, h3⟩ := S2.ownAt hi rfl
    rw [e] at e2
    cases e2
    cases o2 <;> first | exact h3.elim | skip
    refine q _ HF2 H2 S2 f2 (.cons (a := .ref p) (b := .inl zs) ⟨p, _, rfl, ?_, h1, h2, h3⟩ r2)
    rcases b.mine i _ p hi0 rfl e with z | z
    · exact (hl _ z rfl).elim
    · exact z⟩
theorem s_retTw {n : Nat} (h : ER X B es ρ l ρ1) (hp : P.rt (.tw l) ρ1) (hz : l.length ≤ 1000 := by exact Nat.le_of_ble_eq_true rfl) : S X B (.Return (some (.Tuple es n pos')) pos) ρ P := .of (ps_ret (pe_tup pa_w)) fun σ HF H Sl b D o =>
  h σ HF H Sl b _ fun xs HF1 H1 S1 f1 r1 => by
    have hl := Paired.length r1
    refine ⟨by rw [hl]; exact Nat.le_of_lt (small1000 hz), fun p hn => ?_⟩
    obtain ⟨S2, f2⟩ := S1.allocO hn (.tup xs)
    refine o.rt _ ρ1 σ HF1 _ _ hp S2 (b.fw (f1.trans f2)) ⟨p, xs, rfl, b.free (f1.fresh hn), S1.hfNone hn, upd_same, Paired.mapP r1 fun y a z => ?_⟩
    cases a with
    | inl zs => obtain ⟨q, us, g1, g2, g3, g4, g5⟩ := z; exact ⟨q, us, g1, g2, g3, by rw [upd_ne (ne_of_none g4 hn)]; exact g4, g5⟩
    | inr v => exact z

/-! x = e (such a tuple); x[0].append(..) -/
structure TwIn (B : Bs) (i N : Nat) (ks : List Bool) (ρ : Rho) (σ : L2.St) (HF H : Hp) : Prop where
  ex : ∃ t ys, σ[i]? = some (some (V.ref t)) ∧ B.H0 t = none ∧ HF t = none ∧ ¬ OwnAt ρ σ t ∧ H t = some (.tup ys) ∧ Paired (fun y k => k = true → ∃ q us, y = V.ref q ∧ B.H0 q = none ∧ HF q = none ∧ ¬ OwnAt ρ σ q ∧ H q = some (.lst us) ∧ us.length ≤ N) ys ks
def Sw (X : Cx) (B : Bs) (i N : Nat) (ks : List Bool) (sts : List Stmt) (ρ : Rho) (P : Pst) : Prop := ∀ σ HF H, Sl X.K ρ σ HF H → Bn B ρ σ HF H → TwIn B i N ks ρ σ HF H → ∀ D, Ok X.K B HF D P → wSs X sts D σ H
theorem sw_end {i N : Nat} {ks : List Bool} {sts : List Stmt} (h : Ss X B sts ρ P) : Sw X B i N ks sts ρ P := fun σ HF H S b _ D o => h σ HF H S b D o
def isL : List PyData ⊕ PyData → Bool
  | .inl _ => true
  | .inr _ => false
theorem sw_set (i N : Nat) {sts : List Stmt} (he : E X e ρ (.tw l) ρ1) (hlen : ∀ z ∈ l, ∀ zs, z = .inl zs → zs.length ≤ N) (h : Sw X B i N (l.map isL) sts (ρ1.set i .any) P) (hl : ∀ q ∈ B.L, q.1 ≠ i) (hN : X.N.Nodup) (hi : X.N[i]? = some x := by rfl) (hx : Loc X.env.scope x := by first | exact Or.inl rfl | exact Or.inr rfl)
    (hir : i < ρ1.length := by exact Nat.le_of_ble_eq_true rfl) (hs : swapsWith e (some (.Name x pos')) pos.line X.env = pure false := by rfl) (hf : X.fn x = true ∨ X.env.scope.names.lookup x = some .local := by first | exact .inl rfl | exact .inr rfl) : Ss X B (.Assign [.Name x pos'] e pos :: sts) ρ P := fun σ HF H Sl b D o =>
  ⟨_, pss_cons (ps_set hN hi hx pe_w hs hf) pss_w, he σ HF H Sl _ fun y HF1 H1 S1 f1 r1 => by
    obtain ⟨t, ys, rfl, h0, h1, h2, h3⟩ := r1
    have b1 := b.fw f1
    have r0 : ∀ Hb, RRel X.K Hb HF1 H1 (V.ref t) .any := fun _ => trivial
    have S2 : Th.Sl X.K (ρ1.set i .any) (σ.set i (some (V.ref t))) HF1 H1 := S1.set (Hb := H) (r0 H) fun p hp z => Sl.notOwn hp (f1.sh.own.mp z)
    have b2 : Bn B (ρ1.set i .any) (σ.set i (some (V.ref t))) HF1 H1 := b1.set S1 (r0 B.H0) hl
    have no : ∀ p, H p = none → ¬ OwnAt (ρ1.set i .any) (σ.set i (some (V.ref t))) p := fun p hp => by
      rintro ⟨j, c, g1, g2, g3⟩
      by_cases hj : i = j
      · subst hj
        rw [List.getElem?_set_self hir] at g1
        cases g1
        cases g2
      · rw [List.getElem?_set_ne hj] at g1 g3
        exact Sl.notOwn hp (f1.sh.own.mp ⟨j, c, g1, g2, g3⟩)
    refine h _ HF1 H1 S2 b2 ⟨t, ys, ?_, b.free h0, h1, no t h0, h2, ?_⟩ D (o.up f1.hf)
    · rw [List.getElem?_set_self (by rw [S1.len]; exact hir)]
    · have key : ∀ {ys : List V} {l : List (List PyData ⊕ PyData)}, Paired (TwR X.K H HF1 H1) ys l → (∀ z ∈ l, ∀ zs, z = .inl zs → zs.length ≤ N) → Paired (fun y k => k = true → ∃ q us, y = V.ref q ∧ B.H0 q = none ∧ HF1 q = none ∧ ¬ OwnAt (ρ1.set i .any) (σ.set i (some (V.ref t))) q ∧ H1 q = some (.lst us) ∧ us.length ≤ N) ys (l.map isL) := fun hp => by
        induction hp with
        | nil => intro _; exact .nil
        | @cons y a ys l z _ ih =>
          intro hall
          refine .cons (fun hk => ?_) (ih fun b hb => hall b (List.mem_cons_of_mem _ hb))
          have h0 := hall a List.mem_cons_self
          cases a with
          | inl zs => obtain ⟨q, us, g1, g2, g3, g4, g5⟩ := z; exact ⟨q, us, g1, b.free g2, g3, no q g2, g4, by rw [dpa_len g5]; exact h0 zs rfl⟩
          | inr v => exact nomatch hk
      exact key h3 hlen⟩
theorem sw_app {j N : Nat} (k : Nat) {ks : List Bool} {sts : List Stmt} {apos spos p2 : Pos} {n2 : Nat} (he : E X e ρ (.d v) ρ) (hk : ks[k]? = some true) (hz : N < 100000) (h : Sw X B j (N + 1) ks sts ρ P) (hj : X.N[j]? = some x := by rfl)
    (hv : Vis X.env.scope x := by first | exact Or.inl rfl | exact Or.inr (Or.inl rfl) | exact Or.inr (Or.inr rfl)) (hd : (x == ("__debug__" : Str)) = false := by decide) (hcd : (x == ("__classdict__" : Str)) = false := by decide)
    (hbase : attributeBase (.Subscript (.Name x pos') (.Constant (.int (k : Int)) n2 p2) spos) "append" X.env (eval (.Subscript (.Name x pos') (.Constant (.int (k : Int)) n2 p2) spos) X.env) = eval (.Subscript (.Name x pos') (.Constant (.int (k : Int)) n2 p2) spos) X.env := by rfl)
    (hfew : ((backTo pos (starEach [e] X.env)).all (fun x => !x.1) && (backToKw pos (keywordEach [] X.env)).all (fun x => x.1.isSome) && decide (([e] : List Expr).length + ([] : List Keyword).length + (if ([] : List Keyword).isEmpty then 0 else 1) < 30)) = true := by rfl)
    (hline : (apos.endLine == pos.line) = true := by rfl) (hs : starEach [e] X.env = (false, eval e X.env) :: starEach [] X.env := by rfl) (hp : PlainIx (.Constant (.int (k : Int)) n2 p2) := by exact fun _ _ => rfl)
    (hsw : swapsWith (.Call (.Attribute (.Subscript (.Name x pos') (.Constant (.int (k : Int)) n2 p2) spos) "append" apos) [e] [] pos) none ppos.line X.env = pure false := by rfl) :
    Sw X B j N ks (.Expr (.Call (.Attribute (.Subscript (.Name x pos') (.Constant (.int (k : Int)) n2 p2) spos) "append" apos) [e] [] pos) ppos :: sts) ρ P := fun σ HF H S1 b w D o =>
  ⟨_, pss_cons (ps_expr (pe_bm PySem.F.plainAttrs_list PySem.F.slot_list_append PySem.F.type_list_append mt_append (pe_ix ix_tup (pe_var hj hv hd hcd) pe_int hp) (pa_cons pe_w pa_nil hs) hbase hfew hline hs) hsw) pss_w, by
    obtain ⟨t, ys, e0, t0, t1, t2, t3, t4⟩ := w.ex
    obtain ⟨y, y1, y2⟩ := paired_get t4 hk
    obtain ⟨q, us, rfl, q0, q1, q2, q3, q4⟩ := y2 rfl
    refine ⟨.ref t, e0, t, ys, (k : Int), .ref q, rfl, rfl, .inl (.inl t3), (atI_nat' (Int.natCast_nonneg k)).trans y1, .inl ⟨rfl, _, .inl (.inl q3)⟩, ?_⟩
    refine he σ HF H S1 _ fun x1 HF1 H1 S2 f1 r1 => ?_
    have k3 := f1.keep q _ q3 q2
    have k1 := f1.hfn q1 q3
    have b1 := b.fw f1
    refine ⟨q, us, x1, rfl, rfl, k3, Nat.lt_of_le_of_lt q4 (Nat.lt_of_lt_of_le hz (by decide)), ?_⟩
    have up : ∀ p o, H1 p = some o → p ≠ q → upd H1 q (.lst (us ++ [x1])) p = some o := fun p o e n => by rw [upd_ne n]; exact e
    refine h σ HF1 _ ⟨S2.len, fun b u e => ?_, fun i a h => ?_, S2.apart⟩ ⟨b1.hf, fun p u n e => ?_, b1.new, fun p u e => ?_, b1.mine, b1.lent⟩ ⟨t, ys, e0, t0, f1.hfn t1 t3, t2, ?_, Paired.mapP t4 fun y k z hk => ?_⟩ D (o.up f1.hf)
    · exact up b u (S2.sub b u e) fun w => by rw [w, k1] at e; cases e
    · obtain ⟨s, e, g⟩ := S2.slot i a h
      refine ⟨s, e, arel_mono g (.refl _) fun b u e1 h1 h2 ho => ⟨h1, up b u h2 fun w => q2 ⟨i, a, h, ho, by rw [e, e1, w]⟩⟩⟩
    · exact up p u (b1.keep p u n e) fun w => by rw [w, q0] at e; cases e
    · by_cases hb : p = q
      · subst hb
        exact ⟨_, upd_same⟩
      · obtain ⟨u', e'⟩ := b1.pres p u e
        exact ⟨u', up p u' e' hb⟩
    · refine up t _ (f1.keep t _ t3 t2) fun w => ?_
      rw [w, q3] at t3
      cases t3
    · obtain ⟨q', us', rfl, g0, g1, g2, g3, g4⟩ := z hk
      by_cases hb : q' = q
      · subst hb
        refine ⟨q', _, rfl, g0, k1, g2, upd_same, ?_⟩
        rw [List.length_append]
        simp
        exact q4
      · exact ⟨q', us', rfl, g0, f1.hfn g1 g3, g2, up q' _ (f1.keep q' _ g3 g2) hb, by omega⟩⟩
/-- xs.index(v) -/
theorem e_indexL {apos : Pos} {k1 : Option Nat} {j : Nat} {ns : List Int} {n : Int} (h0 : EO X e0 ρ (.list (ns.map .int)) ρ1 k1) (he : E X e ρ1 (.d (.int n)) ρ2) (hj : ns[j]? = some n) (hm : ∀ m < j, ns[m]? ≠ some n) (hkp : Kp k1 ρ1 ρ2 := by first | exact trivial | exact rfl)
    (hbase : attributeBase e0 "index" X.env (eval e0 X.env) = eval e0 X.env := by rfl)
    (hfew : ((backTo pos (starEach [e] X.env)).all (fun x => !x.1) && (backToKw pos (keywordEach [] X.env)).all (fun x => x.1.isSome) && decide (([e] : List Expr).length + ([] : List Keyword).length + (if ([] : List Keyword).isEmpty then 0 else 1) < 30)) = true := by rfl)
    (hline : (apos.endLine == pos.line) = true := by rfl) (hs : starEach [e] X.env = (false, eval e X.env) :: starEach [] X.env := by rfl) :
    E X (.Call (.Attribute e0 "index" apos) [e] [] pos) ρ (.d (.int j)) ρ2 :=
  .of (pe_bm PySem.F.plainAttrs_list PySem.F.slot_list_index PySem.F.type_list_index mt_index pe_w (pa_cons pe_w pa_nil hs) hbase hfew hline hs) fun σ HF H S1 Q q => h0 σ HF H S1 _ fun y HF1 H1 S2 f1 r1 => by
    obtain ⟨p, ys, rfl, g1, g2⟩ := r1 ρ1 HF1 H1 .refl S2 (.refl ..)
    refine ⟨.inl ⟨rfl, _, g1⟩, he σ HF1 H1 S2 _ fun x1 HF2 H2 S3 f2 r2 => ?_⟩
    obtain ⟨p', ys', e', g1', g2'⟩ := r1 ρ2 HF2 H2 hkp S3 f2
    cases e'
    cases r2
    have hy := ints_dpa g2'
    subst hy
    refine ⟨p, _, .int n, j, .int n, rfl, rfl, g1', rfl, ?_, ?_, ?_, fun m z' hmj hz => ?_, q _ HF2 H2 S3 (f1.trans f2) (.int _)⟩
    · exact List.all_eq_true.mpr fun z hz => by obtain ⟨n', _, rfl⟩ := List.mem_map.mp hz; rfl
    · rw [List.getElem?_map, hj]; rfl
    · simp [eqV]
    · obtain ⟨n', h1, rfl⟩ := map_get hz
      have hne : n' ≠ n := fun w => hm m hmj (by rw [h1, w])
      simp [eqV, hne]
end
end Th

set_option Elab.async false
set_option linter.all false
set_option maxRecDepth 100000
namespace Th
open PySem PySem.Spec PyProof.Rows L2

/-! steps of lists -/
inductive Wd where
  | one | less | nought | loose | split | two
deriving DecidableEq
def Wd.nm : Wd → Str
  | .one => "one"
  | .less => "less"
  | .nought => "nought"
  | .loose => "loose"
  | .split => "split"
  | .two => "two"
theorem Wd.nm_inj : ∀ a b : Wd, decide (a.nm = b.nm) = decide (a = b) := by
  intro a b
  cases a <;> cases b <;> decide +kernel
theorem Wd.ok (a : Wd) : PyData.strOk a.nm = true := by cases a <;> decide +kernel
abbrev Stp := Wd × Int
def encSt (p : Stp) : PyData := .tuple [.str p.1.nm, .int p.2]
def encWd (a : Wd) : PyData := .str a.nm
theorem eqE_wd : EqE encWd := fun a b => by
  show PyData.eqv (.str _) (.str _) = _
  rw [← Wd.nm_inj]
  exact eqE_str _ _
theorem eqE_st : EqE encSt := eqE_pair eqE_wd eqE_int
theorem fit_st {n : Nat} (p : Stp) : Fit (n + 1) (encSt p) := fit_t2 (fit_str p.1.ok) (fit_int _)
/-- the last one less by c -/
def decL (p : List Int) (c : Int) : List Int := p.set (p.length - 1) (p.getD (p.length - 1) 0 - c)
def stepN (p : List Int) (n b : Int) (r : List Int) : Wd → Option (List Int × Int)
  | .one => if n = 1 then some (decL p 1 ++ (b - 1) :: r, if p = [] then 0 else 1) else none
  | .less => if n = -1 then some (decL p (-1) ++ (b + 1) :: r, if p = [] then 0 else -1) else none
  | .nought => if n = 0 then (if p = [] then (if b = 0 ∧ r ≠ [] then some (r, 0) else none) else some (decL p (-b) ++ r, 0)) else none
  | .loose => if n = 0 ∧ p = [] then some (0 :: 0 :: r, b) else none
  | .split => if n < -1 then some (p ++ (n + 1) :: 1 :: (b + 1) :: r, -1) else none
  | .two => none
def stepF (l : List Int) (w : Wd) (at_ : Int) : Option (List Int × Int) :=
  if 0 ≤ at_ ∧ at_ + 1 < l.length then stepN (l.take at_.toNat) (l.getD at_.toNat 0) (l.getD (at_.toNat + 1) 0) (l.drop (at_.toNat + 2)) w else none
theorem split_at {l : List Int} {i : Nat} (h : i + 1 < l.length) : l = l.take i ++ l.getD i 0 :: l.getD (i + 1) 0 :: l.drop (i + 2) ∧ (l.take i).length = i := by
  refine ⟨?_, by rw [List.length_take]; omega⟩
  have h1 : l.drop i = l.getD i 0 :: l.drop (i + 1) := by
    rw [List.drop_eq_getElem_cons (show i < l.length by omega), List.getD_eq_getElem?_getD, List.getElem?_eq_getElem (show i < l.length by omega)]
    rfl
  have h2 : l.drop (i + 1) = l.getD (i + 1) 0 :: l.drop (i + 2) := by
    rw [List.drop_eq_getElem_cons h, List.getD_eq_getElem?_getD, List.getElem?_eq_getElem h]
    rfl
  rw [← h2, ← h1, List.take_append_drop]
theorem stepF_at (p : List Int) (n b : Int) (r : List Int) (w : Wd) : stepF (p ++ n :: b :: r) w p.length = stepN p n b r w := by
  unfold stepF
  rw [if_pos ⟨by omega, by rw [List.length_append]; simp; omega⟩]
  have e : ((p.length : Int)).toNat = p.length := by omega
  rw [e]
  congr 1
  · simp
  · simp
  · rw [List.getD_eq_getElem?_getD, List.getElem?_append_right (by omega)]
    simp
  · rw [List.drop_append]
    simp [show p.length + 2 - p.length = 2 by omega]
theorem decL_nil (c : Int) : decL [] c = [] := rfl
theorem decL_app (q : List Int) (a c : Int) : decL (q ++ [a]) c = q ++ [a - c] := by
  unfold decL
  rw [List.length_append]
  simp
theorem nil_or (p : List Int) : p = [] ∨ ∃ q a, p = q ++ [a] := by
  rcases List.eq_nil_or_concat p with h | ⟨q, a, h⟩
  · exact .inl h
  · exact .inr ⟨q, a, by simpa using h⟩
/-- which comes next -/
def nx (p : List Int) (n b : Int) (r : List Int) : Option Wd :=
  if n = 1 then some .one else if n = -1 then some .less else if n < -1 then some .split else if p ≠ [] then some .nought else if b ≠ 0 then some .loose else if r ≠ [] then some .nought else none
def nextG (p : List Int) : List Int → Option Stp
  | n :: b :: r => if n < 2 then (nx p n b r).map (·, (p.length : Int)) else nextG (p ++ [n]) (b :: r)
  | _ => none
def nextF (l : List Int) : Option Stp := nextG [] l
theorem nextG_two {p r : List Int} {n b : Int} (h : 2 ≤ n) : nextG p (n :: b :: r) = nextG (p ++ [n]) (b :: r) := by
  rw [nextG, if_neg (by omega)]
theorem nextG_lt {p r : List Int} {n b : Int} (h : n < 2) : nextG p (n :: b :: r) = (nx p n b r).map (·, (p.length : Int)) := by
  rw [nextG, if_pos h]
theorem nextG_pass : ∀ (q p : List Int) (n : Int) (r : List Int), (∀ x ∈ q, 2 ≤ x) → nextG p (q ++ n :: r) = nextG (p ++ q) (n :: r)
  | [], p, n, r, _ => by simp
  | x :: [], p, n, r, h => by
    rw [List.singleton_append, nextG_two (h x List.mem_cons_self)]
  | x :: y :: q, p, n, r, h => by
    have := nextG_pass (y :: q) (p ++ [x]) n r fun z hz => h z (List.mem_cons_of_mem _ hz)
    rw [List.cons_append, List.cons_append, nextG_two (h x List.mem_cons_self), ← List.cons_append, this]
    simp
theorem next_pass {p r : List Int} {n : Int} (h : ∀ x ∈ p, 2 ≤ x) : nextF (p ++ n :: r) = nextG p (n :: r) := nextG_pass p [] n r h
theorem next_at {p r : List Int} {n b : Int} (h : ∀ x ∈ p, 2 ≤ x) (hn : n < 2) : nextF (p ++ n :: b :: r) = (nx p n b r).map (·, (p.length : Int)) := by
  rw [next_pass h, nextG_lt hn]
theorem nextG_some : ∀ (s p : List Int) {w : Wd} {i : Int}, (∀ x ∈ p, 2 ≤ x) → nextG p s = some (w, i) → ∃ q n b r, p ++ s = q ++ n :: b :: r ∧ i = q.length ∧ (∀ x ∈ q, 2 ≤ x) ∧ n < 2 ∧ nx q n b r = some w
  | [], _, _, _, _, h => by simp [nextG] at h
  | [_], _, _, _, _, h => by simp [nextG] at h
  | n :: b :: r, p, w, i, hp, h => by
    by_cases hn : n < 2
    · rw [nextG_lt hn] at h
      cases hx : nx p n b r with
      | none => rw [hx] at h; cases h
      | some w' =>
        rw [hx] at h
        cases h
        exact ⟨p, n, b, r, rfl, rfl, hp, hn, hx⟩
    · rw [nextG_two (by omega)] at h
      obtain ⟨q, n', b', r', e, h2⟩ := nextG_some (b :: r) (p ++ [n]) (fun x hx => by
        rcases List.mem_append.mp hx with hx | hx
        · exact hp x hx
        · rw [List.mem_singleton] at hx; omega) h
      exact ⟨q, n', b', r', by rw [← e]; simp, h2⟩
theorem nextG_none : ∀ (s p : List Int), (∀ x ∈ p, 2 ≤ x) → nextG p s = none → p ++ s = [0, 0] ∨ ∀ x ∈ (p ++ s).dropLast, 2 ≤ x
  | [], p, hp, _ => .inr fun x hx => hp x (by simpa using List.dropLast_subset _ hx)
  | [n], p, hp, _ => .inr fun x hx => hp x (by simpa using hx)
  | n :: b :: r, p, hp, h => by
    by_cases hn : n < 2
    · rw [nextG_lt hn] at h
      cases hx : nx p n b r with
      | some w' => rw [hx] at h; cases h
      | none =>
        unfold nx at hx
        split at hx
        · cases hx
        · split at hx
          · cases hx
          · split at hx
            · cases hx
            · split at hx
              · cases hx
              · split at hx
                · cases hx
                · split at hx
                  · cases hx
                  · rename_i h1 h2 h3 h4 h5 h6
                    have e1 : p = [] := Classical.not_not.mp h4
                    have e2 : b = 0 := Classical.not_not.mp h5
                    have e3 : r = [] := Classical.not_not.mp h6
                    have e4 : n = 0 := by omega
                    subst e1; subst e2; subst e3; subst e4
                    exact .inl rfl
    · rw [nextG_two (by omega)] at h
      have := nextG_none (b :: r) (p ++ [n]) (fun x hx => by
        rcases List.mem_append.mp hx with hx | hx
        · exact hp x hx
        · rw [List.mem_singleton] at hx; omega) h
      simpa using this
inductive Ease : List Int → List Stp → List Int → Int → Prop
  | stop {l : List Int} : nextF l = none → Ease l [] l 0
  | go {l : List Int} {w : Wd} {i : Int} {l' : List Int} {h : Int} {ss : List Stp} {e : List Int} {hh : Int} : nextF l = some (w, i) → stepF l w i = some (l', h) → Ease l' ss e hh → Ease l ((w, i) :: ss) e (h + hh)
/-! it comes to an end -/
def ng (x : Int) : Nat := (-x).toNat
def nsum : List Int → Nat
  | [] => 0
  | x :: r => ng x + nsum r
theorem nsum_app (a b : List Int) : nsum (a ++ b) = nsum a + nsum b := by
  induction a with
  | nil => simp [nsum]
  | cons x a ih => rw [List.cons_append, nsum, nsum, ih]; omega
def Wt (l : List Int) : Nat := l.length + nsum l
def ph (l : List Int) : Nat := match nextF l with
  | some (.one, i) => 128 + i.toNat
  | some (.split, i) => 64 + ng (l.getD i.toNat 0)
  | some (.loose, _) => 64
  | _ => 0
def rk (l : List Int) : Nat := Wt l * 192 + ph l
theorem wt_app (p : List Int) (r : List Int) : Wt (p ++ r) = Wt p + Wt r := by
  unfold Wt
  rw [List.length_append, nsum_app]
  omega
theorem wt_cons (x : Int) (r : List Int) : Wt (x :: r) = 1 + ng x + Wt r := by
  unfold Wt
  rw [List.length_cons, nsum]
  omega
theorem wt_nil : Wt [] = 0 := rfl
theorem ph_at {p r : List Int} {n b : Int} (h : ∀ x ∈ p, 2 ≤ x) (hn : n < 2) {w : Wd} (hx : nx p n b r = some w) : nextF (p ++ n :: b :: r) = some (w, (p.length : Int)) ∧ (p ++ n :: b :: r).getD (((p.length : Nat) : Int)).toNat 0 = n := by
  refine ⟨by rw [next_at h hn, hx]; rfl, ?_⟩
  have e : ((p.length : Int)).toNat = p.length := by omega
  rw [e]
  simp
theorem ph_lt {l : List Int} (h : Wt l < 64) : ph l < 192 := by
  unfold ph
  split
  · rename_i i e
    obtain ⟨q, n, b, r, e1, e2, _⟩ := nextG_some l [] (fun _ z => nomatch z) e
    rw [List.nil_append] at e1
    rw [e1, wt_app, wt_cons, wt_cons] at h
    have : q.length ≤ Wt q := by unfold Wt; omega
    omega
  · rename_i i e
    obtain ⟨q, n, b, r, e1, e2, _⟩ := nextG_some l [] (fun _ z => nomatch z) e
    rw [List.nil_append] at e1
    rw [e1, wt_app, wt_cons, wt_cons] at h
    rw [e1, e2, show ((q.length : Nat) : Int).toNat = q.length by omega]
    simp
    omega
  · decide
  · decide
/-- behind a number below 0 -/
theorem ph_neg {p r : List Int} {n : Int} (h : ∀ x ∈ p, 2 ≤ x) (hn : n < 0) : ph (p ++ n :: r) ≤ 64 + ng n := by
  unfold ph
  cases r with
  | nil =>
    have e : nextF (p ++ [n]) = none := by rw [next_pass h, nextG]; exact fun _ _ _ z => by cases z
    rw [e]
    exact Nat.zero_le _
  | cons b r =>
    have hx : nx p n b r = some .less ∨ nx p n b r = some .split := by
      unfold nx
      rw [if_neg (by omega)]
      by_cases e : n = -1
      · rw [if_pos e]; exact .inl rfl
      · rw [if_neg e, if_pos (by omega)]; exact .inr rfl
    rcases hx with hx | hx
    · rw [(ph_at h (by omega) hx).1]
      exact Nat.zero_le _
    · obtain ⟨e1, e2⟩ := ph_at h (by omega) hx
      rw [e1]
      show 64 + ng _ ≤ _
      rw [e2]
      exact Nat.le_refl _
theorem step_down {p r : List Int} {n b : Int} {w : Wd} {l' : List Int} {h : Int} (hp : ∀ x ∈ p, 2 ≤ x) (hn : n < 2) (hx : nx p n b r = some w) (hs : stepN p n b r w = some (l', h)) (hw : Wt (p ++ n :: b :: r) < 64) :
    Wt l' ≤ Wt (p ++ n :: b :: r) ∧ (Wt l' < Wt (p ++ n :: b :: r) ∨ ph l' < ph (p ++ n :: b :: r)) := by
  have hphl := ph_at hp hn hx
  have hw0 := hw
  rw [wt_app, wt_cons, wt_cons] at hw ⊢
  cases w with
  | two => cases hs
  | one =>
    have h1 : n = 1 := by
      simp only [stepN] at hs
      split at hs
      · assumption
      · cases hs
    subst h1
    simp only [stepN, if_pos] at hs
    have hph : ph (p ++ 1 :: b :: r) = 128 + p.length := by
      unfold ph
      rw [hphl.1]
      show 128 + _ = _
      omega
    rcases nil_or p with rfl | ⟨q, a, rfl⟩
    · rw [decL_nil, List.nil_append] at hs
      cases hs
      rw [wt_cons, wt_nil]
      have : ng 1 = 0 := rfl
      by_cases hb : 1 ≤ b
      · have : ng (b - 1) = 0 := by unfold ng; omega
        exact ⟨by omega, .inl (by omega)⟩
      · have h2 : ng (b - 1) = ng b + 1 := by unfold ng; omega
        refine ⟨by omega, .inr ?_⟩
        rw [hph]
        have := ph_neg (p := []) (r := r) (n := b - 1) (fun _ z => nomatch z) (by omega)
        rw [List.nil_append] at this
        omega
    · rw [decL_app] at hs
      cases hs
      have ha := hp a (by simp)
      have hq : ∀ x ∈ q, 2 ≤ x := fun x hx => hp x (by simp [hx])
      have g1 : ng 1 = 0 := rfl
      have g2 : ng a = 0 := by unfold ng; omega
      have g3 : ng (a - 1) = 0 := by unfold ng; omega
      simp only [wt_app, wt_cons, wt_nil, g1, g2, g3] at hw ⊢
      by_cases hb : 1 ≤ b
      · have : ng (b - 1) = 0 := by unfold ng; omega
        exact ⟨by omega, .inl (by omega)⟩
      · have h2 : ng (b - 1) = ng b + 1 := by unfold ng; omega
        refine ⟨by omega, .inr ?_⟩
        rw [hph]
        by_cases ha1 : a - 1 = 1
        · rw [ha1, show q ++ [(1 : Int)] ++ (b - 1) :: r = q ++ 1 :: (b - 1) :: r by simp]
          have e := ph_at (p := q) (r := r) (n := 1) (b := b - 1) hq (by decide) (w := .one) rfl
          have : ph (q ++ 1 :: (b - 1) :: r) = 128 + q.length := by
            unfold ph
            rw [e.1]
            show 128 + _ = _
            omega
          rw [this]
          simp
        · have := ph_neg (p := q ++ [a - 1]) (r := r) (n := b - 1) (fun x hx => by
            rcases List.mem_append.mp hx with hx | hx
            · exact hq x hx
            · rw [List.mem_singleton] at hx; omega) (by omega)
          omega
  | less =>
    have h1 : n = -1 := by
      simp only [stepN] at hs
      split at hs
      · assumption
      · cases hs
    subst h1
    simp only [stepN, if_pos] at hs
    have h3 : ng (b + 1) ≤ ng b := by unfold ng; omega
    have g0 : ng (-1) = 1 := rfl
    rcases nil_or p with rfl | ⟨q, a, rfl⟩
    · rw [decL_nil, List.nil_append] at hs
      cases hs
      rw [wt_cons]
      exact ⟨by omega, .inl (by omega)⟩
    · rw [decL_app] at hs
      cases hs
      have ha := hp a (by simp)
      have g2 : ng a = 0 := by unfold ng; omega
      have g3 : ng (a - -1) = 0 := by unfold ng; omega
      simp only [wt_app, wt_cons, wt_nil, g0, g2, g3] at hw ⊢
      exact ⟨by omega, .inl (by omega)⟩
  | nought =>
    simp only [stepN] at hs
    split at hs
    · rename_i h0
      subst h0
      split at hs
      · rename_i hp0
        subst hp0
        split at hs
        · cases hs
          exact ⟨by omega, .inl (by omega)⟩
        · cases hs
      · rename_i hp0
        rcases nil_or p with rfl | ⟨q, a, rfl⟩
        · exact (hp0 rfl).elim
        · rw [decL_app] at hs
          cases hs
          have ha := hp a (by simp)
          have g2 : ng a = 0 := by unfold ng; omega
          have g3 : ng (a - -b) ≤ ng b := by unfold ng; omega
          simp only [wt_app, wt_cons, wt_nil, g2] at hw ⊢
          exact ⟨by omega, .inl (by omega)⟩
    · cases hs
  | loose =>
    simp only [stepN] at hs
    split at hs
    · rename_i h0
      obtain ⟨rfl, rfl⟩ := h0
      cases hs
      have hb : b ≠ 0 := by
        intro hb
        subst hb
        unfold nx at hx
        simp at hx
      have g0 : ng 0 = 0 := rfl
      rw [wt_cons, wt_cons, g0, wt_nil]
      by_cases hb2 : b < 0
      · have : 0 < ng b := by unfold ng; omega
        exact ⟨by omega, .inl (by omega)⟩
      · refine ⟨by omega, .inr ?_⟩
        have e1 : ph ([] ++ 0 :: b :: r) = 64 := by
          unfold ph
          rw [hphl.1]
        rw [e1]
        have e2 : ph (0 :: 0 :: r) = 0 := by
          unfold ph
          have : nextF (0 :: 0 :: r) = (nx [] 0 0 r).map (·, 0) := nextG_lt (by decide)
          rw [this]
          cases r with
          | nil => rfl
          | cons c r => rfl
        omega
    · cases hs
  | split =>
    simp only [stepN] at hs
    split at hs
    · rename_i h0
      cases hs
      have g1 : ng 1 = 0 := rfl
      have g2 : ng (n + 1) + 1 = ng n := by unfold ng; omega
      have g3 : ng (b + 1) ≤ ng b := by unfold ng; omega
      simp only [wt_app, wt_cons, g1] at hw ⊢
      by_cases hb : ng (b + 1) < ng b
      · exact ⟨by omega, .inl (by omega)⟩
      · refine ⟨by omega, .inr ?_⟩
        have := ph_neg (p := p) (r := 1 :: (b + 1) :: r) (n := n + 1) hp (by omega)
        have e1 : ph (p ++ n :: b :: r) = 64 + ng n := by
          unfold ph
          rw [hphl.1]
          show 64 + ng _ = _
          rw [hphl.2]
        omega
    · cases hs
theorem step_is {p r : List Int} {n b : Int} {w : Wd} (hn : n < 2) (hx : nx p n b r = some w) : ∃ l' h, stepN p n b r w = some (l', h) := by
  unfold nx at hx
  split at hx
  · rename_i h; cases hx; exact ⟨_, _, by simp only [stepN, if_pos h]; rfl⟩
  · split at hx
    · rename_i h; cases hx; exact ⟨_, _, by simp only [stepN, if_pos h]; rfl⟩
    · split at hx
      · rename_i h; cases hx; exact ⟨_, _, by simp only [stepN, if_pos h]; rfl⟩
      · have h0 : n = 0 := by omega
        split at hx
        · rename_i h; cases hx; exact ⟨_, _, by simp only [stepN, if_pos h0, if_neg h]; rfl⟩
        · rename_i hp
          have hp : p = [] := Classical.not_not.mp hp
          split at hx
          · rename_i h; cases hx; exact ⟨_, _, by simp only [stepN]; rw [if_pos ⟨h0, hp⟩]⟩
          · rename_i hb
            have hb : b = 0 := Classical.not_not.mp hb
            split at hx
            · rename_i h; cases hx; exact ⟨_, _, by simp only [stepN, if_pos h0, if_pos hp]; rw [if_pos ⟨hb, h⟩]⟩
            · cases hx
theorem next_step {l : List Int} {w : Wd} {i : Int} (h : nextF l = some (w, i)) (hw : Wt l < 64) : ∃ l' g, stepF l w i = some (l', g) ∧ Wt l' ≤ Wt l ∧ rk l' < rk l := by
  obtain ⟨p, n, b, r, e1, e2, hp, hn, hx⟩ := nextG_some l [] (fun _ z => nomatch z) h
  rw [List.nil_append] at e1
  subst e1
  subst e2
  obtain ⟨l', g, hs⟩ := step_is hn hx
  obtain ⟨h1, h2⟩ := step_down hp hn hx hs hw
  refine ⟨l', g, by rw [stepF_at]; exact hs, h1, ?_⟩
  have := ph_lt (l := l') (by omega)
  unfold rk
  rcases h2 with h2 | h2 <;> omega
theorem ease_ex : ∀ (m : Nat) (l : List Int), rk l ≤ m → Wt l < 64 → ∃ ss e h, Ease l ss e h ∧ ss.length ≤ rk l
  | m, l, hm, hw => by
    cases hx : nextF l with
    | none => exact ⟨_, _, _, .stop hx, Nat.zero_le _⟩
    | some wi =>
      obtain ⟨w, i⟩ := wi
      obtain ⟨l', g, h1, h2, h3⟩ := next_step hx hw
      match m with
      | 0 => omega
      | m + 1 =>
        obtain ⟨ss, e, h, k1, k2⟩ := ease_ex m l' (by omega) (by omega)
        exact ⟨_, _, _, .go hx h1 k1, by rw [List.length_cons]; omega⟩
theorem rk_lt {l : List Int} (h : Wt l < 64) : rk l < 20000 := by
  have := ph_lt h
  unfold rk
  omega
theorem wt_len (l : List Int) : l.length ≤ Wt l := by unfold Wt; omega
end Th

set_option Elab.async false
set_option linter.all false
set_option maxRecDepth 100000
namespace Th
open PySem PySem.Spec PyProof.Rows L2

/-! values of lists -/
def norm (p : Int × Int) : Int × Int := if p.2 = 0 then (1, 0) else if p.2 < 0 then (-p.1, -p.2) else p
def stepV (p : Int × Int) (n : Int) : Int × Int := (n * p.1 - p.2, p.1)
def rawV (ns : List Int) : Int × Int := ns.foldl stepV (1, 0)
def valF (ns : List Int) : Int × Int := norm (rawV ns)
def neg2 (p : Int × Int) : Int × Int := (-p.1, -p.2)
theorem neg2_neg2 (p : Int × Int) : neg2 (neg2 p) = p := by
  unfold neg2
  simp
theorem norm_neg (p : Int × Int) : norm (neg2 p) = norm p := by
  obtain ⟨t, b⟩ := p
  unfold norm neg2
  dsimp only
  by_cases h : b = 0
  · rw [if_pos (show -b = 0 by omega), if_pos h]
  · rw [if_neg (show ¬ -b = 0 by omega), if_neg h]
    by_cases h2 : b < 0
    · rw [if_neg (show ¬ -b < 0 by omega), if_pos h2]
    · rw [if_pos (show -b < 0 by omega), if_neg h2]
      simp
theorem stepV_neg (p : Int × Int) (n : Int) : stepV (neg2 p) n = neg2 (stepV p n) := by
  unfold stepV neg2
  dsimp only
  congr 1
  rw [Int.mul_neg]
  omega
theorem fold_neg : ∀ (ns : List Int) (p : Int × Int), ns.foldl stepV (neg2 p) = neg2 (ns.foldl stepV p)
  | [], _ => rfl
  | n :: ns, p => by rw [List.foldl_cons, List.foldl_cons, stepV_neg, fold_neg ns]
theorem v_one (v : Int × Int) (a b : Int) : stepV (stepV (stepV v a) 1) b = stepV (stepV v (a - 1)) (b - 1) := by
  unfold stepV
  dsimp only
  simp only [Int.sub_mul, Int.mul_sub, Int.one_mul, Int.mul_one]
  congr 1 <;> omega
theorem v_less (v : Int × Int) (a b : Int) : stepV (stepV (stepV v a) (-1)) b = neg2 (stepV (stepV v (a + 1)) (b + 1)) := by
  unfold stepV neg2
  dsimp only
  simp only [Int.sub_mul, Int.mul_sub, Int.one_mul, Int.mul_one, Int.add_mul, Int.mul_add, Int.neg_mul, Int.mul_neg]
  congr 1 <;> omega
theorem v_nought (v : Int × Int) (a b : Int) : stepV (stepV (stepV v a) 0) b = neg2 (stepV v (a + b)) := by
  unfold stepV neg2
  dsimp only
  simp only [Int.sub_mul, Int.mul_sub, Int.one_mul, Int.mul_one, Int.add_mul, Int.mul_add, Int.neg_mul, Int.mul_neg, Int.zero_mul]
  congr 1 <;> omega
theorem step_val {p r : List Int} {n b : Int} {w : Wd} {l' : List Int} {h : Int} (hs : stepN p n b r w = some (l', h)) : valF l' = valF (p ++ n :: b :: r) := by
  have same : ∀ {x y : Int × Int}, (x = y ∨ x = neg2 y) → norm (r.foldl stepV x) = norm (r.foldl stepV y) := fun {x y} z => by
    rcases z with z | z
    · rw [z]
    · rw [z, fold_neg, norm_neg]
  unfold valF rawV
  rw [List.foldl_append, List.foldl_cons, List.foldl_cons]
  cases w with
  | two => cases hs
  | one =>
    simp only [stepN] at hs
    split at hs
    · rename_i h0
      subst h0
      cases hs
      rcases nil_or p with rfl | ⟨q, a, rfl⟩
      · rw [decL_nil, List.nil_append, List.foldl_cons]
        refine same (.inl ?_)
        show ((b - 1) * 1 - 0, (1 : Int)) = (b * (1 * 1 - 0) - 1, 1 * 1 - 0)
        simp
      · rw [decL_app, List.foldl_append, List.foldl_append, List.foldl_append, List.foldl_cons]
        refine same (.inl ?_)
        show stepV (stepV _ (a - 1)) (b - 1) = stepV (stepV (stepV _ a) 1) b
        rw [v_one]
    · cases hs
  | less =>
    simp only [stepN] at hs
    split at hs
    · rename_i h0
      subst h0
      cases hs
      rcases nil_or p with rfl | ⟨q, a, rfl⟩
      · rw [decL_nil, List.nil_append, List.foldl_cons]
        refine same (.inr ?_)
        show ((b + 1) * 1 - 0, (1 : Int)) = (-(b * (-1 * 1 - 0) - 1), -(-1 * 1 - 0))
        simp
        omega
      · rw [decL_app, List.foldl_append, List.foldl_append, List.foldl_append, List.foldl_cons]
        refine same (.inr ?_)
        show stepV (stepV _ (a - -1)) (b + 1) = neg2 (stepV (stepV (stepV _ a) (-1)) b)
        rw [v_less, neg2_neg2, show a - -1 = a + 1 by omega]
    · cases hs
  | nought =>
    simp only [stepN] at hs
    split at hs
    · rename_i h0
      subst h0
      split at hs
      · rename_i hp
        subst hp
        split at hs
        · rename_i hb
          obtain ⟨rfl, _⟩ := hb
          cases hs
          exact same (.inr rfl)
        · cases hs
      · rename_i hp
        rcases nil_or p with rfl | ⟨q, a, rfl⟩
        · exact (hp rfl).elim
        · cases hs
          rw [decL_app, List.foldl_append, List.foldl_append, List.foldl_append]
          refine same (.inr ?_)
          show stepV _ (a - -b) = neg2 (stepV (stepV (stepV _ a) 0) b)
          rw [v_nought, neg2_neg2, show a - -b = a + b by omega]
    · cases hs
  | loose =>
    simp only [stepN] at hs
    split at hs
    · rename_i h0
      obtain ⟨rfl, rfl⟩ := h0
      cases hs
      rw [List.foldl_cons, List.foldl_cons]
      refine same (.inl ?_)
      show ((0 : Int) * (0 * 1 - 0) - 1, (0 : Int) * 1 - 0) = (b * (0 * 1 - 0) - 1, 0 * 1 - 0)
      simp
    · cases hs
  | split =>
    simp only [stepN] at hs
    split at hs
    · cases hs
      rw [List.foldl_append, List.foldl_cons, List.foldl_cons, List.foldl_cons]
      refine same (.inl ?_)
      rw [v_one, show n + 1 - 1 = n by omega, show b + 1 - 1 = b by omega]
    · cases hs
/-- the least number not below t by b -/
def up (t b : Int) : Int := -((-t) / b)
theorem up_rest (t b : Int) : up t b * b - t = (-t) % b := by
  have := Int.mul_ediv_add_emod (-t) b
  unfold up
  rw [Int.neg_mul, Int.mul_comm]
  omega
def ll (t b : Int) : List Int := if 0 < b then up t b :: ll b (up t b * b - t) else []
termination_by b.toNat
decreasing_by
  rename_i h
  rw [up_rest]
  have h1 := Int.emod_nonneg (-t) (show b ≠ 0 by omega)
  have h2 := Int.emod_lt_of_pos (-t) h
  omega
theorem ll_pos {t b : Int} (h : 0 < b) : ll t b = up t b :: ll b (up t b * b - t) := by rw [ll, if_pos h]
theorem ll_zero {t b : Int} (h : ¬ 0 < b) : ll t b = [] := by rw [ll, if_neg h]
theorem rest_lt {t b : Int} (h : 0 < b) : 0 ≤ up t b * b - t ∧ up t b * b - t < b := by
  rw [up_rest]
  exact ⟨Int.emod_nonneg _ (by omega), Int.emod_lt_of_pos _ h⟩
def leastF (p : Int × Int) : List Int := if p.2 = 0 then [0, 0] else (ll p.1 p.2).reverse
theorem up_is {n t s : Int} (h0 : 0 ≤ s) (h1 : s < t) : up (n * t - s) t = n := by
  unfold up
  have : -(n * t - s) = s + t * (-n) := by rw [Int.mul_neg, Int.mul_comm]; omega
  rw [this, Int.add_mul_ediv_left _ _ (by omega), Int.ediv_eq_zero_of_lt h0 h1]
  omega
/-- of numbers from 2 on -/
theorem two_raw : ∀ q : List Int, (∀ x ∈ q, 2 ≤ x) → 0 ≤ (rawV q).2 ∧ (rawV q).2 < (rawV q).1 ∧ ll (rawV q).1 (rawV q).2 = q.reverse := by
  intro q
  have key : ∀ (m : Nat) (q : List Int), q.length ≤ m → (∀ x ∈ q, 2 ≤ x) → 0 ≤ (rawV q).2 ∧ (rawV q).2 < (rawV q).1 ∧ ll (rawV q).1 (rawV q).2 = q.reverse := by
    intro m
    induction m with
    | zero =>
      intro q hq _
      have : q = [] := List.length_eq_zero_iff.mp (by omega)
      subst this
      exact ⟨by decide, by decide, ll_zero (by decide)⟩
    | succ m ih =>
      intro q hq h
      rcases nil_or q with rfl | ⟨q, a, rfl⟩
      · exact ⟨by decide, by decide, ll_zero (by decide)⟩
      · rw [List.length_append, List.length_singleton] at hq
        obtain ⟨h1, h2, h3⟩ := ih q (by omega) fun x hx => h x (by simp [hx])
        have ha := h a (by simp)
        have e : rawV (q ++ [a]) = stepV (rawV q) a := by unfold rawV; rw [List.foldl_append]; rfl
        rw [e]
        generalize rawV q = v at *
        obtain ⟨t, s⟩ := v
        dsimp only at h1 h2 h3
        show 0 ≤ t ∧ t < a * t - s ∧ ll (a * t - s) t = _
        have h4 : 2 * t ≤ a * t := Int.mul_le_mul_of_nonneg_right ha (by omega)
        refine ⟨by omega, by omega, ?_⟩
        rw [ll_pos (by omega), up_is h1 h2, show a * t - (a * t - s) = s by omega, h3]
        simp
  exact key q.length q (Nat.le_refl _)
theorem least_val {e : List Int} (h : e = [0, 0] ∨ (e ≠ [] ∧ ∀ x ∈ e.dropLast, 2 ≤ x)) : leastF (valF e) = e := by
  rcases h with rfl | ⟨h1, h2⟩
  · rfl
  · rcases nil_or e with rfl | ⟨q, a, rfl⟩
    · exact (h1 rfl).elim
    · obtain ⟨k1, k2, k3⟩ := two_raw q (by simpa using h2)
      have e : rawV (q ++ [a]) = stepV (rawV q) a := by unfold rawV; rw [List.foldl_append]; rfl
      unfold valF
      rw [e]
      generalize rawV q = v at *
      obtain ⟨t, s⟩ := v
      dsimp only at k1 k2 k3
      have : norm (stepV (t, s) a) = (a * t - s, t) := by
        unfold norm stepV
        dsimp only
        rw [if_neg (by omega), if_neg (by omega)]
      rw [this]
      unfold leastF
      dsimp only
      rw [if_neg (by omega), ll_pos (by omega), up_is k1 k2, show a * t - (a * t - s) = s by omega, k3]
      simp
def Lst (e : List Int) : Prop := e = [0, 0] ∨ (e ≠ [] ∧ ∀ x ∈ e.dropLast, 2 ≤ x)
theorem stepF_val {l l' : List Int} {w : Wd} {i h : Int} (hs : stepF l w i = some (l', h)) : valF l' = valF l := by
  have hs0 := hs
  unfold stepF at hs
  split at hs
  · rename_i hi
    have := split_at (l := l) (i := i.toNat) (by omega)
    conv => rhs; rw [this.1]
    exact step_val hs
  · cases hs
theorem step_ne {p r : List Int} {n b : Int} {w : Wd} {l' : List Int} {h : Int} (hs : stepN p n b r w = some (l', h)) : l' ≠ [] := by
  cases w with
  | two => cases hs
  | one => simp only [stepN] at hs; split at hs <;> cases hs; simp
  | less => simp only [stepN] at hs; split at hs <;> cases hs; simp
  | nought =>
    simp only [stepN] at hs
    split at hs
    · split at hs
      · split at hs
        · rename_i h; cases hs; exact h.2
        · cases hs
      · rename_i hp
        cases hs
        rcases nil_or p with rfl | ⟨q, a, rfl⟩
        · exact (hp rfl).elim
        · rw [decL_app]; simp
    · cases hs
  | loose => simp only [stepN] at hs; split at hs <;> cases hs; simp
  | split => simp only [stepN] at hs; split at hs <;> cases hs; simp
theorem stepF_ne {l l' : List Int} {w : Wd} {i h : Int} (hs : stepF l w i = some (l', h)) : l' ≠ [] := by
  unfold stepF at hs
  split at hs
  · exact step_ne hs
  · cases hs
theorem ease_lst {l : List Int} {ss : List Stp} {e : List Int} {h : Int} (E : Ease l ss e h) : l ≠ [] → Lst e ∧ valF e = valF l := by
  induction E with
  | @stop l hn =>
    intro h0
    refine ⟨?_, rfl⟩
    rcases nextG_none l [] (fun _ z => nomatch z) hn with h | h
    · exact .inl h
    · exact .inr ⟨h0, h⟩
  | go hn hs _ ih =>
    intro _
    obtain ⟨h1, h2⟩ := ih (stepF_ne hs)
    exact ⟨h1, h2.trans (stepF_val hs)⟩
theorem ease_wt {l : List Int} {ss : List Stp} {e : List Int} {h : Int} (E : Ease l ss e h) : Wt l < 64 → Wt e ≤ Wt l := by
  induction E with
  | stop => intro _; exact Nat.le_refl _
  | go hn hs _ ih =>
    intro hw
    obtain ⟨l2, g, k1, k2, _⟩ := next_step hn hw
    rw [hs] at k1
    cases k1
    have := ih (by omega)
    omega
/-- it is told alone by its value -/
theorem ease_least {l : List Int} {ss : List Stp} {e : List Int} {h : Int} (E : Ease l ss e h) (hl : l ≠ []) : leastF (valF l) = e := by
  obtain ⟨h1, h2⟩ := ease_lst E hl
  rw [← h2]
  exact least_val h1
theorem lst_next {e : List Int} (h : Lst e) : nextF e = none := by
  rcases h with rfl | ⟨h1, h2⟩
  · rfl
  · rcases nil_or e with rfl | ⟨q, a, rfl⟩
    · rfl
    · rw [next_pass (by simpa using h2), nextG]
      exact fun _ _ _ z => by cases z
end Th

set_option Elab.async false
set_option linter.all false
set_option maxRecDepth 100000
namespace Th
open PySem PySem.Spec PyProof.Rows L2

/-! sums of lists of twists, by their numbers -/
abbrev Fn := Int → Int
abbrev F2 := Fn × Fn
def hU (v : F2) : F2 := (fun k => v.1 (k + 1), fun k => v.1 (k - 1) - v.2 (k - 3))
def hD (v : F2) : F2 := (fun k => v.1 (k - 1), fun k => v.1 (k + 1) - v.2 (k + 3))
def sw (v : F2) : F2 := (v.2, v.1)
def itr (f : F2 → F2) : Nat → F2 → F2
  | 0, v => v
  | n + 1, v => f (itr f n v)
def tw (n : Int) (v : F2) : F2 := if 0 ≤ n then itr hU n.toNat v else itr hD (-n).toNat v
theorem f2_ext {u v : F2} (h1 : ∀ k, u.1 k = v.1 k) (h2 : ∀ k, u.2 k = v.2 k) : u = v := Prod.ext (funext h1) (funext h2)
theorem fcg (f : Fn) {a b : Int} (h : a = b) : f a = f b := congrArg f h
theorem hU_hD (v : F2) : hU (hD v) = v := f2_ext (fun k => fcg v.1 (show k + 1 - 1 = k by omega)) fun k => by
  show v.1 (k - 1 - 1) - (v.1 (k - 3 + 1) - v.2 (k - 3 + 3)) = v.2 k
  rw [show k - 3 + 1 = k - 1 - 1 by omega, show k - 3 + 3 = k by omega]
  omega
theorem hD_hU (v : F2) : hD (hU v) = v := f2_ext (fun k => fcg v.1 (show k - 1 + 1 = k by omega)) fun k => by
  show v.1 (k + 1 + 1) - (v.1 (k + 3 - 1) - v.2 (k + 3 - 3)) = v.2 k
  rw [show k + 3 - 1 = k + 1 + 1 by omega, show k + 3 - 3 = k by omega]
  omega
theorem itr_in (f : F2 → F2) (n : Nat) (v : F2) : itr f n (f v) = f (itr f n v) := by
  induction n with
  | zero => rfl
  | succ n ih => exact congrArg f ih
theorem tw_up (n : Int) (v : F2) : tw (n + 1) v = hU (tw n v) := by
  unfold tw
  by_cases h : 0 ≤ n
  · rw [if_pos (by omega), if_pos h, show (n + 1).toNat = n.toNat + 1 by omega]
    rfl
  · rw [if_neg h]
    by_cases h2 : n = -1
    · subst h2
      show v = hU (hD v)
      rw [hU_hD]
    · rw [if_neg (by omega), show (-n).toNat = (-(n + 1)).toNat + 1 by omega]
      show _ = hU (hD _)
      rw [hU_hD]
theorem tw_dn (n : Int) (v : F2) : tw (n - 1) v = hD (tw n v) := by
  have := tw_up (n - 1) v
  rw [show n - 1 + 1 = n by omega] at this
  rw [this, hD_hU]
theorem tw_zero (v : F2) : tw 0 v = v := rfl
theorem tw_add (a b : Int) (v : F2) : tw (a + b) v = tw a (tw b v) := by
  have up : ∀ (n : Nat), tw ((n : Int) + b) v = tw n (tw b v) := fun n => by
    induction n with
    | zero => show tw (0 + b) v = tw b v; rw [show 0 + b = b by omega]
    | succ n ih => rw [show ((n + 1 : Nat) : Int) + b = (n : Int) + b + 1 by omega, tw_up, ih, ← tw_up]; rfl
  have dn : ∀ (n : Nat), tw (-(n : Int) + b) v = tw (-(n : Int)) (tw b v) := fun n => by
    induction n with
    | zero => show tw (0 + b) v = tw b v; rw [show 0 + b = b by omega]
    | succ n ih => rw [show -((n + 1 : Nat) : Int) + b = -(n : Int) + b - 1 by omega, tw_dn, ih, ← tw_dn, show -((n + 1 : Nat) : Int) = -(n : Int) - 1 by omega]
  by_cases h : 0 ≤ a
  · have := up a.toNat
    rwa [show ((a.toNat : Nat) : Int) = a by omega] at this
  · have := dn (-a).toNat
    rwa [show -(((-a).toNat : Nat) : Int) = a by omega] at this
/-- times -x^3, h times -/
def sg (h : Int) : Int := 1 - 2 * (h % 2)
def rz (h : Int) (v : F2) : F2 := (fun k => sg h * v.1 (k - 3 * h), fun k => sg h * v.2 (k - 3 * h))
theorem sg_add (a b : Int) : sg (a + b) = sg a * sg b := by
  unfold sg
  have h1 : a % 2 = 0 ∨ a % 2 = 1 := by omega
  have h2 : b % 2 = 0 ∨ b % 2 = 1 := by omega
  rcases h1 with h1 | h1 <;> rcases h2 with h2 | h2
  · rw [h1, h2, show (a + b) % 2 = 0 by omega]; rfl
  · rw [h1, h2, show (a + b) % 2 = 1 by omega]; rfl
  · rw [h1, h2, show (a + b) % 2 = 1 by omega]; rfl
  · rw [h1, h2, show (a + b) % 2 = 0 by omega]; rfl
theorem rz_add (a b : Int) (v : F2) : rz (a + b) v = rz a (rz b v) := f2_ext
  (fun k => by show sg (a + b) * v.1 _ = sg a * (sg b * v.1 _); rw [sg_add, Int.mul_assoc, show k - 3 * (a + b) = k - 3 * a - 3 * b by omega])
  (fun k => by show sg (a + b) * v.2 _ = sg a * (sg b * v.2 _); rw [sg_add, Int.mul_assoc, show k - 3 * (a + b) = k - 3 * a - 3 * b by omega])
theorem rz_zero (v : F2) : rz 0 v = v := f2_ext (fun k => by show 1 * v.1 _ = _; rw [Int.one_mul, show k - 3 * 0 = k by omega]) (fun k => by show 1 * v.2 _ = _; rw [Int.one_mul, show k - 3 * 0 = k by omega])
theorem rz_sw (h : Int) (v : F2) : rz h (sw v) = sw (rz h v) := rfl
theorem rz_hU (h : Int) (v : F2) : hU (rz h v) = rz h (hU v) := f2_ext
  (fun k => by show sg h * v.1 _ = sg h * v.1 _; rw [show k + 1 - 3 * h = k - 3 * h + 1 by omega])
  (fun k => by show sg h * v.1 _ - sg h * v.2 _ = sg h * (v.1 _ - v.2 _); rw [Int.mul_sub, show k - 1 - 3 * h = k - 3 * h - 1 by omega, show k - 3 - 3 * h = k - 3 * h - 3 by omega])
theorem rz_hD (h : Int) (v : F2) : hD (rz h v) = rz h (hD v) := f2_ext
  (fun k => by show sg h * v.1 _ = sg h * v.1 _; rw [show k - 1 - 3 * h = k - 3 * h - 1 by omega])
  (fun k => by show sg h * v.1 _ - sg h * v.2 _ = sg h * (v.1 _ - v.2 _); rw [Int.mul_sub, show k + 1 - 3 * h = k - 3 * h + 1 by omega, show k + 3 - 3 * h = k - 3 * h + 3 by omega])
theorem rz_itr {f : F2 → F2} {h : Int} (hf : ∀ v, f (rz h v) = rz h (f v)) (n : Nat) (v : F2) : itr f n (rz h v) = rz h (itr f n v) := by
  induction n with
  | zero => rfl
  | succ n ih => show f _ = _; rw [ih, hf]; rfl
theorem rz_tw (h n : Int) (v : F2) : tw n (rz h v) = rz h (tw n v) := by
  unfold tw
  split
  · exact rz_itr (rz_hU h) _ _
  · exact rz_itr (rz_hD h) _ _
def stT (v : F2) (n : Int) : F2 := tw n (sw v)
def dl : Fn := fun k => if k = 0 then 1 else 0
def v0 : F2 := (fun _ => 0, dl)
def sumV (l : List Int) : F2 := l.foldl stT v0
theorem stT_rz (h n : Int) (v : F2) : stT (rz h v) n = rz h (stT v n) := rz_tw h n (sw v)
theorem fold_rz (h : Int) : ∀ (l : List Int) (v : F2), l.foldl stT (rz h v) = rz h (l.foldl stT v)
  | [], _ => rfl
  | n :: l, v => by rw [List.foldl_cons, List.foldl_cons, stT_rz, fold_rz h l]
theorem three_up (v : F2) : hU (sw (hU (sw (hU v)))) = rz 1 (sw v) := f2_ext
  (fun k => by
    show (v.1 (k + 1 - 1 - 1) - v.2 (k + 1 - 1 - 3)) - v.1 (k + 1 - 3 + 1) = (1 - 2 * (1 % 2)) * v.2 (k - 3 * 1)
    rw [fcg v.1 (show k + 1 - 1 - 1 = k - 1 by omega), fcg v.2 (show k + 1 - 1 - 3 = k - 3 by omega), fcg v.1 (show k + 1 - 3 + 1 = k - 1 by omega), fcg v.2 (show k - 3 * 1 = k - 3 by omega)]
    omega)
  (fun k => by
    show ((v.1 (k - 1 - 1 - 1) - v.2 (k - 1 - 1 - 3)) - v.1 (k - 1 - 3 + 1)) - (v.1 (k - 3 + 1 - 1) - v.2 (k - 3 + 1 - 3)) = (1 - 2 * (1 % 2)) * v.1 (k - 3 * 1)
    rw [fcg v.1 (show k - 1 - 1 - 1 = k - 3 by omega), fcg v.2 (show k - 1 - 1 - 3 = k - 5 by omega), fcg v.1 (show k - 1 - 3 + 1 = k - 3 by omega), fcg v.1 (show k - 3 + 1 - 1 = k - 3 by omega), fcg v.2 (show k - 3 + 1 - 3 = k - 5 by omega), fcg v.1 (show k - 3 * 1 = k - 3 by omega)]
    omega)
theorem three_dn (v : F2) : hD (sw (hD (sw (hD v)))) = rz (-1) (sw v) := f2_ext
  (fun k => by
    show (v.1 (k - 1 + 1 + 1) - v.2 (k - 1 + 1 + 3)) - v.1 (k - 1 + 3 - 1) = (1 - 2 * (-1 % 2)) * v.2 (k - 3 * -1)
    rw [fcg v.1 (show k - 1 + 1 + 1 = k + 1 by omega), fcg v.2 (show k - 1 + 1 + 3 = k + 3 by omega), fcg v.1 (show k - 1 + 3 - 1 = k + 1 by omega), fcg v.2 (show k - 3 * -1 = k + 3 by omega)]
    omega)
  (fun k => by
    show ((v.1 (k + 1 + 1 + 1) - v.2 (k + 1 + 1 + 3)) - v.1 (k + 1 + 3 - 1)) - (v.1 (k + 3 - 1 + 1) - v.2 (k + 3 - 1 + 3)) = (1 - 2 * (-1 % 2)) * v.1 (k - 3 * -1)
    rw [fcg v.1 (show k + 1 + 1 + 1 = k + 3 by omega), fcg v.2 (show k + 1 + 1 + 3 = k + 5 by omega), fcg v.1 (show k + 1 + 3 - 1 = k + 3 by omega), fcg v.1 (show k + 3 - 1 + 1 = k + 3 by omega), fcg v.2 (show k + 3 - 1 + 3 = k + 5 by omega), fcg v.1 (show k - 3 * -1 = k + 3 by omega)]
    omega)
theorem sw_sw (v : F2) : sw (sw v) = v := rfl
theorem tw_in (n : Int) (v : F2) : tw n (hU v) = hU (tw n v) := by
  rw [← tw_up]
  exact (tw_add n 1 v).symm
theorem tw_inD (n : Int) (v : F2) : tw n (hD v) = hD (tw n v) := by
  rw [← tw_dn]
  exact (tw_add n (-1) v).symm
theorem s_one (v : F2) (a b : Int) : stT (stT (stT v a) 1) b = rz 1 (stT (stT v (a - 1)) (b - 1)) := by
  unfold stT
  have h1 : tw a (sw v) = hU (tw (a - 1) (sw v)) := by rw [← tw_up, show a - 1 + 1 = a by omega]
  have h2 : ∀ u, tw b u = tw (b - 1) (hU u) := fun u => by rw [tw_in, ← tw_up, show b - 1 + 1 = b by omega]
  rw [h1, h2, show ∀ u, tw 1 u = hU u from fun u => rfl, three_up, rz_tw]
theorem s_less (v : F2) (a b : Int) : stT (stT (stT v a) (-1)) b = rz (-1) (stT (stT v (a + 1)) (b + 1)) := by
  unfold stT
  have h1 : tw a (sw v) = hD (tw (a + 1) (sw v)) := by rw [← tw_dn, show a + 1 - 1 = a by omega]
  have h2 : ∀ u, tw b u = tw (b + 1) (hD u) := fun u => by rw [tw_inD, ← tw_dn, show b + 1 - 1 = b by omega]
  rw [h1, h2, show ∀ u, tw (-1) u = hD u from fun u => rfl, three_dn, rz_tw]
theorem s_nought (v : F2) (a b : Int) : stT (stT (stT v a) 0) b = stT v (a + b) := by
  unfold stT
  rw [tw_zero, sw_sw, ← tw_add, show b + a = a + b by omega]
theorem up_v0 : hU v0 = rz 1 v0 := f2_ext (fun k => by show (0 : Int) = _ * 0; rw [Int.mul_zero]) (fun k => by
  show (0 : Int) - dl (k - 3) = (1 - 2 * (1 % 2)) * dl (k - 3 * 1)
  rw [fcg dl (show k - 3 * 1 = k - 3 by omega)]
  omega)
theorem dn_v0 : hD v0 = rz (-1) v0 := f2_ext (fun k => by show (0 : Int) = _ * 0; rw [Int.mul_zero]) (fun k => by
  show (0 : Int) - dl (k + 3) = (1 - 2 * (-1 % 2)) * dl (k - 3 * -1)
  rw [fcg dl (show k - 3 * -1 = k + 3 by omega)]
  omega)
theorem tw_v0 (b : Int) : tw b v0 = rz b v0 := by
  have up : ∀ n : Nat, tw n v0 = rz n v0 := fun n => by
    induction n with
    | zero => exact (rz_zero v0).symm
    | succ n ih => rw [show ((n + 1 : Nat) : Int) = (n : Int) + 1 by omega, tw_up, ih, rz_hU, up_v0, ← rz_add]
  have dn : ∀ n : Nat, tw (-(n : Int)) v0 = rz (-(n : Int)) v0 := fun n => by
    induction n with
    | zero => exact (rz_zero v0).symm
    | succ n ih => rw [show -((n + 1 : Nat) : Int) = -(n : Int) - 1 by omega, tw_dn, ih, rz_hD, dn_v0, ← rz_add]; rfl
  by_cases h : 0 ≤ b
  · have := up b.toNat
    rwa [show ((b.toNat : Nat) : Int) = b by omega] at this
  · have := dn (-b).toNat
    rwa [show -(((-b).toNat : Nat) : Int) = b by omega] at this
theorem one_v0 (b : Int) : stT (stT v0 1) b = stT v0 (b - 1) := by
  have e : hU (sw (hU (sw v0))) = sw v0 := f2_ext (fun k => by
    show dl (k + 1 - 1) - 0 = dl k
    rw [fcg dl (show k + 1 - 1 = k by omega)]
    omega) (fun k => by
    show (dl (k - 1 - 1) - 0) - dl (k - 3 + 1) = 0
    rw [fcg dl (show k - 1 - 1 = k - 2 by omega), fcg dl (show k - 3 + 1 = k - 2 by omega)]
    omega)
  unfold stT
  have h2 : ∀ u, tw b u = tw (b - 1) (hU u) := fun u => by rw [tw_in, ← tw_up, show b - 1 + 1 = b by omega]
  rw [h2, show ∀ u, tw 1 u = hU u from fun u => rfl, e]
theorem less_v0 (b : Int) : stT (stT v0 (-1)) b = stT v0 (b + 1) := by
  have e : hD (sw (hD (sw v0))) = sw v0 := f2_ext (fun k => by
    show dl (k - 1 + 1) - 0 = dl k
    rw [fcg dl (show k - 1 + 1 = k by omega)]
    omega) (fun k => by
    show (dl (k + 1 + 1) - 0) - dl (k + 3 - 1) = 0
    rw [fcg dl (show k + 1 + 1 = k + 2 by omega), fcg dl (show k + 3 - 1 = k + 2 by omega)]
    omega)
  unfold stT
  have h2 : ∀ u, tw b u = tw (b + 1) (hD u) := fun u => by rw [tw_inD, ← tw_dn, show b + 1 - 1 = b by omega]
  rw [h2, show ∀ u, tw (-1) u = hD u from fun u => rfl, e]
theorem step_sum {p r : List Int} {n b : Int} {w : Wd} {l' : List Int} {h : Int} (hs : stepN p n b r w = some (l', h)) : sumV (p ++ n :: b :: r) = rz h (sumV l') := by
  have same : ∀ {x y : F2} {h : Int}, x = rz h y → r.foldl stT x = rz h (r.foldl stT y) := fun {x y h} z => by rw [z, fold_rz]
  have id0 : ∀ {x y : F2}, x = y → r.foldl stT x = rz 0 (r.foldl stT y) := fun {x y} z => by rw [z, rz_zero]
  unfold sumV
  rw [List.foldl_append, List.foldl_cons, List.foldl_cons]
  cases w with
  | two => cases hs
  | one =>
    simp only [stepN] at hs
    split at hs
    · rename_i h0
      subst h0
      cases hs
      rcases nil_or p with rfl | ⟨q, a, rfl⟩
      · rw [decL_nil, List.nil_append, List.foldl_cons]
        exact id0 (one_v0 b)
      · rw [decL_app, List.foldl_append, List.foldl_append, List.foldl_append, List.foldl_cons, if_neg (by simp)]
        exact same (s_one _ a b)
    · cases hs
  | less =>
    simp only [stepN] at hs
    split at hs
    · rename_i h0
      subst h0
      cases hs
      rcases nil_or p with rfl | ⟨q, a, rfl⟩
      · rw [decL_nil, List.nil_append, List.foldl_cons]
        exact id0 (less_v0 b)
      · rw [decL_app, List.foldl_append, List.foldl_append, List.foldl_append, List.foldl_cons, if_neg (by simp), show a - -1 = a + 1 by omega]
        exact same (s_less _ a b)
    · cases hs
  | nought =>
    simp only [stepN] at hs
    split at hs
    · rename_i h0
      subst h0
      split at hs
      · rename_i hp
        subst hp
        split at hs
        · rename_i hb
          obtain ⟨rfl, _⟩ := hb
          cases hs
          exact id0 rfl
        · cases hs
      · rename_i hp
        rcases nil_or p with rfl | ⟨q, a, rfl⟩
        · exact (hp rfl).elim
        · cases hs
          rw [decL_app, List.foldl_append, List.foldl_append, List.foldl_append, show a - -b = a + b by omega]
          exact id0 (s_nought _ a b)
    · cases hs
  | loose =>
    simp only [stepN] at hs
    split at hs
    · rename_i h0
      obtain ⟨rfl, rfl⟩ := h0
      cases hs
      rw [List.foldl_cons, List.foldl_cons]
      exact same (tw_v0 _)
    · cases hs
  | split =>
    simp only [stepN] at hs
    split at hs
    · cases hs
      rw [List.foldl_append, List.foldl_cons, List.foldl_cons, List.foldl_cons]
      refine same ?_
      rw [s_one, show n + 1 - 1 = n by omega, show b + 1 - 1 = b by omega, ← rz_add]
      exact (rz_zero _).symm
    · cases hs
theorem stepF_sum {l l' : List Int} {w : Wd} {i h : Int} (hs : stepF l w i = some (l', h)) : sumV l = rz h (sumV l') := by
  unfold stepF at hs
  split at hs
  · rename_i hi
    have := split_at (l := l) (i := i.toNat) (by omega)
    conv => lhs; rw [this.1]
    exact step_sum hs
  · cases hs
theorem ease_sum {l : List Int} {ss : List Stp} {e : List Int} {h : Int} (E : Ease l ss e h) : sumV l = rz h (sumV e) := by
  induction E with
  | stop => exact (rz_zero _).symm
  | go hn hs _ ih => rw [stepF_sum hs, ih, ← rz_add]

/-! .. as the program reckons them -/
abbrev P2 := List Tm × List Tm
def halfT (way : Int) (v : P2) : P2 := (liftT (-way) v.1, gat (liftT way v.1 ++ negT (liftT (3 * way) v.2)))
def halfs (way : Int) : Nat → P2 → P2
  | 0, v => v
  | n + 1, v => halfT way (halfs way n v)
def cf2 (v : P2) : F2 := (cf v.1, cf v.2)
def Can2 (v : P2) : Prop := Can v.1 ∧ Can v.2
theorem cf_up (v : P2) : cf2 (halfT 1 v) = hU (cf2 v) := f2_ext
  (fun k => by show cf (liftT (-1) v.1) k = cf v.1 (k + 1); rw [cf_lift]; congr 1)
  (fun k => by show cf (gat _) k = cf v.1 (k - 1) - cf v.2 (k - 3); rw [gat_cf, cf_app, cf_neg, cf_lift, cf_lift]; show cf v.1 (k - 1) + -cf v.2 (k - 3) = _; omega)
theorem cf_dn (v : P2) : cf2 (halfT (-1) v) = hD (cf2 v) := f2_ext
  (fun k => by show cf (liftT 1 v.1) k = cf v.1 (k - 1); rw [cf_lift])
  (fun k => by show cf (gat _) k = cf v.1 (k + 1) - cf v.2 (k + 3); rw [gat_cf, cf_app, cf_neg, cf_lift, cf_lift]; show cf v.1 (k + 1) + -cf v.2 (k + 3) = _; omega)
theorem can_half {way : Int} {v : P2} (h : Can2 v) : Can2 (halfT way v) := ⟨lift_can h.1, gat_can _⟩
theorem can_halfs {way : Int} {v : P2} (h : Can2 v) : ∀ n, Can2 (halfs way n v)
  | 0 => h
  | n + 1 => can_half (can_halfs h n)
def wayOf (n : Int) : Int := if decide (0 < n) = true then 1 else -1
theorem cf_halfs (n : Int) (v : P2) : cf2 (halfs (wayOf n) n.natAbs v) = tw n (cf2 v) := by
  have up : ∀ m, cf2 (halfs 1 m v) = itr hU m (cf2 v) := fun m => by
    induction m with
    | zero => rfl
    | succ m ih => show cf2 (halfT 1 _) = _; rw [cf_up, ih]; rfl
  have dn : ∀ m, cf2 (halfs (-1) m v) = itr hD m (cf2 v) := fun m => by
    induction m with
    | zero => rfl
    | succ m ih => show cf2 (halfT (-1) _) = _; rw [cf_dn, ih]; rfl
  unfold tw wayOf
  by_cases h : 0 < n
  · rw [if_pos (decide_eq_true h), if_pos (by omega), show n.natAbs = n.toNat by omega]
    exact up _
  · rw [if_neg (by rw [decide_eq_false h]; decide)]
    by_cases h0 : n = 0
    · subst h0; rfl
    · rw [if_neg (by omega), show n.natAbs = (-n).toNat by omega]
      exact dn _
def sw2 (v : P2) : P2 := (v.2, v.1)
def stP (v : P2) (n : Int) : P2 := halfs (wayOf n) n.natAbs (sw2 v)
def p0 : P2 := ([], [(0, 1)])
def sumP (l : List Int) : P2 := l.foldl stP p0
theorem can_p0 : Can2 p0 := ⟨⟨.nil, fun _ z => nomatch z⟩, ⟨List.pairwise_singleton _ _, fun t ht => by
  have ht : t = (0, 1) := List.mem_singleton.mp ht
  subst ht; decide⟩⟩
theorem cf_fold : ∀ (l : List Int) (v : P2), Can2 v → cf2 (l.foldl stP v) = l.foldl stT (cf2 v) ∧ Can2 (l.foldl stP v)
  | [], _, h => ⟨rfl, h⟩
  | n :: l, v, h => by
    rw [List.foldl_cons, List.foldl_cons]
    have e : cf2 (stP v n) = stT (cf2 v) n := cf_halfs n (sw2 v)
    rw [← e]
    exact cf_fold l _ (can_halfs ⟨h.2, h.1⟩ _)
theorem cf_p0 : cf2 p0 = v0 := f2_ext (fun _ => rfl) (fun k => by
  show (if (0 : Int) = k then 1 else 0) + 0 = dl k
  unfold dl
  by_cases h : k = 0
  · subst h; rfl
  · rw [if_neg (fun z => h z.symm), if_neg h]; rfl)
theorem sumP_cf (l : List Int) : cf2 (sumP l) = sumV l := by
  have := (cf_fold l p0 can_p0).1
  rw [cf_p0] at this
  exact this
theorem sumP_can (l : List Int) : Can2 (sumP l) := (cf_fold l p0 can_p0).2
/-- the law's way to lift -/
def raiseT (h : Int) (a : List Tm) : List Tm := a.map fun t => (t.1 + 3 * h, t.2 * (1 - 2 * (h % 2)))
theorem cf_raise (h : Int) (a : List Tm) (k : Int) : cf (raiseT h a) k = sg h * cf a (k - 3 * h) := by
  induction a with
  | nil => show (0 : Int) = _ * 0; rw [Int.mul_zero]
  | cons t a ih =>
    show (if t.1 + 3 * h = k then t.2 * (1 - 2 * (h % 2)) else 0) + cf (raiseT h a) k = sg h * ((if t.1 = k - 3 * h then t.2 else 0) + cf a (k - 3 * h))
    rw [ih, Int.mul_add]
    by_cases e : t.1 + 3 * h = k
    · rw [if_pos e, if_pos (by omega), Int.mul_comm]
      rfl
    · rw [if_neg e, if_neg (by omega), Int.mul_zero]
theorem sg_ne (h : Int) : sg h ≠ 0 := by unfold sg; omega
theorem raise_can {h : Int} {a : List Tm} (c : Can a) : Can (raiseT h a) := by
  refine ⟨?_, fun t ht => ?_⟩
  · unfold raiseT
    rw [List.map_map, List.pairwise_map]
    exact (List.pairwise_map.mp c.1).imp fun {a b} (z : a.1 < b.1) => (show a.1 + 3 * h < b.1 + 3 * h by omega)
  · obtain ⟨u, hu, rfl⟩ := List.mem_map.mp ht
    exact Int.mul_ne_zero (c.2 u hu) (sg_ne h)
theorem sums_alike {l m e : List Int} {ss ts : List Stp} {h g : Int} (E : Ease l ss e h) (E2 : Ease m ts e g) : sumP l = (raiseT (h - g) (sumP m).1, raiseT (h - g) (sumP m).2) := by
  have h1 := ease_sum E
  have h2 := ease_sum E2
  have h3 : sumV l = rz (h - g) (sumV m) := by rw [h1, h2, ← rz_add, show h - g + g = h by omega]
  rw [← sumP_cf, ← sumP_cf] at h3
  have c1 := sumP_can l
  have c2 := sumP_can m
  refine Prod.ext (can_ext c1.1 (raise_can c2.1) fun k => ?_) (can_ext c1.2 (raise_can c2.2) fun k => ?_)
  · rw [cf_raise]
    exact congrFun (congrArg Prod.fst h3) k
  · rw [cf_raise]
    exact congrFun (congrArg Prod.snd h3) k
/-- how long they are -/
theorem half_len (way : Int) (v : P2) : (halfT way v).1.length + (halfT way v).2.length ≤ 2 * (v.1.length + v.2.length) := by
  unfold halfT
  have := gat_len (liftT way v.1 ++ negT (liftT (3 * way) v.2))
  rw [List.length_append] at this
  unfold liftT negT at *
  simp only [List.length_map] at *
  omega
theorem halfs_len (way : Int) (v : P2) : ∀ n, (halfs way n v).1.length + (halfs way n v).2.length ≤ 2 ^ n * (v.1.length + v.2.length)
  | 0 => by simp [halfs]
  | n + 1 => by
    have h1 := half_len way (halfs way n v)
    have h2 := halfs_len way v n
    show (halfT way (halfs way n v)).1.length + (halfT way (halfs way n v)).2.length ≤ _
    rw [Nat.pow_succ, Nat.mul_comm (2 ^ n) 2, Nat.mul_assoc]
    omega
def asum : List Int → Nat
  | [] => 0
  | x :: r => x.natAbs + asum r
theorem fold_plen : ∀ (l : List Int) (v : P2), (l.foldl stP v).1.length + (l.foldl stP v).2.length ≤ 2 ^ asum l * (v.1.length + v.2.length)
  | [], v => by simp [asum]
  | n :: l, v => by
    rw [List.foldl_cons, asum]
    refine Nat.le_trans (fold_plen l (stP v n)) ?_
    have h1 := halfs_len (wayOf n) (sw2 v) n.natAbs
    rw [show (2 : Nat) ^ (n.natAbs + asum l) = 2 ^ asum l * 2 ^ n.natAbs by rw [Nat.add_comm, Nat.pow_add], Nat.mul_assoc]
    refine Nat.mul_le_mul_left _ ?_
    show (halfs (wayOf n) n.natAbs (sw2 v)).1.length + (halfs (wayOf n) n.natAbs (sw2 v)).2.length ≤ _
    refine Nat.le_trans h1 (Nat.mul_le_mul_left _ ?_)
    show v.2.length + v.1.length ≤ _
    omega
end Th

set_option Elab.async false
set_option linter.all false
set_option maxRecDepth 100000
namespace Th
open PySem PySem.Spec PyProof.Rows L2
section
variable {X : Cx} {ρ ρ1 ρ2 : Rho} {e e1 e2 : Expr} {pos : Pos} {ds : List PyData}
/-- enumerate(xs), xs a list -/
theorem src_enumL {p : Pos} {elts : List Expr} {kk : Nat} {tpos : Pos} (h : E X e ρ (.d (.list ds)) ρ1) (hm : X.mg "enumerate" = none) (hg : Gl X "enumerate" := by rfl) (hs : starEach [e] X.env = [(false, eval e X.env)] := by rfl) :
    Src X (.Tuple elts kk tpos) (.Call (.Name "enumerate" p) [e] [] pos) ρ (enumD ds) ρ1 none :=
  ⟨_, pi_enum hg hm (pa_cons pe_w pa_nil hs) hs, fun σ HF H S1 R q => h σ HF H S1 _ fun x HF1 H1 S2 f1 r1 => by
  cases (show Dp X.K HF1 x (.list ds) from r1) with
  | @lst p ys _ h1 h2 =>
    refine ⟨p, ys, rfl, same_l S2.sub h1, q _ HF1 H1 S2 f1 fun σ2 ρ2 HF2 H2 _ _ S3 s3 => ?_⟩
    have t3 := same_l S3.sub (same_l s3 h1)
    have d3 := dpa_mono s3 h2
    have hl := dpa_len h2
    refine ⟨fun i hi => ?_, ⟨ys, t3, by rw [enumD_len, hl]; exact Nat.le_refl _⟩, fun i x H3 hi ⟨T, y, e1, e2, e3, e4⟩ => ?_⟩
    · rw [enumD_len] at hi
      obtain ⟨y, g, _⟩ := dpa_get d3 (List.getElem?_eq_getElem hi)
      exact ⟨ys, y, t3, g⟩
    · obtain ⟨d, g1, g2⟩ := dpa_get' d3 (e4 ys t3)
      exact ⟨_, enumD_get g1, .inr ⟨T, _, _, e2, e3, e1, rfl, .cons (.int _) (.cons g2 .nil)⟩⟩⟩
theorem src_enumLI {p : Pos} {elts : List Expr} {kk : Nat} {tpos : Pos} {α : Type} {xs : List α} {enc : α → PyData} (h : E X e ρ (.d (.list (xs.map enc))) ρ1) (hm : X.mg "enumerate" = none) (hg : Gl X "enumerate" := by rfl) (hs : starEach [e] X.env = [(false, eval e X.env)] := by rfl) :
    Src X (.Tuple elts kk tpos) (.Call (.Name "enumerate" p) [e] [] pos) ρ (xs.zipIdx.map fun q => .tuple [.int (q.2 : Nat), enc q.1]) ρ1 none := by
  have g := src_enumL (pos := pos) (p := p) (elts := elts) (kk := kk) (tpos := tpos) h hm hg hs
  have : enumD (xs.map enc) = xs.zipIdx.map fun q => .tuple [.int (q.2 : Nat), enc q.1] := by
    unfold enumD
    rw [List.zipIdx_map, List.map_map]
    rfl
  rwa [this] at g
/-- a word among written words -/
theorem dpa_strs {K : PySem.W.Frag} {HF : Hp} : ∀ {ys : List V} {ss : List Str}, DpAll K HF ys (ss.map PyData.str) → ys = ss.map V.str
  | _, [], .nil => rfl
  | _, s :: ss, .cons h t => by
    cases h
    rw [dpa_strs t]
    rfl
theorem t_inS {s : Str} {ss : List Str} (h1 : E X e1 ρ (.d (.str s)) ρ1) (h2 : E X e2 ρ1 (.d (.tuple (ss.map .str))) ρ2) (hb : behindInMarks .In e2 = false := by rfl) : ET X (.Compare e1 [.In] [e2] pos) ρ (decide (s ∈ ss)) ρ2 :=
  t_cmp op_in_seq (ev_op h1 h2 fun HF H x y Q hx hy s2 q => by
    cases hx
    cases hy with
    | tup g1 g2 =>
      have := dpa_strs g2
      subst this
      refine ⟨_, _, rfl, .inr (same_t s2 g1), rfl, List.all_eq_true.mpr fun z hz => by obtain ⟨n', _, rfl⟩ := List.mem_map.mp hz; rfl, ?_⟩
      have e : inV (.str s) (ss.map V.str) = decide (s ∈ ss) := by
        unfold inV
        rw [List.any_map]
        by_cases h : s ∈ ss
        · rw [decide_eq_true h]
          exact List.any_eq_true.mpr ⟨s, h, by simp [eqV]⟩
        · rw [decide_eq_false h]
          apply Bool.eq_false_iff.mpr
          intro z
          obtain ⟨s', h1, h2⟩ := List.any_eq_true.mp z
          simp [eqV] at h2
          exact h (h2 ▸ h1)
      show Q (.bl (inV _ _)) H
      rw [e]
      exact q _ (.bl _)) hb
end
end Th
namespace Th
open PySem PySem.Spec PyProof.Rows L2
def encL (xs : List Int) : PyData := .list (xs.map .int)
theorem eqE_L : EqE encL := eqE_list eqE_int
theorem fit_L {n : Nat} (xs : List Int) : Fit (n + 1) (encL xs) := fit_lm fun x _ => fit_int x
section
variable {X : Cx} {ρ ρ1 ρ2 : Rho} {e e1 e2 : Expr} {pos : Pos} {ds : List PyData}
theorem t_eqW (v : Wd) {w : Wd} (h1 : E X e1 ρ (.d (encWd w)) ρ1) (h2 : E X e2 ρ1 (.d (encWd v)) ρ2) : ET X (.Compare e1 [.Eq] [e2] pos) ρ (decide (w = v)) ρ2 :=
  t_cmp op_eq (ev_op h1 h2 fun HF H x y Q hx hy _ q => by
    cases hx; cases hy
    exact ⟨rfl, by rw [show decide (V.str w.nm = V.str v.nm) = decide (w = v) by rw [← Wd.nm_inj]; by_cases h : w.nm = v.nm <;> simp [h]]; exact q _ (.bl _)⟩) (nomark _)
theorem e_eqW (v : Wd) {w : Wd} (h1 : E X e1 ρ (.d (encWd w)) ρ1) (h2 : E X e2 ρ1 (.d (encWd v)) ρ2) : E X (.Compare e1 [.Eq] [e2] pos) ρ (.d (.bool (decide (w = v)))) ρ2 :=
  .of (pe_cmpR op_eq pe_w pe_w (nomark _)) (ev_op h1 h2 fun HF H x y Q hx hy _ q => by
    cases hx; cases hy
    exact ⟨rfl, by rw [show decide (V.str w.nm = V.str v.nm) = decide (w = v) by rw [← Wd.nm_inj]; by_cases h : w.nm = v.nm <;> simp [h]]; exact q _ (.bl _)⟩)
end
/-! items of a list that is told apart at a place -/
section
variable (p : List Int) (n b : Int) (r : List Int)
theorem sp_n : ((p ++ n :: b :: r).map PyData.int)[p.length]? = some (.int n) := by simp
theorem sp_b : ((p ++ n :: b :: r).map PyData.int)[p.length + 1]? = some (.int b) := by
  rw [List.getElem?_map, List.getElem?_append_right (by omega)]
  simp
theorem sp_len : ((p ++ n :: b :: r).map PyData.int).length = p.length + 2 + r.length := by simp; omega
theorem sp_atn : atI ((p ++ n :: b :: r).map PyData.int) (p.length : Int) = some (.int n) := (atI_nat' (Int.natCast_nonneg _)).trans (sp_n p n b r)
theorem sp_atb : atI ((p ++ n :: b :: r).map PyData.int) ((p.length : Int) + 1) = some (.int b) := (atI_nat' (by omega)).trans (by
  rw [show ((p.length : Int) + 1).toNat = p.length + 1 by omega]
  exact sp_b p n b r)
theorem sp_setb (v : Int) : ((p ++ n :: b :: r).map PyData.int).set (p.length + 1) (.int v) = (p ++ n :: v :: r).map PyData.int := by
  rw [← List.map_set, List.set_append_right _ _ (by omega)]
  simp
theorem sp_take : cut ((p ++ n :: b :: r).map PyData.int) none (some (p.length : Int)) = p.map PyData.int := by
  rw [take_cut]
  simp
theorem sp_drop1 : cut ((p ++ n :: b :: r).map PyData.int) (some ((p.length : Int) + 1)) none = (b :: r).map PyData.int := by
  show cut _ (some ((p.length + 1 : Nat) : Int)) none = _
  rw [drop_cut, ← List.map_drop, List.drop_append]
  simp [show p.length + 1 - p.length = 1 by omega]
theorem sp_drop2 : cut ((p ++ n :: b :: r).map PyData.int) (some ((p.length : Int) + 2)) none = r.map PyData.int := by
  show cut _ (some ((p.length + 2 : Nat) : Int)) none = _
  rw [drop_cut, ← List.map_drop, List.drop_append]
  simp [show p.length + 2 - p.length = 2 by omega]
end
theorem decL_len (p : List Int) (c : Int) : (decL p c).length = p.length := by unfold decL; rw [List.length_set]
def fLessBeside : List PyData → A → Prop := fun ds r => ∃ (p : List Int) (n b : Int) (s : List Int) (c : Int), (p ++ n :: b :: s).length ≤ 1000 ∧ ds = [encL (p ++ n :: b :: s), .int p.length, .int c] ∧ r = .ml ((decL p c ++ (b - c) :: s).map .int)
def stepRes (l : List Int) (h : Int) : A := .tw [.inl (l.map .int), .inr (.int h)]
def fBy (w : Wd) : List PyData → A → Prop := fun ds r => ∃ (p : List Int) (n b : Int) (s l : List Int) (h : Int), (p ++ n :: b :: s).length ≤ 1000 ∧ stepN p n b s w = some (l, h) ∧ ds = [encL (p ++ n :: b :: s), .int p.length] ∧ r = stepRes l h
def fitB : Wd → Int → Bool
  | .one, n => decide (n = 1)
  | .less, n => decide (n = -1)
  | .split, n => decide (n < -1)
  | .nought, n => decide (n = 0)
  | .loose, n => decide (n = 0)
  | .two, _ => false
theorem fit_of {p s l : List Int} {n b h : Int} {w : Wd} (hs : stepN p n b s w = some (l, h)) : fitB w n = true := by
  cases w with
  | two => cases hs
  | one => simp only [stepN] at hs; split at hs <;> first | (exact decide_eq_true ‹_›) | cases hs
  | less => simp only [stepN] at hs; split at hs <;> first | (exact decide_eq_true ‹_›) | cases hs
  | nought => simp only [stepN] at hs; split at hs <;> first | (exact decide_eq_true ‹_›) | cases hs
  | loose => simp only [stepN] at hs; split at hs <;> first | (exact decide_eq_true (‹_ ∧ _›).1) | cases hs
  | split => simp only [stepN] at hs; split at hs <;> first | (exact decide_eq_true ‹_›) | cases hs
def fFits : List PyData → A → Prop := fun ds r => ∃ (w : Wd) (n : Int), ds = [encWd w, .int n] ∧ r = .d (.bool (fitB w n))
def fStep : List PyData → A → Prop := fun ds r => ∃ (l : List Int) (w : Wd) (i : Int) (l' : List Int) (h : Int), l.length ≤ 1000 ∧ stepF l w i = some (l', h) ∧ ds = [encL l, encSt (w, i)] ∧ r = stepRes l' h
theorem stepF_cut {l l' : List Int} {w : Wd} {i h : Int} (hs : stepF l w i = some (l', h)) : ∃ p n b s, l = p ++ n :: b :: s ∧ i = p.length ∧ stepN p n b s w = some (l', h) := by
  unfold stepF at hs
  split at hs
  · rename_i hi
    have := split_at (l := l) (i := i.toNat) (by omega)
    exact ⟨_, _, _, _, this.1, by rw [this.2]; omega, hs⟩
  · cases hs
end Th
namespace Th
open PySem PySem.Spec PyProof.Rows L2
def encI2 (p : Int × Int) : PyData := .tuple [.int p.1, .int p.2]
theorem eq_i2 : EqE encI2 := eqE_pair eqE_int eqE_int
theorem fit_i2 {n : Nat} (p : Int × Int) : Fit (n + 1) (encI2 p) := fit_t2 (fit_int _) (fit_int _)
theorem up_abs (t b : Int) : (up t b).natAbs ≤ t.natAbs := by
  unfold up
  rw [Int.natAbs_neg]
  refine Nat.le_trans (Int.natAbs_ediv_le_natAbs _ _) ?_
  rw [Int.natAbs_neg]
  exact Nat.le_refl _
def fValue : List PyData → A → Prop := fun ds r => ∃ ns : List Int, (∀ n ∈ ns, (n.natAbs : Int) ≤ 100) ∧ ds = [encL ns] ∧ r = .d (encI2 (valF ns))
def fLeastList : List PyData → A → Prop := fun ds r => ∃ p : Int × Int, (0 ≤ p.2 ∧ p.2 < 2 ^ 60 ∧ p.1.natAbs < 2 ^ 60 ∧ (ll p.1 p.2).length ≤ 1000) ∧ ds = [encI2 p] ∧ r = .ml ((leastF p).map .int)
/-! rows of steps -/
inductive Run : List Int → List Stp → List Int → Int → Prop
  | nil {l : List Int} : Run l [] l 0
  | cons {l : List Int} {w : Wd} {i : Int} {l' : List Int} {h : Int} {ss : List Stp} {e : List Int} {hh : Int} : l.length ≤ 1000 → stepF l w i = some (l', h) → Run l' ss e hh → Run l ((w, i) :: ss) e (h + hh)
theorem ease_run {l : List Int} {ss : List Stp} {e : List Int} {h : Int} (E : Ease l ss e h) : Wt l < 64 → Run l ss e h := by
  induction E with
  | stop => intro _; exact .nil
  | @go l w i l' h ss e hh hn hs _ ih =>
    intro hw
    obtain ⟨l2, g, k1, k2, _⟩ := next_step hn hw
    rw [hs] at k1
    cases k1
    have := wt_len l
    exact .cons (by omega) hs (ih (by omega))
def encNx : Option Stp → PyData
  | none => .none
  | some p => encSt p
def fLed : List PyData → A → Prop := fun ds r => ∃ (l : List Int) (ss : List Stp) (e : List Int) (h : Int), Run l ss e h ∧ ds = [encL l, .list (ss.map encSt)] ∧ r = .d (.tuple [encL e, .int h])
def fNextStep : List PyData → A → Prop := fun ds r => ∃ l : List Int, l.length ≤ 1000 ∧ ds = [encL l] ∧ r = .d (encNx (nextF l))
def fEased : List PyData → A → Prop := fun ds r => ∃ (l : List Int) (ss : List Stp) (e : List Int) (h : Int), (Ease l ss e h ∧ ss.length < 20000 ∧ Wt l < 64) ∧ ds = [encL l] ∧ r = .tw [.inl (ss.map encSt), .inl (e.map .int)]
theorem noLs_st : ∀ ss : List Stp, noLs (ss.map encSt) = true
  | [] => rfl
  | _ :: ss => noLs_st ss
theorem noA_step (l : List Int) (h : Int) : noA (stepRes l h) = true := by
  unfold stepRes noA
  simp [noLs_ints, noL]
/-- a step, kept as a tail -/
theorem nextG_tail {l : List Int} {i : Nat} {n b : Int} {r : List Int} (h : l.drop i = n :: b :: r) : l.take (i + 1) = l.take i ++ [n] ∧ l.drop (i + 1) = b :: r := by
  constructor
  · have : l[i]? = some n := by
      have := congrArg (fun x => x[0]?) h
      simpa using this
    rw [List.take_add_one, this]
    rfl
  · rw [← List.drop_drop, h]
    rfl
theorem drop_at {l : List Int} {i : Nat} (h : i + 1 < l.length) : ∃ n b r, l.drop i = n :: b :: r ∧ l = l.take i ++ n :: b :: r ∧ (l.take i).length = i := by
  obtain ⟨h1, h2⟩ := split_at h
  have : l.drop i = l.getD i 0 :: l.getD (i + 1) 0 :: l.drop (i + 2) := by
    conv => lhs; rw [h1]
    rw [List.drop_append]
    simp [h2]
  exact ⟨_, _, _, this, h1, h2⟩
end Th
namespace Th
open PySem PySem.Spec PyProof.Rows L2
theorem noL_nx : ∀ o : Option Stp, noL (encNx o) = true
  | none => rfl
  | some _ => rfl
theorem some_nx : ∀ o : Option Stp, someB (encNx o) = o.isSome
  | none => rfl
  | some _ => rfl
def fHalfTwist : List PyData → A → Prop := fun ds r => ∃ (v : P2) (way : Int), v.1.length + v.2.length < 100000 ∧ ds = [encP v.1, encP v.2, .int way] ∧ r = .d (.tuple [encP (halfT way v).1, encP (halfT way v).2])
def fTwistedSums : List PyData → A → Prop := fun ds r => ∃ l : List Int, (l ≠ [] ∧ l.length ≤ 1000 ∧ asum l ≤ 16) ∧ ds = [encL l] ∧ r = .d (.tuple [encP (sumP l).1, encP (sumP l).2])
theorem asum_take : ∀ (l : List Int) (i : Nat), asum (l.take i) + (l.getD i 0).natAbs ≤ asum l
  | [], i => by simp [asum]
  | x :: l, 0 => by simp [asum]
  | x :: l, i + 1 => by
    have := asum_take l i
    rw [List.take_succ_cons, asum, asum, List.getD_cons_succ]
    omega
end Th
namespace Th
open PySem PySem.Spec PyProof.Rows L2
theorem E.of_eqF {X : Cx} {ρ ρ1 ρ2 : Rho} {e1 e2 : Expr} {pos : Pos} {i j : Int} (ha : E X e1 ρ (.d (.int i)) ρ1) (hb : E X e2 ρ1 (.d (.int j)) ρ2) (h : i ≠ j) : ET X (.Compare e1 [.Eq] [e2] pos) ρ false ρ2 := by
  have := t_eqI (pos := pos) ha hb
  rwa [decide_eq_false h] at this
end Th
namespace Th
open PySem PySem.Spec PyProof.Rows L2
theorem src_rP {X : Cx} {ρ ρ1 : Rho} {tg e : Expr} {px pc : Pos} {n : Nat} (h : E X e ρ (.d (.int ((n : Int) - 1))) ρ1) (hm : X.mg "range" = none) (hn : n < 2 ^ 62) (hg : Gl X "range" := by rfl) (hse : starEach [e] X.env = [(false, eval e X.env)] := by rfl) :
    Src X tg (.Call (.Name "range" px) [e] [] pc) ρ ((List.range (n - 1)).map encN) ρ1 none := by
  have g := src_r1 (tg := tg) (px := px) (pc := pc) h hm ⟨by omega, by omega⟩ hg hse
  have : rangeD 0 ((n : Int) - 1).toNat = (List.range (n - 1)).map encN := by
    unfold rangeD
    rw [show ((n : Int) - 1).toNat = n - 1 by omega]
    refine List.map_congr_left fun i _ => ?_
    show PyData.int _ = PyData.int _
    congr 1
    omega
  rwa [this] at g
end Th

set_option Elab.async false
set_option linter.all false
set_option maxRecDepth 100000
namespace Th
open PySem PySem.Spec PyProof.Rows L2

/-! lists drawn of cells -/
def manyF (most c : Int) : Int := [c % 7 - 3, c % 3 - 1, c / 21 % (2 * most + 1) - most].getD (c / 7 % 3).toNat 0
def cutM (most left c : Int) : Int := if decide (left < ((manyF most c).natAbs : Int)) = true then 0 else manyF most c
def stepW (most : Int) (t : List Int × Int) (c : Int) : List Int × Int := (t.1 ++ [cutM most t.2 c], t.2 - ((cutM most t.2 c).natAbs : Int))
def twistsF (most : Int) (cs : List Int) : List Int := (cs.foldl (stepW most) ([], most)).1
theorem cutM_le (most left c : Int) (h : 0 ≤ left) : ((cutM most left c).natAbs : Int) ≤ left := by
  unfold cutM
  split
  · simpa using h
  · rename_i hh
    simp at hh
    exact hh
theorem asum_app (a b : List Int) : asum (a ++ b) = asum a + asum b := by
  induction a with
  | nil => simp [asum]
  | cons x a ih => rw [List.cons_append, asum, asum, ih]; omega
theorem fold_twists (most : Int) : ∀ (cs : List Int) (t : List Int × Int), 0 ≤ t.2 → (asum t.1 : Int) + t.2 ≤ most →
    (asum (cs.foldl (stepW most) t).1 : Int) ≤ most ∧ (cs.foldl (stepW most) t).1.length = t.1.length + cs.length
  | [], t, h, h2 => ⟨by show (asum t.1 : Int) ≤ most; omega, by simp⟩
  | c :: cs, t, h, h2 => by
    have hc := cutM_le most t.2 c h
    have e : asum (stepW most t c).1 = asum t.1 + (cutM most t.2 c).natAbs := by
      unfold stepW
      rw [asum_app]
      simp [asum]
    have := fold_twists most cs (stepW most t c) (by unfold stepW; dsimp only; omega) (by rw [e]; unfold stepW; dsimp only; omega)
    refine ⟨this.1, this.2.trans ?_⟩
    unfold stepW
    simp
    omega
theorem twists_ok {most : Int} {cs : List Int} (h : 0 ≤ most) : (asum (twistsF most cs) : Int) ≤ most ∧ (twistsF most cs).length = cs.length := by
  have := fold_twists most cs ([], most) h (by show ((0 : Nat) : Int) + most ≤ most; omega)
  simpa [twistsF] using this
def fTwists : List PyData → A → Prop := fun ds r => ∃ (cs : List Int) (most : Int), (cs.length ≤ 64 ∧ 0 ≤ most ∧ most ≤ 1000) ∧ ds = [encL cs, .int most] ∧ r = .ml ((twistsF most cs).map .int)
theorem asum_mem {l : List Int} {n : Int} (h : n ∈ l) : n.natAbs ≤ asum l := by
  induction l with
  | nil => cases h
  | cons x l ih =>
    rw [asum]
    rcases List.mem_cons.mp h with rfl | h
    · omega
    · have := ih h; omega
theorem nsum_asum (l : List Int) : nsum l ≤ asum l := by
  induction l with
  | nil => exact Nat.le_refl _
  | cons x l ih => rw [nsum, asum]; unfold ng; omega
theorem wt_asum (l : List Int) : Wt l ≤ l.length + asum l := by
  unfold Wt
  have := nsum_asum l
  omega
/-- how great values are -/
theorem raw_bd : ∀ (l : List Int) (v : Int × Int) (M : Nat), v.1.natAbs ≤ M → v.2.natAbs ≤ M → (l.foldl stepV v).1.natAbs ≤ 2 ^ asum l * M ∧ (l.foldl stepV v).2.natAbs ≤ 2 ^ asum l * M
  | [], v, M, h1, h2 => by simpa [asum] using ⟨h1, h2⟩
  | n :: l, v, M, h1, h2 => by
    rw [List.foldl_cons, asum]
    have hn : n.natAbs + 1 ≤ 2 ^ n.natAbs := Nat.lt_two_pow_self
    have k1 : (stepV v n).1.natAbs ≤ 2 ^ n.natAbs * M := by
      show (n * v.1 - v.2).natAbs ≤ _
      have a1 : (n * v.1 - v.2).natAbs ≤ (n * v.1).natAbs + v.2.natAbs := by omega
      rw [Int.natAbs_mul] at a1
      have a2 : n.natAbs * v.1.natAbs ≤ n.natAbs * M := Nat.mul_le_mul_left _ h1
      have a3 : (n.natAbs + 1) * M ≤ 2 ^ n.natAbs * M := Nat.mul_le_mul_right _ hn
      rw [Nat.add_mul] at a3
      omega
    have k2 : (stepV v n).2.natAbs ≤ 2 ^ n.natAbs * M := by
      show v.1.natAbs ≤ _
      refine Nat.le_trans h1 ?_
      have : 1 * M ≤ 2 ^ n.natAbs * M := Nat.mul_le_mul_right _ (by omega)
      omega
    have := raw_bd l (stepV v n) (2 ^ n.natAbs * M) k1 k2
    rwa [← Nat.mul_assoc, ← Nat.pow_add, Nat.add_comm (asum l)] at this
theorem val_bd {l : List Int} (h : asum l ≤ 50) : 0 ≤ (valF l).2 ∧ (valF l).2 < 2 ^ 60 ∧ (valF l).1.natAbs < 2 ^ 60 := by
  obtain ⟨h1, h2⟩ := raw_bd l (1, 0) 1 (by decide) (by decide)
  have h3 : 2 ^ asum l ≤ 2 ^ 50 := Nat.pow_le_pow_right (by decide) h
  have h4 : (2 : Nat) ^ 50 < 2 ^ 60 := by decide
  unfold valF norm rawV
  split
  · exact ⟨by decide, by decide, by decide⟩
  · split
    · dsimp only
      omega
    · omega
theorem least_spec {l : List Int} {ss : List Stp} {e : List Int} {h : Int} (E : Ease l ss e h) (hl : l ≠ []) (hw : Wt l < 64) (ha : asum l ≤ 50) : fLeastList [encI2 (valF l)] (.ml (e.map .int)) := by
  obtain ⟨b1, b2, b3⟩ := val_bd ha
  have hE := ease_least E hl
  have hwe := ease_wt E hw
  have hle := wt_len e
  refine ⟨valF l, ⟨b1, b2, b3, ?_⟩, rfl, by rw [hE]⟩
  unfold leastF at hE
  split at hE
  · rename_i h0
    rw [h0, ll_zero (by decide)]
    exact Nat.zero_le _
  · rw [← List.length_reverse, hE]
    omega
/-- the other list -/
def otherF (l : List Int) (c : Int) : List Int :=
  if decide (c % 2 = 1) = true then l.take (c / 3 % l.length).toNat ++ [c / 24 % 5 - 2, 0, l.getD (c / 3 % l.length).toNat 0 - (c / 24 % 5 - 2)] ++ l.drop ((c / 3 % l.length).toNat + 1)
  else if decide (c / 3 % l.length + 1 < l.length) = true then l.take (c / 3 % l.length).toNat ++ [l.getD (c / 3 % l.length).toNat 0 + 1, 1, l.getD ((c / 3 % l.length).toNat + 1) 0 + 1] ++ l.drop ((c / 3 % l.length).toNat + 2)
  else l
theorem drop_get {l : List Int} {i : Nat} (h : i < l.length) : l.drop i = l.getD i 0 :: l.drop (i + 1) := by
  rw [List.drop_eq_getElem_cons h, List.getD_eq_getElem?_getD, List.getElem?_eq_getElem h]
  rfl
theorem other_ok {l : List Int} {c : Int} (h : l ≠ []) : otherF l c ≠ [] ∧ (otherF l c).length ≤ l.length + 2 ∧ asum (otherF l c) ≤ asum l + 4 := by
  have hl : 0 < l.length := List.length_pos_iff.mpr h
  have hm := Int.emod_nonneg (c / 3) (show (l.length : Int) ≠ 0 by omega)
  have hm2 := Int.emod_lt_of_pos (c / 3) (show (0 : Int) < l.length by omega)
  unfold otherF
  generalize hi : (c / 3 % (l.length : Int)).toNat = i
  have hil : i < l.length := by omega
  have e1 := drop_get hil
  have e2 := congrArg asum (List.take_append_drop i l)
  rw [asum_app, e1, asum] at e2
  split
  · refine ⟨by simp, by simp only [List.length_append, List.length_cons, List.length_take, List.length_drop, List.length_nil]; omega, ?_⟩
    rw [asum_app, asum_app]
    simp only [asum]
    omega
  · split
    · rename_i hc
      have hc := of_decide_eq_true hc
      have e3 := drop_get (l := l) (i := i + 1) (by omega)
      rw [e3, asum, show i + 1 + 1 = i + 2 from rfl] at e2
      refine ⟨by simp, by simp only [List.length_append, List.length_cons, List.length_take, List.length_drop, List.length_nil]; omega, ?_⟩
      rw [asum_app, asum_app]
      simp only [asum]
      omega
    · exact ⟨h, by omega, by omega⟩
def fOther : List PyData → A → Prop := fun ds r => ∃ (l : List Int) (c : Int), (l ≠ [] ∧ l.length ≤ 1000) ∧ ds = [encL l, .int c] ∧ r = .ml ((otherF l c).map .int)
def stepA : Option (List Int × Int) → A
  | none => .d .none
  | some (l, h) => stepRes l h
def fDueStep : List PyData → A → Prop := fun ds r => ∃ (l : List Int) (w : Wd) (i : Int), l.length ≤ 1000 ∧ ds = [encL l, encWd w, .int i] ∧ r = stepA (stepF l w i)
def fWalked : List PyData → A → Prop := fun ds r => ∃ (l : List Int) (ss : List Stp) (e : List Int) (h : Int), (Ease l ss e h ∧ ss.length < 20000 ∧ Wt l < 64) ∧ ds = [encL l] ∧ r = .tw [.inl (ss.map encSt), .inr (encL e), .inr (.int h)]
def fLeast : List PyData → A → Prop := fun ds r => ∃ e : List Int, (Lst e ∧ e.length ≤ 1000) ∧ ds = [encL e] ∧ r = .d (.bool true)
def fDueLifted : List PyData → A → Prop := fun ds r => ∃ (a : List Tm) (h : Int), a.length < 100000 ∧ ds = [encP a, .int h] ∧ r = .d (encP (raiseT h a))
theorem wd_in (w : Wd) : decide (w.nm ∈ [Wd.one.nm, Wd.less.nm]) = decide (w = .one ∨ w = .less) := by cases w <;> decide +kernel
/-- the last one -/
theorem at_last (q : List Int) (a : Int) : atI ((q ++ [a]).map PyData.int) (-1) = some (.int a) := by
  unfold atI ixN
  rw [if_neg (by decide), List.length_map, List.length_append, List.length_singleton, if_pos (by omega)]
  show ((q ++ [a]).map PyData.int)[((-1 : Int) + ((q.length + 1 : Nat) : Int)).toNat]? = _
  rw [show ((-1 : Int) + ((q.length + 1 : Nat) : Int)).toNat = q.length by omega]
  simp
theorem ix_last (q : List Int) (a : Int) : ixN ((q ++ [a]).map PyData.int).length (-1) = some q.length := by
  unfold ixN
  rw [if_neg (by decide), List.length_map, List.length_append, List.length_singleton, if_pos (by omega)]
  congr 1
  omega
theorem set_last (q : List Int) (a v : Int) : ((q ++ [a]).map PyData.int).set q.length (.int v) = (q ++ [v]).map PyData.int := by
  rw [← List.map_set, List.set_append_right _ _ (by omega)]
  simp
/-- the law's table of words -/
def ixW (n : Int) : Nat := if n = 0 then 0 else if n = 1 then 1 else if n = -1 then 2 else 3
def wdN (n : Int) : Wd := if n = 0 then .nought else if n = 1 then .one else if n = -1 then .less else .split
theorem ixW_ok (n : Int) : [0, 1, -1, n][ixW n]? = some n ∧ (∀ m < ixW n, [0, 1, -1, n][m]? ≠ some n) ∧ [PyData.str "nought", .str "one", .str "less", .str "split"][ixW n]? = some (encWd (wdN n)) := by
  unfold ixW wdN
  by_cases h0 : n = 0
  · subst h0
    exact ⟨rfl, fun m h => absurd h (Nat.not_lt_zero _), rfl⟩
  · rw [if_neg h0, if_neg h0]
    by_cases h1 : n = 1
    · subst h1
      refine ⟨rfl, fun m h => ?_, rfl⟩
      have : m = 0 := by
        have : m < 1 := h
        omega
      subst this
      simp
    · rw [if_neg h1, if_neg h1]
      by_cases h2 : n = -1
      · subst h2
        refine ⟨rfl, fun m h => ?_, rfl⟩
        have : m < 2 := h
        match m, this with
        | 0, _ => simp
        | 1, _ => simp
      · rw [if_neg h2, if_neg h2]
        refine ⟨rfl, fun m h => ?_, rfl⟩
        match m, h with
        | 0, _ => simpa using fun z => h0 z.symm
        | 1, _ => simpa using fun z => h1 z.symm
        | 2, _ => simpa using fun z => h2 z.symm
end Th
namespace Th
open PySem PySem.Spec PyProof.Rows L2
theorem t_ltF {X : Cx} {ρ ρ1 ρ2 : Rho} {e1 e2 : Expr} {pos : Pos} {i j : Int} (ha : E X e1 ρ (.d (.int i)) ρ1) (hb : E X e2 ρ1 (.d (.int j)) ρ2) (h : ¬ i < j) : ET X (.Compare e1 [.Lt] [e2] pos) ρ false ρ2 := by
  have := t_lt (pos := pos) ha hb
  rwa [decide_eq_false h] at this
end Th
namespace Th
open PySem PySem.Spec PyProof.Rows L2
theorem ET.as {X : Cx} {ρ ρ1 : Rho} {e : Expr} {a b : Bool} (h : ET X e ρ a ρ1) (q : a = b) : ET X e ρ b ρ1 := q ▸ h
end Th
namespace Th
open PySem PySem.Spec PyProof.Rows L2
theorem at_lastD {ns : List Int} (h : ns ≠ []) : atI (ns.map PyData.int) (-1) = some (.int (ns.getLastD 0)) := by
  rcases nil_or ns with rfl | ⟨q, a, rfl⟩
  · exact (h rfl).elim
  · rw [at_last]
    simp
def encEH (p : List Stp × List Int) : PyData := .tuple [.list (p.1.map encSt), encL p.2]
def encLH (p : List Int × Int) : PyData := .tuple [encL p.1, .int p.2]
theorem eqE_EH : EqE encEH := eqE_pair (eqE_list eqE_st) eqE_L
theorem eqE_LH : EqE encLH := eqE_pair eqE_L eqE_int
theorem fit_EH (p : List Stp × List Int) : SeqAt.shaped (encEH p) = true := (fit_t2 (n := 2) (fit_lm (n := 1) fun x _ => fit_st x) (fit_L p.2)).shaped
theorem fit_LH (p : List Int × Int) : SeqAt.shaped (encLH p) = true := (fit_t2 (n := 1) (fit_L p.1) (fit_int p.2)).shaped
theorem eqE_rfl {α : Type} [DecidableEq α] {f : α → PyData} (h : EqE f) (a : α) : PyData.eqv (f a) (f a) = true := (h a a).trans (decide_eq_true rfl)
end Th

set_option Elab.async false
set_option linter.all false
set_option maxRecDepth 100000
namespace Th
open PySem PySem.Spec PyProof.Rows L2

/-! ### errors of own classes -/
structure ExcT (K : PySem.W.Frag) (mg : Str → Option Value) (x : Str) (C : Addr) : Prop where
  g : mg x = some (.ref C)
  q : PySem.W.excIn K C [.type "ValueError", .type "Exception", .type "BaseException", .type "object"] "ValueError.__new__" = true
  k : PySem.W.keepIn K (.ref C) = true
  sb : PySem.W.subIn K (.ref C) (.type "BaseException") = some true
  ty : PySem.W.typeIn K (.ref C) = some (.type "type")
  cl : PySem.W.isClsIn K C = true
  sc : PySem.W.subIn K (.ref C) (.ref C) = some true
/-- an error of a class is what the clause by that class takes -/
theorem ExcT.self {K : PySem.W.Frag} {mg : Str → Option Value} {x : Str} {C : Addr} (T : ExcT K mg x C) : PySem.W.exmOne K (.ref C) (.ref C) = some true := by
  have h2 : (PySem.W.clsIn K C).isSome = true := T.cl
  show (if (PySem.W.subIn K (.ref C) (.type "BaseException") == some true) = true then (if ((PySem.W.clsIn K C).isSome && PySem.W.typeIn K (.ref C) == some (.type "type")) = true then PySem.W.subIn K (.ref C) (.ref C) else none) else none) = some true
  rw [T.sb, h2, T.ty, T.sc] <;> rfl
/-- a def that raises, whatever data of this kind it is given -/
def spR (K : PySem.W.Frag) (C : Addr) (G : List PyData → Prop) : Sp := fun vs H _ E => ∃ HF ds, Sl K (ds.map A.d) (vs.map some) HF H ∧ G ds ∧
  ∀ HF' H', Sl K (ds.map A.d) (vs.map some) HF' H' → Fw (ds.map A.d) (ds.map A.d) (vs.map some) HF H HF' H' → E (.ref C) none H'
def PN : Pst := ⟨fun _ => False, fun _ _ => False, fun _ => False, fun _ => False⟩
section
variable {P : Program} {w : World} {K : PySem.W.Frag} {mg : Str → Option Value} {base : Heap}
theorem fn_raise {x qual : Str} {st : Stmt} {f : Addr} {fd : FuncData} {N ps : List Str} {k : Nat} {C : Addr} {G : List PyData → Prop} (F : Fun K x qual st f fd) (S0 : FnScope N ps (defScope st)) (hn : ps.length ≤ N.length) (hG : ∀ ds, G ds → ds.length = ps.length)
    (hbody : ∀ (cdv : Value) (A1 : Around) (outer : List Env) (s : Shared) (H : Hp) (E : XK) (B : Bs) (ds : List PyData), Room k (A1.deeper (envOfC qual (defScope st) s.heap.objs.size f cdv)) → G ds → (∀ q ∈ B.L, q.1 ∈ ([] : List Nat)) →
      Takes (cxOf (L2.CX P w) P w K mg base N qual (defScope st) f cdv A1 outer s H E) (fun cls d _ H => E cls d H) → PassesOwn (model P w) (cxOf (L2.CX P w) P w K mg base N qual (defScope st) f cdv A1 outer s H E).A (cxOf (L2.CX P w) P w K mg base N qual (defScope st) f cdv A1 outer s H E).env (cxOf (L2.CX P w) P w K mg base N qual (defScope st) f cdv A1 outer s H E).xe →
      (∀ ρ σ HF H, Sl K ρ σ HF H → Bn B ρ σ HF H → E (.ref C) none H) →
      Ss (cxOf (L2.CX P w) P w K mg base N qual (defScope st) f cdv A1 outer s H E) B (defBody st) (ds.map A.d ++ List.replicate (N.length - ps.length) .any) PN) : FnOk P w K mg base (L2.CX P w) (k + 1) f fd ps (spR K C G) := by
  have len : ∀ vs H Q E, spR K C G vs H Q E → vs.length = ps.length := fun vs H Q E ⟨HF, ds, S1, h, _⟩ => by
    have := S1.len
    rw [List.length_map, List.length_map] at this
    exact this.trans (hG _ h)
  refine F.okX S0 len fun cdv A1 outer s H vs Q E hr hsp => ?_
  have hlen := len vs H Q E hsp
  obtain ⟨HF, ds, S1, hf, q⟩ := hsp
  have hal := hG _ hf
  let B : Bs := ⟨HF, H, []⟩
  have noOwnM : ∀ (i : Nat) (a : A), (ds.map A.d ++ List.replicate (N.length - ps.length) A.any)[i]? = some a → a.own = false := fun i a h => by
    rcases getElem?_app_rep h with h | ⟨_, rfl⟩
    · exact own_map a (List.mem_of_getElem? h)
    · rfl
  have Sl0 : Sl K (ds.map A.d ++ List.replicate (N.length - ps.length) .any) (L2.start N vs) HF H := by
    refine ⟨?_, S1.sub, fun i a h => ?_, fun i j a b p h1 h2 o1 o2 e1 e2 => ?_⟩
    · unfold L2.start
      rw [List.length_append, List.length_append, List.length_map, List.length_replicate, List.length_replicate, List.length_map, hlen, hal]
    · unfold L2.start
      rcases getElem?_app_rep h with h | ⟨hi, rfl⟩
      · obtain ⟨u, e, z⟩ := S1.slot i a h
        refine ⟨u, ?_, z⟩
        rw [List.getElem?_append_left (List.getElem?_eq_some_iff.mp e).1]
        exact e
      · have hlt := (List.getElem?_eq_some_iff.mp h).1
        rw [List.length_append, List.length_replicate, List.length_map] at hlt
        rw [List.length_map] at hi
        refine ⟨none, ?_, trivial⟩
        rw [List.getElem?_append_right (by rw [List.length_map]; omega), List.getElem?_replicate, if_pos (by rw [List.length_map]; omega)]
    · rw [noOwnM i a h1] at o1
      cases o1
  have Bn0 : Bn B (ds.map A.d ++ List.replicate (N.length - ps.length) .any) (L2.start N vs) HF H := by
    refine ⟨.refl _, fun b o _ h => h, fun b o h => .inl h, fun b o h => ⟨o, h⟩, fun i a p h o e => ?_, fun z hz => nomatch hz⟩
    rw [noOwnM i a h] at o
    cases o
  refine ⟨_, pss_w, hbody cdv A1 outer s H E B ds hr hf (fun _ z => nomatch z) (takes_of rfl rfl rfl rfl) (passes_of rfl) (fun ρ σ HF' H' S2 b2 => ?_) _ HF H Sl0 Bn0 _ ⟨fun _ _ _ _ p => p.elim, fun _ _ _ _ _ _ p => p.elim, fun _ _ _ _ p => p.elim, fun _ _ _ _ p => p.elim⟩⟩
  refine q HF' H' ⟨S1.len, S2.sub, fun i c h => ?_, fun i j a b p h1 _ o1 _ _ _ => ?_⟩ ⟨.refl _, b2.hf, fun b o h _ => b2.keep b o (fun _ z => nomatch z) h, b2.new, b2.pres⟩
  · obtain ⟨u, e, z⟩ := S1.slot i c h
    have hc := own_map c (List.mem_of_getElem? h)
    exact ⟨u, e, arel_mono z b2.hf fun _ _ _ _ _ o => by rw [hc] at o; cases o⟩
  · rw [own_map a (List.mem_of_getElem? h1)] at o1
    cases o1
end
section
variable {X : Cx} {B : Bs} {P : Pst} {ρ ρ1 ρ2 : Rho} {e e1 e2 : Expr} {es : List Expr} {pos pos' : Pos} {ds : List PyData} {C : Addr} {W : WX} {x : Str}
/-- an expression that raises -/
def EX (X : Cx) (C : Addr) (W : WX) (e : Expr) (ρ ρ1 : Rho) : Prop := ∀ σ HF H, Sl X.K ρ σ HF H → (∀ HF' H', Sl X.K ρ1 σ HF' H' → Fw ρ ρ1 σ HF H HF' H' → W (.ref C) none σ H') → ∀ Q : VK, wE X e σ H Q
theorem e_callR {G : List PyData → Prop} {n : Nat} {f : Addr} {fd : FuncData} {ps : List Str} {p : Pos} (F : FnOk X.prog X.w X.K X.mg X.base (L2.CX X.prog X.w) n f fd ps (spR X.K C G)) (hr : Room n X.A) (hm : X.mg x = some (.ref f)) (hk : PySem.W.keepIn X.K (.ref f) = true) (hb : Binds X.K fd ps [])
    (ha : ED X (e :: es) ρ ds ρ1) (hG : G ds) (tk : Takes X W) (hg : Gl X x := by rfl) (hdb : (x == ("__debug__" : Str)) = false := by decide) (he : starEach (e :: es) X.env = (false, eval e X.env) :: starEach es X.env := by rfl) (hpl : (backTo pos (starEach es X.env)).any (·.1) = false := by rfl) :
    EX X C W (.Call (.Name x p) (e :: es) [] pos) ρ ρ1 := fun σ HF H S1 hW Q =>
  ⟨_, pe_callS F hr hg hm hk hb (fun σ => passAt tk σ) pa_w hdb he hpl, ha σ HF H S1 _ fun xs HF1 H1 S2 f1 r1 => by
    have nd : (lents (ds.map Arg.dat)).Nodup := by rw [lents_dat]; exact List.nodup_nil
    have r2 := dat_args (ρ := ρ1) (σ := σ) r1
    have S3 := args_in S2 nd r2
    rw [toA_dat] at S3
    refine ⟨HF1, ds, S3, hG, fun HF' H' S4 f4 => ?_⟩
    have f5 : Fw ((ds.map Arg.dat).map (toA ρ1)) (ds.map A.d) (xs.map some) HF1 H1 HF' H' := by rw [toA_dat]; exact f4
    obtain ⟨S6, f6⟩ := args_out S2 nd r2 S4 f5
    rw [back_dat] at S6 f6
    exact hW HF' H' S6 (f1.trans f6)⟩
theorem s_raise {m : Str} {j : Nat} {p p2 pos2 : Pos} (T : ExcT X.K X.mg x C) (tk : Takes X W) (hW : ∀ σ HF H, Sl X.K ρ σ HF H → Bn B ρ σ HF H → W (.ref C) none σ H) (hg : Gl X x := by rfl) (hc : X.calm = true := by rfl) (hdb : (x == ("__debug__" : Str)) = false := by decide) :
    S X B (.Raise (some (.Call (.Name x p) [.Constant (.str m) j p2] [] pos)) none pos2) ρ P := .of (ps_raise hc tk (pmk_own PySem.F.excBase_ValueError T.q T.g T.k (raises_own T.sb T.ty) hg hdb)) fun σ HF H Sl b D o => hW σ HF H Sl b
theorem s_exprX (he : EX X C W e ρ ρ1) (hW : ∀ σ HF H, Sl X.K ρ1 σ HF H → Bn B ρ1 σ HF H → W (.ref C) none σ H) (hs : swapsWith e none pos.line X.env = pure false := by rfl) : S X B (.Expr e pos) ρ P := .of (ps_expr pe_w hs) fun σ HF H Sl b D o => he σ HF H Sl (fun HF' H' S' f => hW σ HF' H' S' (b.fw f)) _
theorem s_setX (i : Nat) {y : Str} (he : EX X C W e ρ ρ1) (hW : ∀ σ HF H, Sl X.K ρ1 σ HF H → Bn B ρ1 σ HF H → W (.ref C) none σ H) (hN : X.N.Nodup) (hi : X.N[i]? = some y := by rfl) (hx : Loc X.env.scope y := by first | exact Or.inl rfl | exact Or.inr rfl)
    (hs : swapsWith e (some (.Name y pos')) pos.line X.env = pure false := by rfl) (hf : X.fn y = true ∨ X.env.scope.names.lookup y = some .local := by first | exact .inl rfl | exact .inr rfl) : S X B (.Assign [.Name y pos'] e pos) ρ P :=
  .of (ps_set hN hi hx pe_w hs hf) fun σ HF H Sl b D o => he σ HF H Sl (fun HF' H' S' f => hW σ HF' H' S' (b.fw f)) _
theorem s_asgX {tg : Expr} (he : EX X C W e ρ ρ1) (hW : ∀ σ HF H, Sl X.K ρ1 σ HF H → Bn B ρ1 σ HF H → W (.ref C) none σ H) (hs : swapsWithSole [tg] e pos.line X.env = pure false := by rfl) (hw : swappedStores [tg] e X.env = pure none := by rfl)
    (h1 : (assignEach [tg] X.env).map (·.2) = [assign tg X.env] := by rfl) : S X B (.Assign [tg] e pos) ρ P := .of (ps_asg pe_w pg_w hs hw h1) fun σ HF H Sl b D o => he σ HF H Sl (fun HF' H' S' f => hW σ HF' H' S' (b.fw f)) _
theorem s_retX (he : EX X C W e ρ ρ1) (hW : ∀ σ HF H, Sl X.K ρ1 σ HF H → Bn B ρ1 σ HF H → W (.ref C) none σ H) : S X B (.Return (some e) pos) ρ P := .of (ps_ret pe_w) fun σ HF H Sl b D o => he σ HF H Sl (fun HF' H' S' f => hW σ HF' H' S' (b.fw f)) _
/-- try: e; except x: .. , e raises -/
theorem s_try1 {b0 : Stmt} {suite : List Stmt} {np p1 p2 : Pos} (T : ExcT X.K X.mg x C) (he : ∀ (W : WX) (pn : List (Addr × Obj)) (xe : Value → Shared → Prop), Takes (X.tr pn xe) W → EX (X.tr pn xe) C W e ρ ρ1)
    (hsu : ∀ (a : Addr) (oe : Obj) (pn : List (Addr × Obj)), Ss (X.suite a ((a, oe) :: pn)) B (b0 :: suite) ρ1 P) (hs : X.stack = X.env :: X.outer := by rfl) (hf : X.env.frame = some X.env.locals := by rfl) (hg : Gl X x := by rfl) (hdb : (x == ("__debug__" : Str)) = false := by decide)
    (hsw : swapsWith e none p1.line X.env = pure false := by rfl) : S X B (.Try [.Expr e p1] [.ExceptHandler (some (.Name x np)) none (b0 :: suite) p2] [] [] pos) ρ P :=
  .of (ps_try_only (Wout := fun _ _ _ _ => False) (tb := fun W D σ H => ∀ pn xe, Takes (X.tr pn xe) W → wSs (X.tr pn xe) [.Expr e p1] D σ H) (ts := fun a cls d D σ H => ∀ oe pn, wSs (X.suite a ((a, oe) :: pn)) (b0 :: suite) D σ H) hs hf ⟨hg, hdb, .inl T.g⟩ takes0
    (fun W pn xe tk _ => ⟨fun pins s σ H D I h => (pss_w (X := X.tr pn xe) (st := [.Expr e p1])).run pins s σ H D I (h pn xe tk)⟩)
    (fun a oe cls d pn _ _ => ⟨fun pins s σ H D I h => (pss_w (X := X.suite a ((a, oe) :: pn)) (st := b0 :: suite)).run pins s σ H D I (h oe pn)⟩)) fun σ HF H S1 b D o => fun pn xe tk =>
  ⟨_, pss_one (ps_expr pe_w hsw), he _ pn xe tk σ HF H S1 (fun HF' H' S' f => ⟨true, T.self, fun _ a _ oe pn' => hsu a oe pn' σ HF' H' S' (b.fw f) D (o.up f.hf), fun z => nomatch z⟩) _⟩
end
end Th

set_option Elab.async false
set_option linter.all false
set_option maxRecDepth 100000
namespace Th
open PySem PySem.Spec PyProof.Rows L2

/-! rows of steps -/
theorem Run.snoc {l e e' : List Int} {ss : List Stp} {h g : Int} {w : Wd} {i : Int} (r : Run l ss e h) (hl : e.length ≤ 1000) (hs : stepF e w i = some (e', g)) : Run l (ss ++ [(w, i)]) e' (h + g) := by
  induction r with
  | nil =>
    have := Run.cons hl hs .nil
    rwa [show g + 0 = 0 + g by omega] at this
  | cons h1 h2 _ ih =>
    have := Run.cons h1 h2 (ih hl hs)
    rwa [← Int.add_assoc] at this
theorem Run.val {l e : List Int} {ss : List Stp} {h : Int} (r : Run l ss e h) : valF e = valF l := by
  induction r with
  | nil => rfl
  | cons _ h2 _ ih => exact ih.trans (stepF_val h2)
theorem Run.sum {l e : List Int} {ss : List Stp} {h : Int} (r : Run l ss e h) : sumV l = rz h (sumV e) := by
  induction r with
  | nil => exact (rz_zero _).symm
  | cons _ h2 _ ih => rw [stepF_sum h2, ih, ← rz_add]
theorem Run.sums {l e : List Int} {ss : List Stp} {h : Int} (r : Run l ss e h) : sumP l = (raiseT h (sumP e).1, raiseT h (sumP e).2) := by
  have h3 := r.sum
  rw [← sumP_cf, ← sumP_cf] at h3
  have c1 := sumP_can l
  have c2 := sumP_can e
  refine Prod.ext (can_ext c1.1 (raise_can c2.1) fun k => ?_) (can_ext c1.2 (raise_can c2.2) fun k => ?_)
  · rw [cf_raise]
    exact congrFun (congrArg Prod.fst h3) k
  · rw [cf_raise]
    exact congrFun (congrArg Prod.snd h3) k
theorem step_bd {p r : List Int} {n b : Int} {w : Wd} {l' : List Int} {h : Int} (hs : stepN p n b r w = some (l', h)) : asum l' ≤ asum (p ++ n :: b :: r) + 1 ∧ l'.length ≤ (p ++ n :: b :: r).length + 1 := by
  rw [asum_app, asum, asum]
  cases w with
  | two => cases hs
  | one =>
    simp only [stepN] at hs
    split at hs
    · cases hs
      rcases nil_or p with rfl | ⟨q, a, rfl⟩
      · rw [decL_nil]; simp only [List.nil_append, asum, List.length_cons]; exact ⟨by omega, by omega⟩
      · rw [decL_app]; simp only [asum_app, asum, List.length_append, List.length_cons, List.length_nil]; exact ⟨by omega, by omega⟩
    · cases hs
  | less =>
    simp only [stepN] at hs
    split at hs
    · cases hs
      rcases nil_or p with rfl | ⟨q, a, rfl⟩
      · rw [decL_nil]; simp only [List.nil_append, asum, List.length_cons]; exact ⟨by omega, by omega⟩
      · rw [decL_app]; simp only [asum_app, asum, List.length_append, List.length_cons, List.length_nil]; exact ⟨by omega, by omega⟩
    · cases hs
  | nought =>
    simp only [stepN] at hs
    split at hs
    · split at hs
      · rename_i hp
        subst hp
        split at hs
        · cases hs
          simp only [List.nil_append, asum, List.length_cons]; exact ⟨by omega, by omega⟩
        · cases hs
      · rename_i hp
        cases hs
        rcases nil_or p with rfl | ⟨q, a, rfl⟩
        · exact (hp rfl).elim
        · rw [decL_app]; simp only [asum_app, asum, List.length_append, List.length_cons, List.length_nil]; exact ⟨by omega, by omega⟩
    · cases hs
  | loose =>
    simp only [stepN] at hs
    split at hs
    · rename_i h0
      obtain ⟨rfl, rfl⟩ := h0
      cases hs
      simp only [List.nil_append, asum, List.length_cons]; exact ⟨by omega, by omega⟩
    · cases hs
  | split =>
    simp only [stepN] at hs
    split at hs
    · cases hs
      simp only [asum_app, asum, List.length_append, List.length_cons]; exact ⟨by omega, by omega⟩
    · cases hs
theorem stepF_bd {l l' : List Int} {w : Wd} {i h : Int} (hs : stepF l w i = some (l', h)) : asum l' ≤ asum l + 1 ∧ l'.length ≤ l.length + 1 := by
  obtain ⟨p, n, b, s, rfl, rfl, hs2⟩ := stepF_cut hs
  exact step_bd hs2

/-! how far powers go -/
def Near (B : Nat) (a : List Tm) : Prop := ∀ t ∈ a, -(B : Int) ≤ t.1 ∧ t.1 ≤ B
theorem inc_len : ∀ (a : List Int) (lo hi : Int), a.Pairwise (· < ·) → (∀ x ∈ a, lo ≤ x ∧ x ≤ hi) → lo ≤ hi + 1 → (a.length : Int) ≤ hi + 1 - lo
  | [], lo, hi, _, _, h => by simp; omega
  | x :: a, lo, hi, hp, hb, h => by
    have hp := List.pairwise_cons.mp hp
    have hx := hb x List.mem_cons_self
    have := inc_len a (x + 1) hi hp.2 (fun y hy => ⟨by have := hp.1 y hy; omega, (hb y (List.mem_cons_of_mem _ hy)).2⟩) (by omega)
    rw [List.length_cons]
    omega
theorem near_len {B : Nat} {a : List Tm} (c : Can a) (h : Near B a) : a.length ≤ 2 * B + 1 := by
  have := inc_len (a.map (·.1)) (-(B : Int)) B c.1 (fun x hx => by
    obtain ⟨t, ht, rfl⟩ := List.mem_map.mp hx
    exact h t ht) (by omega)
  rw [List.length_map] at this
  omega
theorem near_lift {B : Nat} {a : List Tm} {k : Int} (h : Near B a) (hk : k.natAbs ≤ 3) : Near (B + 3) (liftT k a) := fun t ht => by
  obtain ⟨u, hu, rfl⟩ := List.mem_map.mp ht
  have := h u hu
  dsimp only
  omega
theorem near_half {B : Nat} {v : P2} {way : Int} (h : Near B v.1 ∧ Near B v.2) (hw : way = 1 ∨ way = -1) : Near (B + 3) (halfT way v).1 ∧ Near (B + 3) (halfT way v).2 := by
  refine ⟨near_lift h.1 (by omega), fun t ht => ?_⟩
  have := gat_pow ht
  rw [List.map_append] at this
  rcases List.mem_append.mp this with z | z
  · obtain ⟨u, hu, e⟩ := List.mem_map.mp z
    have := near_lift h.1 (k := way) (by omega) u hu
    rw [← e]
    exact this
  · obtain ⟨u, hu, e⟩ := List.mem_map.mp z
    obtain ⟨u', hu', rfl⟩ := List.mem_map.mp hu
    have := near_lift h.2 (k := 3 * way) (by omega) u' hu'
    rw [← e]
    exact this
theorem near_halfs {v : P2} {way : Int} {B : Nat} (h : Near B v.1 ∧ Near B v.2) (hw : way = 1 ∨ way = -1) : ∀ n, Near (B + 3 * n) (halfs way n v).1 ∧ Near (B + 3 * n) (halfs way n v).2
  | 0 => h
  | n + 1 => near_half (near_halfs h hw n) hw
theorem wayOf_or (n : Int) : wayOf n = 1 ∨ wayOf n = -1 := by unfold wayOf; split <;> simp
theorem near_fold : ∀ (l : List Int) (v : P2) (B : Nat), Near B v.1 ∧ Near B v.2 → Near (B + 3 * asum l) (l.foldl stP v).1 ∧ Near (B + 3 * asum l) (l.foldl stP v).2
  | [], v, B, h => h
  | n :: l, v, B, h => by
    have := near_fold l (stP v n) (B + 3 * n.natAbs) (near_halfs (v := sw2 v) ⟨h.2, h.1⟩ (wayOf_or n) n.natAbs)
    rw [List.foldl_cons, asum]
    rwa [show B + 3 * (n.natAbs + asum l) = B + 3 * n.natAbs + 3 * asum l by omega]
theorem near_p0 : Near 0 p0.1 ∧ Near 0 p0.2 := ⟨fun _ z => (nomatch z), fun t ht => by
  have ht : t = (0, 1) := List.mem_singleton.mp ht
  subst ht
  exact ⟨by decide, by decide⟩⟩
theorem near_sum (l : List Int) : Near (3 * asum l) (sumP l).1 ∧ Near (3 * asum l) (sumP l).2 := by
  have := near_fold l p0 0 near_p0
  rwa [Nat.zero_add] at this
theorem sum_len (l : List Int) : (sumP l).1.length ≤ 6 * asum l + 1 ∧ (sumP l).2.length ≤ 6 * asum l + 1 := by
  have h := near_sum l
  have c := sumP_can l
  have h1 := near_len c.1 h.1
  have h2 := near_len c.2 h.2
  omega
def fTwistedSums2 : List PyData → A → Prop := fun ds r => ∃ l : List Int, (l ≠ [] ∧ l.length ≤ 1000 ∧ asum l ≤ 1000) ∧ ds = [encL l] ∧ r = .d (.tuple [encP (sumP l).1, encP (sumP l).2])

/-! told or refused -/
def stepD : Option (List Int × Int) → PyData
  | none => .none
  | some (l, h) => .tuple [encL l, .int h]
theorem E.stepA {X : Cx} {e : Expr} {ρ ρ1 : Rho} {o : Option (List Int × Int)} (h : E X e ρ (stepA o) ρ1) : E X e ρ (.d (stepD o)) ρ1 := by
  cases o with
  | none => exact h
  | some p => exact E.to (E.tw h) rfl
theorem some_stepD (o : Option (List Int × Int)) : someB (stepD o) = o.isSome := by cases o <;> rfl
def GStepR : List PyData → Prop := fun ds => ∃ (l : List Int) (w : Wd) (i : Int), (l.length ≤ 1000 ∧ stepF l w i = none) ∧ ds = [encL l, encSt (w, i)]
def GNoughtR : List PyData → Prop := fun ds => ∃ (b : Int) (r : List Int), (r.length ≤ 1000 ∧ ¬ (b = 0 ∧ r ≠ [])) ∧ ds = [encL (0 :: b :: r), .int 0]
def GLooseR : List PyData → Prop := fun ds => ∃ (l : List Int) (i : Int), 0 < i ∧ ds = [encL l, .int i]
def GLedR : List PyData → Prop := fun ds => ∃ (l : List Int) (ss : List Stp) (e : List Int) (h : Int) (w : Wd) (i : Int), (Run l ss e h ∧ e.length ≤ 1000 ∧ stepF e w i = none) ∧ ds = [encL l, .list ((ss ++ [(w, i)]).map encSt)]
def fLed0 : List PyData → A → Prop := fun ds r => ∃ l : List Int, ds = [encL l, .list []] ∧ r = .tw [.inl (l.map .int), .inr (.int 0)]
def wds : List Wd := [.one, .less, .nought, .loose, .split]
def someF (l : List Int) : List Stp := ((List.range l.length).map fun i : Nat => (wds.filter fun w => (stepF l w i).isSome).map fun w => (w, (i : Int))).flatten
def fSome : List PyData → A → Prop := fun ds r => ∃ l : List Int, l.length ≤ 1000 ∧ ds = [encL l] ∧ r = .ml ((someF l).map encSt)
theorem someF_ok {l : List Int} {p : Stp} (h : p ∈ someF l) : ∃ l' g, stepF l p.1 p.2 = some (l', g) := by
  unfold someF at h
  obtain ⟨s, h1, h2⟩ := List.mem_flatten.mp h
  obtain ⟨i, _, rfl⟩ := List.mem_map.mp h1
  obtain ⟨w, hw, rfl⟩ := List.mem_map.mp h2
  have := (List.mem_filter.mp hw).2
  dsimp only
  cases q : stepF l w i with
  | none => rw [q] at this; cases this
  | some r => exact ⟨r.1, r.2, rfl⟩
end Th

set_option Elab.async false
set_option linter.all false
set_option maxRecDepth 100000
namespace Th
open PySem PySem.Spec PyProof.Rows L2

/-! an error that is kept behind its clause -/
def ExL (cls : Value) (d : Option Addr) (a : Addr) : HO := .ext fun h => ∃ (oe : Obj) (vs : Array Value), h.get? a = some oe ∧ Zc cls d oe ∧ oe.data = .fields vs
theorem exL_ok {P : Program} {w : World} {H : Hp} {h : Heap} {a : Addr} {cls : Value} {d : Option Addr} {oe : Obj} {vs : Array Value} (e : h.get? a = some oe) (z : Zc cls d oe) (f : oe.data = .fields vs) : ObjOk P w H h a (ExL cls d a) :=
  ⟨⟨oe, vs, e, z, f⟩, ⟨oe, e⟩, fun _ _ ⟨o, v, q, r⟩ k => ⟨o, v, k o q, r⟩⟩
section
variable {X : Cx} {pins : List (Addr × Obj)} {σ : L2.St} {H : Hp} {s : Shared} {a : Addr} {o : HO}
theorem track (I : Inv X pins σ H s) {oe : Obj} {vs : Array Value} (he : s.heap.get? a = some oe) (hd : oe.data = .fields vs) (na : H a = none) (nL : a ≠ X.env.locals) (new : X.s_0.heap.get? a = none) (np : ∀ p ∈ X.pn ++ pins, p.1 ≠ a) (ob : ObjOk X.prog X.w (upd H a o) s.heap a o) : Inv X pins σ (upd H a o) s := by
  have nn : ∀ {b : Addr} {u : HO}, H b = some u → upd H a o b = some u := fun {b u} q => by rw [upd_ne (ne_of_none q na)]; exact q
  have n0 : ∀ {b : Addr} {u : Obj}, X.s_0.heap.get? b = some u → b ≠ a := fun {b u} q z => by rw [z, new] at q; cases q
  refine ⟨I.ok, I.os, I.bare, ⟨fun b u e n f g => I.base.keep b u e ?_ f g, fun b u e n f g => I.base.slot b u e ?_ f g, fun b u e n g => ?_, I.base.there, fun b xs e => nn (I.base.tups b xs e), fun b u xs e => nn (I.base.frzs b u xs e), fun b ps e => ?_⟩, I.loc, I.cell, ?_, fun x c e => ?_, fun p hp => ?_, fun b u e => ?_, I.len⟩
  · first | exact n | (rw [upd_ne (n0 e)] at n; exact n)
  · first | exact n | (rw [upd_ne (n0 e)] at n; exact n)
  · rw [upd_ne (n0 e)]
    exact I.base.free b u e n g
  · obtain ⟨m, q⟩ := I.base.tbls b ps e
    exact ⟨m, nn q⟩
  · rw [upd_ne fun z => nL z.symm]
    exact I.free
  · have hc : c ≠ a := fun z => by
      obtain ⟨v, o', e', d'⟩ := I.cell x c e
      rw [z, he] at e'
      cases e'
      rw [hd] at d'
      cases d'
    rw [upd_ne hc]
    exact I.freeC x c e
  · obtain ⟨q1, q2, q3⟩ := I.pin p hp
    exact ⟨q1, by rw [upd_ne (np p hp)]; exact q2, q3⟩
  · by_cases hb : b = a
    · subst hb
      rw [upd_same] at e
      cases e
      exact ob
    · rw [upd_ne hb] at e
      exact (I.hok b u e).stay (fun _ _ _ q => q) (fun _ q => nn q) fun _ _ q => nn q
end
/-- what the clause wishes: behind it slot j holds the error, which is tracked -/
def wTold (K : PySem.W.Frag) (c : Value) (i j : Nat) (D : Ends) : WX := fun cls d σ H => PySem.W.exmOne K cls c = some true ∧ ∀ a, H a = none → D.nx (((σ.set i (some (V.ref a))).set j (some (V.ref a))).set i none) (upd H a (ExL cls d a))
def EN : Ends := { nx := fun _ _ => False, rt := fun _ _ => False }
section
variable {X : Cx} {x n y : Str} {c : Value} {i j : Nat} {body : List Stmt} {np pos pos' p1 p2 p3 : Pos} {tb : WX → TS}
theorem ps_try_told (hs : X.stack = X.env :: X.outer) (hf : X.env.frame = some X.env.locals) (hN : X.N.Nodup) (hi : X.N[i]? = some n) (hj : X.N[j]? = some y) (hln : X.env.kindOf n = some .local) (hly : X.env.kindOf y = some .local) (hc : Names X x c) (hex : X.ex = [])
    (hd1 : (n == ("__debug__" : Str)) = false) (hd2 : (n == ("__classdict__" : Str)) = false) (hil : ∀ σ : L2.St, σ.length = X.N.length → i < σ.length)
    (hb : ∀ (W : WX) (pn : List (Addr × Obj)) (xe : Value → Shared → Prop), Takes (X.tr pn xe) W → PSs (X.tr pn xe) body (tb W))
    (hsw : ∀ (a : Addr) (pn : List (Addr × Obj)), swapsWith (.Name n p1) (some (.Name y p2)) p3.line (X.suite a pn).env = pure false) :
    PS X (.Try body [.ExceptHandler (some (.Name x np)) (some n) [.Assign [.Name y p2] (.Name n p1) p3] pos'] [] [] pos) (fun D σ H => tb (wTold X.K c i j D) EN σ H) := by
  refine ⟨fun pins s σ H D I h => ?_⟩
  have ok := I.ok
  have fr : X.A.frames = some (X.env :: X.outer) := ok.frames.trans (congrArg some hs)
  have lc : Loc X.env.scope n := .inl hln
  refine wpAny_Try_except (wpAny_mono ((hb (wTold X.K c i j D) (X.pn ++ pins) (fun e u1 => wpAny (model X.prog X.w) X.A (noteFrame e X.env) (fun _ u2 => wpAny (model X.prog X.w) X.A (setFlight e none) (fun _ u3 => wpAny (model X.prog X.w) X.A (handleBy e X.env [.ExceptHandler (some (.Name x np)) (some n) [.Assign [.Name y p2] (.Name n p1) p3] pos']) (SP X pins D) X.xe u3) X.xe u2) X.xe u1) (fun u s1 air => ?air)).run [] s σ H EN (I.toTry _) h) (fun f s1 z => ?thru) fun _ _ z => z)
  case thru =>
    cases f with
    | next => obtain ⟨_, _, _, q⟩ := z; exact q.elim
    | brk => obtain ⟨_, _, _, q⟩ := z; exact q.elim
    | cont => obtain ⟨_, _, _, q⟩ := z; exact q.elim
    | ret v => obtain ⟨_, _, _, _, _, q⟩ := z; exact q.elim
  obtain ⟨a, B, sI, pins1, σ1, H1, cls, d, rfl, J0, nb, up, sky, na, os, ag, hex1, hnx⟩ := air
  have J : Inv X pins σ1 H1 sI := J0.ofTry ok
  have ground : B.get? a = none ∧ ∀ b o, sI.heap.get? b = some o → b ∉ frs X.stack → b ≠ a := by
    have key : B.get? a = none := by
      rcases sky with ⟨_, e, _⟩ | fl | hh
      · exact e
      · exact fl.2.1
      · exact hh.2.1
    exact ⟨key, fun b o e g z => by have := nb b o e g; rw [z, key] at this; cases this⟩
  rw [show (X.tr (X.pn ++ pins) _).stack = X.env :: X.outer from hs] at sky
  show wpAny _ X.A (noteFrame (.ref a) X.env) _ _ _
  refine Sky.land Zc.steady fr hf sky fun g3 f3 u3 => ?_
  have J3 : Inv X pins σ1 H1 { s1 with heap := g3 } := J.landed nb f3.1 (up.trans u3) os ag
  obtain ⟨o3, w3, e3, z3, d3⟩ := f3.there
  have nofr : a ∉ frs (X.env :: X.outer) := fun hm => by
    obtain ⟨_, o', e', hnf⟩ := f3.2.2.1.mem hm
    rw [e3] at e'
    cases e'
    exact hnf _ d3
  have nL : a ≠ X.env.locals := fun z => nofr (List.mem_filterMap.mpr ⟨X.env, List.mem_cons_self, hf.trans (congrArg some z.symm)⟩)
  have nF : a ∉ X.fs := fun hm => by
    obtain ⟨v, hv, q⟩ := List.mem_filterMap.mp hm
    exact nofr (List.mem_filterMap.mpr ⟨v, List.mem_cons_of_mem _ hv, q⟩)
  have new : X.s_0.heap.get? a = none := by
    cases e : X.s_0.heap.get? a with
    | none => rfl
    | some o =>
      obtain ⟨o', e'⟩ := J.base.there a o e (by rw [hex]; exact fun z => nomatch z)
      exact (ground.2 a o' e' (by rw [hs]; exact nofr) rfl).elim
  have nop : ∀ p ∈ X.pn ++ pins, p.1 ≠ a := fun p hp z => ground.2 a p.2 (by rw [← z]; exact (J0.pin p (List.mem_append_left _ hp)).1) (by rw [hs]; exact nofr) rfl
  have S3 := J3.suite e3 d3 na nL nF
  refine wpAny_handleBy_cons (codeAny_handlers_test ?_) fun q => nomatch q
  have look : PySem.W.Looks (model X.prog X.w) g3 (typeOf (.ref a)) cls := fun A Q E s k q => wpAny_typeOf_ref (k _ _ e3) (z3.1.symm ▸ q)
  have good := PySem.W.exm_one (M := model X.prog X.w) J3.kIn look hex1
  have asked : ∀ {Q : Value → Shared → Prop} {E : Value → Shared → Prop}, Q c { s1 with heap := g3 } → wpAny (model X.prog X.w) (X.A.mark (some (.ref a))) (eval (.Name x np) X.env) Q E { s1 with heap := g3 } := fun q => by
    obtain ⟨m1, m2, m3 | ⟨m3, m4, m5⟩⟩ := hc
    · exact ld_glob (X := X.suite a _) S3 m1 m3 q m2
    · exact ld_blt (X := X.suite a _) S3 m1 m3 m4 q m5 m2
  refine asked (good.here (codeAny_handlers_suite_as (HandSPX.lands_againZ f3 fun g4 f4 u4 => ?_)))
  have J4 : Inv X pins σ1 H1 { s1 with heap := g4 } := J.landed nb f4.1 ((up.trans u3).trans u4) os ag
  obtain ⟨o4, w4, e4, z4, d4⟩ := f4.there
  have S4 := J4.suite e4 d4 na nL nF
  refine store_ok (X := X.suite a ((a, o4) :: (X.pn ++ pins))) (v := .ref a) S4 hN hi lc rfl (fun s5 S5 => ?_) (.inr hln)
  have hlen : σ1.length = X.N.length := J.len
  have run := (pss_one (ps_set (X := X.suite a ((a, o4) :: (X.pn ++ pins))) (i := j) (pos' := p2) (pos := p3) hN hj (.inl hly) (pe_var (X := X.suite a ((a, o4) :: (X.pn ++ pins))) (pos := p1) hi (.inl hln) hd1 hd2) (hsw _ _) (.inr hly))).run [] s5 (σ1.set i (some (.ref a))) H1 { nx := fun σ6 H6 => σ6 = (σ1.set i (some (V.ref a))).set j (some (V.ref a)) ∧ H6 = H1, rt := fun _ _ => False } S5 ⟨.ref a, List.getElem?_set_self (hil σ1 hlen), rfl, rfl⟩
  refine wpAny_mono run (fun f s6 z => ?_) fun _ _ z => z.elim
  cases f with
  | next =>
    obtain ⟨σ6, H6, S6, rfl, rfl⟩ := z
    have K6 : Inv X pins _ H6 s6 := S6.unsuite ok
    have e6 : s6.heap.get? a = some o4 := (S6.pin (a, o4) (List.mem_append_left _ List.mem_cons_self)).1
    have T6 := track (o := ExL cls d a) K6 e6 d4 na nL new nop (exL_ok e6 z4 d4)
    exact gone_ok T6 hN hi hln fun s7 J7 => ⟨_, _, J7, hnx a na⟩
  | brk => obtain ⟨_, _, _, q⟩ := z; exact q.elim
  | cont => obtain ⟨_, _, _, q⟩ := z; exact q.elim
  | ret v => obtain ⟨_, _, _, _, _, q⟩ := z; exact q.elim
end
end Th

set_option Elab.async false
set_option linter.all false
set_option maxRecDepth 100000
namespace Th
open PySem PySem.Spec PyProof.Rows L2

/-! isinstance of an error that is kept -/
def rIsL (K : PySem.W.Frag) : List V → Hp → VK → Prop := fun xs H Q => ∃ (a D : Addr) (c : V) (cv : Value) (b : Bool), xs = [.ref a, c] ∧ H a = some (ExL (.ref D) none a) ∧ ExcC K D ∧ ClsV c cv ∧ PySem.W.kitOne K (.ref D) cv = some b ∧ Q (.bl b) H
def rIsLT (K : PySem.W.Frag) : List V → Hp → VK → Prop := fun xs H Q => ∃ (a D tp : Addr) (cs : List V) (us : List Value) (b : Bool), xs = [.ref a, .ref tp] ∧ H a = some (ExL (.ref D) none a) ∧ ExcC K D ∧ H tp = some (.tup cs) ∧ Paired ClsV cs us ∧ PySem.W.kitAny K (.ref D) us = some b ∧ Q (.bl b) H
theorem instL {X : Cx} {pins : List (Addr × Obj)} {σ : L2.St} {H : Hp} {s : Shared} {a D : Addr} (I : Inv X pins σ H s) (e : H a = some (ExL (.ref D) none a)) : ∃ oe, PySem.W.InstAt s.heap a oe D none := by
  obtain ⟨⟨oe, vs, h1, h2, h3⟩, _⟩ := (show ObjOk X.prog X.w H s.heap a (ExL (.ref D) none a) from I.hok a _ e)
  obtain ⟨oc, od, oda, osl⟩ := oe
  obtain ⟨k1, k2⟩ := h2
  dsimp only at k1 k2 h3
  subst k1 k2 h3
  exact ⟨_, h1, rfl, rfl, trivial⟩
theorem call_isL {X : Cx} : CallR X (.builtin "isinstance") (rIsL X.K) := by
  intro pins s σ H xs us Q I r h
  obtain ⟨a, D, c, cv, b, rfl, ha, C, hc, e, q⟩ := h
  cases r with
  | cons rx rr =>
    cases rr with
    | cons rt rr =>
      cases rr
      cases rx
      have := hc.eq rt
      subst this
      obtain ⟨oe, J⟩ := instL I ha
      exact PySem.W.kia_one (PySem.W.handS_kitx_exc C.hg C.hk C.hs C.hd C.ha C.hn C.ht C.hm) I.kIn J e (fun z => nomatch z) fun tk => ⟨.bl b, H, I.tok tk, rfl, q⟩
theorem call_isLT {X : Cx} : CallR X (.builtin "isinstance") (rIsLT X.K) := by
  intro pins s σ H xs us Q I r h
  obtain ⟨a, D, tp, cs, ws, b, rfl, ha, C, hT, hc, e, q⟩ := h
  cases r with
  | cons rx rr =>
    cases rr with
    | cons rt rr =>
      cases rr
      cases rx
      cases rt
      obtain ⟨oe, J⟩ := instL I ha
      obtain ⟨_, its, rv, o, h1, h2, n, h3⟩ := (show ObjOk X.prog X.w H s.heap tp (.tup cs) from I.hok tp _ hT)
      have := ClsV.all hc rv
      subst this
      obtain ⟨oc, od, dt, sl⟩ := o
      simp only at h2 h3
      subst h2
      subst h3
      exact PySem.W.kia_tup (PySem.W.handS_kitx_exc C.hg C.hk C.hs C.hd C.ha C.hn C.ht C.hm) I.kIn J h1 e (fun z => nomatch z) fun tk => ⟨.bl b, H, I.tok tk, rfl, q⟩

/-- a class above -/
structure SupT (K : PySem.W.Frag) (mg : Str → Option Value) (x : Str) (C D : Addr) : Prop where
  g : mg x = some (.ref C)
  sb : PySem.W.subIn K (.ref C) (.type "BaseException") = some true
  ty : PySem.W.typeIn K (.ref C) = some (.type "type")
  cl : PySem.W.isClsIn K C = true
  sd : PySem.W.subIn K (.ref D) (.ref C) = some true
/-- a class beside -/
structure OthT (K : PySem.W.Frag) (mg : Str → Option Value) (x : Str) (C D : Addr) : Prop where
  g : mg x = some (.ref C)
  ty : PySem.W.typeIn K (.ref C) = some (.type "type")
  cl : PySem.W.isClsIn K C = true
  sd : PySem.W.subIn K (.ref D) (.ref C) = some false
  ss : PySem.W.subIn K (.ref D) (.ref D) = some true
theorem SupT.exm {K : PySem.W.Frag} {mg : Str → Option Value} {x : Str} {C D : Addr} (T : SupT K mg x C D) : PySem.W.exmOne K (.ref D) (.ref C) = some true := by
  have h2 : (PySem.W.clsIn K C).isSome = true := T.cl
  show (if (PySem.W.subIn K (.ref C) (.type "BaseException") == some true) = true then (if ((PySem.W.clsIn K C).isSome && PySem.W.typeIn K (.ref C) == some (.type "type")) = true then PySem.W.subIn K (.ref D) (.ref C) else none) else none) = some true
  rw [T.sb, h2, T.ty, T.sd] <;> rfl
theorem OthT.kit {K : PySem.W.Frag} {mg : Str → Option Value} {x : Str} {C D : Addr} (T : OthT K mg x C D) : PySem.W.kitOne K (.ref D) (.ref C) = some false := by
  have hne : ¬ (Value.ref D == Value.ref C) = true := fun z => by
    have e : D = C := Value.ref.inj (beq_iff_eq.mp z)
    have h1 := T.sd
    rw [← e, T.ss] at h1
    cases h1
  have h2 : (PySem.W.clsIn K C).isSome = true := T.cl
  unfold PySem.W.kitOne
  rw [if_neg hne]
  show (if ((PySem.W.clsIn K C).isSome && PySem.W.typeIn K (.ref C) == some (.type "type")) = true then PySem.W.subIn K (.ref D) (.ref C) else none) = some false
  rw [h2, T.ty, T.sd] <;> rfl
theorem kit_own {K : PySem.W.Frag} {D : Addr} : PySem.W.kitOne K (.ref D) (.ref D) = some true := by
  unfold PySem.W.kitOne
  rw [if_pos (beq_self_eq_true _)]
theorem kit_ve {K : PySem.W.Frag} {D : Addr} (h : PySem.W.subIn K (.ref D) (.type "ValueError") = some true) : PySem.W.kitOne K (.ref D) (.type "ValueError") = some true := by
  have hne : ¬ (Value.ref D == Value.type "ValueError") = true := fun z => by cases (beq_iff_eq.mp z)
  unfold PySem.W.kitOne
  rw [if_neg hne]
  show (if PySem.W.kitMeta "ValueError" = true then PySem.W.subIn K (.ref D) (.type "ValueError") else none) = some true
  rw [if_pos (by decide +kernel), h]

/-! slot j holds such an error -/
structure TdIn (D : Addr) (j : Nat) (ρ : Rho) (σ : L2.St) (H : Hp) : Prop where
  ex : ∃ a, σ[j]? = some (some (V.ref a)) ∧ H a = some (ExL (.ref D) none a) ∧ ¬ OwnAt ρ σ a
section
variable {X : Cx} {B : Bs} {P : Pst} {ρ ρ1 ρ2 : Rho} {e c e1 e2 : Expr} {es rest sts : List Stmt} {s1 : List Stmt} {pos pos' p1 p2 p3 pn pt : Pos} {D : Addr} {j : Nat} {x y : Str} {b b2 : Bool} {l : List (List PyData ⊕ PyData)} {i : Nat}
def Td (X : Cx) (B : Bs) (j : Nat) (D : Addr) (sts : List Stmt) (ρ : Rho) (P : Pst) : Prop := ∀ σ HF H, Sl X.K ρ σ HF H → Bn B ρ σ HF H → TdIn D j ρ σ H → ∀ Dd, Ok X.K B HF Dd P → wSs X sts Dd σ H
theorem td_end (h : Ss X B sts ρ P) : Td X B j D sts ρ P := fun σ HF H S b _ Dd o => h σ HF H S b Dd o
def ETd (X : Cx) (j : Nat) (D : Addr) (c : Expr) (ρ : Rho) (b : Bool) : Prop := ∀ σ HF H, Sl X.K ρ σ HF H → TdIn D j ρ σ H → ∀ Q : Bool → Hp → Prop, (∀ HF' H', Sl X.K ρ σ HF' H' → Fw ρ ρ σ HF H HF' H' → Q b H') → wT X c σ H Q
def EWd (X : Cx) (j : Nat) (D : Addr) (c : Expr) (ρ : Rho) (b : Bool) : Prop := ∀ σ HF H, Sl X.K ρ σ HF H → TdIn D j ρ σ H → ∀ Q : Bool → Hp → Prop, (∀ HF' H', Sl X.K ρ σ HF' H' → Fw ρ ρ σ HF H HF' H' → Q b H') → wW X c σ H Q
theorem TdIn.fw {σ : L2.St} {HF H HF' H' : Hp} (t : TdIn D j ρ σ H) (f : Fw ρ ρ σ HF H HF' H') : TdIn D j ρ σ H' := by
  obtain ⟨a, h1, h2, h3⟩ := t.ex
  exact ⟨a, h1, f.keep a _ h2 h3, h3⟩
theorem td_if (hc : ETd X j D c ρ false) (h : Td X B j D rest ρ P) : Td X B j D (.If c s1 [] pos :: rest) ρ P := fun σ HF H S b t Dd o =>
  ⟨_, pss_cons (ps_if pt_w pss_w pss_nil) pss_w, hc σ HF H S t _ fun HF1 H1 S1 f1 => h σ HF1 H1 S1 (b.fw f1) (t.fw f1) Dd (o.up f1.hf)⟩
theorem td_isN {k : Nat} {p0 : Pos} (hj : X.N[j]? = some y := by rfl) (hv : Vis X.env.scope y := by first | exact Or.inl rfl | exact Or.inr (Or.inl rfl) | exact Or.inr (Or.inr rfl)) (hd : (y == ("__debug__" : Str)) = false := by decide) (hcd : (y == ("__classdict__" : Str)) = false := by decide) : ETd X j D (.Compare (.Name y pos') [.Is] [.Constant .none k p0] pos) ρ false := fun σ HF H S t Q q =>
  ⟨_, pt_cmpR op_isN (pe_var hj hv hd hcd) pe_non (nomark _), by
    obtain ⟨a, h1, h2, h3⟩ := t.ex
    exact ⟨.ref a, h1, rfl, false, rfl, q HF H S (.refl ..)⟩⟩
theorem td_is {T : Expr} {v : V} {cv : Value} (hT : PE X T (tC v)) (hc : ClsV v cv) (C : ExcC X.K D) (hk : PySem.W.kitOne X.K (.ref D) cv = some b) (hm : X.mg "isinstance" = none) (hj : X.N[j]? = some y := by rfl) (hg : Gl X "isinstance" := by rfl)
    (hv : Vis X.env.scope y := by first | exact Or.inl rfl | exact Or.inr (Or.inl rfl) | exact Or.inr (Or.inr rfl)) (hd : (y == ("__debug__" : Str)) = false := by decide) (hcd : (y == ("__classdict__" : Str)) = false := by decide)
    (he : starEach [.Name y pos', T] X.env = (false, eval (.Name y pos') X.env) :: starEach [T] X.env := by rfl) (he2 : starEach [T] X.env = (false, eval T X.env) :: starEach [] X.env := by rfl) (hpl : (backTo pos (starEach [T] X.env)).any (·.1) = false := by rfl)
    (ht : ∀ whole, isTrue (.Call (.Name "isinstance" pn) [.Name y pos', T] [] pos) X.env whole = (do let v ← whole; standAt (Expr.Call (.Name "isinstance" pn) [.Name y pos', T] [] pos).pos; holding [v] (truthy v)) := by intro _; rfl) : ETd X j D (.Call (.Name "isinstance" pn) [.Name y pos', T] [] pos) ρ b := fun σ HF H S t Q q =>
  ⟨_, pt_val (pe_callB call_isL hg hm (by decide +kernel) (pa_cons (pe_var hj hv hd hcd) (pa_cons hT pa_nil he2) he) (by decide) (by decide) he hpl) ht, by
    obtain ⟨a, h1, h2, h3⟩ := t.ex
    exact ⟨.ref a, h1, a, D, v, cv, b, rfl, h2, C, hc, hk, b, rfl, q HF H S (.refl ..)⟩⟩
def tCs : List V → TA
  | [] => tNil
  | v :: vs => tCons (tC v) (tCs vs)
theorem tCs_go : ∀ (vs : List V) (σ : L2.St) (H : Hp) (Q : List V → Hp → Prop), Q vs H → tCs vs σ H Q
  | [], _, _, _, q => q
  | v :: vs, σ, H, Q, q => tCs_go vs σ H (fun xs H1 => Q (v :: xs) H1) q
theorem td_isT {Ts : List Expr} {n : Nat} {vs : List V} {us : List Value} (hT : PA X Ts (tCs vs)) (hc : Paired ClsV vs us) (C : ExcC X.K D) (hk : PySem.W.kitAny X.K (.ref D) us = some b) (hm : X.mg "isinstance" = none) (hj : X.N[j]? = some y := by rfl) (hg : Gl X "isinstance" := by rfl) (hz : vs.length ≤ sizeLine := by exact Nat.le_of_ble_eq_true rfl)
    (hv : Vis X.env.scope y := by first | exact Or.inl rfl | exact Or.inr (Or.inl rfl) | exact Or.inr (Or.inr rfl)) (hd : (y == ("__debug__" : Str)) = false := by decide) (hcd : (y == ("__classdict__" : Str)) = false := by decide)
    (he : starEach [.Name y pos', .Tuple Ts n pt] X.env = (false, eval (.Name y pos') X.env) :: starEach [.Tuple Ts n pt] X.env := by rfl) (he2 : starEach [.Tuple Ts n pt] X.env = (false, eval (.Tuple Ts n pt) X.env) :: starEach [] X.env := by rfl) (hpl : (backTo pos (starEach [.Tuple Ts n pt] X.env)).any (·.1) = false := by rfl)
    (ht : ∀ whole, isTrue (.Call (.Name "isinstance" pn) [.Name y pos', .Tuple Ts n pt] [] pos) X.env whole = (do let v ← whole; standAt (Expr.Call (.Name "isinstance" pn) [.Name y pos', .Tuple Ts n pt] [] pos).pos; holding [v] (truthy v)) := by intro _; rfl) : ETd X j D (.Call (.Name "isinstance" pn) [.Name y pos', .Tuple Ts n pt] [] pos) ρ b := fun σ HF H S t Q q =>
  ⟨_, pt_val (pe_callB call_isLT hg hm (by decide +kernel) (pa_cons (pe_var hj hv hd hcd) (pa_cons (pe_tup hT) pa_nil he2) he) (by decide) (by decide) he hpl) ht, by
    obtain ⟨a, h1, h2, h3⟩ := t.ex
    refine ⟨.ref a, h1, tCs_go vs σ H _ ⟨hz, fun tp hp => ?_⟩⟩
    obtain ⟨S2, f2⟩ := S.allocD hp (.tup vs)
    exact ⟨a, D, tp, vs, us, b, rfl, f2.keep a _ h2 h3, C, upd_same, hc, hk, b, rfl, q _ _ S2 f2⟩⟩
theorem td_not (h : ETd X j D c ρ b) : ETd X j D (.UnaryOp .Not c pos) ρ (!b) := fun σ HF H S t Q q => ⟨_, pt_not pt_w, h σ HF H S t _ fun HF1 H1 S1 f1 => q HF1 H1 S1 f1⟩
theorem td_w (h : EWd X j D c ρ b) : ETd X j D c ρ b := fun σ HF H S t Q q => ⟨_, PW.pt pw_w, h σ HF H S t Q q⟩
theorem td_or1 (h : ETd X j D c ρ b) : EWd X j D (.BoolOp .Or [c] pos) ρ b := fun σ HF H S t Q q => ⟨_, pw_or1 pt_w, h σ HF H S t Q q⟩
theorem td_or {cs : List Expr} (h : ETd X j D c ρ b) (h2 : EWd X j D (.BoolOp .Or (e1 :: cs) pos) ρ b2) : EWd X j D (.BoolOp .Or (c :: e1 :: cs) pos) ρ (b || b2) := fun σ HF H S t Q q => ⟨_, pw_or pt_w pw_w, h σ HF H S t _ fun HF1 H1 S1 f1 => by
  cases b with
  | false => exact h2 σ HF1 H1 S1 (t.fw f1) Q fun HF2 H2 S2 f2 => q HF2 H2 S2 (f1.trans f2)
  | true => exact q HF1 H1 S1 f1⟩
/-- try: z = e; except x as n: y = n , e raises -/
theorem Bn.wipe1 {σ : L2.St} {HF H : Hp} (b : Bn B ρ σ HF H) (hl : ∀ q ∈ B.L, q.1 ≠ i) : Bn B (ρ.set i .any) (σ.set i none) HF H := by
  refine ⟨b.hf, b.keep, b.new, b.pres, fun k a p h1 h2 h3 => ?_, fun q hq => ?_⟩
  · by_cases hk : i = k
    · subst hk
      have hi : i < ρ.length := by
        have := (List.getElem?_eq_some_iff.mp h1).1
        rw [List.length_set] at this
        exact this
      rw [List.getElem?_set_self hi] at h1
      cases h1
      cases h2
    · rw [List.getElem?_set_ne hk] at h1 h3
      exact b.mine k a p h1 h2 h3
  · rw [List.getElem?_set_ne (hl q hq).symm]
    exact b.lent q hq
theorem s_tryTd (i j z : Nat) {n zn : Str} {C : Addr} {np pz pq : Pos} (T : SupT X.K X.mg x C D) (he : ∀ (W : WX) (pn : List (Addr × Obj)) (xe : Value → Shared → Prop), Takes (X.tr pn xe) W → EX (X.tr pn xe) D W e ρ ρ1) (h : Td X B j D sts (((ρ1.set i .any).set j .any).set i .any) P)
    (hli : ∀ q ∈ B.L, q.1 ≠ i) (hlj : ∀ q ∈ B.L, q.1 ≠ j) (hN : X.N.Nodup) (hij : i ≠ j := by decide) (hi : X.N[i]? = some n := by rfl) (hj : X.N[j]? = some y := by rfl) (hzn : X.N[z]? = some zn := by rfl) (hs : X.stack = X.env :: X.outer := by rfl) (hf : X.env.frame = some X.env.locals := by rfl) (hex : X.ex = [] := by rfl)
    (hln : X.env.kindOf n = some .local := by rfl) (hly : X.env.kindOf y = some .local := by rfl) (hlz : Loc X.env.scope zn := by exact Or.inl rfl) (hfz : X.fn zn = true ∨ X.env.scope.names.lookup zn = some .local := by first | exact .inl rfl | exact .inr rfl) (hg : Gl X x := by rfl) (hdb : (x == ("__debug__" : Str)) = false := by decide) (hd1 : (n == ("__debug__" : Str)) = false := by decide) (hd2 : (n == ("__classdict__" : Str)) = false := by decide)
    (hlen : j < ρ1.length ∧ i < X.N.length := by exact ⟨Nat.le_of_ble_eq_true rfl, Nat.le_of_ble_eq_true rfl⟩) (hsw : ∀ (a : Addr) (pn : List (Addr × Obj)), swapsWith (.Name n p1) (some (.Name y p2)) p3.line (X.suite a pn).env = pure false := by intro _ _; rfl) (hsz : swapsWith e (some (.Name zn pz)) pq.line X.env = pure false := by rfl) :
    Ss X B (.Try [.Assign [.Name zn pz] e pq] [.ExceptHandler (some (.Name x np)) (some n) [.Assign [.Name y p2] (.Name n p1) p3] pos'] [] [] pos :: sts) ρ P := fun σ HF H S1 b Dd o =>
  ⟨_, pss_cons (ps_try_told (tb := fun W Dx σ H => ∀ pn xe, Takes (X.tr pn xe) W → wSs (X.tr pn xe) [.Assign [.Name zn pz] e pq] Dx σ H) hs hf hN hi hj hln hly ⟨hg, hdb, .inl T.g⟩ hex hd1 hd2 (fun σ hl => by rw [hl]; exact hlen.2)
    (fun W pn xe tk => ⟨fun pins s σ H Dx I h => (pss_w (X := X.tr pn xe) (st := [.Assign [.Name zn pz] e pq])).run pins s σ H Dx I (h pn xe tk)⟩) hsw) pss_w, fun pn xe tk =>
    ⟨_, pss_one (ps_set (X := X.tr pn xe) hN hzn hlz pe_w hsz hfz), he _ pn xe tk σ HF H S1 (fun HF' H' S' f => ⟨T.exm, fun a na => by
      obtain ⟨S2, f2⟩ := S'.allocO na (ExL (.ref D) none a)
      have b2 := (b.fw f).fw f2
      have r0 : ∀ Hb, RRel X.K Hb HF' (upd H' a (ExL (.ref D) none a)) (V.ref a) .any := fun _ => trivial
      have S3 := S2.set (i := i) (Hb := upd H' a (ExL (.ref D) none a)) (r0 _) fun p hp w => S2.notOwn hp w
      have b3 := b2.set S2 (r0 _) hli
      have S4 := S3.set (i := j) (Hb := upd H' a (ExL (.ref D) none a)) (r0 _) fun p hp w => S3.notOwn hp w
      have b4 := b3.set S3 (r0 _) hlj
      have S5 : Th.Sl X.K (((ρ1.set i .any).set j .any).set i .any) (((σ.set i (some (V.ref a))).set j (some (V.ref a))).set i none) HF' (upd H' a (ExL (.ref D) none a)) := S4.wipe [i]
      have b5 := b4.wipe1 hli
      refine h _ HF' _ S5 b5 ⟨a, ?_, upd_same, ?_⟩ Dd (o.up f.hf)
      · rw [List.getElem?_set_ne hij, List.getElem?_set_self (by rw [List.length_set, S'.len]; exact hlen.1)]
      · rintro ⟨k, c, k1, k2, k3⟩
        by_cases e1 : i = k
        · subst e1
          have hk := (List.getElem?_eq_some_iff.mp k1).1
          rw [List.length_set] at hk
          rw [List.getElem?_set_self hk] at k1
          cases k1
          cases k2
        · rw [List.getElem?_set_ne e1] at k1 k3
          by_cases e2 : j = k
          · subst e2
            have hk := (List.getElem?_eq_some_iff.mp k1).1
            rw [List.length_set] at hk
            rw [List.getElem?_set_self hk] at k1
            cases k1
            cases k2
          · rw [List.getElem?_set_ne e2, List.getElem?_set_ne e1] at k1 k3
            obtain ⟨_, u, q⟩ := S'.ownAt' ⟨k, c, k1, k2, k3⟩
            rw [na] at q
            cases q⟩) _⟩⟩
end
end Th

set_option Elab.async false
set_option linter.all false
set_option maxRecDepth 100000
namespace Th
open PySem PySem.Spec PyProof.Rows L2

/-! slot i holds a new tuple with new lists, all of it known -/
def TwQ (K : PySem.W.Frag) (B : Bs) (ρ : Rho) (σ : L2.St) (HF H : Hp) (x : V) : List PyData ⊕ PyData → Prop
  | .inl zs => ∃ q us, x = .ref q ∧ B.H0 q = none ∧ HF q = none ∧ ¬ OwnAt ρ σ q ∧ H q = some (.lst us) ∧ DpAll K HF us zs
  | .inr v => Dp K HF x v
structure TwAt (K : PySem.W.Frag) (B : Bs) (i : Nat) (l : List (List PyData ⊕ PyData)) (ρ : Rho) (σ : L2.St) (HF H : Hp) : Prop where
  ex : ∃ t ys, σ[i]? = some (some (V.ref t)) ∧ B.H0 t = none ∧ HF t = none ∧ ¬ OwnAt ρ σ t ∧ H t = some (.tup ys) ∧ Paired (TwQ K B ρ σ HF H) ys l
theorem TwAt.fw {K : PySem.W.Frag} {B : Bs} {i : Nat} {l : List (List PyData ⊕ PyData)} {ρ : Rho} {σ : L2.St} {HF H HF' H' : Hp} (t : TwAt K B i l ρ σ HF H) (f : Fw ρ ρ σ HF H HF' H') : TwAt K B i l ρ σ HF' H' := by
  obtain ⟨t, ys, h1, h2, h3, h4, h5, h6⟩ := t.ex
  refine ⟨t, ys, h1, h2, f.hfn h3 h5, h4, f.keep t _ h5 h4, Paired.mapP h6 fun y a z => ?_⟩
  cases a with
  | inl zs => obtain ⟨q, us, g1, g2, g3, g4, g5, g6⟩ := z; exact ⟨q, us, g1, g2, f.hfn g3 g5, g4, f.keep q _ g5 g4, dpa_mono f.hf g6⟩
  | inr v => exact dp_mono f.hf z
section
variable {X : Cx} {B : Bs} {P : Pst} {ρ ρ1 ρ2 : Rho} {e c e1 e2 : Expr} {rest sts s1 s2 : List Stmt} {pos pos' : Pos} {x : Str} {b : Bool} {l : List (List PyData ⊕ PyData)} {i : Nat}
def Swl (X : Cx) (B : Bs) (i : Nat) (l : List (List PyData ⊕ PyData)) (sts : List Stmt) (ρ : Rho) (P : Pst) : Prop := ∀ σ HF H, Sl X.K ρ σ HF H → Bn B ρ σ HF H → TwAt X.K B i l ρ σ HF H → ∀ D, Ok X.K B HF D P → wSs X sts D σ H
theorem swl_end (h : Ss X B sts ρ P) : Swl X B i l sts ρ P := fun σ HF H S b _ D o => h σ HF H S b D o
theorem swl_sw (N : Nat) (hlen : ∀ z ∈ l, ∀ zs, z = .inl zs → zs.length ≤ N) (h : Sw X B i N (l.map isL) sts ρ P) : Swl X B i l sts ρ P := fun σ HF H S b t D o => by
  obtain ⟨t, ys, h1, h2, h3, h4, h5, h6⟩ := t.ex
  refine h σ HF H S b ⟨t, ys, h1, h2, h3, h4, h5, ?_⟩ D o
  have key : ∀ {ys : List V} {l : List (List PyData ⊕ PyData)}, Paired (TwQ X.K B ρ σ HF H) ys l → (∀ z ∈ l, ∀ zs, z = .inl zs → zs.length ≤ N) → Paired (fun y k => k = true → ∃ q us, y = V.ref q ∧ B.H0 q = none ∧ HF q = none ∧ ¬ OwnAt ρ σ q ∧ H q = some (.lst us) ∧ us.length ≤ N) ys (l.map isL) := fun hp => by
    induction hp with
    | nil => intro _; exact .nil
    | @cons y a ys l z _ ih =>
      intro hall
      refine .cons (fun hk => ?_) (ih fun b hb => hall b (List.mem_cons_of_mem _ hb))
      have h0 := hall a List.mem_cons_self
      cases a with
      | inl zs => obtain ⟨q, us, g1, g2, g3, g4, g5, g6⟩ := z; exact ⟨q, us, g1, g2, g3, g4, g5, by rw [dpa_len g6]; exact h0 zs rfl⟩
      | inr v => exact nomatch hk
  exact key h6 hlen
/-- what a stored one is -/
theorem tw_stored {σ : L2.St} {HF H HF1 H1 : Hp} {y : V} (S0 : Th.Sl X.K ρ σ HF H) (b : Bn B ρ σ HF H) (S1 : Th.Sl X.K ρ1 σ HF1 H1) (f1 : Fw ρ ρ1 σ HF H HF1 H1) (r1 : RRel X.K H HF1 H1 y (.tw l)) (hl : ∀ q ∈ B.L, q.1 ≠ i) (hir : i < ρ1.length) :
    Th.Sl X.K (ρ1.set i .any) (σ.set i (some y)) HF1 H1 ∧ Bn B (ρ1.set i .any) (σ.set i (some y)) HF1 H1 ∧ TwAt X.K B i l (ρ1.set i .any) (σ.set i (some y)) HF1 H1 := by
  obtain ⟨t, ys, rfl, h0, h1, h2, h3⟩ := r1
  have r0 : ∀ Hb, RRel X.K Hb HF1 H1 (V.ref t) .any := fun _ => trivial
  have no : ∀ p, H p = none → ¬ OwnAt (ρ1.set i .any) (σ.set i (some (V.ref t))) p := fun p hp => by
    rintro ⟨j, c, g1, g2, g3⟩
    by_cases hj : i = j
    · subst hj
      rw [List.getElem?_set_self hir] at g1
      cases g1
      cases g2
    · rw [List.getElem?_set_ne hj] at g1 g3
      exact S0.notOwn hp (f1.sh.own.mp ⟨j, c, g1, g2, g3⟩)
  refine ⟨S1.set (Hb := H) (r0 H) fun p hp z => S0.notOwn hp (f1.sh.own.mp z), (b.fw f1).set S1 (r0 B.H0) hl, ⟨t, ys, ?_, b.free h0, h1, no t h0, h2, Paired.mapP h3 fun y a z => ?_⟩⟩
  · rw [List.getElem?_set_self (by rw [S1.len]; exact hir)]
  · cases a with
    | inl zs => obtain ⟨q, us, g1, g2, g3, g4, g5⟩ := z; exact ⟨q, us, g1, b.free g2, g3, no q g2, g4, g5⟩
    | inr v => exact z
theorem swl_set (i : Nat) (he : E X e ρ (.tw l) ρ1) (h : Swl X B i l sts (ρ1.set i .any) P) (hl : ∀ q ∈ B.L, q.1 ≠ i) (hN : X.N.Nodup) (hi : X.N[i]? = some x := by rfl) (hx : Loc X.env.scope x := by first | exact Or.inl rfl | exact Or.inr rfl)
    (hir : i < ρ1.length := by exact Nat.le_of_ble_eq_true rfl) (hs : swapsWith e (some (.Name x pos')) pos.line X.env = pure false := by rfl) (hf : X.fn x = true ∨ X.env.scope.names.lookup x = some .local := by first | exact .inl rfl | exact .inr rfl) : Ss X B (.Assign [.Name x pos'] e pos :: sts) ρ P := fun σ HF H Sl b D o =>
  ⟨_, pss_cons (ps_set hN hi hx pe_w hs hf) pss_w, he σ HF H Sl _ fun y HF1 H1 S1 f1 r1 => by
    obtain ⟨a1, a2, a3⟩ := tw_stored Sl b S1 f1 r1 hl hir
    exact h _ HF1 H1 a1 a2 a3 D (o.up f1.hf)⟩
/-- try: x = e; except ..: .. , e raises nothing -/
theorem swl_try (i : Nat) {h0 : ExceptHandler} {hs0 : List ExceptHandler} {pt : Pos} (he : E X.nox e ρ (.tw l) ρ1) (h : Swl X B i l sts (ρ1.set i .any) P) (hl : ∀ q ∈ B.L, q.1 ≠ i) (hN : X.N.Nodup) (hi : X.N[i]? = some x := by rfl) (hx : Loc X.env.scope x := by first | exact Or.inl rfl | exact Or.inr rfl)
    (hir : i < ρ1.length := by exact Nat.le_of_ble_eq_true rfl) (hs : swapsWith e (some (.Name x pos')) pos.line X.nox.env = pure false := by rfl) (hf : X.nox.fn x = true ∨ X.nox.env.scope.names.lookup x = some .local := by first | exact .inl rfl | exact .inr rfl) : Ss X B (.Try [.Assign [.Name x pos'] e pos] (h0 :: hs0) [] [] pt :: sts) ρ P := fun σ HF H Sl b D o =>
  ⟨_, pss_cons (ps_try_thru0 (pss_one (ps_set (X := X.nox) hN hi hx pe_w hs hf))) pss_w, he σ HF H Sl _ fun y HF1 H1 S1 f1 r1 => by
    obtain ⟨a1, a2, a3⟩ := tw_stored (X := X) Sl b S1 f1 r1 hl hir
    exact h _ HF1 H1 a1 a2 a3 D (o.up f1.hf)⟩
theorem swl_ifT (hc : ET X c ρ true ρ) (h : Swl X B i l s1 ρ ⟨fun _ => False, P.rt, P.bk, P.ct⟩) : Swl X B i l (.If c s1 s2 pos :: rest) ρ P := fun σ HF H S b t D o =>
  ⟨_, pss_cons (ps_if pt_w pss_w pss_w) pss_w, hc σ HF H S _ fun HF1 H1 S1 f1 => h σ HF1 H1 S1 (b.fw f1) (t.fw f1) _ ⟨fun _ _ _ _ p => p.elim, o.rt, fun ρ σ HF' H p S b e => o.bk ρ σ HF' H p S b (f1.hf.trans e), fun ρ σ HF' H p S b e => o.ct ρ σ HF' H p S b (f1.hf.trans e)⟩⟩
theorem swl_ifF (hc : ET X c ρ false ρ) (h : Swl X B i l rest ρ P) : Swl X B i l (.If c s1 [] pos :: rest) ρ P := fun σ HF H S b t D o =>
  ⟨_, pss_cons (ps_if pt_w pss_w pss_nil) pss_w, hc σ HF H S _ fun HF1 H1 S1 f1 => h σ HF1 H1 S1 (b.fw f1) (t.fw f1) D (o.up f1.hf)⟩
theorem swl_ret (h : P.rt (.tw l) ρ) (hN : X.N[i]? = some x := by rfl) (hv : Vis X.env.scope x := by first | exact Or.inl rfl | exact Or.inr (Or.inl rfl) | exact Or.inr (Or.inr rfl)) (hd : (x == ("__debug__" : Str)) = false := by decide) (hcd : (x == ("__classdict__" : Str)) = false := by decide) : Swl X B i l [.Return (some (.Name x pos')) pos] ρ P := fun σ HF H S b t D o =>
  ⟨_, pss_one (ps_ret (pe_var hN hv hd hcd)), by
    obtain ⟨t, ys, h1, h2, h3, h4, h5, h6⟩ := t.ex
    refine ⟨.ref t, h1, o.rt _ ρ σ HF H _ h S b ⟨t, ys, rfl, h2, h3, h5, Paired.mapP h6 fun y a z => ?_⟩⟩
    cases a with
    | inl zs => obtain ⟨q, us, g1, g2, g3, g4, g5, g6⟩ := z; exact ⟨q, us, g1, g2, g3, g5, g6⟩
    | inr v => exact z⟩
/-- a test that reads it, no own objects about -/
def noOwnR (ρ : Rho) : Bool := ρ.all fun a => !a.own
theorem no_ownR {ρ : Rho} (h : noOwnR ρ = true) {k : Nat} {a : A} (e : ρ[k]? = some a) : a.own = false := by
  have := List.all_eq_true.mp h a (List.mem_of_getElem? e)
  simpa using this
theorem tw_view {K : PySem.W.Frag} {σ : L2.St} {HF H : Hp} (S : Th.Sl K ρ σ HF H) (hn : noOwnR ρ = true) : ∀ {ys : List V} {l : List (List PyData ⊕ PyData)} {HF0 : Hp}, Same HF HF0 → Same HF0 H → Paired (TwQ K B ρ σ HF H) ys l → ∃ HF1, Same HF0 HF1 ∧ Same HF1 H ∧ DpAll K HF1 ys (l.map twD)
  | _, _, HF0, h0, h1, .nil => ⟨HF0, .refl _, h1, .nil⟩
  | _, _, HF0, h0, h1, .cons (a := y) (b := a) z t => by
    cases a with
    | inr v =>
      obtain ⟨HF1, k1, k2, k3⟩ := tw_view S hn h0 h1 t
      exact ⟨HF1, k1, k2, .cons (dp_mono (h0.trans k1) z) k3⟩
    | inl zs =>
      obtain ⟨q, us, rfl, g2, g3, g4, g5, g6⟩ := z
      have s1 : Same HF0 (fun b => if b = q then some (.lst us) else HF0 b) := fun b u e => by
        show (if b = q then some (.lst us) else HF0 b) = some u
        by_cases hb : b = q
        · subst hb
          rw [if_pos rfl]
          have := h1 b u e
          rw [g5] at this
          exact this
        · rw [if_neg hb]; exact e
      have s2 : Same (fun b => if b = q then some (HO.lst us) else HF0 b) H := fun b u e => by
        have e : (if b = q then some (HO.lst us) else HF0 b) = some u := e
        by_cases hb : b = q
        · subst hb
          rw [if_pos rfl] at e
          exact g5.trans e
        · rw [if_neg hb] at e
          exact h1 b u e
      obtain ⟨HF1, k1, k2, k3⟩ := tw_view S hn (h0.trans s1) s2 t
      exact ⟨HF1, s1.trans k1, k2, .cons (.lst (.inl (.inl (k1 _ _ (by show (if q = q then _ else _) = _; rw [if_pos rfl])))) (dpa_mono (h0.trans (s1.trans k1)) g6)) k3⟩
theorem swl_ifD (hn : noOwnR ρ = true) (hc : ET X c (ρ.set i (.d (.tuple (l.map twD)))) false (ρ.set i (.d (.tuple (l.map twD))))) (h : Swl X B i l rest ρ P) (hir : i < ρ.length := by exact Nat.le_of_ble_eq_true rfl) (hri : ρ[i]? = some .any := by rfl) : Swl X B i l (.If c s1 [] pos :: rest) ρ P := fun σ HF H S b t D o =>
  ⟨_, pss_cons (ps_if pt_w pss_w pss_nil) pss_w, by
    obtain ⟨t0, ys, h1, h2, h3, h4, h5, h6⟩ := t.ex
    have nown : ∀ p, ¬ OwnAt ρ σ p := fun p ⟨k, a, k1, k2, _⟩ => by rw [no_ownR hn k1] at k2; cases k2
    have hn2 : noOwnR (ρ.set i (.d (.tuple (l.map twD)))) = true := List.all_eq_true.mpr fun a ha => by
      rcases List.mem_or_eq_of_mem_set ha with z | z
      · exact List.all_eq_true.mp hn a z
      · rw [z]; rfl
    obtain ⟨HF1, k1, k2, k3⟩ := tw_view S hn (.refl HF) S.sub h6
    have s3 : Same HF1 (fun b => if b = t0 then some (.tup ys) else HF1 b) := fun b u e => by
      show (if b = t0 then some (HO.tup ys) else HF1 b) = some u
      by_cases hb : b = t0
      · subst hb
        rw [if_pos rfl]
        have := k2 b u e
        rw [h5] at this
        exact this
      · rw [if_neg hb]; exact e
    have s4 : Same (fun b => if b = t0 then some (HO.tup ys) else HF1 b) H := fun b u e => by
      have e : (if b = t0 then some (HO.tup ys) else HF1 b) = some u := e
      by_cases hb : b = t0
      · subst hb
        rw [if_pos rfl] at e
        exact h5.trans e
      · rw [if_neg hb] at e
        exact k2 b u e
    have S2 : Th.Sl X.K (ρ.set i (.d (.tuple (l.map twD)))) σ (fun b => if b = t0 then some (.tup ys) else HF1 b) H := by
      refine ⟨by rw [List.length_set]; exact S.len, s4, fun k a e => ?_, fun j k a _ p e1 _ o1 _ _ _ => ?_⟩
      · by_cases hk : i = k
        · subst hk
          rw [List.getElem?_set_self hir] at e
          cases e
          exact ⟨_, h1, .ref t0, rfl, .tup (.inl (.inl (by show (if t0 = t0 then _ else _) = _; rw [if_pos rfl]))) (dpa_mono s3 k3)⟩
        · rw [List.getElem?_set_ne hk] at e
          obtain ⟨s, g1, g2⟩ := S.slot k a e
          exact ⟨s, g1, arel_mono g2 (k1.trans s3) fun _ _ _ _ _ o => by rw [no_ownR hn e] at o; cases o⟩
      · rw [no_ownR hn2 e1] at o1
        cases o1
    refine hc σ _ H S2 _ fun HF' H' S' f' => ?_
    have hs : Same HF H' := ((k1.trans s3).trans f'.hf).trans S'.sub
    have f0 : Fw ρ ρ σ HF H HF H' := ⟨.refl _, .refl _, fun b u e _ => f'.keep b u e (fun ⟨k, a, e1, e2, _⟩ => by rw [no_ownR hn2 e1] at e2; exact nomatch e2), fun b u e => .inl e, f'.pres⟩
    have S0 : Th.Sl X.K ρ σ HF H' := by
      refine ⟨S.len, hs, fun k a e => ?_, S.apart⟩
      obtain ⟨s, g1, g2⟩ := S.slot k a e
      exact ⟨s, g1, arel_mono g2 (.refl _) fun _ _ _ _ _ o => by rw [no_ownR hn e] at o; cases o⟩
    exact h σ HF H' S0 (b.fw f0) (t.fw f0) D o⟩
end
end Th

set_option Elab.async false
set_option linter.all false
set_option maxRecDepth 100000
namespace Th
open PySem PySem.Spec PyProof.Rows L2
section
variable {X : Cx} {ρ ρ1 ρ2 : Rho} {e e1 e2 : Expr} {pos p1 p2 p3 : Pos} {v : PyData}
theorem t_isN {j : Nat} {p0 : Pos} (h : E X e ρ (.d v) ρ1) : ET X (.Compare e [.Is] [.Constant .none j p0] pos) ρ (!someB v) ρ1 :=
  t_cmp op_isN (ev_op h e_non fun HF H x y Q hx hy _ q => by
    cases hy
    refine ⟨rfl, ?_⟩
    have : decide (x = V.non) = !someB v := by cases hx <;> rfl
    rw [this]
    exact q _ (.bl _)) (nomark _)
/-- list(range(m, n)) -/
theorem e_lrange2 {m n : Int} (h : E X e1 ρ (.d (.int m)) ρ1) (h2 : E X e2 ρ1 (.d (.int n)) ρ2) (hm : X.mg "list" = none) (hr : X.mg "range" = none) (hn : -1000000 ≤ m ∧ m ≤ n ∧ n ≤ 1000000) (hg : Gl X "list" := by rfl) (hgr : Gl X "range" := by rfl) (hc : X.calm = true := by rfl)
    (na : starEach [e1, e2] X.env = (false, eval e1 X.env) :: starEach [e2] X.env := by rfl) (nc : starEach [e2] X.env = (false, eval e2 X.env) :: starEach [] X.env := by rfl) (hp : (backTo p3 (starEach [e2] X.env)).any (·.1) = false := by rfl)
    (nb : starEach [.Call (.Name "range" p2) [e1, e2] [] p3] X.env = (false, eval (.Call (.Name "range" p2) [e1, e2] [] p3) X.env) :: starEach [] X.env := by rfl) : E X (.Call (.Name "list" p1) [.Call (.Name "range" p2) [e1, e2] [] p3] [] pos) ρ (.ml ((List.range (n - m).toNat).map fun i => PyData.int (m + (i : Nat)))) ρ2 :=
  .of (pe_listRg hc hg hm (prg_2 hgr hr pe_w pe_w na nc hp) nb) fun σ HF H S1 Q q => h σ HF H S1 _ fun x HF1 H1 S2 f1 r1 => h2 σ HF1 H1 S2 _ fun y HF2 H2 S3 f2 r2 => by
    cases r1
    cases r2
    refine ⟨m, n, rfl, rfl, ⟨by omega, by omega, by omega, by omega, by omega⟩, fun r hr => ?_⟩
    obtain ⟨S4, f4⟩ := S3.allocO hr (.lst (rgV m n))
    have hd : DpAll X.K HF2 (rgV m n) ((List.range (n - m).toNat).map fun i => PyData.int (m + (i : Nat))) := by
      unfold rgV
      exact dpa_encN (fun i => m + (i : Int)) _
    have f12 := f1.trans f2
    exact q _ _ _ S4 (f12.trans f4) ⟨r, _, rfl, f12.fresh hr, S3.hfNone hr, upd_same, hd⟩
theorem kitAny_f {K : PySem.W.Frag} {t c : Value} {r : List Value} {b : Bool} (h : PySem.W.kitOne K t c = some false) (h2 : PySem.W.kitAny K t r = some b) : PySem.W.kitAny K t (c :: r) = some b := by
  unfold PySem.W.kitAny
  rw [h]
  exact h2
end
def fToldA : List PyData → A → Prop := fun ds r => ∃ (l : List Int) (w : Wd) (i : Int) (l' : List Int) (h : Int), (l.length ≤ 1000 ∧ stepF l w i = some (l', h)) ∧ ds = [encL l, encSt (w, i)] ∧ r = stepRes l' h
def fToldB : List PyData → A → Prop := fun ds r => GStepR ds ∧ r = .d (.str "refused")
def fGood : List PyData → A → Prop := fun ds r => ∃ (l : List Int) (w : Wd) (i : Int), l.length ≤ 1000 ∧ ds = [encL l, encSt (w, i)] ∧ r = .d (.bool true)
theorem eqE_str1 (x : Str) : PyData.eqv (.str x) (.str x) = true := by unfold PyData.eqv; simp
end Th
namespace Th
open PySem PySem.Spec PyProof.Rows L2
theorem td_ifB {X : Cx} {B : Bs} {P : Pst} {ρ : Rho} {c : Expr} {rest s1 : List Stmt} {pos : Pos} {D : Addr} {j : Nat} {b : Bool} (hc : ETd X j D c ρ b) (hb : b = false) (h : Td X B j D rest ρ P) : Td X B j D (.If c s1 [] pos :: rest) ρ P := by
  subst hb
  exact td_if hc h
theorem td_isC {X : Cx} {ρ : Rho} {pos pos' pn pT : Pos} {D C : Addr} {j : Nat} {x y : Str} {b : Bool} (hg : X.mg x = some (.ref C)) (E : ExcC X.K D) (hk : PySem.W.kitOne X.K (.ref D) (.ref C) = some b) (hm : X.mg "isinstance" = none) (hgl : Gl X x := by rfl) (hdx : (x == ("__debug__" : Str)) = false := by decide) (hj : X.N[j]? = some y := by rfl) (hgi : Gl X "isinstance" := by rfl)
    (hv : Vis X.env.scope y := by first | exact Or.inl rfl | exact Or.inr (Or.inl rfl) | exact Or.inr (Or.inr rfl)) (hd : (y == ("__debug__" : Str)) = false := by decide) (hcd : (y == ("__classdict__" : Str)) = false := by decide)
    (he : starEach [.Name y pos', .Name x pT] X.env = (false, eval (.Name y pos') X.env) :: starEach [.Name x pT] X.env := by rfl) (he2 : starEach [.Name x pT] X.env = (false, eval (.Name x pT) X.env) :: starEach [] X.env := by rfl) (hpl : (backTo pos (starEach [.Name x pT] X.env)).any (·.1) = false := by rfl)
    (ht : ∀ whole, isTrue (.Call (.Name "isinstance" pn) [.Name y pos', .Name x pT] [] pos) X.env whole = (do let v ← whole; standAt (Expr.Call (.Name "isinstance" pn) [.Name y pos', .Name x pT] [] pos).pos; holding [v] (truthy v)) := by intro _; rfl) : ETd X j D (.Call (.Name "isinstance" pn) [.Name y pos', .Name x pT] [] pos) ρ b :=
  td_is (v := .ref C) (pe_glob hgl hg rfl hdx) (.own C) E hk hm hj hgi hv hd hcd he he2 hpl ht
theorem td_isV {X : Cx} {ρ : Rho} {pos pos' pn pT : Pos} {D : Addr} {j : Nat} {y : Str} (hg : X.mg "ValueError" = none) (E : ExcC X.K D) (hk : PySem.W.subIn X.K (.ref D) (.type "ValueError") = some true) (hm : X.mg "isinstance" = none) (hgl : Gl X "ValueError" := by rfl) (hj : X.N[j]? = some y := by rfl) (hgi : Gl X "isinstance" := by rfl)
    (hv : Vis X.env.scope y := by first | exact Or.inl rfl | exact Or.inr (Or.inl rfl) | exact Or.inr (Or.inr rfl)) (hd : (y == ("__debug__" : Str)) = false := by decide) (hcd : (y == ("__classdict__" : Str)) = false := by decide)
    (he : starEach [.Name y pos', .Name "ValueError" pT] X.env = (false, eval (.Name y pos') X.env) :: starEach [.Name "ValueError" pT] X.env := by rfl) (he2 : starEach [.Name "ValueError" pT] X.env = (false, eval (.Name "ValueError" pT) X.env) :: starEach [] X.env := by rfl) (hpl : (backTo pos (starEach [.Name "ValueError" pT] X.env)).any (·.1) = false := by rfl)
    (ht : ∀ whole, isTrue (.Call (.Name "isinstance" pn) [.Name y pos', .Name "ValueError" pT] [] pos) X.env whole = (do let v ← whole; standAt (Expr.Call (.Name "isinstance" pn) [.Name y pos', .Name "ValueError" pT] [] pos).pos; holding [v] (truthy v)) := by intro _; rfl) : ETd X j D (.Call (.Name "isinstance" pn) [.Name y pos', .Name "ValueError" pT] [] pos) ρ true :=
  td_is (v := .ty "ValueError") (pe_bltn (u := .type "ValueError") hgl hg (by decide +kernel) rfl) (.ty _) E (kit_ve hk) hm hj hgi hv hd hcd he he2 hpl ht
end Th

set_option Elab.async false
set_option linter.all false
set_option maxRecDepth 100000
namespace Th
open PySem PySem.Spec PyProof.Rows L2

/-! objects that stand in no slot of their own, told by a relation R of the heap; no own slots about -/
def GR := Hp → Hp → Prop
/-- such a relation bears whatever is made anew -/
def Kept (R : GR) : Prop := ∀ HF H HF' H', R HF H → Same HF HF' → (∀ b o, H b = some o → H' b = some o) → (∀ b o, HF' b = some o → HF b = some o ∨ H b = none) → R HF' H'
structure OkG (K : PySem.W.Frag) (B : Bs) (HF : Hp) (D : Ends) (P : Pst) (R : GR) : Prop where
  nx : ∀ ρ σ HF' H, P.nx ρ → Sl K ρ σ HF' H → Bn B ρ σ HF' H → Same HF HF' → R HF' H → D.nx σ H
  rt : ∀ a ρ σ HF' H x, P.rt a ρ → Sl K ρ σ HF' H → Bn B ρ σ HF' H → RRel K B.H0 HF' H x a → D.rt x H
theorem OkG.up {K : PySem.W.Frag} {B : Bs} {HF HF1 : Hp} {D : Ends} {P : Pst} {R : GR} (o : OkG K B HF D P R) (s : Same HF HF1) : OkG K B HF1 D P R := ⟨fun ρ σ HF' H p S b e r => o.nx ρ σ HF' H p S b (s.trans e) r, o.rt⟩
def Gj (X : Cx) (B : Bs) (R : GR) (sts : List Stmt) (ρ : Rho) (P : Pst) (R' : GR) : Prop := ∀ σ HF H, Sl X.K ρ σ HF H → Bn B ρ σ HF H → R HF H → ∀ D, OkG X.K B HF D P R' → wSs X sts D σ H
def G1 (X : Cx) (B : Bs) (R : GR) (st : Stmt) (ρ : Rho) (P : Pst) (R' : GR) : Prop := ∀ σ HF H, Sl X.K ρ σ HF H → Bn B ρ σ HF H → R HF H → ∀ D, OkG X.K B HF D P R' → wS X st D σ H
section
variable {X : Cx} {B : Bs} {P : Pst} {ρ ρ1 ρ2 : Rho} {tg iter e : Expr} {es : List Expr} {pos : Pos} {ds : List PyData} {R R1 R2 : GR} {st : Stmt} {sts : List Stmt}
theorem no_ownAt {σ : L2.St} {p : Addr} (hn : noOwnR ρ = true) : ¬ OwnAt ρ σ p := fun ⟨k, a, k1, k2, _⟩ => by rw [no_ownR hn k1] at k2; cases k2
theorem Kept.fw {σ : L2.St} {HF H HF' H' : Hp} (k : Kept R) (hn : noOwnR ρ = true) (f : Fw ρ ρ1 σ HF H HF' H') (r : R HF H) : R HF' H' := k HF H HF' H' r f.hf (fun b o e => f.keep b o e (no_ownAt hn)) f.new
theorem gj_cons (h : G1 X B R st ρ ⟨fun ρ' => Gj X B R1 sts ρ' P R2, P.rt, fun _ => False, fun _ => False⟩ R1) : Gj X B R (st :: sts) ρ P R2 := fun σ HF H Sl b r D o =>
  ⟨_, pss_cons ps_w pss_w, h σ HF H Sl b r _ ⟨fun ρ' σ' HF' H' p S' b' e r' => p σ' HF' H' S' b' r' D (o.up e), o.rt⟩⟩
theorem gj_one (h : G1 X B R st ρ P R1) : Gj X B R [st] ρ P R1 := fun σ HF H Sl b r D o => ⟨_, pss_one ps_w, h σ HF H Sl b r D o⟩
theorem gj_nil (h : P.nx ρ) : Gj X B R [] ρ P R := fun σ HF H Sl b r D o => ⟨_, pss_nil, o.nx ρ σ HF H h Sl b (.refl _) r⟩
theorem Gj.toLe (h : Gj X B R sts ρ1 P R1) (l : Le ρ ρ1) : Gj X B R sts ρ P R1 := fun σ HF H S b r D o => h σ HF H (S.le l) (b.le l) r D o
/-- a for that folds -/
theorem g_forF {body : List Stmt} {α T : Type} {xs : List α} (enc : α → PyData) (hi : Src X tg iter ρ (xs.map enc) ρ1 none) (t0 : T) (step : T → α → T) (emb : Rho) (Rt : T → GR) (J : T → Nat → Prop) (hJ : J t0 0) (h0 : Le ρ1 emb) (hno : noOwnR emb = true) (hnρ : noOwnR ρ = true) (hk : ∀ t, Kept (Rt t))
    (hb : ∀ t (i : Nat) x, xs[i]? = some x → J t i → J (step t x) (i + 1) ∧ ∃ ρ2, GT X B tg (enc x) emb ρ2 ∧ Gj X B (Rt t) body ρ2 ⟨fun ρ' => Le ρ' emb, P.rt, fun _ => False, fun _ => False⟩ (Rt (step t x))) (hd : ∀ ρ', Le ρ' emb → P.nx ρ')
    (hp : PassesOwn (model X.prog X.w) X.A X.env X.xe := by exact PassesOwn.never) (hc : X.calm = true := by rfl) (hs : ∀ x, foldedSetIterable iter X.env x = pure x := by intro _; rfl) : G1 X B (Rt t0) (.For tg iter body [] pos) ρ P (Rt (xs.foldl step t0)) := by
  have hJall : ∀ i, i ≤ xs.length → J ((xs.take i).foldl step t0) i := fun i => by
    induction i with
    | zero => intro _; exact hJ
    | succ i ih =>
      intro hi
      have e := List.getElem?_eq_getElem (show i < xs.length by omega)
      rw [List.take_add_one, e, List.foldl_append]
      exact (hb _ i _ e (ih (by omega))).1
  obtain ⟨wi, h1, h2⟩ := hi
  intro σ HF H S1 b r D o
  refine ⟨_, ps_for hp hc h1 pg_w pss_w hs, h2 σ HF H S1 _ fun J1 HF1 H1 S2 f1 src => ?_⟩
  have r1 := (hk t0).fw hnρ f1 r
  refine ⟨fun i m σ' H' => m = xs.length - i ∧ i ≤ xs.length ∧ ∃ HF', Sl X.K emb σ' HF' H' ∧ Bn B emb σ' HF' H' ∧ Same HF1 HF' ∧ Rt ((xs.take i).foldl step t0) HF' H', ⟨xs.length, by simp, Nat.zero_le _, HF1, S2.le h0, (b.fw f1).le h0, .refl _, r1⟩, ?_⟩
  rintro i m σ' H' ⟨rfl, hle, HF', S', b', s', r'⟩
  have sr := src σ' emb HF' H' (fun _ z => nomatch z) trivial S' s'
  by_cases hlt : i < xs.length
  · have hltm : i < (xs.map enc).length := by rw [List.length_map]; exact hlt
    refine .inr ⟨sr.go i hltm, fun σ3 H3 => ∃ HF3, Sl X.K emb σ3 HF3 H3 ∧ Bn B emb σ3 HF3 H3 ∧ Same HF1 HF3 ∧ Rt ((xs.take (i + 1)).foldl step t0) HF3 H3, fun σ3 H3 n3 => ⟨xs.length - (i + 1), by omega, rfl, hlt, n3⟩, fun x H2 y => ?_⟩
    obtain ⟨v, e, y⟩ := sr.yld i x H2 hltm y
    obtain ⟨u, hu, rfl⟩ := map_get e
    obtain ⟨HF2, S2', f2, r2⟩ := yld_d S' y
    have rk := (hk _).fw hno f2 r'
    obtain ⟨_, ρ2, hg, hbd⟩ := hb _ i u hu (hJall i (by omega))
    refine hg x σ' HF2 H2 S2' r2 _ fun σ2 S3 b3 => hbd σ2 HF2 H2 S3 (b3 (b'.fw f2)) rk _ ?_
    have e2 : (xs.take (i + 1)).foldl step t0 = step ((xs.take i).foldl step t0) u := by rw [List.take_add_one, hu, List.foldl_append]; rfl
    refine ⟨fun ρ3 σ3 HF3 H3 l S4 b4 s4 r4 => ⟨HF3, S4.le l, b4.le l, (s'.trans f2.hf).trans s4, by rw [e2]; exact r4⟩, o.rt⟩
  · have e : i = xs.length := by omega
    subst e
    rw [List.take_length] at r'
    exact .inl ⟨by have := sr.stop; rwa [List.length_map] at this, o.nx emb σ' HF' H' (hd emb (.refl _)) S' b' (f1.hf.trans s') r'⟩
end
end Th
namespace Th
open PySem PySem.Spec PyProof.Rows L2
/-! a dict of lists of one's own, in the making: found.setdefault(k, []).append(v) -/
abbrev PlI (K : PySem.W.Frag) (B : Bs) (HF H : Hp) (w : Key × V) (kv : Int × List PyData) : Prop := DlI K B.H0 HF H w kv
abbrev PlK (K : PySem.W.Frag) (B : Bs) (p : Addr) (kws : List (Key × V)) (m : List (Int × List PyData)) (HF H : Hp) : Prop := DlK K B.H0 p kws m HF H
def PlR (K : PySem.W.Frag) (B : Bs) (p : Addr) (m : List (Int × List PyData)) : GR := fun HF H => ∃ kws, PlK K B p kws m HF H
theorem plI_mono {K : PySem.W.Frag} {B : Bs} {HF H HF' H' : Hp} {w : Key × V} {kv : Int × List PyData} (h : PlI K B HF H w kv) (s : Same HF HF') (k : ∀ q us, H q = some (.lst us) → HF q = none → w.2 = .ref q → H' q = some (.lst us) ∧ HF' q = none) : PlI K B HF' H' w kv := by
  obtain ⟨e, q, us, g1, g2, g3, g4, g5⟩ := h
  obtain ⟨k1, k2⟩ := k q us g4 g3 g1
  exact ⟨e, q, us, g1, g2, k2, k1, dpa_mono s g5⟩
theorem DlK.keep {K : PySem.W.Frag} {B : Bs} {p : Addr} {kws : List (Key × V)} {m : List (Int × List PyData)} {HF H HF' H' : Hp} (r : PlK K B p kws m HF H) (s : Same HF HF') (k : ∀ b o, H b = some o → H' b = some o) (n : ∀ b o, HF' b = some o → HF b = some o ∨ H b = none) : PlK K B p kws m HF' H' := by
  have fresh : ∀ b o, H b = some o → HF b = none → HF' b = none := fun b o e1 e2 => by
    cases q : HF' b with
    | none => rfl
    | some u =>
      rcases n b u q with z | z
      · rw [e2] at z; cases z
      · rw [e1] at z; cases z
  exact ⟨k _ _ r.at_, r.base, fresh p _ r.at_ r.fr, Paired.mapP r.its fun w kv h => plI_mono h s fun q us g1 g2 _ => ⟨k _ _ g1, fresh q _ g1 g2⟩, r.nk, r.na⟩
theorem plR_kept {K : PySem.W.Frag} {B : Bs} {p : Addr} {m : List (Int × List PyData)} : Kept (PlR K B p m) := fun _ _ _ _ ⟨kws, r⟩ s k n => ⟨kws, r.keep s k n⟩
def addP (m : List (Int × List PyData)) (k : Int) (v : PyData) : List (Int × List PyData) := setI m k ((getI m k).getD [] ++ [v])
theorem pl_val {K : PySem.W.Frag} {B : Bs} {HF H : Hp} {k : Int} : ∀ {kws : List (Key × V)} {m : List (Int × List PyData)}, Paired (PlI K B HF H) kws m → (valV kws (Sum.inl k) = none ∧ getI m k = none) ∨ ∃ q us vs, valV kws (Sum.inl k) = some (.ref q) ∧ getI m k = some vs ∧ B.H0 q = none ∧ HF q = none ∧ H q = some (.lst us) ∧ DpAll K HF us vs ∧ (k, vs) ∈ m
  | _, _, .nil => .inl ⟨rfl, rfl⟩
  | _, _, .cons (a := w) (b := kv) h t => by
    obtain ⟨e, q, us, g1, g2, g3, g4, g5⟩ := h
    by_cases hk : kv.1 = k
    · refine .inr ⟨q, us, kv.2, ?_, ?_, g2, g3, g4, g5, ?_⟩
      · rw [valV_pos (by rw [e, hk]), g1]
      · rw [getI_cons, if_pos hk]
      · rw [← hk]; exact List.mem_cons_self
    · have hw : ¬ w.1 = Sum.inl k := fun z => by rw [e] at z; exact hk (Sum.inl.inj z)
      rw [valV_neg hw, getI_cons, if_neg hk]
      rcases pl_val (k := k) t with z | ⟨q', us', vs', z1, z2, z3, z4, z5, z6, z7⟩
      · exact .inl z
      · exact .inr ⟨q', us', vs', z1, z2, z3, z4, z5, z6, List.mem_cons_of_mem _ z7⟩
theorem pl_off {K : PySem.W.Frag} {B : Bs} {HF H : Hp} {q : Addr} {o : HO} {k : Int} {vs : List PyData} : ∀ {kws : List (Key × V)} {m : List (Int × List PyData)}, Paired (PlI K B HF H) kws m → V.ref q ∉ kws.map (·.2) → k ∉ m.map (·.1) → Paired (PlI K B HF (upd H q o)) kws (m.map fun kv => if kv.1 = k then (kv.1, vs) else kv)
  | _, _, .nil, _, _ => .nil
  | _, _, .cons (a := w) (b := kv) h t, hq, hk => by
    rw [List.map_cons, List.mem_cons, not_or] at hq hk
    rw [List.map_cons, if_neg fun z => hk.1 z.symm]
    exact .cons (plI_mono h (.refl _) fun q' us g1 g2 g3 => ⟨by rw [upd_ne fun z => hq.1 (by rw [← z, g3])]; exact g1, g2⟩) (pl_off t hq.2 hk.2)
theorem valV_mem {kws : List (Key × V)} {k : Key} {v : V} (h : valV kws k = some v) : v ∈ kws.map (·.2) := by
  unfold valV at h
  cases q : kws.find? fun kv => decide (kv.1 = k) with
  | none => rw [q] at h; cases h
  | some w =>
    rw [q] at h
    cases h
    exact List.mem_map.mpr ⟨w, List.mem_of_find?_eq_some q, rfl⟩
theorem pl_set {K : PySem.W.Frag} {B : Bs} {HF H : Hp} {q : Addr} {k : Int} {us' : List V} {vs' : List PyData} (h0 : B.H0 q = none) (hf : HF q = none) (hd : DpAll K HF us' vs') : ∀ {kws : List (Key × V)} {m : List (Int × List PyData)}, Paired (PlI K B HF H) kws m → (m.map (·.1)).Nodup → (kws.map (·.2)).Nodup → valV kws (Sum.inl k) = some (.ref q) →
    Paired (PlI K B HF (upd H q (.lst us'))) kws (m.map fun kv => if kv.1 = k then (kv.1, vs') else kv)
  | _, _, .nil, _, _, hv => by cases hv
  | _, _, .cons (a := w) (b := kv) h t, nk, na, hv => by
    rw [List.map_cons, List.nodup_cons] at nk na
    rw [List.map_cons]
    by_cases hk : kv.1 = k
    · rw [valV_pos (by rw [h.1, hk])] at hv
      have hw : w.2 = .ref q := Option.some.inj hv
      rw [if_pos hk]
      refine .cons ⟨h.1, q, us', hw, h0, hf, upd_same, hd⟩ (pl_off t (by rw [← hw]; exact na.1) (by rw [← hk]; exact nk.1))
    · have hw : ¬ w.1 = Sum.inl k := fun z => by rw [h.1] at z; exact hk (Sum.inl.inj z)
      rw [valV_neg hw] at hv
      rw [if_neg hk]
      refine .cons (plI_mono h (.refl _) fun q' us g1 g2 g3 => ⟨?_, g2⟩) (pl_set h0 hf hd t nk.2 na.2 hv)
      rw [upd_ne fun z => na.1 (by rw [g3, z]; exact valV_mem hv)]
      exact g1
section
variable {K : PySem.W.Frag} {B : Bs} {ρ : Rho} {σ : L2.St} {HF HF' H H' : Hp}
theorem sl_no (S : Sl K ρ σ HF H) (hn : noOwnR ρ = true) (s : Same HF HF') (s2 : Same HF' H') : Sl K ρ σ HF' H' := by
  refine ⟨S.len, s2, fun k a e => ?_, fun i j a b p h1 _ o1 _ _ _ => ?_⟩
  · obtain ⟨u, g1, g2⟩ := S.slot k a e
    exact ⟨u, g1, arel_mono g2 s fun _ _ _ _ _ o => by rw [no_ownR hn e] at o; cases o⟩
  · rw [no_ownR hn h1] at o1
    cases o1
theorem bn_no (b : Bn B ρ σ HF H) (hn : noOwnR ρ = true) (s : Same HF HF') (hk : ∀ c o, B.H0 c = some o → H c = some o → H' c = some o) (hp : ∀ c o, H c = some o → ∃ o', H' c = some o') (hne : ∀ c o, HF' c = some o → HF c = some o ∨ B.H0 c = none) : Bn B ρ σ HF' H' where
  hf := b.hf.trans s
  keep := fun c o n e => hk c o e (b.keep c o n e)
  new := fun c o e => by
    rcases hne c o e with z | z
    · exact b.new c o z
    · exact .inr z
  pres := fun c o e => by
    obtain ⟨o', e'⟩ := b.pres c o e
    exact hp c o' e'
  mine := fun i a p h o _ => by rw [no_ownR hn h] at o; cases o
  lent := b.lent
end
end Th

set_option Elab.async false
set_option linter.all false
set_option maxRecDepth 100000
namespace Th
open PySem PySem.Spec PyProof.Rows L2
theorem setI_none {α : Type} {m : List (Int × α)} {k : Int} {v : α} (h : getI m k = none) : setI m k v = m ++ [(k, v)] := by
  unfold setI
  rw [if_neg]
  intro z
  obtain ⟨kv, h1, h2⟩ := List.any_eq_true.mp z
  have h2 := of_decide_eq_true h2
  obtain ⟨v', h3⟩ := getI_some (m := m) (k := k) (List.mem_map.mpr ⟨kv, h1, h2⟩)
  rw [h] at h3
  cases h3
theorem setI_some {α : Type} {m : List (Int × α)} {k : Int} {v w : α} (h : getI m k = some w) : setI m k v = m.map fun kv => if kv.1 = k then (kv.1, v) else kv := by
  unfold setI
  rw [if_pos]
  exact List.any_eq_true.mpr ⟨(k, w), getI_mem h, decide_eq_true rfl⟩
section
variable {X : Cx} {B : Bs} {P : Pst} {ρ ρ1 ρ2 : Rho} {tg iter e ea ev : Expr} {es : List Expr} {pos p1 pl ap1 c1 ap2 c2 pos' : Pos} {ds : List PyData} {R R1 R2 : GR} {st : Stmt} {sts : List Stmt} {i : Nat} {x : Str} {p : Addr} {m : List (Int × List PyData)} {k : Int} {v : PyData}
/-- found = {} -/
theorem ss_pin (i : Nat) (hno : noOwnR ρ = true) (h : ∀ p, Gj X B (PlR X.K B p []) sts (ρ.set i (.pin (.ref p))) P R2) (hl : ∀ q ∈ B.L, q.1 ≠ i) (hN : X.N.Nodup) (hi : X.N[i]? = some x := by rfl) (hx : Loc X.env.scope x := by first | exact Or.inl rfl | exact Or.inr rfl)
    (hs : swapsWith (.Dict [] [] c1) (some (.Name x pos')) pos.line X.env = pure false := by rfl) (hf : X.fn x = true ∨ X.env.scope.names.lookup x = some .local := by first | exact .inl rfl | exact .inr rfl) : Ss X B (.Assign [.Name x pos'] (.Dict [] [] c1) pos :: sts) ρ P := fun σ HF H S1 b D o =>
  ⟨_, pss_cons (ps_set hN hi hx pe_dnewK hs hf) pss_w, fun p hp => by
    obtain ⟨S2, f2⟩ := S1.allocO hp (.dK [])
    have b2 := b.fw f2
    have r0 : ∀ Hb, RRel X.K Hb HF (upd H p (.dK [])) (V.ref p) (.pin (.ref p)) := fun _ => rfl
    have S3 := S2.set (i := i) (Hb := upd H p (.dK [])) (r0 _) fun q hq w => S2.notOwn hq w
    have b3 := b2.set S2 (i := i) (r0 _) hl
    exact h p _ HF _ S3 b3 ⟨[], upd_same, b.free hp, S1.hfNone hp, .nil, .nil, .nil⟩ D ⟨fun ρ σ HF' H p S b e _ => o.nx ρ σ HF' H p S b e, o.rt⟩⟩
theorem pl_mem {K : PySem.W.Frag} {B : Bs} {HF H : Hp} {q : Addr} : ∀ {kws : List (Key × V)} {m : List (Int × List PyData)}, Paired (PlI K B HF H) kws m → V.ref q ∈ kws.map (·.2) → ∃ us, H q = some (.lst us)
  | _, _, .nil, h => by cases h
  | _, _, .cons (a := w) (b := kv) g t, h => by
    rw [List.map_cons, List.mem_cons] at h
    rcases h with h | h
    · obtain ⟨_, q', us, g1, _, _, g4, _⟩ := g
      rw [← h] at g1
      cases g1
      exact ⟨us, g4⟩
    · exact pl_mem t h
theorem upd_keep {H : Hp} {p b : Addr} {o u : HO} (e : H b = some u) (n : H p = none) : upd H p o b = some u := by rw [upd_ne (ne_of_none e n)]; exact e
/-- found.setdefault(k, []).append(v) -/
theorem g_setd (i : Nat) (h0 : ρ[i]? = some (.pin (.ref p))) (hno : noOwnR ρ = true) (ha : E X ea ρ (.d (.int k)) ρ) (hv : E X ev ρ (.d v) ρ) (hm : m.length ≤ 100000) (hl : ∀ kv ∈ m, kv.2.length ≤ 100000) (hP : P.nx ρ) (hN : X.N[i]? = some x := by rfl)
    (hvs : Vis X.env.scope x := by first | exact Or.inl rfl | exact Or.inr (Or.inl rfl) | exact Or.inr (Or.inr rfl)) (hd : (x == ("__debug__" : Str)) = false := by decide) (hcd : (x == ("__classdict__" : Str)) = false := by decide)
    (m2 : M2 X (.Name x p1) "setdefault" ap1 ea (.List [] pl) c1 := by exact ⟨rfl, rfl, rfl, rfl⟩)
    (hbase : attributeBase (.Call (.Attribute (.Name x p1) "setdefault" ap1) [ea, .List [] pl] [] c1) "append" X.env (eval (.Call (.Attribute (.Name x p1) "setdefault" ap1) [ea, .List [] pl] [] c1) X.env) = eval (.Call (.Attribute (.Name x p1) "setdefault" ap1) [ea, .List [] pl] [] c1) X.env := by rfl)
    (hfew : ((backTo c2 (starEach [ev] X.env)).all (fun x => !x.1) && (backToKw c2 (keywordEach [] X.env)).all (fun x => x.1.isSome) && decide (([ev] : List Expr).length + ([] : List Keyword).length + (if ([] : List Keyword).isEmpty then 0 else 1) < 30)) = true := by rfl)
    (hline : (ap2.endLine == c2.line) = true := by rfl) (hs : starEach [ev] X.env = (false, eval ev X.env) :: starEach [] X.env := by rfl)
    (hsw : swapsWith (.Call (.Attribute (.Call (.Attribute (.Name x p1) "setdefault" ap1) [ea, .List [] pl] [] c1) "append" ap2) [ev] [] c2) none pos.line X.env = pure false := by rfl) :
    G1 X B (PlR X.K B p m) (.Expr (.Call (.Attribute (.Call (.Attribute (.Name x p1) "setdefault" ap1) [ea, .List [] pl] [] c1) "append" ap2) [ev] [] c2) pos) ρ P (PlR X.K B p (addP m k v)) := fun σ HF H S1 b ⟨kws, r⟩ D o =>
  ⟨_, ps_expr (pe_bm PySem.F.plainAttrs_list PySem.F.slot_list_append PySem.F.type_list_append mt_append (pe_dsetd (pe_var hN hvs hd hcd) pe_w (pe_lst pa_nil) m2) (pa_cons pe_w pa_nil hs) hbase hfew hline hs) hsw, by
    have hx : σ[i]? = some (some (V.ref p)) := by
      obtain ⟨s, e1, e2⟩ := S1.slot i _ h0
      rw [e1]
      exact congrArg some e2
    refine ⟨.ref p, hx, p, rfl, .inl ⟨kws, .inl r.at_⟩, ha σ HF H S1 _ fun y HF1 H1 S2 f1 r1 => ?_⟩
    cases r1
    have k1 := r.keep f1.hf (fun c u e => f1.keep c u e (no_ownAt hno)) f1.new
    refine ⟨Nat.zero_le _, fun q0 hq0 => ?_⟩
    obtain ⟨S3, f3⟩ := S2.allocO hq0 (.lst [])
    have k3 := k1.keep f3.hf (fun c u e => f3.keep c u e (no_ownAt hno)) f3.new
    have b3 := (b.fw f1).fw f3
    have lenk : kws.length ≤ 100000 := by rw [Paired.length r.its]; exact hm
    refine ⟨kws, .inl k, k3.at_, rfl, Nat.lt_of_le_of_lt lenk (by decide), fun v0 hv0 => ?_, fun hn => ?_⟩
    · rcases pl_val (k := k) k3.its with ⟨z, _⟩ | ⟨q, us, vs, z1, z2, z3, z4, z5, z6, z7⟩
      · rw [hv0] at z; cases z
      · rw [hv0] at z1
        cases z1
        refine ⟨.inl ⟨rfl, _, .inl (.inl z5)⟩, hv σ HF1 _ S3 _ fun x1 HF4 H4 S4 f4 r4 => ?_⟩
        have kk : ∀ c u, upd H1 q0 (.lst []) c = some u → H4 c = some u := fun c u e => f4.keep c u e (no_ownAt hno)
        have k4 := k3.keep f4.hf kk f4.new
        have hq4 := kk _ _ z5
        have hf4 : HF4 q = none := f4.hfn z4 z5
        refine ⟨q, us, x1, rfl, rfl, hq4, Nat.lt_of_le_of_lt (by rw [dpa_len z6]; exact hl _ z7) (show 100000 < sizeLine by decide), ?_⟩
        have hd4 : DpAll X.K HF4 (us ++ [x1]) (vs ++ [v]) := dpa_app (dpa_mono f4.hf z6) (.cons r4 .nil)
        have s5 : Same HF4 (upd H4 q (.lst (us ++ [x1]))) := fun c u e => by
          rw [upd_ne fun z => by rw [z, hf4] at e; cases e]
          exact S4.sub c u e
        refine o.nx ρ σ HF4 _ hP (sl_no S4 hno (.refl _) s5) (bn_no (b3.fw f4) hno (.refl _) (fun c u e1 e2 => ?_) (fun c u e => ?_) fun c u e => .inl e) ((f1.hf.trans f3.hf).trans f4.hf) ⟨kws, ?_, k4.base, k4.fr, ?_, ?_, k4.na⟩
        · rw [upd_ne fun z => by rw [z, z3] at e1; cases e1]
          exact e2
        · by_cases hc : c = q
          · subst hc; exact ⟨_, upd_same⟩
          · exact ⟨u, by rw [upd_ne hc]; exact e⟩
        · rw [upd_ne fun z => by have w := k4.at_; rw [z, hq4] at w; cases w]
          exact k4.at_
        · unfold addP
          rw [z2, setI_some z2]
          exact pl_set z3 hf4 hd4 k4.its k4.nk k4.na hv0
        · unfold addP
          exact nodup_set k4.nk
    · rcases pl_val (k := k) k3.its with ⟨_, z2⟩ | ⟨q, us, vs, z1, _⟩
      case inr => rw [hn] at z1; cases z1
      have hput : putK kws (Sum.inl k) (V.ref q0) = kws ++ [(Sum.inl k, V.ref q0)] := by
        unfold putK
        rw [valV_any, hn]
        rfl
      rw [hput]
      have hfq : HF1 q0 = none := S2.hfNone hq0
      have hbq : B.H0 q0 = none := (b.fw f1).free hq0
      have npq : q0 ≠ p := fun z => by have w := k1.at_; rw [← z, hq0] at w; cases w
      have s5 : Same HF1 (upd (upd H1 q0 (.lst [])) p (.dK (kws ++ [(Sum.inl k, V.ref q0)]))) := fun c u e => by
        rw [upd_ne fun z => by rw [z, k1.fr] at e; cases e]
        exact S3.sub c u e
      have S5 := sl_no S3 hno (.refl _) s5
      have b5 := bn_no b3 hno (.refl _) (H' := upd (upd H1 q0 (.lst [])) p (.dK (kws ++ [(Sum.inl k, V.ref q0)]))) (fun c u e1 e2 => by rw [upd_ne fun z => by rw [z, k1.base] at e1; cases e1]; exact e2) (fun c u e => by
        by_cases hc : c = p
        · subst hc; exact ⟨_, upd_same⟩
        · exact ⟨u, by rw [upd_ne hc]; exact e⟩) fun c u e => .inl e
      refine ⟨.inl ⟨rfl, [], .inl (.inl (by rw [upd_ne npq]; exact upd_same))⟩, hv σ HF1 _ S5 _ fun x1 HF4 H4 S4 f4 r4 => ?_⟩
      have kk : ∀ c u, upd (upd H1 q0 (.lst [])) p (.dK (kws ++ [(Sum.inl k, V.ref q0)])) c = some u → H4 c = some u := fun c u e => f4.keep c u e (no_ownAt hno)
      have hq4 : H4 q0 = some (.lst []) := kk _ _ (by rw [upd_ne npq]; exact upd_same)
      have hp4 := kk p _ upd_same
      have hfq4 : HF4 q0 = none := f4.hfn hfq (by rw [upd_ne npq]; exact upd_same)
      have hfp4 : HF4 p = none := f4.hfn k1.fr upd_same
      refine ⟨q0, [], x1, rfl, rfl, hq4, by decide, ?_⟩
      have s6 : Same HF4 (upd H4 q0 (.lst ([] ++ [x1]))) := fun c u e => by
        rw [upd_ne fun z => by rw [z, hfq4] at e; cases e]
        exact S4.sub c u e
      refine o.nx ρ σ HF4 _ hP (sl_no S4 hno (.refl _) s6) (bn_no (b5.fw f4) hno (.refl _) (fun c u e1 e2 => ?_) (fun c u e => ?_) fun c u e => .inl e) ((f1.hf.trans f3.hf).trans f4.hf) ⟨kws ++ [(Sum.inl k, V.ref q0)], ?_, k1.base, hfp4, ?_, ?_, ?_⟩
      · rw [upd_ne fun z => by rw [z, hbq] at e1; cases e1]
        exact e2
      · by_cases hc : c = q0
        · subst hc; exact ⟨_, upd_same⟩
        · exact ⟨u, by rw [upd_ne hc]; exact e⟩
      · rw [upd_ne npq.symm]
        exact hp4
      · unfold addP
        rw [z2, setI_none z2]
        refine Paired.snoc (Paired.mapP k1.its fun w kv h => plI_mono h f4.hf fun q us g1 g2 _ => ?_) ⟨rfl, q0, [x1], rfl, hbq, hfq4, upd_same, .cons r4 .nil⟩
        have n1 : q ≠ q0 := fun z => by rw [z, hq0] at g1; cases g1
        have n2 : q ≠ p := fun z => by rw [z, k1.at_] at g1; cases g1
        have e3 : upd (upd H1 q0 (.lst [])) p (.dK (kws ++ [(Sum.inl k, V.ref q0)])) q = some (.lst us) := by rw [upd_ne n2, upd_ne n1]; exact g1
        exact ⟨by rw [upd_ne n1]; exact kk _ _ e3, f4.hfn g2 e3⟩
      · unfold addP
        exact nodup_set k1.nk
      · rw [List.map_append, List.nodup_append]
        refine ⟨k1.na, by simp, fun a1 h1 a2 h2 z => ?_⟩
        rw [List.map_singleton, List.mem_singleton] at h2
        subst h2
        subst z
        obtain ⟨us, e⟩ := pl_mem k1.its h1
        rw [hq0] at e
        cases e⟩
theorem pl_view {K : PySem.W.Frag} {B : Bs} {HF H : Hp} : ∀ {kws : List (Key × V)} {m : List (Int × List PyData)} {HF0 : Hp}, Paired (PlI K B HF H) kws m → Same HF HF0 → Same HF0 H → (∀ b o, HF0 b = some o → HF b = some o ∨ (B.H0 b = none ∧ ∃ us, H b = some (.lst us))) →
    ∃ HF1, Same HF0 HF1 ∧ Same HF1 H ∧ (∀ b o, HF1 b = some o → HF b = some o ∨ (B.H0 b = none ∧ ∃ us, H b = some (.lst us))) ∧ DpKV K HF1 kws (m.map fun kv => ((Sum.inl kv.1 : Key), PyData.list kv.2))
  | _, _, HF0, .nil, h0, h1, h2 => ⟨HF0, .refl _, h1, h2, .nil⟩
  | _, _, HF0, .cons (a := w) (b := kv) g t, h0, h1, h2 => by
    obtain ⟨e, q, us, g1, g2, g3, g4, g5⟩ := g
    have s1 : Same HF0 (fun b => if b = q then some (HO.lst us) else HF0 b) := fun b u z => by
      show (if b = q then some (HO.lst us) else HF0 b) = some u
      by_cases hb : b = q
      · subst hb
        rw [if_pos rfl]
        have := h1 b u z
        rw [g4] at this
        exact this
      · rw [if_neg hb]; exact z
    have s2 : Same (fun b => if b = q then some (HO.lst us) else HF0 b) H := fun b u z => by
      have z : (if b = q then some (HO.lst us) else HF0 b) = some u := z
      by_cases hb : b = q
      · subst hb
        rw [if_pos rfl] at z
        exact g4.trans z
      · rw [if_neg hb] at z
        exact h1 b u z
    have s3 : ∀ b o, (fun b => if b = q then some (HO.lst us) else HF0 b) b = some o → HF b = some o ∨ (B.H0 b = none ∧ ∃ us, H b = some (.lst us)) := fun b o z => by
      have z : (if b = q then some (HO.lst us) else HF0 b) = some o := z
      by_cases hb : b = q
      · subst hb; exact .inr ⟨g2, us, g4⟩
      · rw [if_neg hb] at z
        exact h2 b o z
    obtain ⟨HF1, k1, k2, k3, k4⟩ := pl_view t (h0.trans s1) s2 s3
    exact ⟨HF1, s1.trans k1, k2, k3, .cons ⟨e, by rw [g1]; exact .lst (.inl (.inl (k1 _ _ (by show (if q = q then _ else _) = _; rw [if_pos rfl])))) (dpa_mono (h0.trans (s1.trans k1)) g5)⟩ k4⟩
/-- return found -/
theorem g_retFk (i : Nat) (h0 : ρ[i]? = some (.pin (.ref p))) (hno : noOwnR ρ = true) (hP : P.rt (.fk (m.map fun kv => ((Sum.inl kv.1 : Key), PyData.list kv.2))) ρ) (hN : X.N[i]? = some x := by rfl)
    (hvs : Vis X.env.scope x := by first | exact Or.inl rfl | exact Or.inr (Or.inl rfl) | exact Or.inr (Or.inr rfl)) (hd : (x == ("__debug__" : Str)) = false := by decide) (hcd : (x == ("__classdict__" : Str)) = false := by decide) : Gj X B (PlR X.K B p m) [.Return (some (.Name x pos')) pos] ρ P R2 := fun σ HF H S1 b ⟨kws, r⟩ D o =>
  ⟨_, pss_one (ps_ret (pe_frz (pe_var hN hvs hd hcd))), by
    have hx : σ[i]? = some (some (V.ref p)) := by
      obtain ⟨s, e1, e2⟩ := S1.slot i _ h0
      rw [e1]
      exact congrArg some e2
    refine ⟨.ref p, hx, p, _, rfl, r.at_, trivial, fun od => ?_⟩
    obtain ⟨HF1, k1, k2, k3, k4⟩ := pl_view r.its (.refl HF) S1.sub fun b o e => .inl e
    have hpn : HF1 p = none := by
      cases e : HF1 p with
      | none => rfl
      | some u =>
        rcases k3 p u e with z | ⟨_, us, z⟩
        · rw [r.fr] at z; cases z
        · rw [r.at_] at z; cases z
    have s1 : Same HF1 (upd HF1 p (.frz od (.dK kws))) := same_upd hpn
    have s2 : Same (upd HF1 p (.frz od (.dK kws))) (upd H p (.frz od (.dK kws))) := fun c u e => by
      by_cases hc : c = p
      · subst hc
        rw [upd_same] at e ⊢
        exact e
      · rw [upd_ne hc] at e ⊢
        exact k2 c u e
    refine o.rt _ ρ σ (upd HF1 p (.frz od (.dK kws))) _ _ hP (sl_no S1 hno (k1.trans s1) s2) (bn_no b hno (k1.trans s1) (fun c u e1 e2 => ?_) (fun c u e => ?_) fun c u e => ?_) ⟨p, kws, od, rfl, upd_same, dpkv_mono s1 k4⟩
    · rw [upd_ne fun z => by rw [z, r.base] at e1; cases e1]
      exact e2
    · by_cases hc : c = p
      · subst hc; exact ⟨_, upd_same⟩
      · exact ⟨u, by rw [upd_ne hc]; exact e⟩
    · by_cases hc : c = p
      · subst hc; exact .inr r.base
      · rw [upd_ne hc] at e
        rcases k3 c u e with z | ⟨z, _⟩
        · exact .inl z
        · exact .inr z⟩
end
end Th

set_option Elab.async false
set_option linter.all false
set_option maxRecDepth 100000
namespace Th
open PySem PySem.Spec PyProof.Rows L2

/-! places of a web -/
abbrev Pls := List (Int × List (Int × Int))
def encM (m : Pls) : List (Int × List PyData) := m.map fun kv => (kv.1, kv.2.map encI2)
def encPl (m : Pls) : List (Key × PyData) := m.map fun kv => ((Sum.inl kv.1 : Key), PyData.list (kv.2.map encI2))
theorem encM_fk (m : Pls) : ((encM m).map fun kv => ((Sum.inl kv.1 : Key), PyData.list kv.2)) = encPl m := by
  unfold encM encPl
  rw [List.map_map]
  rfl
def addQ (m : Pls) (k : Int) (v : Int × Int) : Pls := setI m k ((getI m k).getD [] ++ [v])
theorem getI_encM (k : Int) : ∀ m : Pls, getI (encM m) k = (getI m k).map fun l => l.map encI2
  | [] => rfl
  | kv :: m => by
    have ih := getI_encM k m
    show getI ((kv.1, kv.2.map encI2) :: encM m) k = _
    rw [getI_cons, getI_cons, ih]
    split <;> rfl
theorem addP_enc (m : Pls) (k : Int) (v : Int × Int) : addP (encM m) k (encI2 v) = encM (addQ m k v) := by
  unfold addP addQ
  rw [getI_encM]
  cases h : getI m k with
  | none =>
    rw [setI_none (by rw [getI_encM, h]; rfl), setI_none h]
    unfold encM
    rw [List.map_append]
    rfl
  | some w =>
    rw [setI_some (w := w.map encI2) (by rw [getI_encM, h]; rfl), setI_some h]
    unfold encM
    rw [List.map_map, List.map_map]
    refine List.map_congr_left fun kv _ => ?_
    show (if kv.1 = k then (kv.1, _) else (kv.1, kv.2.map encI2)) = (((if kv.1 = k then (kv.1, _) else kv) : Int × List (Int × Int)).1, ((if kv.1 = k then (kv.1, _) else kv) : Int × List (Int × Int)).2.map encI2)
    split
    · show (kv.1, w.map encI2 ++ [encI2 v]) = (kv.1, (w ++ [v]).map encI2)
      rw [List.map_append]
      rfl
    · rfl
def Bd (c : Nat) (m : Pls) : Prop := m.length ≤ c ∧ ∀ kv ∈ m, kv.2.length ≤ c
theorem Bd.up {c d : Nat} {m : Pls} (h : Bd c m) (hd : c ≤ d) : Bd d m := ⟨Nat.le_trans h.1 hd, fun kv hk => Nat.le_trans (h.2 kv hk) hd⟩
theorem Bd.add {c : Nat} {m : Pls} (h : Bd c m) (k : Int) (v : Int × Int) : Bd (c + 1) (addQ m k v) := by
  unfold addQ
  cases q : getI m k with
  | none =>
    rw [setI_none q]
    refine ⟨by rw [List.length_append, List.length_singleton]; have := h.1; omega, fun kv hk => ?_⟩
    rcases List.mem_append.mp hk with hk | hk
    · have := h.2 kv hk; omega
    · rw [List.mem_singleton] at hk
      subst hk
      simp
  | some w =>
    rw [setI_some q]
    have hw : w.length ≤ c := h.2 _ (getI_mem q)
    refine ⟨by rw [List.length_map]; have := h.1; omega, fun kv hk => ?_⟩
    obtain ⟨kv', hk', rfl⟩ := List.mem_map.mp hk
    split
    · show (w ++ [v]).length ≤ c + 1
      rw [List.length_append, List.length_singleton]
      omega
    · have := h.2 kv' hk'; omega
theorem Bd.m {c : Nat} {m : Pls} (h : Bd c m) : (encM m).length ≤ c ∧ ∀ kv ∈ encM m, kv.2.length ≤ c := by
  unfold encM
  refine ⟨by rw [List.length_map]; exact h.1, fun kv hk => ?_⟩
  obtain ⟨kv', hk', rfl⟩ := List.mem_map.mp hk
  dsimp only
  rw [List.length_map]
  exact h.2 kv' hk'
def addRow (n : Int) (m : Pls) (row : List Int) : Pls := row.zipIdx.foldl (fun m q => addQ m q.1 (n, (q.2 : Int))) m
def placesF (w : Wb) : Pls := addRow (-1) (w.cs.zipIdx.foldl (fun m q => addRow (q.2 : Int) m q.1) []) w.ends
structure WbOk (w : Wb) : Prop where
  cs : w.cs.length ≤ 1000
  row : ∀ c ∈ w.cs, c.length ≤ 8
  ends : w.ends.length ≤ 1000
def fPlaces : List PyData → A → Prop := fun ds r => ∃ w : Wb, WbOk w ∧ ds = [encW w] ∧ r = .dl (encM (placesF w))
theorem bd_row {n : Int} : ∀ (l : List (Int × Nat)) {c : Nat} {m : Pls}, Bd c m → Bd (c + l.length) (l.foldl (fun m q => addQ m q.1 (n, (q.2 : Int))) m)
  | [], _, _, h => h
  | q :: l, c, m, h => by
    rw [List.foldl_cons, List.length_cons, show c + (l.length + 1) = c + 1 + l.length by omega]
    exact bd_row l (h.add _ _)
theorem Bd.row {n : Int} {c : Nat} {m : Pls} (h : Bd c m) (row : List Int) : Bd (c + row.length) (addRow n m row) := by
  have := bd_row (n := n) row.zipIdx h
  rwa [List.length_zipIdx] at this
end Th

set_option Elab.async false
set_option linter.all false
set_option maxRecDepth 100000
namespace Th
open PySem PySem.Spec PyProof.Rows L2 RT RZ

/-! ### enumerate(d), d a dict with plain keys -/
section
variable {prog : Program} {w : World} {A : Around} {E : Value → Shared → Prop} {s : Shared}
theorem nextOf_key_item {it d : Addr} {i n ep : Nat} {od : Obj} {es : Array DictEntry} {en : DictEntry} {Q : Value → Shared → Prop} (hit : s.heap.IsKeyIter it d i n ep) (hod : s.heap.get? d = some od) (hdd : od.data = .dict es ep)
    (hsz : es.size = n) (hx : es[i]? = some en) (hQ : ∀ h', h'.IsKeyIter it d (i + 1) n ep → Heap.SameBut it s.heap h' → Q en.key { s with heap := h' }) : wpAny (model prog w) A (Builtin.SmallTypes.nextOf (.ref it)) Q E s := by
  obtain ⟨o, ho, hc, hd⟩ := id hit
  unfold Builtin.SmallTypes.nextOf
  refine wpAny_bind (wpAny_callSpecial?_slot (name := Str.ofString "__next__") hit.typeIs F.slot_dict_keyiterator_next
    (wpAny_call_entry F.slot_dict_keyiterator_next hit.typeIs F.entry_dict_keyiterator_next ?_ (F.args_dict_keyiterator_next_1 _)))
  refine wpAny_bind (wpAny_pure ?_)
  refine wpAny_bind ?_
  refine wpAny_bind ?_
  first | refine wpAny_bind (wpAny_typeNameOfWhole_keyiter hit.typeIs (wpAny_pure ?_)) | refine wpAny_bind (wpAny_typeNameOf_keyiter hit.typeIs (wpAny_pure ?_))
  refine wpAny_bind (wpAny_fieldsOf ho hd ?_)
  have hown : Builtin.Dict_items.ownsTuple "dict_keyiterator" = false := by decide
  simp only [hown, Bool.false_eq_true, if_false]
  show wpAny _ _ (if (Value.ref d == Value.none) = true then _ else _) _ _ s
  rw [if_neg (show ¬ ((Value.ref d == Value.none) = true) from Bool.false_ne_true)]
  refine wpAny_bind (wpAny_pure ?_)
  refine wpAny_bind (wpAny_dictEntries hod hdd ?_)
  rw [if_neg (by rw [hsz]; simp)]
  refine wpAny_bind (wpAny_pure ?_)
  refine wpAny_bind (wpAny_dictEpoch hod hdd ?_)
  rw [if_neg (by simp)]
  refine wpAny_pure ?_
  obtain ⟨hlt', hen⟩ := Array.getElem?_eq_some_iff.mp hx
  simp only [show ¬ ((i : Int) < 0) from by omega, if_false, Int.toNat_natCast, Array.getElem?_eq_getElem hlt']
  refine wpAny_bind ?_
  first | refine wpAny_bind (wpAny_typeNameOfWhole_keyiter hit.typeIs (wpAny_pure ?_)) | refine wpAny_bind (wpAny_typeNameOf_keyiter hit.typeIs (wpAny_pure ?_))
  refine wpAny_bind (wpAny_isOneOf_keyiter hit.typeIs ?_)
  show wpAny _ _ (setField (.ref it) 1 (rawInt ((i : Int) + 1)) >>= _) _ _ s
  refine wpAny_bind (wpAny_setField ho hd (by simp) ?_)
  have hit' : (s.heap.update it (Obj.mapFields (·.setIfInBounds 1 (rawInt ((i : Int) + 1))))).IsKeyIter it d (i + 1) n ep :=
    ⟨_, Heap.get?_update_self _ ho (Obj.isFreed_of_fields (Obj.data_mapFields hd _)), (Obj.cls_mapFields ..).trans hc, by rw [Obj.data_mapFields hd]; simp [rawInt]⟩
  refine wpAny_bind (wpAny_holding ?_)
  refine wpAny_bind (wpAny_isOneOf_keyiter (s := { s with heap := s.heap.update it (Obj.mapFields (·.setIfInBounds 1 (rawInt ((i : Int) + 1)))) }) hit'.typeIs ?_)
  show wpAny _ _ (pure es[i].key) _ _ _
  rw [hen]
  exact wpAny_pure (wpAny_pure ⟨_, rfl, wpAny_pure (hQ _ hit' (Heap.SameBut.update ..))⟩)
theorem nextOf_key_end {it d : Addr} {i n ep : Nat} {od : Obj} {es : Array DictEntry} {Q : Value → Shared → Prop} (hh : A.handled = none) (hit : s.heap.IsKeyIter it d i n ep) (hod : s.heap.get? d = some od) (hdd : od.data = .dict es ep)
    (hsz : es.size = n) (hge : n ≤ i) (hE : ∀ h' e, Heap.ExtBut it s.heap h' → (∃ o, h'.get? e = some o ∧ o.cls = .type "StopIteration") → E (.ref e) { s with heap := h' }) : wpAny (model prog w) A (Builtin.SmallTypes.nextOf (.ref it)) Q E s := by
  obtain ⟨o, ho, hc, hd⟩ := id hit
  unfold Builtin.SmallTypes.nextOf
  refine wpAny_bind (wpAny_callSpecial?_slot (name := Str.ofString "__next__") hit.typeIs F.slot_dict_keyiterator_next
    (wpAny_call_entry F.slot_dict_keyiterator_next hit.typeIs F.entry_dict_keyiterator_next ?_ (F.args_dict_keyiterator_next_1 _)))
  refine wpAny_bind (wpAny_pure ?_)
  refine wpAny_bind ?_
  refine wpAny_bind ?_
  first | refine wpAny_bind (wpAny_typeNameOfWhole_keyiter hit.typeIs (wpAny_pure ?_)) | refine wpAny_bind (wpAny_typeNameOf_keyiter hit.typeIs (wpAny_pure ?_))
  refine wpAny_bind (wpAny_fieldsOf ho hd ?_)
  have hown : Builtin.Dict_items.ownsTuple "dict_keyiterator" = false := by decide
  simp only [hown, Bool.false_eq_true, if_false]
  show wpAny _ _ (if (Value.ref d == Value.none) = true then _ else _) _ _ s
  rw [if_neg (show ¬ ((Value.ref d == Value.none) = true) from Bool.false_ne_true)]
  refine wpAny_bind (wpAny_pure ?_)
  refine wpAny_bind (wpAny_dictEntries hod hdd ?_)
  rw [if_neg (by rw [hsz]; simp)]
  refine wpAny_bind (wpAny_pure ?_)
  refine wpAny_bind (wpAny_dictEpoch hod hdd ?_)
  rw [if_neg (by simp)]
  refine wpAny_pure ?_
  have hge' : es.size ≤ i := by rw [hsz]; exact hge
  simp only [show ¬ ((i : Int) < 0) from by omega, if_false, Int.toNat_natCast, Array.getElem?_eq_none hge']
  refine wpAny_bind ?_
  first | refine wpAny_bind (wpAny_typeNameOfWhole_keyiter hit.typeIs (wpAny_pure ?_)) | refine wpAny_bind (wpAny_typeNameOf_keyiter hit.typeIs (wpAny_pure ?_))
  show wpAny _ _ (setField (.ref it) 0 .none >>= _) _ _ s
  refine wpAny_bind (wpAny_setField ho hd (by simp) ?_)
  show wpAny _ _ (newExc (.type "StopIteration") [] >>= _) _ _ _
  refine wpAny_bind ?_
  simp only [newExc, newTuple]
  refine wpAny_bind (wpAny_newObj_type ?_ (by size_fits))
  refine wpAny_bind (m := firstArgMember _ _) (wpAny_of_eq (a := Value.none) (by first | rfl | (simp only [firstArgMember]; rfl)) ?_)
  refine wpAny_newObj_type ?_ (by size_fits)
  simp only [raiseNew]
  refine wpAny_bind (wpAny_handled ?_)
  first | rw [show A.in1.handled = none from hh] | rw [hh]
  refine wpAny_bind (wpAny_pure (wpAny_throw ?_))
  exact hE _ _ (((Heap.SameBut.update ..).extBut.push _).push _) ⟨_, Heap.get?_push_size _ rfl, rfl⟩
end
theorem draws_keys {prog : Program} {w : World} {A : Around} (hh : A.handled = none) (it d : Addr) (hne : d ≠ it) (od : Obj) (es : Array DictEntry) (ep : Nat) (hdt : od.data = .dict es ep) :
    Draws prog w A it [it, d] es.size (fun i v => ∃ en, es[i]? = some en ∧ v = en.key) (fun i h => h.IsKeyIter it d i es.size ep ∧ h.get? d = some od) where
  live := fun _ _ st => let ⟨o, ho, _⟩ := st.1; ⟨o, ho⟩
  frame := fun _ _ _ st hk => ⟨st.1.at fun o e => hk it (by simp) o e, hk d (by simp) _ st.2⟩
  item := fun i s Q E hi st hQ => by
    refine nextOf_key_item st.1 st.2 hdt rfl (en := es[i]) (by simp [hi]) fun h' hit' hs' => ?_
    exact hQ _ h' s.toks ⟨_, by simp [hi], rfl⟩ ⟨hit', hs'.extBut _ _ hne st.2⟩ hs'
  done := fun s Q E st hE => nextOf_key_end hh st.1 st.2 hdt rfl (Nat.le_refl _) hE
set_option maxHeartbeats 1000000 in
theorem meets_enum_keys (l : Addr) (es : Array DictEntry) (ep : Nat) (od : Obj) (hs : (l == sysModules) = false) (hc : od.ExactDict) (hdt : od.data = .dict es ep) :
    Meets (Builtin.«enumerate.__new__» ⟨[.type "enumerate", .ref l], []⟩) (fun _ R s => s.heap.get? l = some od ∧
      R (.ok (.ret (.ref (s.heap.push { cls := .type "dict_keyiterator", data := .fields #[.ref l, .int 0 0, .int es.size 0, .int ep 0] }).objs.size)))
        { s with heap := (s.heap.push { cls := .type "dict_keyiterator", data := .fields #[.ref l, .int 0 0, .int es.size 0, .int ep 0] }).push { cls := .type "enumerate", data := .fields #[.none, .bool false, .ref s.heap.objs.size, rawInt 0, .none, .none] } }) :=
  .of_wp fun prog w A R s h => by
    obtain ⟨hp, g, d, tk, oss⟩ := s; obtain ⟨hl, h⟩ := h
    have hsub := sub_enumerate
    have hL : Shared.TypeIs ⟨hp, g, d, tk, oss⟩ (.ref l) "dict" := ⟨_, hl, hc.1⟩
    wp_walk using PySem.AutoSeq1.wpAny_loadPart' hl
    refine wpAny_stack_any fun st => wpAny_pure ?_
    split
    · rename_i c _ _ _ _ _
      cases (c == Value.type "enumerate")
      · wp_walk using PySem.AutoSeq1.wpAny_loadPart' hl, iter_keys hs hl hc hdt
        exact ⟨_, rfl, h⟩
      · wp_walk using PySem.AutoSeq1.wpAny_loadPart' hl, iter_keys hs hl hc hdt
        exact ⟨_, rfl, h⟩
    · wp_walk using PySem.AutoSeq1.wpAny_loadPart' hl, iter_keys hs hl hc hdt
      exact ⟨_, rfl, h⟩
section
variable {prog : Program} {w : World} {A : Around} {E : Value → Shared → Prop} {s : Shared}
theorem call_enum_keys {l : Addr} {es : Array DictEntry} {ep : Nat} {od : Obj} {Q : Value → Shared → Prop} (hs : (l == sysModules) = false) (hl : s.heap.get? l = some od) (hc : od.ExactDict) (hdt : od.data = .dict es ep)
    (h : ∀ h', IsEnum h' (s.heap.objs.size + 1) s.heap.objs.size 0 .none → h'.IsKeyIter s.heap.objs.size l 0 es.size ep → h'.objs.size = s.heap.objs.size + 2 →
      (∀ b o, s.heap.get? b = some o → h'.get? b = some o) → Q (.ref (s.heap.objs.size + 1)) { s with heap := h' }) :
    wpAny (model prog w) A (call (.type "enumerate") [.ref l]) Q E s := by
  refine callType_new F.called_enumerate (by decide) (F.typeCall_enumerate_1 _) (F.newCall_enumerate_1 _) (fun obj => F.args_object_init_2 obj _) F.entry_enumerate_new
    (meets_enum_keys l es ep od hs hc hdt) ⟨hl, ?_⟩
  have hz : (s.heap.push { cls := .type "dict_keyiterator", data := .fields #[.ref l, .int 0 0, .int es.size 0, .int ep 0] }).objs.size = s.heap.objs.size + 1 := Heap.size_push ..
  show _ ∧ _
  rw [hz]
  have he : IsEnum ((s.heap.push { cls := .type "dict_keyiterator", data := .fields #[.ref l, .int 0 0, .int es.size 0, .int ep 0] }).push
      { cls := .type "enumerate", data := .fields #[.none, .bool false, .ref s.heap.objs.size, rawInt 0, .none, .none] }) (s.heap.objs.size + 1) s.heap.objs.size 0 .none := by
    have := Heap.get?_push_size (s.heap.push { cls := .type "dict_keyiterator", data := .fields #[.ref l, .int 0 0, .int es.size 0, .int ep 0] })
      (o := { cls := .type "enumerate", data := .fields #[.none, .bool false, .ref s.heap.objs.size, rawInt 0, .none, .none] }) rfl
    rw [hz] at this; exact this
  refine ⟨⟨_, he, rfl⟩, h _ he ⟨_, Heap.get?_push_of_some _ (Heap.get?_push_size _ rfl), rfl, rfl⟩ (by rw [Heap.size_push, hz]) fun b o x => Heap.get?_push_of_some _ (Heap.get?_push_of_some _ x)⟩
end
/-- the keys of the locked dict at d as they stand at each turn, each in a new pair -/
def ItEK (d : Addr) (o : Obj) (kvs : List (Key × V)) : It :=
  ⟨fun i H => H d = some (.frz o (.dK kvs)) ∧ i < kvs.length, fun i H x H' => ∃ T k v, kvs[i]? = some (k, v) ∧ x = .ref T ∧ H T = none ∧ H' = upd H T (.tup [.int (i : Nat), kV k]), fun i H => H d = some (.frz o (.dK kvs)) ∧ kvs.length ≤ i⟩
theorem turn_enumK {P : Program} {w : World} {K : PySem.W.Frag} {elts : List Expr} {kk : Nat} {tpos : Pos} {d : Addr} {o : Obj} {es : Array DictEntry} {ep : Nat} {kvs : List (Key × V)} (e it : Addr) (hod : o.data = .dict es ep) :
    Turn P w K (.Tuple elts kk tpos) (ItEK d o kvs) [e, it] e (fun i h => (∃ old, IsEnum h e it ((i : Nat) : Int) old) ∧ h.IsKeyIter it d i kvs.length ep ∧ e ≠ it ∧ d ≠ it ∧ d ≠ e) where
  mem := by simp
  obj := fun i h st b hb => by
    obtain ⟨⟨old, he⟩, ⟨o, ho, hc, hd⟩, _⟩ := st
    have e' : b = e ∨ b = it := by simpa using hb
    rcases e' with z | z
    · rw [z]; exact ⟨_, he, fun v q => nomatch q⟩
    · rw [z]; exact ⟨o, ho, fun v q => by rw [hd] at q; cases q⟩
  keep := fun i h h' st k => let ⟨⟨old, he⟩, hi, hne, h1, h2⟩ := st; ⟨⟨old, k e (by simp) _ he⟩, hi.at fun o q => k it (by simp) o q, hne, h1, h2⟩
  item := by
    intro X hP hw hK hc i pins s σ H E I hf st hg
    subst hP hw hK
    obtain ⟨⟨old, he⟩, hit, hne, hai, hae⟩ := st
    obtain ⟨hd, hi⟩ := hg
    obtain ⟨hs, hgd, hx, es', ep', vs, hdt, hsz, kv, hm⟩ := I.frzK hd
    obtain ⟨rfl, rfl⟩ := dict_ep hod hdt
    obtain ⟨⟨k, v⟩, hkv⟩ : ∃ p, kvs[i]? = some p := ⟨kvs[i], List.getElem?_eq_getElem hi⟩
    obtain ⟨u, hu, ru⟩ := kv_get kv hkv
    have hel : e < s.heap.objs.size := Heap.lt_size he
    have hil : it < s.heap.objs.size := by obtain ⟨_, q, _⟩ := hit; exact Heap.lt_size q
    refine wpAny_pyNext_enum_itemD (draws_keys (A := X.A.in1) (I.ok.hd hc) it d hai o es' ep' hdt) he ⟨by rw [hsz]; exact hit, hgd⟩ (by rw [hsz]; exact hi) hne (by simp [hne, Ne.symm hae]) fun y h' tk hy ho hst hT2 hsz' hk => ?_
    obtain ⟨en, hen, rfl⟩ := hy
    have hkey : keyIs k en.key = true := by
      obtain ⟨od2, es2, hod2, hcd2, hdd2, hk2, hp2, hn2⟩ := id hm
      rw [hgd] at hod2
      cases hod2
      obtain ⟨rfl, _⟩ := dict_ep hdt hdd2
      exact (hp2.get? (e := en) (by rw [← hen]; simp) hu).1
    refine ⟨_, rfl, wpAny_letOwnedTupleGo_enum (s := { s with heap := h', toks := tk + 1 }) ho fun h'' he' sb => ?_⟩
    have hT3 : h''.get? s.heap.objs.size = some { cls := .type "tuple", data := .seq #[.int i tk, en.key] } := (sb.2 _ (Nat.ne_of_gt hel)).trans hT2
    have new : ObjOk X.prog X.w (upd H s.heap.objs.size (.tup [.int (i : Nat), kV k])) h'' s.heap.objs.size (.tup [.int (i : Nat), kV k]) :=
      ⟨by show 2 ≤ sizeLine; decide, [.int i tk, en.key], .cons ⟨_, rfl⟩ (.cons (relV_key hkey) .nil), ⟨_, hT3, rfl, _, rfl⟩⟩
    have I1 : Inv X pins σ (upd H s.heap.objs.size (.tup [.int (i : Nat), kV k])) { s with heap := h'', toks := tk + 1 } :=
      I.turnedNew (ch := [e, it]) (fun b ob hb q => (sb.2 b (fun z => hb (by simp [z]))).trans (hk b ob (fun z => hb (by simp [z])) (fun z => hb (by simp [z])) q)) hf (Nat.le_refl _) new
    refine ⟨.ref s.heap.objs.size, _, I1, rfl, ⟨_, k, v, hkv, rfl, I.hok.fresh (Nat.le_refl _), rfl⟩, ⟨⟨en.key, ?_⟩, ?_, hne, hai, hae⟩, fun b hb => ?_⟩
    · have e1 : ((i + 1 : Nat) : Int) = (i : Int) + 1 := by omega
      rw [e1]; exact he'
    · rw [← hsz]
      exact hst.1.at fun o q => (sb.2 it (Ne.symm hne)).trans q
    · have hb' : b < s.heap.objs.size := by
        have e' : b = e ∨ b = it := by simpa using hb
        rcases e' with z | z
        · rw [z]; exact hel
        · rw [z]; exact hil
      rw [upd_ne (Nat.ne_of_lt hb')]
      exact (hf b hb).1
  done := by
    intro X hP hw hK hc i pins s σ H E I hf st hg
    subst hP hw hK
    obtain ⟨⟨old, he⟩, hit, hne, hai, hae⟩ := st
    obtain ⟨hd, hi⟩ := hg
    obtain ⟨f0, f1, f2, f3, f4, f5⟩ := hf it (by simp)
    obtain ⟨hs, hgd, hx, es', ep', vs, hdt, hsz, kv, hm⟩ := I.frzK hd
    obtain ⟨rfl, rfl⟩ := dict_ep hod hdt
    have hT : s.TypeIs (.ref e) "enumerate" := ⟨_, he, rfl⟩
    unfold pyNext
    refine wpAny_bind (wpAny_attempt (wpAny_callSpecial?_slot (name := Str.ofString "__next__") hT F.slot_enumerate_next
      (wpAny_call_entry F.slot_enumerate_next hT F.entry_enumerate_next ?_ (F.args_enumerate_next_1 _))))
    show wpAny _ _ (field (.ref e) 2 >>= _) _ _ _
    refine wpAny_bind (wpAny_field he rfl (x := .ref it) rfl ?_)
    refine wpAny_bind (nextOf_key_end (I.ok.hd hc) hit hgd hdt hsz hi fun h' x eb hx' => ?_)
    obtain ⟨o, ho, hc⟩ := hx'
    refine wpAny_bind (wpAny_isInstance (T := "StopIteration") (b := true) ⟨o, ho, hc⟩ isSubtype_stop ?_)
    exact wpAny_pure ⟨rfl, I.turned (t' := s.toks) (fun b ob hb q => eb b ob hb q) f0 f1 f3 f4 f5⟩
  self := fun A i s Q E st h => let ⟨⟨_, he⟩, _⟩ := st; wpAny_pyIter_enum he h
def iEnumK (ta : TA) : TI := fun σ H R => ta σ H fun vs H1 => ∃ d o kvs, vs = [.ref d] ∧ H1 d = some (.frz o (.dK kvs)) ∧ R (ItEK d o kvs) H1
theorem pi_enumK {X : Cx} {e : Expr} {ta : TA} {p pos tpos : Pos} {elts : List Expr} {kk : Nat} (hg : Gl X "enumerate") (hm : X.mg "enumerate" = none) (ha : PA X [e] ta) (hs : starEach [e] X.env = [(false, eval e X.env)] := by rfl) :
    PI X (.Tuple elts kk tpos) (.Call (.Name "enumerate" p) [e] [] pos) (iEnumK ta) := by
  refine ⟨fun pins s σ H R I h => ?_⟩
  refine Call_ (ld_blt I hg hm boot_enumerate (PyProof.Rows.callWith_type1 (thn (ha.run pos pins s σ H _ I h) fun us s1 ⟨vs, H1, I1, r1, q1⟩ => ?_) hs rfl))
  obtain ⟨d, o, kvs, ex, hd, q⟩ := q1
  subst ex
  cases r1 with
  | cons r rr =>
    cases rr
    cases r
    obtain ⟨hs', hgd, hx, es, ep, vs', hdt, hsz, kv, hm'⟩ := I1.frzK hd
    have hal : d < s1.heap.objs.size := Heap.lt_size hgd
    refine call_enum_keys hs' hgd hx hdt fun h' he hit hsz' hk => wpAny_pyIter_enum he ?_
    have I2 : Inv X pins σ H1 { s1 with heap := h' } := I1.kept (t' := s1.toks) hk
    refine ⟨s1.heap.objs.size + 1, [s1.heap.objs.size + 1, s1.heap.objs.size], _, _, H1, rfl, I2, turn_enumK (s1.heap.objs.size + 1) s1.heap.objs.size hdt, ⟨⟨.none, he⟩, ?_, Nat.succ_ne_self _, Nat.ne_of_lt hal, Nat.ne_of_lt (Nat.lt_succ_of_lt hal)⟩, fun b hb => ?_, q⟩
    · rw [← hsz]; exact hit
    have e' : b = s1.heap.objs.size + 1 ∨ b = s1.heap.objs.size := by simpa using hb
    have hle : s1.heap.objs.size ≤ b := by
      rcases e' with z | z
      · rw [z]; exact Nat.le_add_right _ _
      · rw [z]; exact Nat.le_refl _
    exact I1.fpOk hle (I1.hok.fresh hle)
section
variable {X : Cx} {ρ ρ1 : Rho} {e : Expr} {pos : Pos} {kvs : List (Key × PyData)}
theorem src_enumK {p : Pos} {elts : List Expr} {kk : Nat} {tpos : Pos} (h : E X e ρ (.fk kvs) ρ1) (hm : X.mg "enumerate" = none) (hg : Gl X "enumerate" := by rfl) (hs : starEach [e] X.env = [(false, eval e X.env)] := by rfl) :
    Src X (.Tuple elts kk tpos) (.Call (.Name "enumerate" p) [e] [] pos) ρ (enumD (kvs.map fun kv => kD kv.1)) ρ1 none :=
  ⟨_, pi_enumK hg hm (pa_cons pe_w pa_nil hs) hs, fun σ HF H S1 R q => h σ HF H S1 _ fun x HF1 H1 S2 f1 r1 => by
  obtain ⟨p, kws, od, rfl, h1, h2⟩ := r1
  refine ⟨p, od, kws, rfl, S2.sub _ _ h1, q _ HF1 H1 S2 f1 fun σ2 ρ2 HF2 H2 _ _ S3 s3 => ⟨fun i hi => ⟨S3.sub _ _ (s3 _ _ h1), ?_⟩, ⟨S3.sub _ _ (s3 _ _ h1), ?_⟩, fun i x H3 hi ⟨T, k, v, e2, e3, e4, e5⟩ => ?_⟩⟩
  · rw [enumD_len, List.length_map] at hi
    rw [dpkv_len h2]
    exact hi
  · rw [enumD_len, List.length_map, dpkv_len h2]
    exact Nat.le_refl _
  · obtain ⟨d, g1, _⟩ := dpkv_get h2 e2
    exact ⟨_, enumD_get (d := kD k) (by rw [List.getElem?_map, g1]; rfl), .inr ⟨T, _, _, e4, e5, e3, rfl, .cons (.int _) (.cons (dp_kD k) .nil)⟩⟩⟩
end
end Th

set_option Elab.async false
set_option linter.all false
set_option maxRecDepth 100000
namespace Th
open PySem PySem.Spec PyProof.Rows L2 RT RZ

/-! ### zip(d, xs), d a dict with plain keys, xs a list -/
abbrev zkH1 (h : Heap) (l1 n ep : Nat) : Heap := h.push { cls := .type "dict_keyiterator", data := .fields #[.ref l1, .int 0 0, .int n 0, .int ep 0] }
abbrev zkH2 (h : Heap) (l1 n ep l2 : Nat) : Heap := (zkH1 h l1 n ep).push { cls := .type "list_iterator", data := .fields #[.ref l2, .int 0 0] }
abbrev zkH3 (h : Heap) (l1 n ep l2 : Nat) : Heap := (zkH2 h l1 n ep l2).push { cls := .type "tuple", data := .seq #[.ref h.objs.size, .ref (zkH1 h l1 n ep).objs.size] }
abbrev zkH4 (h : Heap) (l1 n ep l2 : Nat) : Heap := (zkH3 h l1 n ep l2).push { cls := .type "tuple", data := .seq #[.none, .none] }
abbrev zkH5 (h : Heap) (l1 n ep l2 : Nat) : Heap := (zkH4 h l1 n ep l2).push { cls := .type "zip", data := .fields #[.none, .bool false, .bool false, .ref (zkH2 h l1 n ep l2).objs.size, .ref (zkH3 h l1 n ep l2).objs.size] }
theorem meets_zipKL_new (l1 l2 : Addr) (es : Array DictEntry) (ep : Nat) (od : Obj) (hs : (l1 == sysModules) = false) (hc : od.ExactDict) (hdt : od.data = .dict es ep) (ys : Array Value) :
    Meets (Builtin.«zip.__new__» ⟨[.type "zip", .ref l1, .ref l2], []⟩) (fun _ R s => s.heap.get? l1 = some od ∧ s.heap.IsList l2 ys ∧
      R (.ok (.ret (.ref (zkH4 s.heap l1 es.size ep l2).objs.size))) { s with heap := zkH5 s.heap l1 es.size ep l2 }) :=
  .of_wp fun prog w A R s h => by
    obtain ⟨hp, g, d, tk, oss⟩ := s; obtain ⟨hl1, hl2, h⟩ := h
    have hsub := sub_zip
    have hL2 : Heap.IsList (Shared.heap ⟨zkH1 hp l1 es.size ep, g, d, tk, oss⟩) l2 ys := Heap.IsList.push hl2 _
    wp_walk using iter_keys hs hl1 hc hdt, wpAny_pyIter_list hL2
    exact ⟨_, rfl, h⟩
section
variable {prog : Program} {w : World} {A : Around} {E : Value → Shared → Prop} {s : Shared}
theorem call_zipKL {l1 l2 : Addr} {es : Array DictEntry} {ep : Nat} {od : Obj} {ys : Array Value} {Q : Value → Shared → Prop} (hs : (l1 == sysModules) = false) (hl1 : s.heap.get? l1 = some od) (hc : od.ExactDict) (hdt : od.data = .dict es ep) (hl2 : s.heap.IsList l2 ys)
    (h : ∀ h', IsZip h' (s.heap.objs.size + 4) (s.heap.objs.size + 2) (s.heap.objs.size + 3) .none → IsPair h' (s.heap.objs.size + 2) (.ref s.heap.objs.size) (.ref (s.heap.objs.size + 1)) →
      IsPair h' (s.heap.objs.size + 3) .none .none → h'.IsKeyIter s.heap.objs.size l1 0 es.size ep → h'.IsListIter (s.heap.objs.size + 1) l2 0 → h'.objs.size = s.heap.objs.size + 5 →
      (∀ c o, s.heap.get? c = some o → h'.get? c = some o) → Q (.ref (s.heap.objs.size + 4)) { s with heap := h' }) :
    wpAny (model prog w) A (call (.type "zip") [.ref l1, .ref l2]) Q E s := by
  refine callType_new F.called_zip (by decide) (F.typeCall_zip_2 _ _) (F.newCall_zip_2 _ _) (fun obj => F.args_object_init_3 obj _ _) F.entry_zip_new
    (meets_zipKL_new l1 l2 es ep od hs hc hdt ys) ⟨hl1, hl2, ?_⟩
  have z1 : (zkH1 s.heap l1 es.size ep).objs.size = s.heap.objs.size + 1 := Heap.size_push ..
  have z2 : (zkH2 s.heap l1 es.size ep l2).objs.size = s.heap.objs.size + 2 := by rw [Heap.size_push, z1]
  have z3 : (zkH3 s.heap l1 es.size ep l2).objs.size = s.heap.objs.size + 3 := by rw [Heap.size_push, z2]
  have z4 : (zkH4 s.heap l1 es.size ep l2).objs.size = s.heap.objs.size + 4 := by rw [Heap.size_push, z3]
  have z5 : (zkH5 s.heap l1 es.size ep l2).objs.size = s.heap.objs.size + 5 := by rw [Heap.size_push, z4]
  have g5 : (zkH5 s.heap l1 es.size ep l2).get? (zkH4 s.heap l1 es.size ep l2).objs.size = some _ := Heap.get?_push_size _ rfl
  have g4 : (zkH5 s.heap l1 es.size ep l2).get? (zkH3 s.heap l1 es.size ep l2).objs.size = some _ := Heap.get?_push_of_some _ (Heap.get?_push_size _ rfl)
  have g3 : (zkH5 s.heap l1 es.size ep l2).get? (zkH2 s.heap l1 es.size ep l2).objs.size = some _ := Heap.get?_push_of_some _ (Heap.get?_push_of_some _ (Heap.get?_push_size _ rfl))
  have g2 : (zkH5 s.heap l1 es.size ep l2).get? (zkH1 s.heap l1 es.size ep).objs.size = some _ := Heap.get?_push_of_some _ (Heap.get?_push_of_some _ (Heap.get?_push_of_some _ (Heap.get?_push_size _ rfl)))
  have g1 : (zkH5 s.heap l1 es.size ep l2).get? s.heap.objs.size = some _ := Heap.get?_push_of_some _ (Heap.get?_push_of_some _ (Heap.get?_push_of_some _ (Heap.get?_push_of_some _ (Heap.get?_push_size _ rfl))))
  show _ ∧ _
  rw [z2, z3, z4] at g5
  rw [z1, z2] at g3
  rw [z3] at g4
  rw [z1] at g2
  rw [z4]
  exact ⟨⟨_, g5, rfl⟩, h _ g5 g3 g4 ⟨_, g1, rfl, rfl⟩ ⟨_, g2, rfl, rfl⟩ z5 fun c o x =>
    Heap.get?_push_of_some _ (Heap.get?_push_of_some _ (Heap.get?_push_of_some _ (Heap.get?_push_of_some _ (Heap.get?_push_of_some _ x))))⟩
end
def ItzK (K : PySem.W.Frag) (d : Addr) (o : Obj) (kvs : List (Key × V)) (b : Addr) : It :=
  ⟨fun i H => H d = some (.frz o (.dK kvs)) ∧ i < kvs.length ∧ ∃ ys : List V, SqL K H b ys ∧ i < ys.length,
    fun i H x H' => ∃ T k v y, kvs[i]? = some (k, v) ∧ x = .ref T ∧ H T = none ∧ H' = upd H T (.tup [kV k, y]) ∧ ∀ ys, SqL K H b ys → ys[i]? = some y,
    fun i H => H d = some (.frz o (.dK kvs)) ∧ ∃ ys : List V, SqL K H b ys ∧ i = kvs.length ∧ kvs.length ≤ ys.length⟩
theorem turn_zipK {P : Program} {w : World} {K : PySem.W.Frag} {elts : List Expr} {kk : Nat} {tpos : Pos} {d b z TI TO i1 i2 : Addr} {o : Obj} {es : Array DictEntry} {ep : Nat} {kvs : List (Key × V)} (S : ZipSep2 z TI TO i1 i2 [i1, d] [i2, b]) (hod : o.data = .dict es ep) (h12 : d ≠ i1) (hb2 : b ≠ i2) :
    Turn P w K (.Tuple elts kk tpos) (ItzK K d o kvs b) [z, TI, TO, i1, i2] z (fun i h => IsZip h z TI TO .none ∧ IsPair h TI (.ref i1) (.ref i2) ∧ (∃ x y, IsPair h TO x y) ∧ h.IsKeyIter i1 d i kvs.length ep ∧ h.IsListIter i2 b i) where
  mem := by simp
  obj := fun i h st c hc => by
    obtain ⟨hz, hTI, ⟨x, y, hTO⟩, ⟨o1, e1, _, d1⟩, ⟨o2, e2, _, d2⟩⟩ := st
    have e' : c = z ∨ c = TI ∨ c = TO ∨ c = i1 ∨ c = i2 := by simpa using hc
    rcases e' with q | q | q | q | q
    · rw [q]; exact ⟨_, hz, fun v q => nomatch q⟩
    · rw [q]; exact ⟨_, hTI, fun v q => nomatch q⟩
    · rw [q]; exact ⟨_, hTO, fun v q => nomatch q⟩
    · rw [q]; exact ⟨o1, e1, fun v q => by rw [d1] at q; cases q⟩
    · rw [q]; exact ⟨o2, e2, fun v q => by rw [d2] at q; cases q⟩
  keep := fun i h h' st k => by
    obtain ⟨hz, hTI, ⟨x, y, hTO⟩, h1, h2⟩ := st
    exact ⟨k z (by simp) _ hz, k TI (by simp) _ hTI, ⟨x, y, k TO (by simp) _ hTO⟩, h1.at fun o q => k i1 (by simp) o q, h2.at fun o q => k i2 (by simp) o q⟩
  item := by
    intro X hP hw hK hc i pins s σ H E I hf st hg
    subst hP hw hK
    obtain ⟨hz, hTI, ⟨x0, y0, hTO⟩, h1, h2⟩ := st
    obtain ⟨hd, hi, ys, hqy, hiy⟩ := hg
    obtain ⟨hs, hgd, hx, es', ep', vs, hdt, hsz, kv, hm⟩ := I.frzK hd
    obtain ⟨rfl, rfl⟩ := dict_ep hod hdt
    obtain ⟨⟨k, v⟩, hkv⟩ : ∃ p, kvs[i]? = some p := ⟨kvs[i], List.getElem?_eq_getElem hi⟩
    obtain ⟨u, hu, ru⟩ := kv_get kv hkv
    obtain ⟨its, rv, p2, _⟩ := I.list hqy
    have hly := rv.length
    have hzl : z < s.heap.objs.size := Heap.lt_size hz
    refine wpAny_pyNext_zipD2_item S (draws_keys (A := X.A.in1) (I.ok.hd hc) i1 d h12 o es' ep' hdt) (Draws.list (A := X.A.in1) (I.ok.hd hc) i2 b hb2 its.toArray) hz hTI hTO ⟨by rw [hsz]; exact h1, hgd⟩ ⟨h2, p2.isList⟩ (by rw [hsz]; exact hi) (by simp; omega) fun x1 x2 h' tk hy1 hy2 z' TO' st1 st2 hT hsz' hk => ?_
    obtain ⟨en, hen, rfl⟩ := hy1
    obtain ⟨y, hy⟩ : ∃ y, ys[i]? = some y := ⟨ys[i], List.getElem?_eq_getElem hiy⟩
    obtain ⟨u2, hu2, ru2⟩ := rv.get hy
    have hyu : x2 = u2 := by
      have : its.toArray[i]? = some x2 := hy2
      rw [show its.toArray[i]? = its[i]? by simp, hu2] at this
      exact (Option.some.inj this).symm
    subst hyu
    have hkey : keyIs k en.key = true := by
      obtain ⟨od2, es2, hod2, hcd2, hdd2, hk2, hp2, hn2⟩ := id hm
      rw [hgd] at hod2
      cases hod2
      obtain ⟨rfl, _⟩ := dict_ep hdt hdd2
      exact (hp2.get? (e := en) (by rw [← hen]; simp) hu).1
    refine ⟨_, rfl, wpAny_letOwnedTupleGo_zip (s := { s with heap := h', toks := tk }) z' fun h'' z'' sb => ?_⟩
    have hT2 : h''.get? s.heap.objs.size = some { cls := .type "tuple", data := .seq #[en.key, x2] } := (sb.2 _ (Nat.ne_of_gt hzl)).trans hT
    have new : ObjOk X.prog X.w (upd H s.heap.objs.size (.tup [kV k, y])) h'' s.heap.objs.size (.tup [kV k, y]) :=
      ⟨by show 2 ≤ sizeLine; decide, [en.key, x2], .cons (relV_key hkey) (.cons ru2 .nil), ⟨_, hT2, rfl, _, rfl⟩⟩
    have I1 : Inv X pins σ (upd H s.heap.objs.size (.tup [kV k, y])) { s with heap := h'', toks := tk } :=
      I.turnedNew (t' := tk) (ch := [z, TI, TO, i1, i2]) (fun c o hb q => (sb.2 c (fun q' => hb (by simp [q']))).trans (hk c o (fun q' => hb (by simp [q'])) (fun q' => hb (by simp [q'])) (fun q' => hb (by simp [q'])) (fun q' => hb (by simp [q'])) q)) hf (Nat.le_refl _) new
    refine ⟨.ref s.heap.objs.size, _, I1, rfl, ⟨_, k, v, y, hkv, rfl, I.hok.fresh (Nat.le_refl _), rfl, fun l hl => by rw [I.list_inj hl hqy]; exact hy⟩, ⟨z'', ?_, ⟨en.key, x2, ?_⟩, ?_, ?_⟩, fun c hcm => ?_⟩
    · exact (sb.2 _ S.TIz).trans (hk _ _ S.TIz S.TITO S.TIi1 S.TIi2 hTI)
    · exact (sb.2 _ S.TOz).trans TO'
    · rw [← hsz]; exact st1.1.at fun o q => (sb.2 _ S.zi1.symm).trans q
    · exact st2.1.at fun o q => (sb.2 _ S.zi2.symm).trans q
    · have hlt : c < s.heap.objs.size := by
        have e' : c = z ∨ c = TI ∨ c = TO ∨ c = i1 ∨ c = i2 := by simpa using hcm
        rcases e' with q | q | q | q | q
        · rw [q]; exact hzl
        · rw [q]; exact Heap.lt_size hTI
        · rw [q]; exact Heap.lt_size hTO
        · rw [q]; obtain ⟨_, e1, _⟩ := h1; exact Heap.lt_size e1
        · rw [q]; obtain ⟨_, e2, _⟩ := h2; exact Heap.lt_size e2
      rw [upd_ne (Nat.ne_of_lt hlt)]
      exact (hf c hcm).1
  done := by
    intro X hP hw hK hc i pins s σ H E I hf st hg
    subst hP hw hK
    obtain ⟨hz, hTI, ⟨x0, y0, hTO⟩, h1, h2⟩ := st
    obtain ⟨hd, ys, hqy, hi, hly⟩ := hg
    obtain ⟨hs, hgd, hx, es', ep', vs, hdt, hsz, kv, hm⟩ := I.frzK hd
    obtain ⟨rfl, rfl⟩ := dict_ep hod hdt
    obtain ⟨its, rv, p2, _⟩ := I.list hqy
    have l2 := rv.length
    refine wpAny_pyNext_zipD2_end S (draws_keys (A := X.A.in1) (I.ok.hd hc) i1 d h12 o es' ep' hdt) (Draws.list (A := X.A.in1) (I.ok.hd hc) i2 b hb2 its.toArray) hz hTI hTO ⟨by rw [hsz]; exact h1, hgd⟩ ⟨h2, p2.isList⟩ (by omega) (by simp; omega) (.inl (by omega)) fun h' tk hk => ⟨rfl, I.turnedL (t' := tk) (ch := [z, TI, TO, i1, i2]) (fun c o hb q =>
      hk c o (fun q' => hb (by simp [q'])) (fun q' => hb (by simp [q'])) (fun q' => hb (by simp [q'])) (fun q' => hb (by simp [q'])) q) hf⟩
  self := fun A i s Q E st h => wpAny_pyIter_zip st.1 h
theorem neA {a b : Nat} (h : a ≠ b) : @Ne Addr a b := h
theorem notMem2 {a b c : Nat} (h1 : a ≠ b) (h2 : a ≠ c) : (a : Addr) ∉ ([b, c] : List Addr) := fun h => by
  rcases List.mem_cons.mp h with h | h
  · exact h1 h
  · exact h2 (List.mem_singleton.mp h)
theorem zipSep (n d b : Nat) (h1 : d < n) (h2 : b < n) : ZipSep2 (n + 4) (n + 2) (n + 3) n (n + 1) [n, d] [n + 1, b] :=
  ⟨neA (by omega), neA (by omega), neA (by omega), neA (by omega), List.mem_cons_self, notMem2 (by omega) (by omega), notMem2 (by omega) (by omega), neA (by omega), List.mem_cons_self, notMem2 (by omega) (by omega), notMem2 (by omega) (by omega), notMem2 (by omega) (by omega), notMem2 (by omega) (by omega)⟩
def iZipK (K : PySem.W.Frag) (ta : TA) : TI := fun σ H R => ta σ H fun vs H1 => ∃ d o kvs b ys, vs = [.ref d, .ref b] ∧ H1 d = some (.frz o (.dK kvs)) ∧ SqL K H1 b ys ∧ R (ItzK K d o kvs b) H1
theorem pi_zipK {X : Cx} {e e2 : Expr} {ta : TA} {p pos tpos : Pos} {elts : List Expr} {kk : Nat} (hg : Gl X "zip") (hm : X.mg "zip" = none) (ha : PA X [e, e2] ta)
    (hs : starEach [e, e2] X.env = (false, eval e X.env) :: starEach [e2] X.env := by rfl) (hpl : (backTo pos (starEach [e2] X.env)).any (·.1) = false := by rfl) :
    PI X (.Tuple elts kk tpos) (.Call (.Name "zip" p) [e, e2] [] pos) (iZipK X.K ta) := by
  refine ⟨fun pins s σ H R I h => ?_⟩
  refine Call_ (ld_blt I hg hm PyProof.Rows.boot_zip (PyProof.Rows.callWith_type1 (thn (ha.run pos pins s σ H _ I h) fun us s1 ⟨vs, H1, I1, r1, q1⟩ => ?_) hs hpl))
  obtain ⟨d, o, kvs, b, ys, ex, hd, hqy, q⟩ := q1
  subst ex
  cases r1 with
  | cons r rr =>
    cases rr with
    | cons r' rr =>
      cases rr
      cases r
      cases r'
      have fresh5 : ∀ c, c ∈ [s1.heap.objs.size + 4, s1.heap.objs.size + 2, s1.heap.objs.size + 3, s1.heap.objs.size, s1.heap.objs.size + 1] → FpOk X pins H1 c := fun c hcm => by
        have e' : c = s1.heap.objs.size + 4 ∨ c = s1.heap.objs.size + 2 ∨ c = s1.heap.objs.size + 3 ∨ c = s1.heap.objs.size ∨ c = s1.heap.objs.size + 1 := by simpa using hcm
        have hle : s1.heap.objs.size ≤ c := by
          rcases e' with z | z | z | z | z
          · rw [z]; exact Nat.le_add_right _ _
          · rw [z]; exact Nat.le_add_right _ _
          · rw [z]; exact Nat.le_add_right _ _
          · rw [z]; exact Nat.le_refl _
          · rw [z]; exact Nat.le_add_right _ _
        exact I1.fpOk hle (I1.hok.fresh hle)
      obtain ⟨hs', hgd, hx, es, ep, vs', hdt, hsz, kv, hm'⟩ := I1.frzK hd
      obtain ⟨its2, rv2, p2, _⟩ := I1.list hqy
      have ld : d < s1.heap.objs.size := Heap.lt_size hgd
      have lb : b < s1.heap.objs.size := p2.lt
      refine call_zipKL hs' hgd hx hdt p2.isList fun h' hz hTI hTO h1 h2 hsz' hk => wpAny_pyIter_zip hz ?_
      have I2 : Inv X pins σ H1 { s1 with heap := h' } := I1.kept (t' := s1.toks) hk
      refine ⟨s1.heap.objs.size + 4, [s1.heap.objs.size + 4, s1.heap.objs.size + 2, s1.heap.objs.size + 3, s1.heap.objs.size, s1.heap.objs.size + 1], _, _, H1, rfl, I2, turn_zipK (d := d) (b := b) (i1 := s1.heap.objs.size) (i2 := s1.heap.objs.size + 1) (TI := s1.heap.objs.size + 2) (TO := s1.heap.objs.size + 3) (zipSep _ _ _ ld lb) hdt (Nat.ne_of_lt ld) (Nat.ne_of_lt (Nat.lt_succ_of_lt lb)), ⟨hz, hTI, ⟨_, _, hTO⟩, ?_, h2⟩, fresh5, q⟩
      rw [← hsz]; exact h1
section
variable {X : Cx} {ρ ρ1 ρ2 : Rho} {e e2 : Expr} {pos : Pos} {kvs : List (Key × PyData)} {ds : List PyData} {k : Option Nat}
/-- zip(d, xs), xs at least as long as d -/
theorem src_zipK {p : Pos} {elts : List Expr} {kk : Nat} {tpos : Pos} (h : E X e ρ (.fk kvs) ρ1) (h2 : E X e2 ρ1 (.d (.list ds)) ρ2) (hl : kvs.length ≤ ds.length) (hm : X.mg "zip" = none) (hg : Gl X "zip" := by rfl)
    (hs : starEach [e, e2] X.env = (false, eval e X.env) :: starEach [e2] X.env := by rfl) (hs2 : starEach [e2] X.env = (false, eval e2 X.env) :: starEach [] X.env := by rfl) (hpl : (backTo pos (starEach [e2] X.env)).any (·.1) = false := by rfl) :
    Src X (.Tuple elts kk tpos) (.Call (.Name "zip" p) [e, e2] [] pos) ρ ((kvs.zip ds).map fun q => .tuple [kD q.1.1, q.2]) ρ2 none :=
  ⟨_, pi_zipK hg hm (pa_cons pe_w (pa_cons pe_w pa_nil hs2) hs) hs hpl, fun σ HF H S1 R q => h σ HF H S1 _ fun x HF1 H1 S2 f1 r1 => h2 σ HF1 H1 S2 _ fun y HF2 H2 S3 f2 r2 => by
  obtain ⟨p, kws, od, rfl, g1, g2⟩ := r1
  cases (show Dp X.K HF2 y (.list ds) from r2) with
  | @lst b ys _ h3 h4 =>
    have hl2 := dpkv_len g2
    have hl3 := dpa_len h4
    have len : ((kvs.zip ds).map fun q => PyData.tuple [kD q.1.1, q.2]).length = kvs.length := by rw [List.length_map, List.length_zip]; omega
    refine ⟨p, od, kws, b, ys, rfl, S3.sub _ _ (f2.hf _ _ g1), same_l S3.sub h3, q _ HF2 H2 S3 (f1.trans f2) fun σ2 ρ3 HF3 H3 _ _ S4 s4 => ⟨fun i hi => ⟨S4.sub _ _ (s4 _ _ (f2.hf _ _ g1)), ?_, ys, same_l S4.sub (same_l s4 h3), ?_⟩, ⟨S4.sub _ _ (s4 _ _ (f2.hf _ _ g1)), ys, same_l S4.sub (same_l s4 h3), ?_, ?_⟩, fun i x H4 hi ⟨T, k, v, y, e2, e3, e4, e5, e6⟩ => ?_⟩⟩
    · rw [len] at hi; omega
    · rw [len] at hi; omega
    · rw [len]; omega
    · omega
    · obtain ⟨d, d1, _⟩ := dpkv_get g2 e2
      obtain ⟨d', d2, d3⟩ := dpa_get' (dpa_mono s4 h4) (e6 ys (same_l S4.sub (same_l s4 h3)))
      refine ⟨.tuple [kD k, d'], ?_, .inr ⟨T, _, _, e4, e5, e3, rfl, .cons (dp_kD k) (.cons d3 .nil)⟩⟩
      have z : (kvs.zip ds)[i]? = some ((k, d), d') := by rw [List.getElem?_zip_eq_some]; exact ⟨d1, d2⟩
      rw [List.getElem?_map, z]
      rfl⟩
end
end Th

set_option Elab.async false
set_option linter.all false
set_option maxRecDepth 100000
namespace Th
open PySem PySem.Spec PyProof.Rows L2

/-! ### dicts of data, read: .fk or .rk -/
def KRel (K : PySem.W.Frag) (HF : Hp) (x : V) (kvs : List (Key × PyData)) : Prop := ∃ p kws, x = .ref p ∧ Rd HF p (.dK kws) ∧ DpKV K HF kws kvs
theorem kr_mono {K : PySem.W.Frag} {HF HF' : Hp} (s : Same HF HF') {x : V} {kvs : List (Key × PyData)} (h : KRel K HF x kvs) : KRel K HF' x kvs := by
  obtain ⟨p, kws, e, h1, h2⟩ := h
  exact ⟨p, kws, e, same_rd s h1, dpkv_mono s h2⟩
def EK (X : Cx) (e : Expr) (ρ : Rho) (kvs : List (Key × PyData)) (ρ' : Rho) : Prop := ∀ σ HF H, Sl X.K ρ σ HF H → ∀ Q : VK,
  (∀ x HF' H', Sl X.K ρ' σ HF' H' → Fw ρ ρ' σ HF H HF' H' → KRel X.K HF' x kvs → Q x H') → wE X e σ H Q
/-- the same data, whatever the order of the keys -/
def fkEq (a b : List (Key × PyData)) : Bool := a.length == b.length && a.all fun kv => match getK b kv.1 with
  | none => false
  | some d => PyData.eqv kv.2 d
def shKV (a : List (Key × PyData)) : Bool := a.all fun kv => SeqAt.shaped kv.2
section
variable {X : Cx} {B : Bs} {P : Pst} {ρ ρ1 ρ2 ρ3 : Rho} {e e1 e2 : Expr} {es : List Expr} {pos pos' : Pos} {a b : List (Key × PyData)} {kvs : List (Key × PyData)} {y : Key} {d : PyData} {x : Str}
theorem E.kf (h : E X e ρ (.fk kvs) ρ1) : EK X e ρ kvs ρ1 := fun σ HF H S1 Q q => h σ HF H S1 Q fun x HF1 H1 S2 f1 r1 => by
  obtain ⟨p, kws, od, e, h1, h2⟩ := r1
  exact q x HF1 H1 S2 f1 ⟨p, kws, e, .inr ⟨od, h1⟩, h2⟩
theorem E.kr (h : E X e ρ (.rk kvs) ρ1) : EK X e ρ kvs ρ1 := fun σ HF H S1 Q q => h σ HF H S1 Q fun x HF1 H1 S2 f1 r1 => by
  obtain ⟨p, kws, e, h1, h2⟩ := r1
  exact q x HF1 H1 S2 f1 ⟨p, kws, e, .inl h1, h2⟩
theorem e_varR (i : Nat) (h : ρ[i]? = some (.rk kvs)) (hN : X.N[i]? = some x := by rfl) (hv : Vis X.env.scope x := by first | exact Or.inl rfl | exact Or.inr (Or.inl rfl) | exact Or.inr (Or.inr rfl))
    (hd : (x == ("__debug__" : Str)) = false := by decide) (hcd : (x == ("__classdict__" : Str)) = false := by decide) : E X (.Name x pos) ρ (.rk kvs) ρ := .of (pe_var hN hv hd hcd) fun σ HF H S1 Q q => by
  obtain ⟨s, e, y, rfl, r⟩ := S1.slot i _ h
  exact ⟨y, e, q y HF H S1 (.refl ..) r⟩
theorem getK_mem {κ : Type} [DecidableEq κ] {m : List (κ × PyData)} {k : κ} {v : PyData} (h : getK m k = some v) : (k, v) ∈ m := by
  unfold getK at h
  cases e : m.find? fun p => decide (p.1 = k) with
  | none => rw [e] at h; cases h
  | some p =>
    rw [e] at h
    have e1 : p.1 = k := of_decide_eq_true (List.find?_some (p := fun p : κ × PyData => decide (p.1 = k)) e)
    have e2 : p.2 = v := by simpa using h
    rw [← e1, ← e2]
    exact List.mem_of_find?_eq_some e
theorem hits_d {A : Around} {s : Shared} {pins : List (Addr × Obj)} {σ : L2.St} {H : Hp} {X : Cx} (I : L2.Inv X pins σ H s) (hu : A.in1.units + 64 < cLine) {ls : List (Key × V)} {vb : List (Key × Value)} (rb : KV ls vb) {db : List (Key × PyData)} (eb : DpKV X.K H ls db) (hb : shKV db = true) :
    ∀ {ks : List (Key × V)} {va : List (Key × Value)} {da : List (Key × PyData)}, KV ks va → DpKV X.K H ks da → shKV da = true → PySem.W.KeqHits A.in1 s vb va (da.all fun kv => match getK db kv.1 with
      | none => false
      | some d => PyData.eqv kv.2 d)
  | _, _, _, .nil, .nil, _ => .nil
  | _, _, _, .cons (a := p) (b := q) h t, .cons (b := r) g u, hs => by
    obtain ⟨h1, h2⟩ := h
    obtain ⟨g1, g2⟩ := g
    obtain ⟨qk, qv⟩ := q
    unfold shKV at hs
    rw [List.all_cons, Bool.and_eq_true] at hs
    obtain ⟨hs1, hs2⟩ := hs
    have ek : r.1 = qk := g1.symm.trans h1
    rw [List.all_cons]
    have rv := rb.val qk
    rcases dpkv_val qk eb with ⟨z1, z2⟩ | ⟨v1, d1, z1, z2, z3⟩
    · rw [z1] at rv
      rw [ek, z2]
      have hn : valueAt vb qk = none := by
        cases e : valueAt vb qk with
        | none => rfl
        | some _ => rw [e] at rv; exact (show False from rv).elim
      exact .miss hn
    · rw [z1] at rv
      obtain ⟨yv, hy, ry⟩ := rv.some_of
      rw [ek, z2]
      obtain ⟨as, r1⟩ := Dp.reads I r.2 p.2 qv g2 h2
      obtain ⟨bs, r2⟩ := Dp.reads I d1 v1 yv z3 ry
      have hd1 : SeqAt.shaped d1 = true := by
        unfold shKV at hb
        rw [List.all_eq_true] at hb
        exact hb (qk, d1) (getK_mem z2)
      exact .hit hy (PySem.W.keq_at r1 r2 hs1 hd1 hu) (hits_d I hu rb eb hb t u hs2)
def rEqKD (K : PySem.W.Frag) : R2 := fun x y H Q => ∃ (a b : Addr) (ks ls : List (Key × V)) (da db : List (Key × PyData)), x = .ref a ∧ y = .ref b ∧ Rd H a (.dK ks) ∧ Rd H b (.dK ls) ∧ DpKV K H ks da ∧ DpKV K H ls db ∧ shKV da = true ∧ shKV db = true ∧ Q (.bl (fkEq da db)) H
def rNeKD (K : PySem.W.Frag) : R2 := fun x y H Q => ∃ (a b : Addr) (ks ls : List (Key × V)) (da db : List (Key × PyData)), x = .ref a ∧ y = .ref b ∧ Rd H a (.dK ks) ∧ Rd H b (.dK ls) ∧ DpKV K H ks da ∧ DpKV K H ls db ∧ shKV da = true ∧ shKV db = true ∧ Q (.bl (!fkEq da db)) H
theorem op_eqKD (hu : X.A.units + 70 < cLine) : OpR X (compareOp .Eq) (rEqKD X.K) := by
  intro pins s σ H x y v u Q I rx ry h
  obtain ⟨a, b, ks, ls, da, db, rfl, rfl, ha, hb, ea, eb, sa, sb, q⟩ := h
  cases (show v = Value.ref a from rx)
  cases (show u = Value.ref b from ry)
  obtain ⟨_, ya, va, ra, dda⟩ := dk_rd I.hok ha
  obtain ⟨_, yb, vb, rb, ddb⟩ := dk_rd I.hok hb
  refine PySem.W.keq_eq (knd := mixKind X.prog X.w) ya yb dda ddb (by omega) (fun _ => hits_d I (by show X.A.units + 1 + 64 < cLine; omega) rb eb sb ra ea sa) ?_
  have e1 : va.length = da.length := by rw [← ra.length]; exact dpkv_len ea
  have e2 : vb.length = db.length := by rw [← rb.length]; exact dpkv_len eb
  rw [e1, e2]
  exact ⟨.bl _, H, I, rfl, q⟩
theorem op_neKD (hu : X.A.units + 70 < cLine) : OpR X (compareOp .NotEq) (rNeKD X.K) := by
  intro pins s σ H x y v u Q I rx ry h
  obtain ⟨a, b, ks, ls, da, db, rfl, rfl, ha, hb, ea, eb, sa, sb, q⟩ := h
  cases (show v = Value.ref a from rx)
  cases (show u = Value.ref b from ry)
  obtain ⟨_, ya, va, ra, dda⟩ := dk_rd I.hok ha
  obtain ⟨_, yb, vb, rb, ddb⟩ := dk_rd I.hok hb
  refine PySem.W.keq_ne (knd := mixKind X.prog X.w) ya yb dda ddb (by omega) (fun _ => hits_d I (by show X.A.units + 1 + 64 < cLine; omega) rb eb sb ra ea sa) ?_
  have e1 : va.length = da.length := by rw [← ra.length]; exact dpkv_len ea
  have e2 : vb.length = db.length := by rw [← rb.length]; exact dpkv_len eb
  rw [e1, e2]
  exact ⟨.bl _, H, I, rfl, q⟩
theorem ev_opK {r : R2} {z : PyData} (ha : EK X e1 ρ a ρ1) (hb : EK X e2 ρ1 b ρ2) (hv : ∀ HF H x y (Q : VK), KRel X.K HF x a → KRel X.K HF y b → Same HF H → (∀ u, Dp X.K HF u z → Q u H) → r x y H Q) : Ev X.K (tOp r (wE X e1) (wE X e2)) ρ (.d z) ρ2 := fun σ HF H S1 Q q =>
  ha σ HF H S1 _ fun x HF1 H1 S2 f1 r1 => hb σ HF1 H1 S2 _ fun y HF2 H2 S3 f2 r2 => hv HF2 H2 x y Q (kr_mono f2.hf r1) r2 S3.sub fun u hu => q u HF2 H2 S3 (f1.trans f2) hu
theorem t_eqK (ha : EK X e1 ρ a ρ1) (hb : EK X e2 ρ1 b ρ2) (hu : X.A.units + 70 < cLine) (h1 : shKV a = true) (h2 : shKV b = true) : ET X (.Compare e1 [.Eq] [e2] pos) ρ (fkEq a b) ρ2 :=
  t_cmp (op_eqKD hu) (ev_opK ha hb fun HF H x y Q hx hy s q => by
    obtain ⟨p, kws, rfl, g1, g2⟩ := hx
    obtain ⟨p', kws', rfl, g3, g4⟩ := hy
    exact ⟨p, p', kws, kws', a, b, rfl, rfl, same_rd s g1, same_rd s g3, dpkv_mono s g2, dpkv_mono s g4, h1, h2, q _ (.bl _)⟩) (nomark _)
theorem e_eqK (ha : EK X e1 ρ a ρ1) (hb : EK X e2 ρ1 b ρ2) (hu : X.A.units + 70 < cLine) (h1 : shKV a = true) (h2 : shKV b = true) : E X (.Compare e1 [.Eq] [e2] pos) ρ (.d (.bool (fkEq a b))) ρ2 :=
  .of (pe_cmpR (op_eqKD hu) pe_w pe_w (nomark _)) (ev_opK ha hb fun HF H x y Q hx hy s q => by
    obtain ⟨p, kws, rfl, g1, g2⟩ := hx
    obtain ⟨p', kws', rfl, g3, g4⟩ := hy
    exact ⟨p, p', kws, kws', a, b, rfl, rfl, same_rd s g1, same_rd s g3, dpkv_mono s g2, dpkv_mono s g4, h1, h2, q _ (.bl _)⟩)
theorem t_neK (ha : EK X e1 ρ a ρ1) (hb : EK X e2 ρ1 b ρ2) (hu : X.A.units + 70 < cLine) (h1 : shKV a = true) (h2 : shKV b = true) : ET X (.Compare e1 [.NotEq] [e2] pos) ρ (!fkEq a b) ρ2 :=
  t_cmp (op_neKD hu) (ev_opK ha hb fun HF H x y Q hx hy s q => by
    obtain ⟨p, kws, rfl, g1, g2⟩ := hx
    obtain ⟨p', kws', rfl, g3, g4⟩ := hy
    exact ⟨p, p', kws, kws', a, b, rfl, rfl, same_rd s g1, same_rd s g3, dpkv_mono s g2, dpkv_mono s g4, h1, h2, q _ (.bl _)⟩) (nomark _)
theorem dpa_keys {K : PySem.W.Frag} {HF : Hp} : ∀ {kws : List (Key × V)} {kvs : List (Key × PyData)}, DpKV K HF kws kvs → DpAll K HF (kws.map fun kv => kV kv.1) (kvs.map fun kv => kD kv.1)
  | _, _, .nil => .nil
  | _, _, .cons (a := w) (b := kv) h t => .cons (by show Dp K HF (kV w.1) (kD kv.1); rw [h.1]; exact dp_kD _) (dpa_keys t)
/-- list(d) -/
theorem e_listK {pn : Pos} (h : EK X e ρ kvs ρ1) (hm : X.mg "list" = none) (hg : Gl X "list" := by rfl) (hc : X.calm = true := by rfl) (he : starEach [e] X.env = (false, eval e X.env) :: starEach [] X.env := by rfl) : E X (.Call (.Name "list" pn) [e] [] pos) ρ (.ml (kvs.map fun kv => kD kv.1)) ρ1 :=
  .of (pe_callTy (call_listD hc) hg hm (by decide +kernel) (pa_cons pe_w pa_nil he) (he := he)) fun σ HF H S1 Q q => h σ HF H S1 _ fun x HF1 H1 S2 f1 r1 => by
    obtain ⟨p, kws, rfl, g1, g2⟩ := r1
    refine ⟨p, kws, rfl, same_rd S2.sub g1, fun l hl => ?_⟩
    obtain ⟨S3, f3⟩ := S2.allocO hl (.lst (kws.map fun kv => kV kv.1))
    exact q _ _ _ S3 (f1.trans f3) ⟨l, _, rfl, f1.fresh hl, S2.hfNone hl, upd_same, dpa_keys g2⟩
/-- isinstance(d, T), d a slot that is read for a while -/
theorem e_isR (T : Ty) (j : Nat) {pt pn : Pos} (hi : ρ[j]? = some (.rk kvs)) (hm : X.mg "isinstance" = none) (hmt : X.mg (Str.ofString T.nm) = none) (hg : Gl X "isinstance" := by rfl) (hgt : Gl X (Str.ofString T.nm) := by rfl) (hn : (Str.ofString T.nm) ≠ "__name__" := by decide) (hd : ((Str.ofString T.nm) == ("__debug__" : Str)) = false := by decide)
    (hN : X.N[j]? = some x := by rfl) (hv : Vis X.env.scope x := by first | exact Or.inl rfl | exact Or.inr (Or.inl rfl) | exact Or.inr (Or.inr rfl)) (hdx : (x == ("__debug__" : Str)) = false := by decide) (hcd : (x == ("__classdict__" : Str)) = false := by decide)
    (he : starEach [.Name x pos', .Name (Str.ofString T.nm) pt] X.env = (false, eval (.Name x pos') X.env) :: starEach [.Name (Str.ofString T.nm) pt] X.env := by rfl) (he2 : starEach [.Name (Str.ofString T.nm) pt] X.env = (false, eval (.Name (Str.ofString T.nm) pt) X.env) :: starEach [] X.env := by rfl) (hpl : (backTo pos (starEach [.Name (Str.ofString T.nm) pt] X.env)).any (·.1) = false := by rfl) :
    E X (.Call (.Name "isinstance" pn) [.Name x pos', .Name (Str.ofString T.nm) pt] [] pos) ρ (.d (.bool (isi (.dict []) T))) ρ :=
  .of (pe_callB call_isi hg hm (by decide +kernel) (pa_cons (pe_var hN hv hdx hcd) (pa_cons (pe_bltn (v := .ty T.nm) hgt hmt (boot_ty T) rfl hn hd) pa_nil he2) he) (by decide) (by decide) he hpl) fun σ HF H S1 Q q => by
    obtain ⟨s, e, y, rfl, p, kws, rfl, h2, _⟩ := S1.slot j _ hi
    exact ⟨.ref p, e, .ref p, .ty T.nm, _, _, isi (.dict []) T, rfl, .ty T.nm, .base (.dK (S1.sub _ _ h2)), kit_ty (kit_isi (.dict []) T), q _ HF H S1 (.refl ..) (.bl _)⟩
/-- d[k] -/
theorem e_dgetK (hd : EK X e1 ρ kvs ρ1) (he : E X e2 ρ1 (.d (kD y)) ρ2) (hg : getK kvs y = some d) (hu : X.A.units + 1 < cLine) (hs : NoSl e2 := by exact fun _ _ => rfl) : E X (.Subscript e1 e2 pos) ρ (.d d) ρ2 := .of (pe_dget hu pe_w pe_w hs) fun σ HF H S1 Q q => hd σ HF H S1 _ fun z HF1 H1 S2 f1 r1 => he σ HF1 H1 S2 _ fun x2 HF2 H2 S3 f2 r2 => by
  have hx := dp_key r2
  subst hx
  obtain ⟨p, kws, rfl, h1, h2⟩ := kr_mono f2.hf r1
  rcases dpkv_val y h2 with ⟨g1, g2⟩ | ⟨v1, d1, g1, g2, g3⟩
  · rw [hg] at g2; cases g2
  · rw [hg] at g2
    cases g2
    exact ⟨p, v1, rfl, .inl ⟨kws, y, same_rd S3.sub h1, rfl, g1.symm⟩, q _ HF2 H2 S3 (f1.trans f2) g3⟩
end

/-! ### a new dict of new lists: handed back, taken, read, changed -/
abbrev fkOf (m : List (Int × List PyData)) : List (Key × PyData) := m.map fun kv => ((Sum.inl kv.1 : Key), PyData.list kv.2)
section
variable {X : Cx} {B : Bs} {P : Pst} {ρ ρ1 ρ2 : Rho} {tg iter e ea ev c : Expr} {es : List Expr} {pos p1 ps ap1 c1 ap2 c2 pos' : Pos} {ds : List PyData} {R R1 R2 : GR} {st : Stmt} {sts s1 : List Stmt} {x : Str} {p : Addr} {m : List (Int × List PyData)} {k : Int} {v : PyData} {vs : List PyData}
theorem noOwn_set {a : A} (i : Nat) (h : noOwnR ρ = true) (ha : a.own = false) : noOwnR (ρ.set i a) = true := List.all_eq_true.mpr fun b hb => by
  rcases List.mem_or_eq_of_mem_set hb with z | z
  · exact List.all_eq_true.mp h b z
  · rw [z, ha]; rfl
theorem pin_at {K : PySem.W.Frag} {σ : L2.St} {HF H : Hp} {i : Nat} {y : V} (S : Sl K ρ σ HF H) (h0 : ρ[i]? = some (.pin y)) : σ[i]? = some (some y) := by
  obtain ⟨s, e1, e2⟩ := S.slot i _ h0
  rw [e1]
  exact congrArg some e2
theorem set_self {α : Type} : ∀ {l : List α} {i : Nat} {a : α}, l[i]? = some a → l.set i a = l
  | [], _, _, h => by simp at h
  | x :: l, 0, a, h => by simp at h; rw [h]; rfl
  | x :: l, i + 1, a, h => by
    rw [List.set_cons_succ, set_self (by simpa using h)]
/-- return found -/
theorem g_retDl (i : Nat) (h0 : ρ[i]? = some (.pin (.ref p))) (hP : P.rt (.dl m) ρ) (hN : X.N[i]? = some x := by rfl)
    (hvs : Vis X.env.scope x := by first | exact Or.inl rfl | exact Or.inr (Or.inl rfl) | exact Or.inr (Or.inr rfl)) (hd : (x == ("__debug__" : Str)) = false := by decide) (hcd : (x == ("__classdict__" : Str)) = false := by decide) : Gj X B (PlR X.K B p m) [.Return (some (.Name x pos')) pos] ρ P R2 := fun σ HF H S1 b ⟨kws, r⟩ D o =>
  ⟨_, pss_one (ps_ret (pe_var hN hvs hd hcd)), ⟨.ref p, pin_at S1 h0, o.rt _ ρ σ HF H _ hP S1 b ⟨p, kws, rfl, r⟩⟩⟩
/-- x = f(..) -/
theorem ss_getDl (i : Nat) (he : E X e ρ (.dl m) ρ1) (h : ∀ p, Gj X B (PlR X.K B p m) sts (ρ1.set i (.pin (.ref p))) P R2) (hl : ∀ q ∈ B.L, q.1 ≠ i) (hN : X.N.Nodup) (hi : X.N[i]? = some x := by rfl) (hx : Loc X.env.scope x := by first | exact Or.inl rfl | exact Or.inr rfl)
    (hs : swapsWith e (some (.Name x pos')) pos.line X.env = pure false := by rfl) (hf : X.fn x = true ∨ X.env.scope.names.lookup x = some .local := by first | exact .inl rfl | exact .inr rfl) : Ss X B (.Assign [.Name x pos'] e pos :: sts) ρ P := fun σ HF H S1 b D o =>
  ⟨_, pss_cons (ps_set hN hi hx pe_w hs hf) pss_w, he σ HF H S1 _ fun y HF1 H1 S2 f1 r1 => by
    have rb := rrel_base b r1
    obtain ⟨p, kws, e, g⟩ := rb
    subst e
    have r0 : ∀ Hb, RRel X.K Hb HF1 H1 (V.ref p) (.pin (.ref p)) := fun _ => rfl
    have S3 := S2.set (i := i) (Hb := H1) (r0 _) fun q hq w => S2.notOwn hq w
    have b3 := (b.fw f1).set S2 (i := i) (r0 _) hl
    exact h p _ HF1 _ S3 b3 ⟨kws, g⟩ D ⟨fun ρ σ HF' H p S b e _ => o.nx ρ σ HF' H p S b (f1.hf.trans e), o.rt⟩⟩
/-- read for a while -/
theorem gj_view {K : PySem.W.Frag} {σ : L2.St} {HF H : Hp} {kws : List (Key × V)} (i : Nat) (h0 : ρ[i]? = some (.pin (.ref p))) (hno : noOwnR ρ = true) (S1 : Sl K ρ σ HF H) (r : PlK K B p kws m HF H) : ∃ HF2, Same HF HF2 ∧ Sl K (ρ.set i (.rk (fkOf m))) σ HF2 H := by
  obtain ⟨HF1, k1, k2, k3, k4⟩ := pl_view r.its (.refl HF) S1.sub fun b o e => .inl e
  have hpn : HF1 p = none := by
    cases e : HF1 p with
    | none => rfl
    | some u =>
      rcases k3 p u e with z | ⟨_, us, z⟩
      · rw [r.fr] at z; cases z
      · rw [r.at_] at z; cases z
  have s1 : Same HF1 (upd HF1 p (.dK kws)) := same_upd hpn
  have s2 : Same (upd HF1 p (.dK kws)) H := fun c u e => by
    by_cases hc : c = p
    · subst hc
      rw [upd_same] at e
      cases e
      exact r.at_
    · rw [upd_ne hc] at e
      exact k2 c u e
  have S2 := sl_no S1 hno (k1.trans s1) s2
  have S3 := S2.set (i := i) (Hb := H) (x := .ref p) (a := .rk (fkOf m)) ⟨p, kws, rfl, upd_same, dpkv_mono s1 k4⟩ fun q hq w => S2.notOwn hq w
  refine ⟨_, k1.trans s1, ?_⟩
  rwa [set_self (pin_at S1 h0)] at S3
/-- if c: .., c about such a dict, and it isn't so -/
theorem g_seeF (i : Nat) (h0 : ρ[i]? = some (.pin (.ref p))) (hno : noOwnR ρ = true) (hc : ET X c (ρ.set i (.rk (fkOf m))) false ρ1) (hP : P.nx ρ) : G1 X B (PlR X.K B p m) (.If c s1 [] pos) ρ P (PlR X.K B p m) := fun σ HF H S1 b ⟨kws, r⟩ D o =>
  ⟨_, ps_if pt_w pss_w pss_nil, by
    obtain ⟨HF2, k1, S3⟩ := gj_view i h0 hno S1 r
    refine hc σ HF2 H S3 _ fun HF3 H3 S4 f4 => ?_
    have kk : ∀ c u, H c = some u → H3 c = some u := fun c u e => f4.keep c u e (no_ownAt (noOwn_set i hno rfl))
    exact o.nx ρ σ HF H3 hP (sl_no S1 hno (.refl _) fun c u e => kk c u (S1.sub c u e)) (bn_no b hno (.refl _) (fun c u _ e => kk c u e) (fun c u e => ⟨u, kk c u e⟩) fun c u e => .inl e) (.refl _) ⟨kws, r.keep (.refl _) kk fun c u e => .inl e⟩⟩
/-- found[k].append(v) -/
theorem g_app (i : Nat) (h0 : ρ[i]? = some (.pin (.ref p))) (hno : noOwnR ρ = true) (ha : E X ea ρ (.d (.int k)) ρ) (hv : E X ev ρ (.d v) ρ) (hg : getI m k = some vs) (hl : vs.length ≤ 100000) (hP : P.nx ρ) (hu : X.A.units + 1 < cLine) (hN : X.N[i]? = some x := by rfl)
    (hsl : NoSl ea := by exact fun _ _ => rfl)
    (hvs : Vis X.env.scope x := by first | exact Or.inl rfl | exact Or.inr (Or.inl rfl) | exact Or.inr (Or.inr rfl)) (hd : (x == ("__debug__" : Str)) = false := by decide) (hcd : (x == ("__classdict__" : Str)) = false := by decide)
    (hbase : attributeBase (.Subscript (.Name x p1) ea ps) "append" X.env (eval (.Subscript (.Name x p1) ea ps) X.env) = eval (.Subscript (.Name x p1) ea ps) X.env := by rfl)
    (hfew : ((backTo c2 (starEach [ev] X.env)).all (fun x => !x.1) && (backToKw c2 (keywordEach [] X.env)).all (fun x => x.1.isSome) && decide (([ev] : List Expr).length + ([] : List Keyword).length + (if ([] : List Keyword).isEmpty then 0 else 1) < 30)) = true := by rfl)
    (hline : (ap2.endLine == c2.line) = true := by rfl) (hs : starEach [ev] X.env = (false, eval ev X.env) :: starEach [] X.env := by rfl)
    (hsw : swapsWith (.Call (.Attribute (.Subscript (.Name x p1) ea ps) "append" ap2) [ev] [] c2) none pos.line X.env = pure false := by rfl) :
    G1 X B (PlR X.K B p m) (.Expr (.Call (.Attribute (.Subscript (.Name x p1) ea ps) "append" ap2) [ev] [] c2) pos) ρ P (PlR X.K B p (setI m k (vs ++ [v]))) := fun σ HF H S1 b ⟨kws, r⟩ D o =>
  ⟨_, ps_expr (pe_bm PySem.F.plainAttrs_list PySem.F.slot_list_append PySem.F.type_list_append mt_append (pe_dget hu (pe_var hN hvs hd hcd) pe_w hsl) (pa_cons pe_w pa_nil hs) hbase hfew hline hs) hsw, by
    have hx := pin_at S1 h0
    refine ⟨.ref p, hx, ha σ HF H S1 _ fun y HF1 H1 S2 f1 r1 => ?_⟩
    cases r1
    have k1 := r.keep f1.hf (fun c u e => f1.keep c u e (no_ownAt hno)) f1.new
    rcases pl_val (k := k) k1.its with ⟨_, z⟩ | ⟨q, us, vs', z1, z2, z3, z4, z5, z6, z7⟩
    · rw [hg] at z; cases z
    rw [hg] at z2
    cases z2
    refine ⟨p, .ref q, rfl, .inl ⟨kws, .inl k, .inl k1.at_, rfl, z1.symm⟩, .inl ⟨rfl, _, .inl (.inl z5)⟩, hv σ HF1 _ S2 _ fun x1 HF4 H4 S4 f4 r4 => ?_⟩
    have kk : ∀ c u, H1 c = some u → H4 c = some u := fun c u e => f4.keep c u e (no_ownAt hno)
    have k4 := k1.keep f4.hf kk f4.new
    have hq4 := kk _ _ z5
    have hf4 : HF4 q = none := f4.hfn z4 z5
    refine ⟨q, us, x1, rfl, rfl, hq4, Nat.lt_of_le_of_lt (by rw [dpa_len z6]; exact hl) (show 100000 < sizeLine by decide), ?_⟩
    have hd4 : DpAll X.K HF4 (us ++ [x1]) (vs ++ [v]) := dpa_app (dpa_mono f4.hf z6) (.cons r4 .nil)
    have s5 : Same HF4 (upd H4 q (.lst (us ++ [x1]))) := fun c u e => by
      rw [upd_ne fun z => by rw [z, hf4] at e; cases e]
      exact S4.sub c u e
    have b3 := b.fw f1
    refine o.nx ρ σ HF4 _ hP (sl_no S4 hno (.refl _) s5) (bn_no (b3.fw f4) hno (.refl _) (fun c u e1 e2 => ?_) (fun c u e => ?_) fun c u e => .inl e) (f1.hf.trans f4.hf) ⟨kws, ?_, k4.base, k4.fr, ?_, ?_, k4.na⟩
    · rw [upd_ne fun z => by rw [z, z3] at e1; cases e1]
      exact e2
    · by_cases hc : c = q
      · subst hc; exact ⟨_, upd_same⟩
      · exact ⟨u, by rw [upd_ne hc]; exact e⟩
    · rw [upd_ne fun z => by have w := k4.at_; rw [z, hq4] at w; cases w]
      exact k4.at_
    · rw [setI_some hg]
      exact pl_set z3 hf4 hd4 k4.its k4.nk k4.na z1
    · exact nodup_set k4.nk⟩
/-- found.clear() -/
theorem gj_clear (i : Nat) (h0 : ρ[i]? = some (.pin (.ref p))) (hno : noOwnR ρ = true) (h : Ss X B sts ρ P) (hb : P.bk = fun _ => False) (hct : P.ct = fun _ => False) (hnx : ∀ ρ, ¬ P.nx ρ) (hN : X.N[i]? = some x := by rfl)
    (hvs : Vis X.env.scope x := by first | exact Or.inl rfl | exact Or.inr (Or.inl rfl) | exact Or.inr (Or.inr rfl)) (hd : (x == ("__debug__" : Str)) = false := by decide) (hcd : (x == ("__classdict__" : Str)) = false := by decide)
    (hbase : attributeBase (.Name x p1) "clear" X.env (eval (.Name x p1) X.env) = eval (.Name x p1) X.env := by rfl) (hline : (ap1.endLine == c1.line) = true := by rfl)
    (hsw : swapsWith (.Call (.Attribute (.Name x p1) "clear" ap1) [] [] c1) none pos.line X.env = pure false := by rfl) :
    Gj X B (PlR X.K B p m) (.Expr (.Call (.Attribute (.Name x p1) "clear" ap1) [] [] c1) pos :: sts) ρ P R2 := fun σ HF H S1 b ⟨kws, r⟩ D o =>
  ⟨_, pss_cons (ps_expr (pe_dclear (pe_var hN hvs hd hcd) hbase hline) hsw) pss_w, by
    refine ⟨.ref p, pin_at S1 h0, ?ty, p, kws, rfl, rfl, r.at_, ?_⟩
    case ty => exact .inr (.inr (.inl ⟨rfl, .inl ⟨_, r.at_⟩⟩))
    have s5 : Same HF (upd H p (.dK [])) := fun c u e => by
      rw [upd_ne fun z => by rw [z, r.fr] at e; cases e]
      exact S1.sub c u e
    refine h σ HF _ (sl_no S1 hno (.refl _) s5) (bn_no b hno (.refl _) (fun c u e1 e2 => ?_) (fun c u e => ?_) fun c u e => .inl e) D ⟨fun ρ σ HF' H z _ _ _ => (hnx ρ z).elim, o.rt, fun ρ _ _ _ z _ _ _ => by rw [hb] at z; exact z.elim, fun ρ _ _ _ z _ _ _ => by rw [hct] at z; exact z.elim⟩
    · rw [upd_ne fun z => by rw [z, r.base] at e1; cases e1]
      exact e2
    · by_cases hc : c = p
      · subst hc; exact ⟨_, upd_same⟩
      · exact ⟨u, by rw [upd_ne hc]; exact e⟩⟩
/-- such a dict is never changed -/
theorem e_frzDl (h : E X e ρ (.dl m) ρ1) : E X e ρ (.fk (fkOf m)) ρ1 := .of (pe_frz pe_w) fun σ HF H S1 Q q => h σ HF H S1 _ fun x HF1 H1 S2 f1 r1 => by
  obtain ⟨p, kws, rfl, r⟩ := r1
  have key : ∀ {kws : List (Key × V)} {m : List (Int × List PyData)} (HF0 : Hp), Paired (DlI X.K H HF1 H1) kws m → Same HF1 HF0 → Sl X.K ρ1 σ HF0 H1 → (∀ b o, HF0 b = some o → HF1 b = some o ∨ (H b = none ∧ ∃ us, H1 b = some (.lst us))) →
      ∃ HF2, Same HF0 HF2 ∧ Sl X.K ρ1 σ HF2 H1 ∧ (∀ b o, HF2 b = some o → HF1 b = some o ∨ (H b = none ∧ ∃ us, H1 b = some (.lst us))) ∧ DpKV X.K HF2 kws (fkOf m) := fun {kws m} HF0 hp => by
    induction hp generalizing HF0 with
    | nil => intro _ S h2; exact ⟨HF0, .refl _, S, h2, .nil⟩
    | @cons w kv kws m g t ih =>
      intro h0 S h2
      obtain ⟨e, q, us, g1, g2, g3, g4, g5⟩ := g
      have nw : ¬ OwnAt ρ1 σ q := fun z => S1.notOwn g2 (f1.sh.own.mp z)
      have next : ∃ HF', Same HF0 HF' ∧ HF' q = some (.lst us) ∧ Sl X.K ρ1 σ HF' H1 ∧ (∀ b o, HF' b = some o → HF1 b = some o ∨ (H b = none ∧ ∃ us, H1 b = some (.lst us))) := by
        cases e0 : HF0 q with
        | none =>
          refine ⟨upd HF0 q (.lst us), same_upd e0, upd_same, S.frz g4 e0 nw, fun b o z => ?_⟩
          by_cases hb : b = q
          · subst hb; exact .inr ⟨g2, us, g4⟩
          · rw [upd_ne hb] at z; exact h2 b o z
        | some u =>
          have := S.sub q u e0
          rw [g4] at this
          cases this
          exact ⟨HF0, .refl _, e0, S, h2⟩
      obtain ⟨HF', n1, n2, n3, n4⟩ := next
      obtain ⟨HF2, k1, k2, k3, k4⟩ := ih HF' (h0.trans n1) n3 n4
      exact ⟨HF2, n1.trans k1, k2, k3, .cons ⟨e, by rw [g1]; exact .lst (.inl (.inl (k1 _ _ n2))) (dpa_mono ((h0.trans n1).trans k1) g5)⟩ k4⟩
  obtain ⟨HF2, k1, k2, k3, k4⟩ := key HF1 r.its (.refl _) S2 fun b o e => .inl e
  have nwp : ¬ OwnAt ρ1 σ p := fun z => S1.notOwn r.base (f1.sh.own.mp z)
  have hpn : HF2 p = none := by
    cases e : HF2 p with
    | none => rfl
    | some u =>
      rcases k3 p u e with z | ⟨_, us, z⟩
      · rw [r.fr] at z; cases z
      · rw [r.at_] at z; cases z
  refine ⟨p, _, rfl, r.at_, trivial, fun od => q _ (upd HF2 p (.frz od (.dK kws))) _ (k2.lockN r.at_ hpn nwp _) ⟨f1.sh, (f1.hf.trans k1).trans (same_upd hpn), fun b u e n => ?_, fun b u e => ?_, fun b u e => ?_⟩ ⟨p, kws, od, rfl, upd_same, dpkv_mono (same_upd hpn) k4⟩⟩
  · rw [upd_ne fun z => by have := r.base; rw [← z, e] at this; cases this]
    exact f1.keep b u e n
  · by_cases hb : b = p
    · subst hb
      exact .inr r.base
    · rw [upd_ne hb] at e
      rcases k3 b u e with z | ⟨z, _⟩
      · exact f1.new b u z
      · exact .inr z
  · by_cases hb : b = p
    · subst hb
      exact ⟨_, upd_same⟩
    · rw [upd_ne hb]
      exact f1.pres b u e
end
end Th

set_option Elab.async false
set_option linter.all false
set_option maxRecDepth 100000
namespace Th
open PySem PySem.Spec PyProof.Rows L2

/-! ### arcs in the order in which they first come; other names -/
def ins1 (ks : List Int) (a : Int) : List Int := if a ∈ ks then ks else ks ++ [a]
def keysP (m : Pls) : List Int := m.map (·.1)
def arcsW (w : Wb) : List Int := w.cs.flatten ++ w.ends
def keysW (w : Wb) : List Int := (arcsW w).foldl ins1 []
theorem keysP_add (m : Pls) (k : Int) (v : Int × Int) : keysP (addQ m k v) = ins1 (keysP m) k := by
  unfold addQ keysP ins1
  exact keys_set
theorem keysP_row (n : Int) : ∀ (l : List (Int × Nat)) (m : Pls), keysP (l.foldl (fun m q => addQ m q.1 (n, (q.2 : Int))) m) = (l.map (·.1)).foldl ins1 (keysP m)
  | [], _ => rfl
  | q :: l, m => by
    rw [List.foldl_cons, keysP_row n l, keysP_add]
    rfl
theorem keysP_addRow (n : Int) (m : Pls) (row : List Int) : keysP (addRow n m row) = row.foldl ins1 (keysP m) := by
  unfold addRow
  rw [keysP_row, List.zipIdx_map_fst]
theorem keysP_places (w : Wb) : keysP (placesF w) = keysW w := by
  have h : ∀ (l : List (List Int × Nat)) (m : Pls), keysP (l.foldl (fun m q => addRow (q.2 : Int) m q.1) m) = ((l.map (·.1)).flatten).foldl ins1 (keysP m) := fun l => by
    induction l with
    | nil => intro m; rfl
    | cons q l ih =>
      intro m
      rw [List.foldl_cons, ih, keysP_addRow, List.map_cons, List.flatten_cons, List.foldl_append]
  unfold placesF keysW arcsW
  rw [keysP_addRow, h, List.zipIdx_map_fst, List.foldl_append]
  rfl
theorem ins1_nodup {ks : List Int} {a : Int} (h : ks.Nodup) : (ins1 ks a).Nodup := by
  unfold ins1
  split
  · exact h
  · rename_i n
    rw [List.nodup_append]
    refine ⟨h, by simp, fun x hx y hy => ?_⟩
    rw [List.mem_singleton] at hy
    rw [hy]
    exact fun e => n (e ▸ hx)
theorem foldI_nodup : ∀ (l : List Int) {ks : List Int}, ks.Nodup → (l.foldl ins1 ks).Nodup
  | [], _, h => h
  | a :: l, _, h => foldI_nodup l (ins1_nodup h)
theorem mem_ins1 {ks : List Int} {a b : Int} : b ∈ ins1 ks a ↔ b ∈ ks ∨ b = a := by
  unfold ins1
  split
  · rename_i h
    exact ⟨.inl, fun z => z.elim id fun e => e ▸ h⟩
  · rw [List.mem_append, List.mem_singleton]
theorem mem_fold : ∀ (l : List Int) {ks : List Int} {b : Int}, b ∈ l.foldl ins1 ks ↔ b ∈ ks ∨ b ∈ l
  | [], ks, b => by simp
  | a :: l, ks, b => by
    rw [List.foldl_cons, mem_fold l, mem_ins1, List.mem_cons, or_assoc]
theorem keysW_nodup (w : Wb) : (keysW w).Nodup := foldI_nodup _ List.nodup_nil
theorem mem_keysW {w : Wb} {a : Int} : a ∈ keysW w ↔ a ∈ arcsW w := by
  unfold keysW
  rw [mem_fold]
  simp
def InjL (f : Int → Int) (l : List Int) : Prop := ∀ a ∈ l, ∀ b ∈ l, f a = f b → a = b
theorem fold_map {f : Int → Int} : ∀ (l : List Int) {ks : List Int}, InjL f (ks ++ l) → (l.map f).foldl ins1 (ks.map f) = (l.foldl ins1 ks).map f
  | [], _, _ => rfl
  | a :: l, ks, h => by
    have e : ins1 (ks.map f) (f a) = (ins1 ks a).map f := by
      unfold ins1
      by_cases ha : a ∈ ks
      · rw [if_pos ha, if_pos (List.mem_map_of_mem ha)]
      · rw [if_neg ha, if_neg fun z => by
          obtain ⟨b, hb, e⟩ := List.mem_map.mp z
          have := h b (List.mem_append_left _ hb) a (List.mem_append_right _ List.mem_cons_self) e
          exact ha (this ▸ hb)]
        rw [List.map_append]
        rfl
    rw [List.map_cons, List.foldl_cons, List.foldl_cons, e]
    refine fold_map l fun x hx y hy => h x ?_ y ?_
    · rcases List.mem_append.mp hx with hx | hx
      · rcases mem_ins1.mp hx with hx | hx
        · exact List.mem_append_left _ hx
        · rw [hx]; exact List.mem_append_right _ List.mem_cons_self
      · exact List.mem_append_right _ (List.mem_cons_of_mem _ hx)
    · rcases List.mem_append.mp hy with hy | hy
      · rcases mem_ins1.mp hy with hy | hy
        · exact List.mem_append_left _ hy
        · rw [hy]; exact List.mem_append_right _ List.mem_cons_self
      · exact List.mem_append_right _ (List.mem_cons_of_mem _ hy)
/-- other names -/
def mapW (f : Int → Int) (w : Wb) : Wb := ⟨w.cs.map fun c => c.map f, w.ends.map f, w.rings⟩
theorem arcs_map (f : Int → Int) (w : Wb) : arcsW (mapW f w) = (arcsW w).map f := by
  unfold arcsW mapW
  rw [List.map_append, List.map_flatten]
theorem keysW_map {f : Int → Int} {w : Wb} (h : InjL f (arcsW w)) : keysW (mapW f w) = (keysW w).map f := by
  unfold keysW
  rw [arcs_map]
  exact fold_map (arcsW w) (ks := []) h
theorem mapW_comp (f g : Int → Int) (w : Wb) : mapW g (mapW f w) = mapW (g ∘ f) w := by
  unfold mapW
  simp [Function.comp_def]
theorem mapW_congr {f g : Int → Int} {w : Wb} (h : ∀ a ∈ arcsW w, f a = g a) : mapW f w = mapW g w := by
  unfold mapW
  have h1 : (w.cs.map fun c => c.map f) = w.cs.map fun c => c.map g := List.map_congr_left fun c hc => List.map_congr_left fun a ha => h a (List.mem_append_left _ (List.mem_flatten.mpr ⟨c, hc, ha⟩))
  have h2 : w.ends.map f = w.ends.map g := List.map_congr_left fun a ha => h a (List.mem_append_right _ ha)
  rw [h1, h2]
theorem mapW_id {f : Int → Int} {w : Wb} (h : ∀ a ∈ arcsW w, f a = a) : mapW f w = w := by
  rw [mapW_congr (g := id) h]
  unfold mapW
  simp
/-- numbered as they come -/
def numD (ks : List Int) : List (Int × Int) := ks.zipIdx.map fun q => (q.1, (q.2 : Int))
def posL (ks : List Int) (a : Int) : Int := valI (numD ks) a
theorem posL_map {f : Int → Int} : ∀ {ks : List Int} {a : Int} (n : Nat), InjL f (a :: ks) → valI ((((ks.map f).zipIdx n).map fun q => (q.1, (q.2 : Int))) : List (Int × Int)) (f a) = valI ((ks.zipIdx n).map fun q => (q.1, (q.2 : Int))) a
  | [], _, _, _ => rfl
  | k :: ks, a, n, h => by
    rw [List.map_cons, List.zipIdx_cons, List.zipIdx_cons, List.map_cons, List.map_cons]
    unfold valI
    rw [getI_cons, getI_cons]
    by_cases e : k = a
    · rw [if_pos e, if_pos (congrArg f e)]
    · rw [if_neg e, if_neg fun z => e (h k (by simp) a (by simp) z)]
      exact posL_map (n + 1) fun x hx y hy => h x (by
        rcases List.mem_cons.mp hx with z | z
        · rw [z]; exact List.mem_cons_self
        · exact List.mem_cons_of_mem _ (List.mem_cons_of_mem _ z)) y (by
        rcases List.mem_cons.mp hy with z | z
        · rw [z]; exact List.mem_cons_self
        · exact List.mem_cons_of_mem _ (List.mem_cons_of_mem _ z))
theorem posL_val : ∀ {ks : List Int} {a : Int} (n : Nat), a ∈ ks → ∃ i : Nat, ks[i]? = some a ∧ valI ((ks.zipIdx n).map fun q => (q.1, (q.2 : Int))) a = ((n + i : Nat) : Int)
  | [], _, _, h => by cases h
  | k :: ks, a, n, h => by
    rw [List.zipIdx_cons, List.map_cons]
    unfold valI
    rw [getI_cons]
    by_cases e : k = a
    · rw [if_pos e]
      exact ⟨0, by rw [e]; rfl, rfl⟩
    · rw [if_neg e]
      obtain ⟨i, h1, h2⟩ := posL_val (n + 1) ((List.mem_cons.mp h).resolve_left fun z => e z.symm)
      exact ⟨i + 1, h1, by unfold valI at h2; rw [h2]; congr 1; omega⟩
theorem posL_inj (ks : List Int) : InjL (posL ks) ks := fun a ha b hb e => by
  obtain ⟨i, h1, h2⟩ := posL_val 0 ha
  obtain ⟨j, h3, h4⟩ := posL_val 0 hb
  unfold posL numD at e
  rw [h2, h4] at e
  have : i = j := by omega
  subst this
  rw [h1] at h3
  exact Option.some.inj h3
def anewW (w : Wb) : Wb := mapW (posL (keysW w)) w
/-- names don't matter -/
theorem anew_map {f : Int → Int} {w : Wb} (h : InjL f (arcsW w)) : anewW (mapW f w) = anewW w := by
  unfold anewW
  rw [keysW_map h, mapW_comp]
  refine mapW_congr fun a ha => ?_
  refine posL_map 0 fun x hx y hy => h x ?_ y ?_
  · rcases List.mem_cons.mp hx with z | z
    · rw [z]; exact ha
    · exact mem_keysW.mp z
  · rcases List.mem_cons.mp hy with z | z
    · rw [z]; exact ha
    · exact mem_keysW.mp z
theorem anew_anew (w : Wb) : anewW (anewW w) = anewW w :=
  anew_map fun a ha b hb e => posL_inj (keysW w) a (mem_keysW.mpr ha) b (mem_keysW.mpr hb) e
theorem numD_keys (ks : List Int) : (numD ks).map (·.1) = ks := by
  unfold numD
  rw [List.map_map]
  exact List.zipIdx_map_fst ..
theorem numD_fold : ∀ (ks : List Int) (d : List (Int × Int)) (n : Nat), (d.map (·.1) ++ ks).Nodup → (ks.zipIdx n).foldl (fun d q => setI d q.1 (q.2 : Int)) d = d ++ (ks.zipIdx n).map fun q => (q.1, (q.2 : Int))
  | [], d, n, _ => (List.append_nil d).symm
  | k :: ks, d, n, h => by
    rw [List.zipIdx_cons, List.foldl_cons, List.map_cons]
    have hk : k ∉ d.map (·.1) := fun z => by
      rw [List.nodup_append] at h
      exact h.2.2 k z k List.mem_cons_self rfl
    have hn : getI d k = none := by
      cases e : getI d k with
      | none => rfl
      | some v => exact (hk (List.mem_map.mpr ⟨(k, v), getI_mem e, rfl⟩)).elim
    rw [setI_none hn, numD_fold ks (d ++ [(k, (n : Int))]) (n + 1) (by
      rw [List.map_append, List.append_assoc]
      exact h), List.append_assoc]
    rfl
/-! ### the program's words -/
theorem mapW_ok {f : Int → Int} {w : Wb} (h : WbOk w) : WbOk (mapW f w) := ⟨by show (List.map _ _).length ≤ _; rw [List.length_map]; exact h.cs, fun c hc => by
  obtain ⟨c0, h0, rfl⟩ := List.mem_map.mp hc
  rw [List.length_map]
  exact h.row c0 h0, by show (List.map _ _).length ≤ _; rw [List.length_map]; exact h.ends⟩
def fNamedBy : Fs := fun as r as' => ∃ (w : Wb) (d : List (Int × Int)), WbOk w ∧ (∀ a ∈ arcsW w, a ∈ d.map (·.1)) ∧ as = [.d (encW w), .mk (encDI d)] ∧ r = .d (encW (mapW (valI d) w)) ∧ as' = as
def fAnew : List PyData → A → Prop := fun ds r => ∃ w : Wb, WbOk w ∧ ds = [encW w] ∧ r = .d (encW (anewW w))
def rotC (c : List Int) : List Int := c.drop 1 ++ c.take 1
def mirW (w : Wb) : Wb := ⟨w.cs.map rotC, w.ends, w.rings⟩
def shiftW (w : Wb) (n : Nat) : Wb := ⟨w.cs, w.ends.drop n ++ w.ends.take n, w.rings⟩
def fMirrored : List PyData → A → Prop := fun ds r => ∃ w : Wb, WbOk w ∧ ds = [encW w] ∧ r = .d (encW (mirW w))
def fShifted : List PyData → A → Prop := fun ds r => ∃ (w : Wb) (n : Nat), WbOk w ∧ n ≤ w.ends.length ∧ ds = [encW w, .int n] ∧ r = .d (encW (shiftW w n))
instance : DecidableEq Wb := fun a b => by
  cases a with
  | mk a1 a2 a3 =>
    cases b with
    | mk b1 b2 b3 => exact decidable_of_iff (a1 = b1 ∧ a2 = b2 ∧ a3 = b3) ⟨fun ⟨x, y, z⟩ => by rw [x, y, z], fun e => by cases e; exact ⟨rfl, rfl, rfl⟩⟩
def fAlike : List PyData → A → Prop := fun ds r => ∃ a b : Wb, WbOk a ∧ WbOk b ∧ ds = [encW a, encW b] ∧ r = .d (.bool (decide (anewW a = anewW b)))
section
variable {X : Cx} {ρ ρ1 : Rho} {e : Expr} {pos : Pos}
theorem src_enumKI {m : Pls} {p : Pos} {elts : List Expr} {kk : Nat} {tpos : Pos} (h : E X e ρ (.fk (fkOf (encM m))) ρ1) (hm : X.mg "enumerate" = none) (hg : Gl X "enumerate" := by rfl) (hs : starEach [e] X.env = [(false, eval e X.env)] := by rfl) :
    Src X (.Tuple elts kk tpos) (.Call (.Name "enumerate" p) [e] [] pos) ρ ((keysP m).zipIdx.map fun q : Int × Nat => PyData.tuple [.int (q.2 : Nat), .int q.1]) ρ1 none := by
  have := src_enumK (pos := pos) (p := p) (elts := elts) (kk := kk) (tpos := tpos) h hm hg hs
  have e : enumD ((fkOf (encM m)).map fun kv => kD kv.1) = (keysP m).zipIdx.map fun q : Int × Nat => PyData.tuple [.int (q.2 : Nat), .int q.1] := by
    have e1 : ((fkOf (encM m)).map fun kv => kD kv.1) = (keysP m).map PyData.int := by
      unfold keysP encM
      rw [List.map_map, List.map_map, List.map_map]
      rfl
    rw [e1]
    unfold enumD
    rw [List.zipIdx_map, List.map_map]
    rfl
  rwa [e] at this
theorem src_keysKI {m : Pls} {tg : Expr} (h : E X e ρ (.fk (fkOf (encM m))) ρ1) : Src X tg e ρ ((keysP m).map PyData.int) ρ1 none := by
  have := src_keys (tg := tg) h
  have e1 : ((fkOf (encM m)).map fun kv => kD kv.1) = (keysP m).map PyData.int := by
    unfold keysP encM
    rw [List.map_map, List.map_map, List.map_map]
    rfl
  rwa [e1] at this
end
end Th
namespace Th
open PySem PySem.Spec PyProof.Rows L2
/-- for a comprehension within another one -/
theorem blkOk_in {N : List Str} {sc sc' scope : Scope} {own : List (Str × Nat)} (e : sc = sc') (h : blkC N sc' scope own = true) : BlkOk N sc scope own := e ▸ blkOk_by h
end Th

set_option Elab.async false
set_option linter.all false
set_option maxRecDepth 100000
namespace Th
open PySem PySem.Spec PyProof.Rows L2

/-! ### two lists that are read, one behind the other -/
def rCatL (K : PySem.W.Frag) : R2 := fun x y H Q => ∃ l b xs zs, x = .ref l ∧ y = .ref b ∧ SqL K H l xs ∧ SqL K H b zs ∧ xs.length + zs.length ≤ sizeLine ∧ ∀ p, H p = none → Q (.ref p) (upd H p (.lst (xs ++ zs)))
theorem op_catL {X : Cx} : OpR X (binaryOp .Add) (rCatL X.K) := by
  intro pins s σ H x y v u Q I rx ry h
  obtain ⟨l, b, xs, zs, rfl, rfl, hH, hB, hz, q⟩ := h
  cases rx
  cases ry
  obtain ⟨vs, r1, p1, _⟩ := I.list hH
  obtain ⟨ws, r2, p2, _⟩ := I.list hB
  obtain ⟨⟨cls, dd, data, sl⟩, ho, hc, n, hd⟩ := p1.isList
  obtain ⟨⟨cls2, dd2, data2, sl2⟩, ho2, hc2, n2, hd2⟩ := p2.isList
  simp only at hc hd hc2 hd2
  subst hc hd hc2 hd2
  have l1 := r1.length
  have l2 := r2.length
  have e : vs.toArray ++ ws.toArray = (vs ++ ws).toArray := by simp
  refine concat_meets ⟨_, ho, rfl⟩ ⟨_, ho2, rfl⟩ noFill_list_add seq_list_add PySem.F.slot_list_add PySem.F.entry_list_add (PySem.F.args_list_add_2 _ _) (list_addW l b vs.toArray ws.toArray n n2 dd dd2 sl sl2 (by simp; omega)) ⟨ho, ho2, ?_⟩
  rw [e]
  exact ⟨.ref _, _, I.lnew (t' := s.toks) (r1.append r2) (by rw [List.length_append]; omega), rfl, q _ I.fresh⟩
section
variable {X : Cx} {ρ ρ1 ρ2 : Rho} {e1 e2 : Expr} {pos : Pos}
theorem e_catD {es1 es2 : List PyData} {k1 k2 : Option Nat} (ha : EO X e1 ρ (.list es1) ρ1 k1) (hb : EO X e2 ρ1 (.list es2) ρ2 k2) (hz : es1.length + es2.length ≤ 100000) (hk : Kp k1 ρ1 ρ2 := by first | exact trivial | exact rfl) : E X (.BinOp e1 .Add e2 pos) ρ (.ml (es1 ++ es2)) ρ2 :=
  .of (pe_op op_catL pe_w pe_w) fun σ HF H S1 Q q => ha σ HF H S1 _ fun x HF1 H1 S2 f1 r1 => hb σ HF1 H1 S2 _ fun y HF2 H2 S3 f2 r2 => by
    obtain ⟨p, ys, rfl, g1, g2⟩ := r1 ρ2 HF2 H2 hk S3 f2
    obtain ⟨p', ys', rfl, g1', g2'⟩ := r2 ρ2 HF2 H2 .refl S3 (.refl ..)
    have l1 := dpa_len g2
    have l2 := dpa_len g2'
    refine ⟨p, p', ys, ys', rfl, rfl, g1, g1', Nat.le_trans (by omega) (show 100000 ≤ sizeLine by decide), fun r hr => ?_⟩
    obtain ⟨S4, f4⟩ := S3.allocO hr (.lst (ys ++ ys'))
    have f := f1.trans f2
    exact q _ _ _ S4 (f.trans f4) ⟨r, _, rfl, f.fresh hr, S3.hfNone hr, upd_same, dpa_app g2 g2'⟩
theorem pr_at1 {r a x : A} {v : PyData} {ρ : Rho} (h : a = r) (h2 : ρ[1]? = some x) : PR r [.d v, x] a ρ := ⟨h, fun i a' e o => by
  match i with
  | 0 => simp at e; subst e; cases o
  | 1 => simp at e; subst e; exact h2
  | i + 2 => simp at e⟩
end
/-! ### keys of dicts of lists, read as data -/
theorem encPl_set (m : Pls) (k : Int) (v : Int × Int) : setK (encPl m) (Sum.inl k) (.list ((((getI m k).getD []) ++ [v]).map encI2)) = encPl (addQ m k v) := by
  exact setK_enc (f := fun l : List (Int × Int) => PyData.list (l.map encI2)) m k ((getI m k).getD [] ++ [v])
theorem encPl_get (m : Pls) (k : Int) : (getK (encPl m) (Sum.inl k)).getD (.list []) = .list (((getI m k).getD []).map encI2) := by
  have := getK_enc (f := fun l : List (Int × Int) => PyData.list (l.map encI2)) m k
  rw [show encPl m = encD (fun l : List (Int × Int) => PyData.list (l.map encI2)) m from rfl, this]
  cases getI m k <;> rfl
theorem getI_nodup {α : Type} : ∀ {m : List (Int × α)} {a : Int} {x : α}, (m.map (·.1)).Nodup → (a, x) ∈ m → getI m a = some x
  | [], _, _, _, h => by cases h
  | p :: m, a, x, hn, h => by
    rw [List.map_cons, List.nodup_cons] at hn
    rw [getI_cons]
    rcases List.mem_cons.mp h with z | z
    · rw [← z, if_pos rfl]
    · rw [if_neg fun e => hn.1 (List.mem_map.mpr ⟨(a, x), z, e.symm⟩)]
      exact getI_nodup hn.2 z
theorem fkEq_self {m : Pls} (h : (keysP m).Nodup) : fkEq (encPl m) (encPl m) = true := by
  unfold fkEq
  rw [Bool.and_eq_true, beq_iff_eq]
  refine ⟨rfl, List.all_eq_true.mpr fun kv hk => ?_⟩
  obtain ⟨q, hq, rfl⟩ := List.mem_map.mp hk
  have g : getI m q.1 = some q.2 := getI_nodup h hq
  have := getK_enc (f := fun l : List (Int × Int) => PyData.list (l.map encI2)) m q.1
  rw [show encPl m = encD (fun l : List (Int × Int) => PyData.list (l.map encI2)) m from rfl]
  dsimp only
  rw [this, g]
  exact eqE_rfl (f := fun l : List (Int × Int) => PyData.list (l.map encI2)) (eqE_list eq_i2) q.2
theorem sh_encPl (m : Pls) : shKV (encPl m) = true := List.all_eq_true.mpr fun kv hk => by
  obtain ⟨q, hq, rfl⟩ := List.mem_map.mp hk
  exact Fit.shaped (n := 3) (fit_list fun d hd => by
    obtain ⟨t, _, rfl⟩ := List.mem_map.mp hd
    exact fit_i2 t)
end Th

set_option Elab.async false
set_option linter.all false
set_option maxRecDepth 100000
namespace Th
open PySem PySem.Spec PyProof.Rows L2
section
variable {X : Cx} {B : Bs} {P : Pst} {ρ ρ1 ρ2 : Rho} {e k1 k2 : Expr} {pos pos' : Pos} {v w : PyData} {xs : List PyData} {x : Str}
/-- xs[a], xs[b] = e, a pair -/
theorem s_setL2 (i : Nat) {p0 p1 q0 q1 tp : Pos} {kk : Nat} {n1 n2 : Int} {j1 j2 : Nat} (he : E X e ρ (.d (.tuple [v, w])) ρ1) (hi : ρ1[i]? = some (.ml xs))
    (hk1 : E X k1 ρ1 (.d (.int n1)) ρ1) (hj1 : ixN xs.length n1 = some j1)
    (hk2 : E X k2 (ρ1.set i (.ml (xs.set j1 v))) (.d (.int n2)) (ρ1.set i (.ml (xs.set j1 v)))) (hj2 : ixN xs.length n2 = some j2) (h : P.nx (ρ1.set i (.ml ((xs.set j1 v).set j2 w))))
    (hc : X.calm = true := by rfl) (hN : X.N[i]? = some x := by rfl) (hvs : Vis X.env.scope x := by first | exact Or.inl rfl | exact Or.inr (Or.inl rfl) | exact Or.inr (Or.inr rfl)) (hd : (x == ("__debug__" : Str)) = false := by decide) (hcd : (x == ("__classdict__" : Str)) = false := by decide)
    (ha1 : ∀ v, assign (.Subscript (.Name x p0) k1 q0) X.env v = (do
      let ov ← holding [v] (eval (.Name x p0) X.env)
      let iv ← holding [v, ov] (eval k1 X.env)
      standAt q0
      holding [v, ov, iv] (setItem ov iv v)
      release [v, ov, iv] []) := by intro _; rfl)
    (ha2 : ∀ v, assign (.Subscript (.Name x p1) k2 q1) X.env v = (do
      let ov ← holding [v] (eval (.Name x p1) X.env)
      let iv ← holding [v, ov] (eval k2 X.env)
      standAt q1
      holding [v, ov, iv] (setItem ov iv v)
      release [v, ov, iv] []) := by intro _; rfl)
    (hs1 : (assignEach [.Subscript (.Name x p0) k1 q0, .Subscript (.Name x p1) k2 q1] X.env).map (·.2) = assign (.Subscript (.Name x p0) k1 q0) X.env :: (assignEach [.Subscript (.Name x p1) k2 q1] X.env).map (·.2) := by rfl)
    (hs2 : (assignEach [.Subscript (.Name x p1) k2 q1] X.env).map (·.2) = assign (.Subscript (.Name x p1) k2 q1) X.env :: (assignEach [] X.env).map (·.2) := by rfl)
    (hn : (assignEach [.Subscript (.Name x p0) k1 q0, .Subscript (.Name x p1) k2 q1] X.env).length = 2 := by rfl) (hst : (assignEach [.Subscript (.Name x p0) k1 q0, .Subscript (.Name x p1) k2 q1] X.env).findIdx? (·.1) = none := by rfl)
    (hs : swapsWithSole [.Tuple [.Subscript (.Name x p0) k1 q0, .Subscript (.Name x p1) k2 q1] kk tp] e pos.line X.env = pure false := by rfl) (hw : swappedStores [.Tuple [.Subscript (.Name x p0) k1 q0, .Subscript (.Name x p1) k2 q1] kk tp] e X.env = pure none := by rfl)
    (h1 : (assignEach [.Tuple [.Subscript (.Name x p0) k1 q0, .Subscript (.Name x p1) k2 q1] kk tp] X.env).map (·.2) = [assign (.Tuple [.Subscript (.Name x p0) k1 q0, .Subscript (.Name x p1) k2 q1] kk tp) X.env] := by rfl) :
    S X B (.Assign [.Tuple [.Subscript (.Name x p0) k1 q0, .Subscript (.Name x p1) k2 q1] kk tp] e pos) ρ P := .of (ps_asg pe_w (pg_tup hc (pgs_cons (pg_sub (pe_var hN hvs hd hcd) pe_w set_list ha1) (pgs_cons (pg_sub (pe_var hN hvs hd hcd) pe_w set_list ha2) pgs_nil hs2) hs1) hn hst) hs hw h1) fun σ HF H S1 bn D o => he σ HF H S1 _ fun x1 HF1 H1 S2 f1 r1 => by
  cases (show Dp X.K HF1 x1 (.tuple [v, w]) from r1) with
  | @tup t ys _ g1 g2 =>
    cases g2 with
    | @cons y1 _ _ _ d1 g2 =>
      cases g2 with
      | @cons y2 _ _ _ d2 g2 =>
        cases g2
        obtain ⟨p, o0, e0, _⟩ := S2.ownAt hi rfl
        refine ⟨t, [y1, y2], rfl, same_t S2.sub g1, rfl, y1, [y2], rfl, .ref p, e0, hk1 σ HF1 H1 S2 _ fun x2 HF2 H2 S3 f2 r2 => ?_⟩
        obtain ⟨p2, o2, e3, h1, h2, h3⟩ := S3.ownAt hi rfl
        rw [e0] at e3
        cases e3
        cases o2 <;> first | exact h3.elim | skip
        rename_i zs
        cases r2
        have hl := dpa_len h3
        obtain ⟨S4, f4⟩ := S3.put hi rfl e0 (o' := .lst (zs.set j1 y1)) (a' := .ml (xs.set j1 v)) (dpa_set h3 (dp_mono f2.hf d1))
        refine ⟨p, zs, n1, j1, rfl, rfl, h2, by rw [hl]; exact hj1, y2, [], rfl, .ref p, e0, hk2 σ HF2 _ S4 _ fun x3 HF3 H3 S5 f5 r5 => ?_⟩
        have hi' : (ρ1.set i (.ml (xs.set j1 v)))[i]? = some (.ml (xs.set j1 v)) := by
          rw [List.getElem?_set_self (List.getElem?_eq_some_iff.mp hi).1]
        obtain ⟨p3, o3, e6, m1, m2, m3⟩ := S5.ownAt hi' rfl
        rw [e0] at e6
        cases e6
        cases o3 <;> first | exact m3.elim | skip
        rename_i us
        cases r5
        have hl3 := dpa_len m3
        rw [List.length_set] at hl3
        obtain ⟨S6, f6⟩ := S5.put hi' rfl e0 (o' := .lst (us.set j2 y2)) (a' := .ml ((xs.set j1 v).set j2 w)) (dpa_set m3 (dp_mono ((f2.hf.trans f4.hf).trans f5.hf) d2))
        have f := ((((f1.trans f2).trans f4).trans f5).trans f6)
        refine ⟨p, us, n2, j2, rfl, rfl, m2, by rw [hl3]; exact hj2, ?_⟩
        have ee : (ρ1.set i (.ml (xs.set j1 v))).set i (.ml ((xs.set j1 v).set j2 w)) = ρ1.set i (.ml ((xs.set j1 v).set j2 w)) := List.set_set ..
        rw [ee] at S6 f
        exact ⟨rfl, o.nx _ _ _ _ h S6 (bn.fw f) f.hf⟩
end
/-! ### webs -/
theorem Src.to {X : Cx} {tg iter : Expr} {ρ ρ1 : Rho} {ds ds' : List PyData} {k : Option Nat} (q : ds = ds') (h : Src X tg iter ρ ds ρ1 k) : Src X tg iter ρ ds' ρ1 k := q ▸ h
theorem shape_2 {v x y : A} {l : List A} (hx : x.own = true := by rfl) (hy : y.own = true := by rfl) : Shape (v :: x :: l) (v :: y :: l) := ⟨rfl, fun i a e => by
  match i with
  | 0 => exact ⟨a, e, rfl, fun _ => rfl⟩
  | 1 => 
    rw [List.getElem?_cons_succ, List.getElem?_cons_zero] at e
    cases e
    exact ⟨y, rfl, by rw [hx, hy], fun z => by rw [hx] at z; cases z⟩
  | i + 2 => exact ⟨a, e, rfl, fun _ => rfl⟩⟩
theorem E.toF {X : Cx} {e : Expr} {ρ ρ1 : Rho} {a b : List (Key × PyData)} (h : E X e ρ (.fk a) ρ1) (q : a = b) : E X e ρ (.fk b) ρ1 := q ▸ h
theorem u1 {n : Nat} (h : n + 64 < cLine) : n + 1 < cLine := by omega
theorem u70 {n k : Nat} (h : n + 16 * k + 200 < cLine) : n + 70 < cLine := by omega
theorem keys_nodup (w : Wb) : (keysP (placesF w)).Nodup := by rw [keysP_places]; exact keysW_nodup w
theorem webs_len {w : Wb} (h : WbOk w) : (keysW w).length ≤ 20000 := by
  have h2 : ∀ (l ks : List Int), (l.foldl ins1 ks).length ≤ ks.length + l.length := fun l => by
    induction l with
    | nil => intro ks; exact Nat.le_refl _
    | cons a l ih =>
      intro ks
      have := ih (ins1 ks a)
      have e : (ins1 ks a).length ≤ ks.length + 1 := by
        unfold ins1
        split
        · omega
        · rw [List.length_append, List.length_singleton]; omega
      rw [List.foldl_cons, List.length_cons]
      omega
  have h3 := h2 (arcsW w) []
  have h4 : ∀ (l : List (List Int)), (∀ c ∈ l, c.length ≤ 8) → l.flatten.length ≤ 8 * l.length := fun l => by
    induction l with
    | nil => intro _; exact Nat.le_refl _
    | cons c l ih =>
      intro hc
      have := ih fun x hx => hc x (List.mem_cons_of_mem _ hx)
      have := hc c List.mem_cons_self
      rw [List.flatten_cons, List.length_append, List.length_cons]
      omega
  have h5 := h4 w.cs h.row
  have h6 := h.cs
  have h7 := h.ends
  unfold keysW
  have : (arcsW w).length = w.cs.flatten.length + w.ends.length := by unfold arcsW; rw [List.length_append]
  simp at h3
  omega
theorem num_names (w : Wb) : (keysP (placesF w)).zipIdx.foldl (fun d q => setI d q.1 (q.2 : Int)) [] = numD (keysW w) := by
  rw [numD_fold _ _ _ (keys_nodup w), keysP_places]
  rfl
theorem eqE_W : EqE encW := fun a b => by
  have := eqE_triple (eqE_tuple (eqE_tuple eqE_int)) (eqE_tuple eqE_int) eqE_int (a.cs, a.ends, a.rings) (b.cs, b.ends, b.rings)
  refine this.trans ?_
  cases a; cases b
  simp
theorem fit_W (w : Wb) : Fit 3 (encW w) := fit_tuple fun d hd => by
  rcases List.mem_cons.mp hd with rfl | hd
  · exact fit_tm fun c _ => fit_tm fun a _ => fit_int a
  · rcases List.mem_cons.mp hd with rfl | hd
    · exact fit_mono (fit_tm (n := 0) fun a _ => fit_int a) (by decide)
    · rw [List.mem_singleton.mp hd]; exact fit_int _
end Th

set_option Elab.async false
set_option linter.all false
set_option maxRecDepth 100000
namespace Th
open PySem PySem.Spec PyProof.Rows L2

/-! ### max(d, default=x), d a dict of ints -/
theorem walks_keys {prog : Program} {w : World} {A : Around} (hh : A.handled = none) (it d : Addr) (hne : d ≠ it) (od : Obj) (es : Array DictEntry) (ep : Nat) (hdt : od.data = .dict es ep) :
    WalksS prog w A it [it, d] [it] (fun a b => b = a) es.size (fun i v => ∃ en, es[i]? = some en ∧ v = en.key) (fun i s => s.heap.IsKeyIter it d i es.size ep ∧ s.heap.get? d = some od) where
  sub := fun b hb => by rw [List.mem_singleton.mp hb]; exact List.mem_cons_self
  grefl := fun _ => rfl
  gtrans := fun _ _ _ h1 h2 => h2.trans h1
  frame := fun i s h' tk st _ hk => ⟨st.1.at fun o e => hk it (by simp) o e, hk d (by simp) _ st.2⟩
  item := fun i s Q E hi st hQ => next_key_item st.1 st.2 hdt rfl (en := es[i]) (by simp [hi]) fun h' hit' hs' =>
    hQ _ _ ⟨_, by simp [hi], rfl⟩ ⟨hit', hs'.extBut _ _ hne st.2⟩ ⟨fun b o hb e => hs'.extBut b o (fun z => hb (by simp [z])) e, rfl, rfl, rfl, Nat.le_refl _⟩
  done := fun s Q E st hQ => next_key_end hh st.1 st.2 hdt rfl (Nat.le_refl _) fun h' eb => hQ _ ⟨fun b o hb e => eb b o (fun z => hb (by simp [z])) e, rfl, rfl, rfl, Nat.le_refl _⟩
  self := fun i s Q E st h => wpAny_pyIter_keyiter st.1 h
def maxI (d : Int) : List Int → Int
  | [] => d
  | x :: xs => xs.foldl max x
theorem foldl_max : ∀ (xs : List Int) (x : Int), (xs.foldl max x = x ∨ xs.foldl max x ∈ xs) ∧ x ≤ xs.foldl max x ∧ ∀ y ∈ xs, y ≤ xs.foldl max x
  | [], x => ⟨.inl rfl, Int.le_refl _, fun _ h => nomatch h⟩
  | a :: xs, x => by
    obtain ⟨h1, h2, h3⟩ := foldl_max xs (max x a)
    rw [List.foldl_cons]
    refine ⟨?_, by omega, fun y hy => ?_⟩
    · rcases h1 with h | h
      · rw [h]
        rcases Int.le_total x a with z | z
        · right; rw [Int.max_eq_right z]; exact List.mem_cons_self
        · left; exact Int.max_eq_left z
      · exact .inr (List.mem_cons_of_mem _ h)
    · rcases List.mem_cons.mp hy with z | z
      · rw [z]; omega
      · exact h3 y z
theorem maxI_eq {d n : Int} : ∀ {ks : List Int}, (ks = [] → n = d) → (ks ≠ [] → n ∈ ks ∧ ∀ y ∈ ks, y ≤ n) → n = maxI d ks
  | [], h, _ => h rfl
  | x :: xs, _, h => by
    obtain ⟨h1, h2⟩ := h (by simp)
    obtain ⟨g1, g2, g3⟩ := foldl_max xs x
    have a1 : n ≤ xs.foldl max x := by
      rcases List.mem_cons.mp h1 with z | z
      · rw [z]; exact g2
      · exact g3 n z
    have a2 : xs.foldl max x ≤ n := by
      rcases g1 with z | z
      · rw [z]; exact h2 x List.mem_cons_self
      · exact h2 _ (List.mem_cons_of_mem _ z)
    exact Int.le_antisymm a1 a2
theorem maxI_ge {d : Int} : ∀ {ks : List Int} {y : Int}, y ∈ ks → y ≤ maxI d ks
  | x :: xs, y, h => by
    obtain ⟨g1, g2, g3⟩ := foldl_max xs x
    rcases List.mem_cons.mp h with z | z
    · rw [z]; exact g2
    · exact g3 y z
def rMaxKD : List V → List V → Hp → VK → Prop := fun xs zs H Q => ∃ (a : Addr) (kvs : List (Key × V)) (o : Obj) (ks : List Int) (z : Int), xs = [.ref a] ∧ zs = [.int z] ∧ H a = some (.frz o (.dK kvs)) ∧ kvs.map (·.1) = ks.map Sum.inl ∧ Q (.int (maxI z ks)) H
theorem cr_maxKD {X : Cx} (hc : X.calm = true) : CallRK X (.builtin "max") [Str.ofString "default"] rMaxKD := by
  intro pins s σ H xs zs us ws Q I rx rz h
  obtain ⟨a, kvs, o, ks, z, rfl, rfl, hd, hks, q⟩ := h
  obtain ⟨u, rfl, r1⟩ := vals1 rx
  obtain ⟨u2, rfl, r2⟩ := vals1 rz
  cases r1
  obtain ⟨tz, rfl⟩ := r2
  obtain ⟨hs, hgd, hx, es, ep, vs, hdt, hsz, kv, hm⟩ := I.frzK hd
  have had : a < s.heap.objs.size := Heap.lt_size hgd
  have hkl : ks.length = kvs.length := by
    have := congrArg List.length hks
    rw [List.length_map, List.length_map] at this
    exact this.symm
  have hv : ∀ i (en : DictEntry), es[i]? = some en → ∃ t, en.key = .int (ks.getD i 0) t := fun i en hen => by
    have hi : i < kvs.length := by
      rw [← hsz]
      exact (Array.getElem?_eq_some_iff.mp hen).1
    obtain ⟨u, hu, ru⟩ := kv_get kv (show kvs[i]? = some (kvs[i].1, kvs[i].2) from List.getElem?_eq_getElem hi)
    obtain ⟨od2, es2, hod2, hcd2, hdd2, hk2, hp2, hn2⟩ := id hm
    rw [hgd] at hod2
    cases hod2
    obtain ⟨rfl, _⟩ := dict_ep hdt hdd2
    have hkey : keyIs kvs[i].1 en.key = true := (hp2.get? (e := en) (by rw [← hen]; simp) hu).1
    have hki : kvs[i].1 = Sum.inl (ks.getD i 0) := by
      have := congrArg (fun l => l[i]?) hks
      rw [List.getElem?_map, List.getElem?_map, List.getElem?_eq_getElem hi, List.getElem?_eq_getElem (by omega)] at this
      rw [List.getD_eq_getElem?_getD, List.getElem?_eq_getElem (by omega)]
      simpa using this
    rw [hki] at hkey
    exact (relV_key hkey : RelV (.int (ks.getD i 0)) en.key)
  have mv : ∀ {s' : Shared}, Moved [s.heap.objs.size] (fun a b => b = a) { s with heap := s.heap.push { cls := .type "dict_keyiterator", data := .fields #[.ref a, .int 0 0, .int es.size 0, .int ep 0] } } s' → L2.Inv X pins σ H s' := fun {s'} hmv => by
    have e : s' = { s with heap := s'.heap, toks := s'.toks } := by
      obtain ⟨hp, g, d, tk, os⟩ := s'
      obtain ⟨_, h2, h3, h4, _⟩ := hmv
      dsimp only at h2 h3 h4
      subst h2 h3 h4
      rfl
    rw [e]
    exact I.kept fun b o eb => hmv.heap b o (fun z => by rw [List.mem_singleton.mp z] at eb; exact absurd (Heap.lt_size eb) (Nat.lt_irrefl _)) (Heap.get?_push_of_some _ eb)
  refine call_max_walkD (iter_keys hs hgd hx hdt ⟨s.heap.objs.size, [s.heap.objs.size, a], [s.heap.objs.size], fun a b => b = a, es.size, _, _, s.heap, fun i j => decide (ks.getD i 0 > ks.getD j 0), rfl,
    walks_keys (A := X.A.in1) (I.ok.hd hc) s.heap.objs.size a (Nat.ne_of_lt had) o es ep hdt, ⟨⟨_, Heap.get?_push_size _ rfl, rfl, rfl⟩, Heap.get?_push_of_some _ hgd⟩, fun b hb => ?_, fun b o e z => ?_, fun b o e => Heap.get?_push_of_some _ e, fun hn s' hmv => ?_, fun hn => ⟨?_, fun v s' hP hmv => ?_⟩⟩)
  · rw [Heap.size_push]
    have e' : b = s.heap.objs.size ∨ b = a := by simpa using hb
    rcases e' with z | z
    · rw [z]; exact Nat.lt_succ_self _
    · rw [z]; exact Nat.lt_succ_of_lt had
  · rw [List.mem_singleton] at z
    have := Heap.lt_size e
    rw [z] at this
    exact Nat.lt_irrefl _ this
  · have hk0 : ks = [] := List.length_eq_zero_iff.mp (by omega)
    subst hk0
    exact ⟨.int z, H, mv hmv, ⟨tz, rfl⟩, q⟩
  · intro i j vi vj s Q E _ hi hj h
    obtain ⟨en, e1, rfl⟩ := hi
    obtain ⟨en2, e2, rfl⟩ := hj
    obtain ⟨t1, g1⟩ := hv i en e1
    obtain ⟨t2, g2⟩ := hv j en2 e2
    exact CmpOf.ints_gt (P := fun i v => ∃ t, v = .int (ks.getD i 0) t) (fun i => ks.getD i 0) (fun _ _ z => z) i j _ _ s Q E ⟨t1, g1⟩ ⟨t2, g2⟩ h
  · obtain ⟨en, e1, rfl⟩ := hP
    obtain ⟨t, g1⟩ := hv _ en e1
    rw [g1]
    obtain ⟨m1', m2'⟩ := argBest_gt (fun i => ks.getD i 0) (es.size - 1)
    have m1 : argBest (fun i j => decide (ks.getD i 0 > ks.getD j 0)) (es.size - 1) ≤ es.size - 1 := m1'
    have m2 : ∀ j, j ≤ es.size - 1 → ks.getD j 0 ≤ ks.getD (argBest (fun i j => decide (ks.getD i 0 > ks.getD j 0)) (es.size - 1)) 0 := m2'
    refine ⟨.int _, H, mv hmv, ⟨t, rfl⟩, ?_⟩
    rw [maxI_eq (d := z) (ks := ks) (n := ks.getD (argBest (fun i j => decide (ks.getD i 0 > ks.getD j 0)) (es.size - 1)) 0) (fun e => by rw [e] at hkl; simp at hkl; omega) fun _ => ⟨PySem.getD_mem (by omega), fun y hy => ?_⟩]
    · exact q
    · obtain ⟨j, hj, e⟩ := List.mem_iff_getElem.mp hy
      have := m2 j (by omega)
      rwa [show ks.getD j 0 = y by rw [List.getD_eq_getElem?_getD, List.getElem?_eq_getElem hj, ← e]; rfl] at this
section
variable {X : Cx} {ρ ρ1 ρ2 : Rho} {e e2 : Expr} {pos : Pos} {kvs : List (Key × PyData)} {z : Int}
theorem e_maxKD {ks : List Int} {pn kp : Pos} (h : E X e ρ (.fk kvs) ρ1) (h2 : E X e2 ρ1 (.d (.int z)) ρ2) (hks : kvs.map (·.1) = ks.map Sum.inl) (hm : X.mg "max" = none) (hg : Gl X "max" := by rfl) (hc : X.calm = true := by rfl)
    (hs : starEach [e] X.env = (false, eval e X.env) :: starEach [] X.env := by rfl)
    (he : backTo pos (starEach [e] X.env) = (false, eval e X.env) :: backTo pos (starEach [] X.env) := by rfl) (hpl : (backTo pos (starEach [e] X.env)).any (·.1) = false := by rfl)
    (hall : (backToKw pos (keywordEach [⟨some "default", e2, kp⟩] X.env)).all (·.1.isSome) = true := by rfl) (hnone : (backToKw pos (keywordEach [⟨some "default", e2, kp⟩] X.env)).any (·.1.isNone) = false := by rfl) (hkk : (backToKw pos (keywordEach [⟨some "default", e2, kp⟩] X.env)).filterMap (·.1) = [Str.ofString "default"] := by rfl) :
    E X (.Call (.Name "max" pn) [e] [⟨some "default", e2, kp⟩] pos) ρ (.d (.int (maxI z ks))) ρ2 :=
  .of (pe_callBK (cr_maxKD hc) hg hm (by decide +kernel) (pa_cons pe_w pa_nil hs) (pk_cons pe_w pk_nil) (by decide) (by decide) he hpl hall hnone hkk) fun σ HF H S1 Q q => h σ HF H S1 _ fun x HF1 H1 S2 f1 r1 => h2 σ HF1 H1 S2 _ fun y HF2 H2 S3 f2 r2 => by
    obtain ⟨p, kws, od, rfl, g1, g2⟩ := r1
    cases r2
    exact ⟨p, kws, od, ks, z, rfl, rfl, S3.sub _ _ (f2.hf _ _ g1), (dpkv_keys g2).trans hks, q _ HF2 H2 S3 (f1.trans f2) (.int _)⟩
end
end Th

set_option Elab.async false
set_option linter.all false
set_option maxRecDepth 100000
namespace Th
open PySem PySem.Spec PyProof.Rows L2

/-! ### x not in (a, b), whole numbers -/
section
variable {X : Cx} {ρ ρ1 ρ2 : Rho} {e1 e2 : Expr} {pos : Pos}
theorem dpa_is {K : PySem.W.Frag} {HF : Hp} : ∀ {ys : List V} {ns : List Int}, DpAll K HF ys (ns.map .int) → ys = ns.map V.int
  | _, [], h => by cases h; rfl
  | _, n :: ns, h => by
    cases h with
    | cons h t =>
      cases h
      rw [dpa_is t]
      rfl
theorem t_nInI {n : Int} {ns : List Int} (h1 : E X e1 ρ (.d (.int n)) ρ1) (h2 : E X e2 ρ1 (.d (.tuple (ns.map .int))) ρ2) (hb : behindInMarks .NotIn e2 = false := by rfl) : ET X (.Compare e1 [.NotIn] [e2] pos) ρ (!decide (n ∈ ns)) ρ2 :=
  t_cmp op_notIn_seq (ev_op h1 h2 fun HF H x y Q hx hy s2 q => by
    cases hx
    cases hy with
    | tup g1 g2 =>
      have := dpa_is g2
      subst this
      refine ⟨_, _, rfl, .inr (same_t s2 g1), rfl, List.all_eq_true.mpr fun z hz => by obtain ⟨n', _, rfl⟩ := List.mem_map.mp hz; rfl, ?_⟩
      have e : inV (.int n) (ns.map V.int) = decide (n ∈ ns) := by
        unfold inV
        rw [List.any_map]
        by_cases h : n ∈ ns
        · rw [decide_eq_true h]
          exact List.any_eq_true.mpr ⟨n, h, by simp [eqV]⟩
        · rw [decide_eq_false h]
          apply Bool.eq_false_iff.mpr
          intro z
          obtain ⟨s', h1, h2⟩ := List.any_eq_true.mp z
          simp [eqV] at h2
          exact h (h2 ▸ h1)
      show Q (.bl (!inV _ _)) H
      rw [e]
      exact q _ (.bl _)) hb
end
/-! ### ends joined -/
def keptL (es : List Int) (i j : Nat) : List Int := (es.zipIdx.filter fun q => decide (q.2 ≠ i ∧ q.2 ≠ j)).map (·.1)
def sub1 (a b x : Int) : Int := if x = b then a else x
def joinW (w : Wb) (i j : Nat) : Wb := if w.ends.getD i 0 = w.ends.getD j 0 then ⟨w.cs, keptL w.ends i j, w.rings + 1⟩ else mapW (sub1 (w.ends.getD i 0) (w.ends.getD j 0)) ⟨w.cs, keptL w.ends i j, w.rings⟩
def fJoined : List PyData → A → Prop := fun ds r => ∃ (w : Wb) (i j : Nat), WbOk w ∧ i < w.ends.length ∧ j < w.ends.length ∧ ds = [encW w, .int i, .int j] ∧ r = .d (encW (joinW w i j))
def shutW (w : Wb) (i : Nat) : Wb := anewW (joinW w i ((i + 1) % w.ends.length))
def fShut : List PyData → A → Prop := fun ds r => ∃ (w : Wb) (i : Nat), WbOk w ∧ i < w.ends.length ∧ ds = [encW w, .int i] ∧ r = .d (encW (shutW w i))
def sideW (a b : Wb) : Wb := ⟨a.cs ++ b.cs.map (fun c => c.map (1 + maxI (-1) (keysW a) + ·)), a.ends ++ b.ends.map (1 + maxI (-1) (keysW a) + ·), a.rings + b.rings⟩
def fSide : List PyData → A → Prop := fun ds r => ∃ a b : Wb, WbOk a ∧ WbOk b ∧ ds = [encW a, encW b] ∧ r = .d (encW (sideW a b))
def seamW (a b : Wb) (n : Nat) : Wb := (List.range n).foldl (fun w k => joinW w (a.ends.length - 1 - k) (a.ends.length - k)) (sideW a b)
def glueW (a b : Wb) (n : Nat) : Wb := anewW (seamW a b n)
def fGlued : List PyData → A → Prop := fun ds r => ∃ (a b : Wb) (n : Nat), WbOk a ∧ WbOk b ∧ a.cs.length + b.cs.length ≤ 1000 ∧ a.ends.length + b.ends.length ≤ 1000 ∧ n ≤ a.ends.length ∧ n ≤ b.ends.length ∧ ds = [encW a, encW b, .int n] ∧ r = .d (encW (glueW a b n))
theorem mapW_ends (f : Int → Int) (w : Wb) : (mapW f w).ends.length = w.ends.length := List.length_map ..
theorem mapW_cs (f : Int → Int) (w : Wb) : (mapW f w).cs.length = w.cs.length := List.length_map ..
theorem keptL_le (es : List Int) (i j : Nat) : (keptL es i j).length ≤ es.length := by
  unfold keptL
  rw [List.length_map]
  exact Nat.le_trans (List.length_filter_le _ _) (by rw [List.length_zipIdx]; exact Nat.le_refl _)
theorem kept_at (es : List Int) : ∀ (n i j : Nat), i ≠ j → ((es.zipIdx n).filter fun q => decide (q.2 ≠ i ∧ q.2 ≠ j)).length + (if n ≤ i ∧ i < n + es.length then 1 else 0) + (if n ≤ j ∧ j < n + es.length then 1 else 0) = es.length := by
  induction es with
  | nil => intro n i j _; simp
  | cons a es ih =>
    intro n i j hij
    have := ih (n + 1) i j hij
    rw [List.zipIdx_cons, List.filter_cons, List.length_cons]
    dsimp only
    by_cases h1 : n = i
    · subst h1
      rw [if_neg (by simp)]
      rw [if_neg (by omega)] at this
      rw [if_pos (by omega)]
      split at this <;> split <;> omega
    · by_cases h2 : n = j
      · subst h2
        rw [if_neg (by simp)]
        rw [if_neg (c := n + 1 ≤ n ∧ _) (by omega)] at this
        rw [if_pos (c := n ≤ n ∧ _) (by omega)]
        split at this <;> split <;> omega
      · rw [if_pos (by simp [h1, h2]), List.length_cons]
        split at this <;> split at this <;> split <;> split <;> omega
theorem keptL_len {es : List Int} {i j : Nat} (hi : i < es.length) (hj : j < es.length) (hij : i ≠ j) : (keptL es i j).length + 2 = es.length := by
  have := kept_at es 0 i j hij
  rw [if_pos (by omega), if_pos (by omega)] at this
  unfold keptL
  rw [List.length_map]
  omega
theorem joinW_len {w : Wb} {i j : Nat} (hi : i < w.ends.length) (hj : j < w.ends.length) (hij : i ≠ j) : (joinW w i j).ends.length + 2 = w.ends.length := by
  unfold joinW
  split
  · exact keptL_len hi hj hij
  · rw [mapW_ends]; exact keptL_len hi hj hij
theorem joinW_cs (w : Wb) (i j : Nat) : (joinW w i j).cs.length = w.cs.length := by
  unfold joinW
  split
  · rfl
  · rw [mapW_cs]
theorem joinW_ok {w : Wb} (h : WbOk w) (i j : Nat) : WbOk (joinW w i j) := by
  have h2 : ∀ r, WbOk ⟨w.cs, keptL w.ends i j, r⟩ := fun r => ⟨h.cs, h.row, Nat.le_trans (keptL_le _ _ _) h.ends⟩
  unfold joinW
  split
  · exact h2 _
  · exact mapW_ok (h2 _)
theorem anewW_ok {w : Wb} (h : WbOk w) : WbOk (anewW w) := mapW_ok h
theorem anewW_ends (w : Wb) : (anewW w).ends.length = w.ends.length := mapW_ends _ _
theorem anewW_cs (w : Wb) : (anewW w).cs.length = w.cs.length := mapW_cs _ _
theorem sideW_ok {a b : Wb} (ha : WbOk a) (hb : WbOk b) (hc : a.cs.length + b.cs.length ≤ 1000) (he : a.ends.length + b.ends.length ≤ 1000) : WbOk (sideW a b) := ⟨by
  show (_ ++ List.map _ _).length ≤ _
  rw [List.length_append, List.length_map]
  exact hc, fun c hcm => by
  rcases List.mem_append.mp hcm with z | z
  · exact ha.row c z
  · obtain ⟨c0, h0, rfl⟩ := List.mem_map.mp z
    rw [List.length_map]
    exact hb.row c0 h0, by
  show (_ ++ List.map _ _).length ≤ _
  rw [List.length_append, List.length_map]
  exact he⟩
theorem sideW_ends (a b : Wb) : (sideW a b).ends.length = a.ends.length + b.ends.length := by
  show (_ ++ List.map _ _).length = _
  rw [List.length_append, List.length_map]
theorem sideW_cs (a b : Wb) : (sideW a b).cs.length = a.cs.length + b.cs.length := by
  show (_ ++ List.map _ _).length = _
  rw [List.length_append, List.length_map]
/-- the webs along a seam -/
structure SeamOk (a b : Wb) (w : Wb) (k : Nat) : Prop where
  ok : WbOk w
  len : w.ends.length + 2 * k = a.ends.length + b.ends.length
  cs : w.cs.length = a.cs.length + b.cs.length
theorem seam_step {a b w : Wb} {k : Nat} (h : SeamOk a b w k) (h1 : k < a.ends.length) (h2 : k < b.ends.length) : SeamOk a b (joinW w (a.ends.length - 1 - k) (a.ends.length - k)) (k + 1) := by
  have hl := h.len
  have := joinW_len (w := w) (i := a.ends.length - 1 - k) (j := a.ends.length - k) (by omega) (by omega) (by omega)
  exact ⟨joinW_ok h.ok _ _, by omega, (joinW_cs _ _ _).trans h.cs⟩
theorem seam_0 {a b : Wb} (ha : WbOk a) (hb : WbOk b) (hc : a.cs.length + b.cs.length ≤ 1000) (he : a.ends.length + b.ends.length ≤ 1000) : SeamOk a b (sideW a b) 0 := ⟨sideW_ok ha hb hc he, by rw [sideW_ends]; rfl, sideW_cs a b⟩
theorem seam_ok {a b : Wb} (ha : WbOk a) (hb : WbOk b) (hc : a.cs.length + b.cs.length ≤ 1000) (he : a.ends.length + b.ends.length ≤ 1000) : ∀ n, n ≤ a.ends.length → n ≤ b.ends.length → SeamOk a b (seamW a b n) n
  | 0, _, _ => seam_0 ha hb hc he
  | n + 1, h1, h2 => by
    unfold seamW
    rw [List.range_succ, List.foldl_append]
    exact seam_step (seam_ok ha hb hc he n (by omega) (by omega)) (by omega) (by omega)
theorem glue_ok {a b : Wb} {n : Nat} (ha : WbOk a) (hb : WbOk b) (hc : a.cs.length + b.cs.length ≤ 1000) (he : a.ends.length + b.ends.length ≤ 1000) (h1 : n ≤ a.ends.length) (h2 : n ≤ b.ends.length) : SeamOk a b (glueW a b n) n := by
  have h := seam_ok ha hb hc he n h1 h2
  exact ⟨anewW_ok h.ok, by unfold glueW; rw [anewW_ends]; exact h.len, by unfold glueW; rw [anewW_cs]; exact h.cs⟩
theorem fn_fold (f : Int → Int) : ∀ (ks : List Int) (d : List (Int × Int)), (d.map (·.1) ++ ks).Nodup → ks.foldl (fun d a => setI d a (f a)) d = d ++ ks.map fun a => (a, f a)
  | [], d, _ => (List.append_nil d).symm
  | k :: ks, d, h => by
    have hk : k ∉ d.map (·.1) := fun z => by
      rw [List.nodup_append] at h
      exact h.2.2 k z k List.mem_cons_self rfl
    have hn : getI d k = none := by
      cases e : getI d k with
      | none => rfl
      | some v => exact (hk (List.mem_map.mpr ⟨(k, v), getI_mem e, rfl⟩)).elim
    rw [List.foldl_cons, setI_none hn, fn_fold f ks (d ++ [(k, f k)]) (by
      rw [List.map_append, List.append_assoc]
      exact h), List.append_assoc]
    rfl
theorem fn_names (f : Int → Int) (w : Wb) : (keysP (placesF w)).foldl (fun d a => setI d a (f a)) [] = (keysW w).map fun a => (a, f a) := by
  rw [fn_fold f _ _ (keys_nodup w), keysP_places]
  rfl
theorem fn_val {f : Int → Int} : ∀ {ks : List Int} {a : Int}, a ∈ ks → valI (ks.map fun a => (a, f a)) a = f a
  | k :: ks, a, h => by
    rw [List.map_cons]
    unfold valI
    rw [getI_cons]
    by_cases e : k = a
    · rw [if_pos e, e]; rfl
    · rw [if_neg e]
      exact fn_val ((List.mem_cons.mp h).resolve_left fun z => e z.symm)
theorem fn_keys (f : Int → Int) (ks : List Int) : (ks.map fun a => (a, f a)).map (·.1) = ks := by
  rw [List.map_map]
  exact List.map_id _
end Th

set_option Elab.async false
set_option linter.all false
set_option maxRecDepth 100000
namespace Th
open PySem PySem.Spec PyProof.Rows L2
section
variable {X : Cx} {ρ ρ1 ρ2 ρ3 : Rho} {e e1 e2 e3 : Expr} {pos : Pos} {k : Option Nat}
/-- max(xs), xs a list of ints -/
theorem e_maxL {pn : Pos} {n : Int} {ns : List Int} (h : EO X e ρ (.list ((n :: ns).map .int)) ρ1 k) (hm : X.mg "max" = none) (hg : Gl X "max" := by rfl) (hc : X.calm = true := by rfl) (he : starEach [e] X.env = (false, eval e X.env) :: starEach [] X.env := by rfl) : E X (.Call (.Name "max" pn) [e] [] pos) ρ (.d (.int (maxI 0 (n :: ns)))) ρ1 :=
  .of (pe_callB (cr_max hc) hg hm (by decide +kernel) (pa_cons pe_w pa_nil he) (he := he)) (ev_cb h fun HF H x Q r s q => by
    obtain ⟨p, ys, rfl, h1, h2⟩ := r
    have := dpa_is h2
    subst this
    refine ⟨p, n :: ns, rfl, h1, by simp, fun m h1 h2 => ?_⟩
    rw [maxI_eq (d := 0) (ks := n :: ns) (n := m) (fun z => by cases z) fun _ => ⟨h1, h2⟩]
    exact q _ (.int _))
/-- a < b <= c -/
theorem t_chI {i j l : Int} (ha : E X e1 ρ (.d (.int i)) ρ1) (hb : E X e2 ρ1 (.d (.int j)) ρ2) (hc : E X e3 ρ2 (.d (.int l)) ρ2) (hm : lastMarks [.Lt, .LtE] [e2, e3] = false := by with_unfolding_all rfl) : ET X (.Compare e1 [.Lt, .LtE] [e2, e3] pos) ρ (decide (i < j) && decide (j ≤ l)) ρ2 :=
  .of (pt_chain op_lt op_le pe_w pe_w pe_w hm) fun σ HF H S1 Q q => ha σ HF H S1 _ fun x HF1 H1 S2 f1 r1 => hb σ HF1 H1 S2 _ fun y HF2 H2 S3 f2 r2 => by
    cases r1
    cases r2
    refine ⟨i, j, rfl, rfl, decide (i < j), rfl, ?_⟩
    by_cases h : i < j
    · rw [if_pos (decide_eq_true h), decide_eq_true h, Bool.true_and] at *
      refine hc σ HF2 H2 S3 _ fun z HF3 H3 S4 f3 r3 => ?_
      cases r3
      exact ⟨j, l, rfl, rfl, _, rfl, q HF3 H3 S4 ((f1.trans f2).trans f3)⟩
    · rw [decide_eq_false h, Bool.false_and] at *
      rw [if_neg (by decide)]
      exact ⟨false, rfl, q HF2 H2 S3 (f1.trans f2)⟩
end
theorem rgc3 {n : Nat} (h : n ≤ 63) : RgC 0 (1 + ((min 14 n : Nat) : Int)) 3 ((min 14 n) / 3 + 1) := by
  have h15 : min 14 n < 15 := by omega
  generalize min 14 n = k at h15
  have key : ∀ k : Fin 15, (decide ((3 : Int) ≠ 0) && decide ((3 : Int).natAbs < 1073741824) && Builtin.Range.small 0 (1 + ((k.val : Nat) : Int)) 3 && decide (Builtin.Range.rangeSize 0 (1 + ((k.val : Nat) : Int)) 3 = ((k.val / 3 + 1 : Nat) : Int))) = true := by decide
  have := key ⟨k, h15⟩
  simp only [Bool.and_eq_true, decide_eq_true_eq] at this
  exact ⟨this.1.1.1, this.1.1.2, this.1.2, this.2⟩
/-! ### webs drawn, in some near places paired -/
def nearF (i : Int) : Int := [99, 1, 3, 99].getD i.toNat 0
theorem nearF_pos {i : Int} (h0 : 0 ≤ i) (h : i < 4) : 1 ≤ nearF i ∧ nearF i ≤ 99 := by
  have : i = 0 ∨ i = 1 ∨ i = 2 ∨ i = 3 := by omega
  rcases this with rfl | rfl | rfl | rfl <;> decide
def webStepN (nr : Int) (t : WSt) (arc : Int) : WSt :=
  ⟨(t.A.set (t.L.headD 0) arc).set (t.L.tail.getD (tkV t.s (min nr t.L.tail.length)).toNat 0) arc, t.L.tail.eraseIdx (tkV t.s (min nr t.L.tail.length)).toNat, tkS t.s (min nr t.L.tail.length)⟩
def nearO (s : Int × Int) : Int := nearF (tkV s 4)
def webRN (s : Int × Int) (m h : Nat) : WSt := (arcsL (tkS s 4) (2 * m + h)).foldl (webStepN (nearO s)) (web0 (tkS s 4) m h)
theorem wok_stepN {N : Nat} {s0 nr : Int} {i : Nat} {t : WSt} {arc : Int} (h : WOk N s0 i t) (hn : 1 ≤ nr) (hi : 2 * (i + 1) ≤ N) : WOk N s0 (i + 1) (webStepN nr t arc) := by
  have hl := h.left
  have hs := h.sn
  have htl : t.L.tail.length = t.L.length - 1 := List.length_tail
  have h0 := tkV_lo (s := t.s) (b := min nr (t.L.tail.length : Int)) (by omega)
  have h1 := tkV_hi (s := t.s) (b := min nr (t.L.tail.length : Int)) (by omega)
  refine ⟨?_, fun x hx => ?_, ?_, ?_⟩
  · show (List.set _ _ _).length = N
    rw [List.length_set, List.length_set]
    exact h.len
  · exact h.bd x (List.mem_of_mem_tail (List.mem_of_mem_eraseIdx hx))
  · show (List.eraseIdx _ _).length + _ = _
    rw [List.length_eraseIdx_of_lt (by omega)]
    omega
  · show t.s.2 + 1 = _
    push_cast
    omega
theorem wok_foldN {N : Nat} {s0 nr : Int} (hn : 1 ≤ nr) : ∀ (xs : List Int) (i : Nat) (t : WSt), WOk N s0 i t → 2 * (i + xs.length) ≤ N → WOk N s0 (i + xs.length) (xs.foldl (webStepN nr) t)
  | [], i, t, h, _ => h
  | x :: xs, i, t, h, hx => by
    rw [List.length_cons] at hx ⊢
    have := wok_foldN hn xs (i + 1) (webStepN nr t x) (wok_stepN h hn (by omega)) (by omega)
    rw [show i + (xs.length + 1) = i + 1 + xs.length by omega]
    exact this
theorem webN_A (s : Int × Int) (m h : Nat) : WOk (4 * m + 2 * h) (s.2 + 4) (2 * m + h) (webRN s m h) := by
  have h0 := wok_0 (tkS s 4) m h
  have := wok_foldN (nr := nearO s) (nearF_pos (tkV_lo (by decide)) (tkV_hi (by decide))).1 (arcsL (tkS s 4) (2 * m + h)) 0 _ h0 (by rw [arcsL_len]; omega)
  rw [arcsL_len, Nat.zero_add] at this
  have e : (tkS s 4).2 + 3 = s.2 + 4 := by rw [tkS_n]; omega
  rw [e] at this
  exact this
def webFN (s : Int × Int) (m h : Nat) (most : Int) : Wb := ⟨webCs (webRN s m h).A m, (webRN s m h).A.drop (4 * m), [0, 1, 2, most].getD (tkV (webRN s m h).s 4).toNat 0⟩
def webSN (s : Int × Int) (m h : Nat) : Int × Int := tkS (webRN s m h).s 4
def fWebN : Fs := fun as r as' => ∃ (s : Int × Int) (m h : Nat) (most : Int), (0 ≤ s.2 ∧ s.2 ≤ 800000) ∧ m ≤ 1000 ∧ h ≤ 1000 ∧ as = [rowA s, .d (.int m), .d (.int ((2 * h : Nat) : Int)), .d (.int most)] ∧ r = .d (encW (webFN s m h most)) ∧ as' = [rowA (webSN s m h), .d (.int m), .d (.int ((2 * h : Nat) : Int)), .d (.int most)]
theorem webN_ok (s : Int × Int) {m h : Nat} (most : Int) (hm : m ≤ 1000) (hh : h ≤ 500) : WbOk (webFN s m h most) ∧ (∀ c ∈ (webFN s m h most).cs, c.length = 4) ∧ (webFN s m h most).cs.length = m ∧ (webFN s m h most).ends.length = 2 * h := by
  have e1 := (webN_A s m h).len
  have c1 : (webFN s m h most).cs.length = m := by
    show (List.map _ _).length = m
    rw [List.length_map, List.length_range]
  have c2 : (webFN s m h most).ends.length = 2 * h := by
    show (List.drop _ _).length = _
    rw [List.length_drop, e1]
    omega
  have c3 : ∀ c ∈ (webFN s m h most).cs, c.length = 4 := fun c hc => by
    obtain ⟨k, hk, rfl⟩ := List.mem_map.mp hc
    have := List.mem_range.mp hk
    rw [List.length_drop, List.length_take, e1]
    omega
  exact ⟨⟨by omega, fun c hc => by rw [c3 c hc]; decide, by omega⟩, c3, c1, c2⟩
theorem webSN_n (s : Int × Int) (m h : Nat) : (webSN s m h).2 = s.2 + 5 + (2 * m + h : Nat) := by
  have := (webN_A s m h).sn
  show (webRN s m h).s.2 + 1 = _
  omega
end Th

set_option Elab.async false
set_option linter.all false
set_option maxRecDepth 100000
namespace Th

/-! ### arcs made one, two by two -/
def Ker (S : List Int) (f g : Int → Int) : Prop := ∀ x ∈ S, ∀ y ∈ S, (f x = f y ↔ g x = g y)
theorem Ker.refl (S : List Int) (f : Int → Int) : Ker S f f := fun _ _ _ _ => Iff.rfl
theorem Ker.trans {S : List Int} {f g h : Int → Int} (a : Ker S f g) (b : Ker S g h) : Ker S f h := fun x hx y hy => (a x hx y hy).trans (b x hx y hy)
theorem Ker.symm {S : List Int} {f g : Int → Int} (a : Ker S f g) : Ker S g f := fun x hx y hy => (a x hx y hy).symm
theorem anew_ker {f g : Int → Int} {w : Wb} (h : Ker (arcsW w) f g) : anewW (mapW f w) = anewW (mapW g w) := by
  let k : Int → Int := fun z => match (arcsW w).find? fun x => decide (f x = z) with
    | some x => g x
    | none => z
  have hk : ∀ x ∈ arcsW w, k (f x) = g x := fun x hx => by
    show (match (arcsW w).find? fun y => decide (f y = f x) with
      | some y => g y
      | none => f x) = g x
    cases e : (arcsW w).find? fun y => decide (f y = f x) with
    | none =>
      have := List.find?_eq_none.mp e x hx
      simp at this
    | some y =>
      have h1 : f y = f x := of_decide_eq_true (List.find?_some (p := fun y => decide (f y = f x)) e)
      exact (h y (List.mem_of_find?_eq_some e) x hx).mp h1
  have e1 : mapW g w = mapW k (mapW f w) := by
    rw [mapW_comp]
    exact mapW_congr fun a ha => (hk a ha).symm
  rw [e1]
  refine (anew_map fun a ha b hb e => ?_).symm
  rw [arcs_map] at ha hb
  obtain ⟨x, hx, rfl⟩ := List.mem_map.mp ha
  obtain ⟨y, hy, rfl⟩ := List.mem_map.mp hb
  rw [hk x hx, hk y hy] at e
  exact (h x hx y hy).mpr e
abbrev KSt := (Int → Int) × Int
def stepK (t : KSt) (p : Int × Int) : KSt := if t.1 p.1 = t.1 p.2 then (t.1, t.2 + 1) else (fun x => sub1 (t.1 p.1) (t.1 p.2) (t.1 x), t.2)
structure EqS (S : List Int) (t u : KSt) : Prop where
  n : t.2 = u.2
  k : Ker S t.1 u.1
theorem sub1_eq (a b u v : Int) : sub1 a b u = sub1 a b v ↔ u = v ∨ (u = a ∧ v = b) ∨ (u = b ∧ v = a) := by
  unfold sub1
  split <;> split <;> omega
def InS (S : List Int) (p : Int × Int) : Prop := p.1 ∈ S ∧ p.2 ∈ S
theorem step_eq {S : List Int} {t u : KSt} (h : EqS S t u) {p : Int × Int} (hp : InS S p) : EqS S (stepK t p) (stepK u p) := by
  have hk := h.k p.1 hp.1 p.2 hp.2
  unfold stepK
  by_cases e : t.1 p.1 = t.1 p.2
  · rw [if_pos e, if_pos (hk.mp e)]
    exact ⟨congrArg (· + 1) h.n, h.k⟩
  · rw [if_neg e, if_neg fun z => e (hk.mpr z)]
    refine ⟨h.n, fun x hx y hy => ?_⟩
    dsimp only
    rw [sub1_eq, sub1_eq, h.k x hx y hy, h.k x hx p.1 hp.1, h.k y hy p.2 hp.2, h.k x hx p.2 hp.2, h.k y hy p.1 hp.1]
theorem sub_swap (a b c d u v : Int) (hab : a ≠ b) (hcd : c ≠ d) (hn : ¬ (c = d ∨ (c = a ∧ d = b) ∨ (c = b ∧ d = a))) :
    sub1 (sub1 a b c) (sub1 a b d) (sub1 a b u) = sub1 (sub1 a b c) (sub1 a b d) (sub1 a b v) ↔ sub1 (sub1 c d a) (sub1 c d b) (sub1 c d u) = sub1 (sub1 c d a) (sub1 c d b) (sub1 c d v) := by
  simp only [sub1_eq]
  grind
theorem step_pos {t : KSt} {p : Int × Int} (h : t.1 p.1 = t.1 p.2) : stepK t p = (t.1, t.2 + 1) := if_pos h
theorem step_neg {t : KSt} {p : Int × Int} (h : ¬ t.1 p.1 = t.1 p.2) : stepK t p = (fun x => sub1 (t.1 p.1) (t.1 p.2) (t.1 x), t.2) := if_neg h
theorem step_swap {S : List Int} (t : KSt) (p q : Int × Int) : EqS S (stepK (stepK t p) q) (stepK (stepK t q) p) := by
  by_cases e1 : t.1 p.1 = t.1 p.2
  · by_cases e2 : t.1 q.1 = t.1 q.2
    · rw [step_pos e1, step_pos e2, step_pos (t := (t.1, t.2 + 1)) e2, step_pos (t := (t.1, t.2 + 1)) e1]
      exact ⟨rfl, .refl _ _⟩
    · rw [step_pos e1, step_neg e2, step_neg (t := (t.1, t.2 + 1)) e2, step_pos (t := (fun x => sub1 (t.1 q.1) (t.1 q.2) (t.1 x), t.2)) (congrArg (sub1 (t.1 q.1) (t.1 q.2)) e1)]
      exact ⟨rfl, .refl _ _⟩
  · by_cases e2 : t.1 q.1 = t.1 q.2
    · rw [step_neg e1, step_pos e2, step_neg (t := (t.1, t.2 + 1)) e1, step_pos (t := (fun x => sub1 (t.1 p.1) (t.1 p.2) (t.1 x), t.2)) (congrArg (sub1 (t.1 p.1) (t.1 p.2)) e2)]
      exact ⟨rfl, .refl _ _⟩
    · rw [step_neg e1, step_neg e2]
      by_cases e3 : sub1 (t.1 p.1) (t.1 p.2) (t.1 q.1) = sub1 (t.1 p.1) (t.1 p.2) (t.1 q.2)
      · have e4 : sub1 (t.1 q.1) (t.1 q.2) (t.1 p.1) = sub1 (t.1 q.1) (t.1 q.2) (t.1 p.2) := by rw [sub1_eq] at e3 ⊢; omega
        rw [step_pos (t := (fun x => sub1 (t.1 p.1) (t.1 p.2) (t.1 x), t.2)) e3, step_pos (t := (fun x => sub1 (t.1 q.1) (t.1 q.2) (t.1 x), t.2)) e4]
        refine ⟨rfl, fun x _ y _ => ?_⟩
        show sub1 (t.1 p.1) (t.1 p.2) (t.1 x) = sub1 (t.1 p.1) (t.1 p.2) (t.1 y) ↔ sub1 (t.1 q.1) (t.1 q.2) (t.1 x) = sub1 (t.1 q.1) (t.1 q.2) (t.1 y)
        rw [sub1_eq] at e3
        rw [sub1_eq, sub1_eq]
        omega
      · have e4 : ¬ sub1 (t.1 q.1) (t.1 q.2) (t.1 p.1) = sub1 (t.1 q.1) (t.1 q.2) (t.1 p.2) := fun z => e3 (by rw [sub1_eq] at z ⊢; omega)
        rw [step_neg (t := (fun x => sub1 (t.1 p.1) (t.1 p.2) (t.1 x), t.2)) e3, step_neg (t := (fun x => sub1 (t.1 q.1) (t.1 q.2) (t.1 x), t.2)) e4]
        exact ⟨rfl, fun x _ y _ => sub_swap _ _ _ _ (t.1 x) (t.1 y) e1 e2 (fun z => e3 (by rw [sub1_eq]; exact z))⟩
theorem EqS.trans {S : List Int} {t u v : KSt} (a : EqS S t u) (b : EqS S u v) : EqS S t v := ⟨a.n.trans b.n, a.k.trans b.k⟩
theorem EqS.refl (S : List Int) (t : KSt) : EqS S t t := ⟨rfl, .refl _ _⟩
theorem fold_eq {S : List Int} : ∀ (ps : List (Int × Int)) {t u : KSt}, EqS S t u → (∀ p ∈ ps, InS S p) → EqS S (ps.foldl stepK t) (ps.foldl stepK u)
  | [], _, _, h, _ => h
  | p :: ps, t, u, h, hp => fold_eq ps (step_eq h (hp p List.mem_cons_self)) fun q hq => hp q (List.mem_cons_of_mem _ hq)
theorem fold_perm {S : List Int} {ps qs : List (Int × Int)} (h : ps.Perm qs) : ∀ {t u : KSt}, EqS S t u → (∀ p ∈ ps, InS S p) → EqS S (ps.foldl stepK t) (qs.foldl stepK u) := by
  induction h with
  | nil => intro t u h _; exact h
  | cons p _ ih => intro t u h hp; exact ih (step_eq h (hp p List.mem_cons_self)) fun q hq => hp q (List.mem_cons_of_mem _ hq)
  | swap p q l =>
    intro t u h hp
    refine fold_eq l ?_ fun r hr => hp r (List.mem_cons_of_mem _ (List.mem_cons_of_mem _ hr))
    have hq := hp q List.mem_cons_self
    have hp' := hp p (List.mem_cons_of_mem _ List.mem_cons_self)
    exact (step_swap t q p).trans (step_eq (step_eq h hp') hq)
  | trans h1 _ ih1 ih2 => intro t u h hp; exact (ih1 h hp).trans (ih2 (.refl _ _) fun p hq => hp p (h1.mem_iff.mpr hq))
/-! ### webs by such states -/
def stW (C : List (List Int)) (E : List Int) (R : Int) (t : KSt) : Wb := mapW t.1 ⟨C, E, R + t.2⟩
theorem keptL_map (f : Int → Int) (es : List Int) (i j : Nat) : keptL (es.map f) i j = (keptL es i j).map f := by
  unfold keptL
  rw [List.zipIdx_map, List.filter_map, List.map_map, List.map_map]
  rfl
theorem join_st (C : List (List Int)) (E : List Int) (R : Int) (t : KSt) {i j : Nat} (hi : i < E.length) (hj : j < E.length) : joinW (stW C E R t) i j = stW C (keptL E i j) R (stepK t (E.getD i 0, E.getD j 0)) := by
  have gi : ∀ {i : Nat}, i < E.length → (stW C E R t).ends.getD i 0 = t.1 (E.getD i 0) := fun {i} h => by
    show (E.map t.1).getD i 0 = _
    rw [List.getD_eq_getElem?_getD, List.getD_eq_getElem?_getD, List.getElem?_map, List.getElem?_eq_getElem h]
    rfl
  unfold joinW stepK
  rw [gi hi, gi hj]
  dsimp only
  have hk : keptL (stW C E R t).ends i j = (keptL E i j).map t.1 := keptL_map _ _ _ _
  rw [hk]
  by_cases e : t.1 (E.getD i 0) = t.1 (E.getD j 0)
  · rw [if_pos e, if_pos e]
    show (⟨C.map fun c => c.map t.1, (keptL E i j).map t.1, R + t.2 + 1⟩ : Wb) = ⟨C.map fun c => c.map t.1, (keptL E i j).map t.1, R + (t.2 + 1)⟩
    rw [Int.add_assoc]
  · rw [if_neg e, if_neg e]
    show mapW _ ⟨C.map fun c => c.map t.1, (keptL E i j).map t.1, R + t.2⟩ = _
    exact mapW_comp t.1 _ ⟨C, keptL E i j, R + t.2⟩
theorem kept_off (l : List Int) : ∀ (n i j : Nat), i < n → j < n → ((l.zipIdx n).filter fun q => decide (q.2 ≠ i ∧ q.2 ≠ j)).map (·.1) = l := by
  induction l with
  | nil => intro _ _ _ _ _; rfl
  | cons a l ih =>
    intro n i j hi hj
    rw [List.zipIdx_cons, List.filter_cons, if_pos (by simp; omega), List.map_cons, ih (n + 1) i j (by omega) (by omega)]
theorem kept_mid (xs ys : List Int) (x y : Int) : ∀ n, (((xs ++ x :: y :: ys).zipIdx n).filter fun q => decide (q.2 ≠ n + xs.length ∧ q.2 ≠ n + xs.length + 1)).map (·.1) = xs ++ ys := by
  induction xs with
  | nil =>
    intro n
    rw [List.nil_append, List.zipIdx_cons, List.zipIdx_cons, List.filter_cons, List.filter_cons]
    rw [if_neg (by simp), if_neg (by simp), List.nil_append]
    exact kept_off ys (n + 1 + 1) n (n + 1) (by omega) (by omega)
  | cons a xs ih =>
    intro n
    rw [List.cons_append, List.zipIdx_cons, List.filter_cons, if_pos (by simp; omega), List.map_cons, List.cons_append]
    have := ih (n + 1)
    rw [List.length_cons, show n + (xs.length + 1) = n + 1 + xs.length by omega, this]
theorem keptL_mid (xs ys : List Int) (x y : Int) : keptL (xs ++ x :: y :: ys) xs.length (xs.length + 1) = xs ++ ys := by
  have := kept_mid xs ys x y 0
  rw [Nat.zero_add] at this
  exact this
def seamP (EA EB : List Int) (n : Nat) : List (Int × Int) := (EA.reverse.zip EB).take n
theorem seam_st (C : List (List Int)) (R : Int) (EA EB : List Int) (t : KSt) : ∀ n, n ≤ EA.length → n ≤ EB.length →
    (List.range n).foldl (fun w k => joinW w (EA.length - 1 - k) (EA.length - k)) (stW C (EA ++ EB) R t) = stW C (EA.take (EA.length - n) ++ EB.drop n) R ((seamP EA EB n).foldl stepK t)
  | 0, _, _ => by
    unfold seamP
    rw [Nat.sub_zero, List.take_length, List.drop_zero]
    rfl
  | n + 1, h1, h2 => by
    rw [List.range_succ, List.foldl_append, seam_st C R EA EB t n (by omega) (by omega)]
    have hx : EA.length - n - 1 < EA.length := by omega
    have hy : n < EB.length := by omega
    have ea : EA.take (EA.length - n) = EA.take (EA.length - (n + 1)) ++ [EA[EA.length - n - 1]] := by
      have := List.take_succ_eq_append_getElem (l := EA) (i := EA.length - n - 1) hx
      rw [show EA.length - n - 1 + 1 = EA.length - n by omega] at this
      rw [this]
      rfl
    have eb : EB.drop n = EB[n] :: EB.drop (n + 1) := List.drop_eq_getElem_cons hy
    have el : (EA.take (EA.length - (n + 1))).length = EA.length - 1 - n := by rw [List.length_take]; omega
    have ee : EA.take (EA.length - n) ++ EB.drop n = EA.take (EA.length - (n + 1)) ++ EA[EA.length - n - 1] :: EB[n] :: EB.drop (n + 1) := by
      rw [ea, eb, List.append_assoc]
      rfl
    rw [ee]
    generalize hp : EA.take (EA.length - (n + 1)) = xs at *
    generalize hvx : EA[EA.length - n - 1] = vx at *
    generalize hvy : EB[n] = vy at *
    rw [List.foldl_cons, List.foldl_nil, ← el, show EA.length - n = xs.length + 1 by omega]
    rw [join_st C _ R _ (by rw [List.length_append, List.length_cons]; omega) (by rw [List.length_append, List.length_cons, List.length_cons]; omega), keptL_mid]
    have g1 : (xs ++ vx :: vy :: EB.drop (n + 1)).getD xs.length 0 = vx := by
      rw [List.getD_eq_getElem?_getD, List.getElem?_append_right (Nat.le_refl _), Nat.sub_self]; rfl
    have g2 : (xs ++ vx :: vy :: EB.drop (n + 1)).getD (xs.length + 1) 0 = vy := by
      rw [List.getD_eq_getElem?_getD, List.getElem?_append_right (by omega), Nat.add_sub_cancel_left]; rfl
    rw [g1, g2]
    have es : seamP EA EB (n + 1) = seamP EA EB n ++ [(vx, vy)] := by
      unfold seamP
      rw [List.take_add_one]
      have z : (EA.reverse.zip EB)[n]? = some (vx, vy) := by
        rw [List.getElem?_zip_eq_some]
        refine ⟨?_, by rw [← hvy]; exact List.getElem?_eq_getElem hy⟩
        rw [List.getElem?_reverse (by omega), show EA.length - 1 - n = EA.length - n - 1 by omega, ← hvx]
        exact List.getElem?_eq_getElem hx
      rw [z]
      rfl
    rw [es, List.foldl_append]
    rfl
end Th

set_option Elab.async false
set_option linter.all false
set_option maxRecDepth 100000
namespace Th

theorem anew_st {C : List (List Int)} {E : List Int} {R : Int} {S : List Int} {t u : KSt} (h : EqS S t u) (hs : ∀ x ∈ C.flatten ++ E, x ∈ S) : anewW (stW C E R t) = anewW (stW C E R u) := by
  unfold stW
  rw [h.n]
  exact anew_ker fun x hx y hy => h.k x (hs x hx) y (hs y hy)
theorem posL_nn {ks : List Int} {a : Int} (h : a ∈ ks) : 0 ≤ posL ks a := by
  obtain ⟨i, _, e⟩ := posL_val 0 h
  unfold posL numD
  rw [e]
  omega
theorem anew_pos (C : List (List Int)) (E : List Int) (R : Int) (t : KSt) : anewW (stW C E R t) = stW C E R (fun x => posL (keysW (stW C E R t)) (t.1 x), t.2) := by
  unfold anewW
  exact mapW_comp t.1 _ ⟨C, E, R + t.2⟩
theorem st_arcs {C : List (List Int)} {E : List Int} {R : Int} {t : KSt} {x : Int} (h : x ∈ C.flatten ++ E) : t.1 x ∈ keysW (stW C E R t) := by
  rw [mem_keysW]
  unfold stW
  rw [arcs_map]
  exact List.mem_map_of_mem h
theorem pos_ker (C : List (List Int)) (E : List Int) (R : Int) (t : KSt) : Ker (C.flatten ++ E) t.1 (fun x => posL (keysW (stW C E R t)) (t.1 x)) := fun x hx y hy =>
  ⟨fun e => congrArg _ e, fun e => posL_inj _ _ (st_arcs hx) _ (st_arcs hy) e⟩
/-- two webs glued, told by their base -/
theorem glue_st {Ca Cb : List (List Int)} {Ea Eb : List Int} {Ra Rb : Int} {ta tb : KSt} {f : Int → Int} {n : Nat} (hnn : ∀ x ∈ Cb.flatten ++ Eb, 0 ≤ tb.1 x)
    (hA : Ker (Ca.flatten ++ Ea) f ta.1) (hB : Ker (Cb.flatten ++ Eb) f tb.1) (hAB : ∀ x ∈ Ca.flatten ++ Ea, ∀ y ∈ Cb.flatten ++ Eb, f x ≠ f y) (hd : ∀ x ∈ Ca.flatten ++ Ea, x ∉ Cb.flatten ++ Eb) (h1 : n ≤ Ea.length) (h2 : n ≤ Eb.length) :
    glueW (stW Ca Ea Ra ta) (stW Cb Eb Rb tb) n = anewW (stW (Ca ++ Cb) (Ea.take (Ea.length - n) ++ Eb.drop n) (Ra + Rb) ((seamP Ea Eb n).foldl stepK (f, ta.2 + tb.2))) := by
  generalize hfst : 1 + maxI (-1) (keysW (stW Ca Ea Ra ta)) = fst
  let f0 : Int → Int := fun x => if x ∈ Cb.flatten ++ Eb then fst + tb.1 x else ta.1 x
  have f0A : ∀ x ∈ Ca.flatten ++ Ea, f0 x = ta.1 x := fun x hx => if_neg (hd x hx)
  have f0B : ∀ x ∈ Cb.flatten ++ Eb, f0 x = fst + tb.1 x := fun x hx => if_pos hx
  have hside : sideW (stW Ca Ea Ra ta) (stW Cb Eb Rb tb) = stW (Ca ++ Cb) (Ea ++ Eb) (Ra + Rb) (f0, ta.2 + tb.2) := by
    unfold sideW
    rw [hfst]
    have c1 : (Ca.map fun c => c.map ta.1) = Ca.map fun c => c.map f0 := List.map_congr_left fun c hc => List.map_congr_left fun x hx => (f0A x (List.mem_append_left _ (List.mem_flatten.mpr ⟨c, hc, hx⟩))).symm
    have c2 : ((Cb.map fun c => c.map tb.1).map fun c => c.map (fst + ·)) = Cb.map fun c => c.map f0 := by
      rw [List.map_map]
      refine List.map_congr_left fun c hc => ?_
      show (c.map tb.1).map (fst + ·) = _
      rw [List.map_map]
      exact List.map_congr_left fun x hx => (f0B x (List.mem_append_left _ (List.mem_flatten.mpr ⟨c, hc, hx⟩))).symm
    have c3 : Ea.map ta.1 = Ea.map f0 := List.map_congr_left fun x hx => (f0A x (List.mem_append_right _ hx)).symm
    have c4 : (Eb.map tb.1).map (fst + ·) = Eb.map f0 := by
      rw [List.map_map]
      exact List.map_congr_left fun x hx => (f0B x (List.mem_append_right _ hx)).symm
    show (⟨(Ca.map fun c => c.map ta.1) ++ ((Cb.map fun c => c.map tb.1).map fun c => c.map (fst + ·)), Ea.map ta.1 ++ (Eb.map tb.1).map (fst + ·), (Ra + ta.2) + (Rb + tb.2)⟩ : Wb) = ⟨(Ca ++ Cb).map fun c => c.map f0, (Ea ++ Eb).map f0, (Ra + Rb) + (ta.2 + tb.2)⟩
    rw [c1, c2, c3, c4, List.map_append, List.map_append, show (Ra + ta.2) + (Rb + tb.2) = (Ra + Rb) + (ta.2 + tb.2) by omega]
  have hel : (stW Ca Ea Ra ta).ends.length = Ea.length := mapW_ends _ _
  unfold glueW seamW
  rw [hside, hel, seam_st _ _ _ _ _ n h1 h2]
  have hS : ∀ x ∈ (Ca.flatten ++ Ea) ++ (Cb.flatten ++ Eb), x ∈ Ca.flatten ++ Ea ∨ x ∈ Cb.flatten ++ Eb := fun x hx => List.mem_append.mp hx
  have hmax : ∀ x ∈ Ca.flatten ++ Ea, ta.1 x < fst := fun x hx => by
    have := maxI_ge (d := -1) (st_arcs (R := Ra) (t := ta) hx)
    omega
  have h0 : EqS ((Ca.flatten ++ Ea) ++ (Cb.flatten ++ Eb)) (f0, ta.2 + tb.2) (f, ta.2 + tb.2) := ⟨rfl, fun x hx y hy => by
    dsimp only
    rcases hS x hx with hx | hx <;> rcases hS y hy with hy | hy
    · rw [f0A x hx, f0A y hy]; exact (hA x hx y hy).symm
    · rw [f0A x hx, f0B y hy]
      have := hmax x hx
      have := hnn y hy
      exact ⟨fun e => by omega, fun e => (hAB x hx y hy e).elim⟩
    · rw [f0B x hx, f0A y hy]
      have := hmax y hy
      have := hnn x hx
      exact ⟨fun e => by omega, fun e => (hAB y hy x hx e.symm).elim⟩
    · rw [f0B x hx, f0B y hy, hB x hx y hy |>.trans Iff.rfl]
      exact ⟨fun e => by omega, fun e => by omega⟩⟩
  refine anew_st (fold_eq _ h0 fun p hp => ?_) fun x hx => ?_
  · have hp' := List.mem_of_mem_take hp
    have h1 := (List.of_mem_zip hp').1
    have h2 := (List.of_mem_zip hp').2
    exact ⟨List.mem_append_left _ (List.mem_append_right _ (List.mem_reverse.mp h1)), List.mem_append_right _ (List.mem_append_right _ h2)⟩
  · rw [List.flatten_append] at hx
    rcases List.mem_append.mp hx with z | z
    · rcases List.mem_append.mp z with z | z
      · exact List.mem_append_left _ (List.mem_append_left _ z)
      · exact List.mem_append_right _ (List.mem_append_left _ z)
    · rcases List.mem_append.mp z with z | z
      · exact List.mem_append_left _ (List.mem_append_right _ (List.mem_of_mem_take z))
      · exact List.mem_append_right _ (List.mem_append_right _ (List.mem_of_mem_drop z))
theorem fold_fix {S : List Int} : ∀ (ps : List (Int × Int)) (t : KSt), (∀ p ∈ ps, InS S p) → (∀ x ∈ S, t.1 x ∈ S) → (∀ x, x ∉ S → t.1 x = x) → (∀ x ∈ S, (ps.foldl stepK t).1 x ∈ S) ∧ ∀ x, x ∉ S → (ps.foldl stepK t).1 x = x
  | [], _, _, h1, h2 => ⟨h1, h2⟩
  | p :: ps, t, hp, h1, h2 => by
    have hp0 := hp p List.mem_cons_self
    refine fold_fix ps (stepK t p) (fun q hq => hp q (List.mem_cons_of_mem _ hq)) (fun x hx => ?_) fun x hx => ?_
    · by_cases e : t.1 p.1 = t.1 p.2
      · rw [step_pos e]; exact h1 x hx
      · rw [step_neg e]
        show sub1 _ _ _ ∈ S
        unfold sub1
        split
        · exact h1 _ hp0.1
        · exact h1 x hx
    · by_cases e : t.1 p.1 = t.1 p.2
      · rw [step_pos e]; exact h2 x hx
      · rw [step_neg e]
        show sub1 _ _ _ = x
        rw [h2 x hx]
        unfold sub1
        rw [if_neg fun z : x = t.1 p.2 => hx (by rw [z]; exact h1 _ hp0.2)]
theorem zip_take_l {xs ys zs : List Int} {n : Nat} (h : n ≤ xs.length) : ((xs ++ ys).zip zs).take n = (xs.zip zs).take n := by
  rw [List.zip_eq_zipWith, List.take_zipWith, List.take_append_of_le_length h, ← List.take_zipWith, List.zip_eq_zipWith]
theorem zip_take_r {xs ys zs : List Int} {n : Nat} (h : n ≤ ys.length) : (xs.zip (ys ++ zs)).take n = (xs.zip ys).take n := by
  rw [List.zip_eq_zipWith, List.take_zipWith, List.take_append_of_le_length h, ← List.take_zipWith, List.zip_eq_zipWith]
/-- a web told by a base of its own -/
def bas (k : Int) (x : Int) : Int := 3 * x + k
def dv3 (x : Int) : Int := x / 3
theorem dv_bas {k : Int} (h0 : 0 ≤ k) (h : k < 3) (x : Int) : dv3 (bas k x) = x := by
  unfold dv3 bas
  omega
abbrev bC (k : Int) (w : Wb) : List (List Int) := w.cs.map fun c => c.map (bas k)
abbrev bE (k : Int) (w : Wb) : List Int := w.ends.map (bas k)
theorem bas_web {k : Int} (h0 : 0 ≤ k) (h : k < 3) (w : Wb) : w = stW (bC k w) (bE k w) w.rings (dv3, 0) := by
  have e : ∀ l : List Int, (l.map (bas k)).map dv3 = l := fun l => by
    rw [List.map_map]
    exact (List.map_congr_left fun x _ => dv_bas h0 h x).trans (List.map_id _)
  have e2 : (w.cs.map fun c => c.map (bas k)).map (fun c => c.map dv3) = w.cs := by
    rw [List.map_map]
    exact (List.map_congr_left fun c _ => e c).trans (List.map_id _)
  show w = ⟨(w.cs.map fun c => c.map (bas k)).map (fun c => c.map dv3), (w.ends.map (bas k)).map dv3, w.rings + 0⟩
  rw [e2, e, Int.add_zero]
theorem bas_mem {k : Int} {w : Wb} {x : Int} (h : x ∈ (bC k w).flatten ++ bE k w) : ∃ y ∈ arcsW w, x = bas k y := by
  rcases List.mem_append.mp h with z | z
  · obtain ⟨c, hc, hx⟩ := List.mem_flatten.mp z
    obtain ⟨c0, h0, rfl⟩ := List.mem_map.mp hc
    obtain ⟨y, hy, rfl⟩ := List.mem_map.mp hx
    exact ⟨y, List.mem_append_left _ (List.mem_flatten.mpr ⟨c0, h0, hy⟩), rfl⟩
  · obtain ⟨y, hy, rfl⟩ := List.mem_map.mp z
    exact ⟨y, List.mem_append_right _ hy, rfl⟩
theorem bas_mod {k : Int} {w : Wb} {x : Int} (h0 : 0 ≤ k) (hk : k < 3) (h : x ∈ (bC k w).flatten ++ bE k w) : x % 3 = k := by
  obtain ⟨y, _, rfl⟩ := bas_mem h
  unfold bas
  omega
theorem ker_dv {k : Int} {w : Wb} (h0 : 0 ≤ k) (hk : k < 3) : Ker ((bC k w).flatten ++ bE k w) (fun x => x) dv3 := fun x hx y hy => by
  obtain ⟨u, _, rfl⟩ := bas_mem hx
  obtain ⟨v, _, rfl⟩ := bas_mem hy
  rw [dv_bas h0 hk, dv_bas h0 hk]
  show bas k u = bas k v ↔ u = v
  unfold bas
  omega
def NN (w : Wb) : Prop := ∀ a ∈ arcsW w, 0 ≤ a
theorem bas_nn {k : Int} {w : Wb} (h0 : 0 ≤ k) (hk : k < 3) (h : NN w) : ∀ x ∈ (bC k w).flatten ++ bE k w, 0 ≤ dv3 x := fun x hx => by
  obtain ⟨u, hu, rfl⟩ := bas_mem hx
  rw [dv_bas h0 hk]
  exact h u hu
theorem bE_len (k : Int) (w : Wb) : (bE k w).length = w.ends.length := List.length_map ..
theorem seamP_in {S EA EB : List Int} {n : Nat} (hA : ∀ x ∈ EA, x ∈ S) (hB : ∀ x ∈ EB, x ∈ S) : ∀ p ∈ seamP EA EB n, InS S p := fun p hp => by
  have hp' := List.mem_of_mem_take hp
  exact ⟨hA _ (List.mem_reverse.mp (List.of_mem_zip hp').1), hB _ (List.of_mem_zip hp').2⟩
theorem st_len (C : List (List Int)) (E : List Int) (R : Int) (t : KSt) : (stW C E R t).ends.length = E.length := mapW_ends _ _
/-- the first glued to the second, and that to the third, is the first glued to what comes of both others -/
theorem glue_assoc {a b c : Wb} {f l : Nat} (hb0 : NN b) (hc0 : NN c) (h1 : f ≤ a.ends.length) (h2 : f + l ≤ b.ends.length) (h3 : l ≤ c.ends.length) : glueW (glueW a b f) c l = glueW a (glueW b c l) f := by
  have hA := ker_dv (k := 0) (w := a) (by decide) (by decide)
  have hB := ker_dv (k := 1) (w := b) (by decide) (by decide)
  have hC := ker_dv (k := 2) (w := c) (by decide) (by decide)
  have nB := bas_nn (k := 1) (w := b) (by decide) (by decide) hb0
  have nC := bas_nn (k := 2) (w := c) (by decide) (by decide) hc0
  have mA : ∀ x ∈ (bC 0 a).flatten ++ bE 0 a, x % 3 = 0 := fun x hx => bas_mod (by decide) (by decide) hx
  have mB : ∀ x ∈ (bC 1 b).flatten ++ bE 1 b, x % 3 = 1 := fun x hx => bas_mod (by decide) (by decide) hx
  have mC : ∀ x ∈ (bC 2 c).flatten ++ bE 2 c, x % 3 = 2 := fun x hx => bas_mod (by decide) (by decide) hx
  have la := bE_len 0 a
  have lb := bE_len 1 b
  have lc := bE_len 2 c
  have wa := bas_web (k := 0) (by decide) (by decide) a
  have wb := bas_web (k := 1) (by decide) (by decide) b
  have wc := bas_web (k := 2) (by decide) (by decide) c
  generalize bC 0 a = Ca at *
  generalize bE 0 a = Ea at *
  generalize bC 1 b = Cb at *
  generalize bE 1 b = Eb at *
  generalize bC 2 c = Cc at *
  generalize bE 2 c = Ec at *
  generalize a.rings = ra at *
  generalize b.rings = rb at *
  generalize c.rings = rc at *
  generalize a.ends.length = na at *
  generalize b.ends.length = nb at *
  generalize c.ends.length = nc at *
  subst wa wb wc la lb lc
  -- the first seam, then the second
  have g1 := glue_st (Ca := Ca) (Ea := Ea) (Cb := Cb) (Eb := Eb) (Ra := ra) (Rb := rb) (ta := (dv3, 0)) (tb := (dv3, 0)) (f := fun x => x) (n := f) nB hA hB (fun x hx y hy e => by have := mA x hx; have := mB y hy; have e : x = y := e; omega) (fun x hx hy => by have := mA x hx; have := mB x hy; omega) h1 (by omega)
  have g2 := glue_st (Ca := Cb) (Ea := Eb) (Cb := Cc) (Eb := Ec) (Ra := rb) (Rb := rc) (ta := (dv3, 0)) (tb := (dv3, 0)) (f := fun x => x) (n := l) nC hB hC (fun x hx y hy e => by have := mB x hx; have := mC y hy; have e : x = y := e; omega) (fun x hx hy => by have := mB x hx; have := mC x hy; omega) (by omega) h3
  rw [g1, g2, anew_pos, anew_pos]
  have pAB : ∀ p ∈ seamP Ea Eb f, InS ((Ca.flatten ++ Ea) ++ (Cb.flatten ++ Eb)) p := seamP_in (fun x hx => List.mem_append_left _ (List.mem_append_right _ hx)) fun x hx => List.mem_append_right _ (List.mem_append_right _ hx)
  have pBC : ∀ p ∈ seamP Eb Ec l, InS ((Cb.flatten ++ Eb) ++ (Cc.flatten ++ Ec)) p := seamP_in (fun x hx => List.mem_append_left _ (List.mem_append_right _ hx)) fun x hx => List.mem_append_right _ (List.mem_append_right _ hx)
  have fAB := fold_fix (seamP Ea Eb f) ((fun x => x), (0 : Int) + 0) pAB (fun x hx => hx) fun _ _ => rfl
  have fBC := fold_fix (seamP Eb Ec l) ((fun x => x), (0 : Int) + 0) pBC (fun x hx => hx) fun _ _ => rfl
  have sAB : ∀ x ∈ (Ca ++ Cb).flatten ++ (Ea.take (Ea.length - f) ++ Eb.drop f), x ∈ (Ca.flatten ++ Ea) ++ (Cb.flatten ++ Eb) := fun x hx => by
    rw [List.flatten_append] at hx
    rcases List.mem_append.mp hx with z | z
    · rcases List.mem_append.mp z with z | z
      · exact List.mem_append_left _ (List.mem_append_left _ z)
      · exact List.mem_append_right _ (List.mem_append_left _ z)
    · rcases List.mem_append.mp z with z | z
      · exact List.mem_append_left _ (List.mem_append_right _ (List.mem_of_mem_take z))
      · exact List.mem_append_right _ (List.mem_append_right _ (List.mem_of_mem_drop z))
  have sBC : ∀ x ∈ (Cb ++ Cc).flatten ++ (Eb.take (Eb.length - l) ++ Ec.drop l), x ∈ (Cb.flatten ++ Eb) ++ (Cc.flatten ++ Ec) := fun x hx => by
    rw [List.flatten_append] at hx
    rcases List.mem_append.mp hx with z | z
    · rcases List.mem_append.mp z with z | z
      · exact List.mem_append_left _ (List.mem_append_left _ z)
      · exact List.mem_append_right _ (List.mem_append_left _ z)
    · rcases List.mem_append.mp z with z | z
      · exact List.mem_append_left _ (List.mem_append_right _ (List.mem_of_mem_take z))
      · exact List.mem_append_right _ (List.mem_append_right _ (List.mem_of_mem_drop z))
  have notC : ∀ x ∈ Cc.flatten ++ Ec, x ∉ (Ca.flatten ++ Ea) ++ (Cb.flatten ++ Eb) := fun x hx z => by
    have := mC x hx
    rcases List.mem_append.mp z with z | z
    · have := mA x z; omega
    · have := mB x z; omega
  have notA : ∀ x ∈ Ca.flatten ++ Ea, x ∉ (Cb.flatten ++ Eb) ++ (Cc.flatten ++ Ec) := fun x hx z => by
    have := mA x hx
    rcases List.mem_append.mp z with z | z
    · have := mB x z; omega
    · have := mC x z; omega
  generalize hAB : (seamP Ea Eb f).foldl stepK ((fun x => x), (0 : Int) + 0) = tAB at *
  generalize hBC : (seamP Eb Ec l).foldl stepK ((fun x => x), (0 : Int) + 0) = tBC at *
  have lE1 : (Ea.take (Ea.length - f) ++ Eb.drop f).length = (Ea.length - f) + (Eb.length - f) := by rw [List.length_append, List.length_take, List.length_drop]; omega
  have lE2 : (Eb.take (Eb.length - l) ++ Ec.drop l).length = (Eb.length - l) + (Ec.length - l) := by rw [List.length_append, List.length_take, List.length_drop]; omega
  have g3 := glue_st (Ca := Ca ++ Cb) (Ea := Ea.take (Ea.length - f) ++ Eb.drop f) (Cb := Cc) (Eb := Ec) (Ra := ra + rb) (Rb := rc) (ta := (fun x => posL (keysW (stW (Ca ++ Cb) (Ea.take (Ea.length - f) ++ Eb.drop f) (ra + rb) tAB)) (tAB.1 x), tAB.2)) (tb := (dv3, 0)) (f := tAB.1) (n := l) nC (pos_ker _ _ _ _)
    (fun x hx y hy => by rw [fAB.2 x (notC x hx), fAB.2 y (notC y hy)]; exact hC x hx y hy)
    (fun x hx y hy e => notC y hy (by rw [← fAB.2 y (notC y hy), ← e]; exact fAB.1 x (sAB x hx))) (fun x hx hy => notC x hy (sAB x hx)) (by rw [lE1]; omega) h3
  have g4 := glue_st (Ca := Ca) (Ea := Ea) (Cb := Cb ++ Cc) (Eb := Eb.take (Eb.length - l) ++ Ec.drop l) (Ra := ra) (Rb := rb + rc) (ta := (dv3, 0)) (tb := (fun x => posL (keysW (stW (Cb ++ Cc) (Eb.take (Eb.length - l) ++ Ec.drop l) (rb + rc) tBC)) (tBC.1 x), tBC.2)) (f := tBC.1) (n := f) (fun x hx => posL_nn (st_arcs hx))
    (fun x hx y hy => by rw [fBC.2 x (notA x hx), fBC.2 y (notA y hy)]; exact hA x hx y hy) (pos_ker _ _ _ _)
    (fun x hx y hy e => notA x hx (by rw [← fBC.2 x (notA x hx), e]; exact fBC.1 y (sBC y hy))) (fun x hx hy => notA x hx (sBC x hy)) h1 (by rw [lE2]; omega)
  rw [g3, g4]
  have eE : (Ea.take (Ea.length - f) ++ Eb.drop f).take ((Ea.take (Ea.length - f) ++ Eb.drop f).length - l) ++ Ec.drop l = Ea.take (Ea.length - f) ++ (Eb.take (Eb.length - l) ++ Ec.drop l).drop f := by
    have l1 : (Ea.take (Ea.length - f)).length = Ea.length - f := by rw [List.length_take]; omega
    rw [lE1, List.take_append, List.take_of_length_le (by omega), l1, List.drop_append_of_le_length (by rw [List.length_take]; omega), List.drop_take, List.append_assoc]
    congr 3
    omega
  have e1 : seamP (Ea.take (Ea.length - f) ++ Eb.drop f) Ec l = seamP Eb Ec l := by
    unfold seamP
    have z : Eb.reverse = (Eb.drop f).reverse ++ (Eb.take f).reverse := by rw [← List.reverse_append, List.take_append_drop]
    rw [List.reverse_append, z, zip_take_l (by rw [List.length_reverse, List.length_drop]; omega), zip_take_l (by rw [List.length_reverse, List.length_drop]; omega)]
  have e2 : seamP Ea (Eb.take (Eb.length - l) ++ Ec.drop l) f = seamP Ea Eb f := by
    unfold seamP
    have z : Eb = Eb.take (Eb.length - l) ++ Eb.drop (Eb.length - l) := (List.take_append_drop _ _).symm
    rw [zip_take_r (by rw [List.length_take]; omega)]
    conv => rhs; rw [z]
    rw [zip_take_r (by rw [List.length_take]; omega)]
  rw [eE, e1, e2, List.append_assoc, Int.add_assoc]
  have s1 : (tAB.1, tAB.2 + (0 : Int)) = tAB := by rw [Int.add_zero]
  have s2 : (tBC.1, (0 : Int) + tBC.2) = tBC := by rw [Int.zero_add]
  try dsimp only
  rw [s1, s2, ← hAB, ← hBC, ← List.foldl_append, ← List.foldl_append]
  refine anew_st (S := (Ca.flatten ++ Ea) ++ ((Cb.flatten ++ Eb) ++ (Cc.flatten ++ Ec))) (fold_perm List.perm_append_comm (.refl _ _) fun p hp => ?_) fun x hx => ?_
  · rcases List.mem_append.mp hp with z | z
    · have := pAB p z
      exact ⟨(List.mem_append.mp this.1).elim (fun q => List.mem_append_left _ q) fun q => List.mem_append_right _ (List.mem_append_left _ q), (List.mem_append.mp this.2).elim (fun q => List.mem_append_left _ q) fun q => List.mem_append_right _ (List.mem_append_left _ q)⟩
    · have := pBC p z
      exact ⟨List.mem_append_right _ this.1, List.mem_append_right _ this.2⟩
  · rw [List.flatten_append, List.flatten_append] at hx
    rcases List.mem_append.mp hx with z | z
    · rcases List.mem_append.mp z with z | z
      · exact List.mem_append_left _ (List.mem_append_left _ z)
      · rcases List.mem_append.mp z with z | z
        · exact List.mem_append_right _ (List.mem_append_left _ (List.mem_append_left _ z))
        · exact List.mem_append_right _ (List.mem_append_right _ (List.mem_append_left _ z))
    · rcases List.mem_append.mp z with z | z
      · exact List.mem_append_left _ (List.mem_append_right _ (List.mem_of_mem_take z))
      · rcases List.mem_append.mp (List.mem_of_mem_drop z) with z | z
        · exact List.mem_append_right _ (List.mem_append_left _ (List.mem_append_right _ (List.mem_of_mem_take z)))
        · exact List.mem_append_right _ (List.mem_append_right _ (List.mem_append_right _ (List.mem_of_mem_drop z)))
/-- glued by none and shut where they meet is glued by one -/
theorem glue_shut {a b : Wb} (ha : 0 < a.ends.length) (hb : 0 < b.ends.length) : glueW a b 1 = shutW (glueW a b 0) (a.ends.length - 1) := by
  have hl := sideW_ends a b
  have e0 : sideW a b = stW (sideW a b).cs (sideW a b).ends (sideW a b).rings ((fun x => x), 0) := by
    show sideW a b = mapW (fun x => x) ⟨(sideW a b).cs, (sideW a b).ends, (sideW a b).rings + 0⟩
    rw [mapW_id fun _ _ => rfl, Int.add_zero]
  have z : glueW a b 0 = stW (sideW a b).cs (sideW a b).ends (sideW a b).rings (fun x => posL (keysW (sideW a b)) x, 0) := by
    show anewW (sideW a b) = _
    have := anew_pos (sideW a b).cs (sideW a b).ends (sideW a b).rings ((fun x => x), 0)
    rwa [← e0] at this
  have hi : (a.ends.length - 1 + 1) % (glueW a b 0).ends.length = a.ends.length := by
    rw [z, st_len, hl, show a.ends.length - 1 + 1 = a.ends.length by omega]
    exact Nat.mod_eq_of_lt (by omega)
  unfold shutW
  rw [hi, z, join_st _ _ _ _ (by omega) (by omega)]
  show anewW (joinW (sideW a b) (a.ends.length - 1 - 0) (a.ends.length - 0)) = _
  rw [Nat.sub_zero, Nat.sub_zero]
  have e1 : joinW (sideW a b) (a.ends.length - 1) a.ends.length = stW (sideW a b).cs (keptL (sideW a b).ends (a.ends.length - 1) a.ends.length) (sideW a b).rings (stepK ((fun x => x), 0) ((sideW a b).ends.getD (a.ends.length - 1) 0, (sideW a b).ends.getD a.ends.length 0)) := by
    have := join_st (sideW a b).cs (sideW a b).ends (sideW a b).rings ((fun x => x), 0) (i := a.ends.length - 1) (j := a.ends.length) (by omega) (by omega)
    rwa [← e0] at this
  rw [e1]
  have hm : ∀ i, i < (sideW a b).ends.length → (sideW a b).ends.getD i 0 ∈ arcsW (sideW a b) := fun i hi => List.mem_append_right _ (by
    rw [List.getD_eq_getElem?_getD, List.getElem?_eq_getElem hi]
    exact List.getElem_mem hi)
  refine anew_st (S := arcsW (sideW a b)) (step_eq (t := ((fun x => x), 0)) (u := (fun x => posL (keysW (sideW a b)) x, 0)) (p := ((sideW a b).ends.getD (a.ends.length - 1) 0, (sideW a b).ends.getD a.ends.length 0)) ⟨rfl, fun x hx y hy => ⟨fun e => congrArg (posL (keysW (sideW a b))) e, fun e => posL_inj _ _ (mem_keysW.mpr hx) _ (mem_keysW.mpr hy) e⟩⟩ ⟨hm _ (by omega), hm _ (by omega)⟩) fun x hx => ?_
  rcases List.mem_append.mp hx with z | z
  · exact List.mem_append_left _ z
  · refine List.mem_append_right _ ?_
    obtain ⟨q, hq, rfl⟩ := List.mem_map.mp z
    exact List.fst_mem_of_mem_zipIdx (List.mem_filter.mp hq).1
end Th

set_option Elab.async false
set_option linter.all false
set_option maxRecDepth 100000
namespace Th
open PySem PySem.Spec PyProof.Rows L2

/-! ### dicts whose keys are tuples -/
section
variable {X : Cx} {pins : List (Addr × Obj)} {σ : L2.St} {H : Hp} {s : Shared}
mutual
theorem nest_of (I : Inv X pins σ H s) : ∀ (k : NestedKey) {v : V} {u : Value}, Dp X.K H v k.data → RelV v u → NestedIs s.heap k u
  | .none, _, _, h, r => by
    rw [NestedKey.data] at h
    cases h
    cases (show _ = Value.none from r)
    exact .none
  | .num i, _, _, h, r => by
    rw [NestedKey.data] at h
    cases h
    obtain ⟨t, rfl⟩ := (show ∃ t, _ = Value.int i t from r)
    exact .int i t
  | .text x, _, _, h, r => by
    rw [NestedKey.data] at h
    cases h
    obtain ⟨t, rfl⟩ := (show ∃ t, _ = Value.str x t from r)
    exact .text x t
  | .tup ks, _, _, h, r => by
    rw [NestedKey.data] at h
    cases h with
    | tup h1 h2 =>
      obtain ⟨its, rv, ⟨o, e, c, n, d⟩, _⟩ := I.tuple h1
      cases r
      exact .tup e c d (nests_of I ks h2 rv)
theorem nests_of (I : Inv X pins σ H s) : ∀ (ks : List NestedKey) {vs : List V} {us : List Value}, DpAll X.K H vs (NestedKey.datas ks) → Vals vs us → NestedAll s.heap ks us
  | [], _, _, h, r => by
    rw [NestedKey.datas] at h
    cases h
    cases r
    exact .nil
  | k :: ks, _, _, h, r => by
    rw [NestedKey.datas] at h
    cases h with
    | cons h1 h2 =>
      cases r with
      | cons r1 r2 => exact .cons (nest_of I k h1 r1) (nests_of I ks h2 r2)
end
/-- a key, as a value -/
structure KeyIn (K : PySem.W.Frag) (H : Hp) (y : V) (k : NestedKey) : Prop where
  rf : ∃ b, y = .ref b
  dp : Dp K H y k.data
  dep : k.depth ≤ 8
  nt : noTx k = true
structure TabIn (K : PySem.W.Frag) (H : Hp) (p : Addr) (o : Obj) (xs : List (NestedKey × Addr × Value)) : Prop where
  at_ : H p = some (AtO p o)
  sys : (p == sysModules) = false
  tab : TabOf o xs
  keys : ∀ x ∈ xs, Dp K H (.ref x.2.1) x.1.data ∧ x.1.depth ≤ 8
variable {p : Addr} {o : Obj} {xs : List (NestedKey × Addr × Value)}
theorem tab_heap (I : Inv X pins σ H s) (T : TabIn X.K H p o xs) : s.heap.DictOfH (nestedKind X.prog X.w) p xs := by
  obtain ⟨e, _⟩ := I.hok p _ T.at_
  obtain ⟨w, es, ep, h1, h2⟩ := T.tab.es
  refine ⟨o, es, ep, e, T.tab.ex, h1, h2.trans (List.map_congr_left fun x hx => ?_), fun x hx => ⟨nest_of I x.1 (T.keys x hx).1 rfl, (T.keys x hx).2⟩, T.tab.nd⟩
  show DictEntry.mk _ _ _ = DictEntry.mk (x.1.hash X.w) _ _
  rw [hash_noTx w X.w x.1 (T.tab.nt x hx)]
theorem tab_back {h : Heap} {P : Program} {w : World} (T : h.DictOfH (nestedKind P w) p xs) (nt : ∀ x ∈ xs, noTx x.1 = true) : ∃ o, h.get? p = some o ∧ TabOf o xs := by
  obtain ⟨o, es, ep, e, h1, h2, h3, _, h5⟩ := T
  exact ⟨o, e, h1, nt, h5, w, es, ep, h2, h3⟩
theorem KeyIn.is {y : V} {k : NestedKey} {u : Value} (I : Inv X pins σ H s) (h : KeyIn X.K H y k) (r : RelV y u) : ∃ b, y = .ref b ∧ u = .ref b ∧ (nestedKind X.prog X.w).is s.heap k b := by
  obtain ⟨b, rfl⟩ := h.rf
  have e : u = .ref b := r
  subst e
  exact ⟨b, rfl, rfl, nest_of I k h.dp r, h.dep⟩
theorem at_write {h' : Heap} {t' : Nat} {xs' : List (NestedKey × Addr × Value)} (I : Inv X pins σ H s) (T : TabIn X.K H p o xs) (hs : Heap.SameBut p s.heap h') (T' : h'.DictOfH (nestedKind X.prog X.w) p xs') (nt : ∀ x ∈ xs', noTx x.1 = true) :
    ∃ o', TabOf o' xs' ∧ Inv X pins σ (upd H p (AtO p o')) { s with heap := h', toks := t' } := by
  obtain ⟨o', e, tb⟩ := tab_back T' nt
  exact ⟨o', tb, d_write I (by rw [T.at_]; exact True.intro) hs ⟨o', e⟩ (at_ok e)⟩
end
theorem nt_stored {xs : List (NestedKey × Addr × Value)} {k : NestedKey} {a : Addr} {v : Value} (h : ∀ x ∈ xs, noTx x.1 = true) (hk : noTx k = true) : ∀ x ∈ storedH xs k a v, noTx x.1 = true := fun x hx => by
  rcases mem_storedH hx with ⟨y, hy, e, _⟩ | ⟨e, _⟩
  · rw [e]; exact h y hy
  · rw [e]; exact hk
theorem nt_without {xs : List (NestedKey × Addr × Value)} {k : NestedKey} (h : ∀ x ∈ xs, noTx x.1 = true) : ∀ x ∈ withoutH xs k, noTx x.1 = true := fun x hx => h x (List.mem_filter.mp hx).1

section
variable {X : Cx} {o i e f value : Expr} {pos pos' apos cpos : Pos} {td ty tv tx : TE}
abbrev room8 (X : Cx) : Prop := X.A.units + 64 < cLine
theorem r8 {X : Cx} (hu : room8 X) : (nestedKind X.prog X.w).room X.A.in1 := by
  show X.A.in1.units + 8 < cLine
  have : X.A.in1.units = X.A.units + 1 := rfl
  unfold room8 at hu
  omega
theorem pe_tget (hu : room8 X) (ho : PE X o td) (hi : PE X i ty) (hs : NoSl i) : PE X (.Subscript o i pos) (fun σ H Q => td σ H fun x H1 => ty σ H1 fun y H2 => ∃ p ob xs k b u v, x = .ref p ∧ TabIn X.K H2 p ob xs ∧ KeyIn X.K H2 y k ∧ atKey xs k = some (b, u) ∧ RelV v u ∧ Q v H2) := by
  refine ⟨fun pins s σ H Q I h => ?_⟩
  refine subD_of PySem.F.slot_dict_getitem.lookup hs (thn (ho.run pins s σ H _ I h) fun u s1 ⟨x, H1, I1, rx, q1⟩ => thn (hi.run pins s1 σ H1 _ I1 q1) fun iv s2 ⟨y, H2, I2, ry, p, ob, xs, k, b, u2, v, ex, T, ky, ha, rv, q2⟩ => ?_)
  subst ex
  obtain rfl : u = Value.ref p := rx
  obtain ⟨b2, rfl, rfl, his⟩ := ky.is I2 ry
  have dd := tab_heap I2 T
  exact ⟨dd.typeIs, wpAny_getItem_heap (r8 hu) his dd ha ⟨v, H2, I2.tok _, rv, q2⟩⟩
theorem pc_tin (hu : room8 X) (hi : PE X i ty) (ho : PE X o td) : PC X .In i o (fun σ H Q => ty σ H fun y H1 => td σ H1 fun x H2 => ∃ p ob xs k, x = .ref p ∧ TabIn X.K H2 p ob xs ∧ KeyIn X.K H2 y k ∧ Q (.bl (atKey xs k).isSome) H2) := by
  refine ⟨fun pins s σ H Q I h => ?_⟩
  refine thn (hi.run pins s σ H _ I h) fun iv s1 ⟨y, H1, I1, ry, q1⟩ => thn (ho.run pins s1 σ H1 _ I1 q1) fun u s2 ⟨x, H2, I2, rx, p, ob, xs, k, ex, T, ky, q2⟩ => ?_
  subst ex
  obtain rfl : u = Value.ref p := rx
  obtain ⟨b2, rfl, rfl, his⟩ := ky.is I2 ry
  exact wpAny_in_heap (r8 hu) his T.sys (tab_heap I2 T) ⟨.bl (atKey xs k).isSome, H2, I2.tok _, rfl, q2⟩
theorem pc_tnotin (hu : room8 X) (hi : PE X i ty) (ho : PE X o td) : PC X .NotIn i o (fun σ H Q => ty σ H fun y H1 => td σ H1 fun x H2 => ∃ p ob xs k, x = .ref p ∧ TabIn X.K H2 p ob xs ∧ KeyIn X.K H2 y k ∧ Q (.bl (!(atKey xs k).isSome)) H2) := by
  refine ⟨fun pins s σ H Q I h => ?_⟩
  refine thn (hi.run pins s σ H _ I h) fun iv s1 ⟨y, H1, I1, ry, q1⟩ => thn (ho.run pins s1 σ H1 _ I1 q1) fun u s2 ⟨x, H2, I2, rx, p, ob, xs, k, ex, T, ky, q2⟩ => ?_
  subst ex
  obtain rfl : u = Value.ref p := rx
  obtain ⟨b2, rfl, rfl, his⟩ := ky.is I2 ry
  exact PyProof.Rows.wpAny_notIn_heap (r8 hu) his T.sys (tab_heap I2 T) ⟨.bl (!(atKey xs k).isSome), H2, I2.tok _, rfl, q2⟩
theorem ps_tput (hu : room8 X) (ho : PE X o td) (hi : PE X i ty) (hv : PE X value tv) (hs : swapsWith value (some (.Subscript o i pos')) pos.line X.env = pure false) :
    PS X (.Assign [.Subscript o i pos'] value pos) (fun D σ H => tv σ H fun v H1 => td σ H1 fun x H2 => ty σ H2 fun y H3 => ∃ p ob xs k b, x = .ref p ∧ y = .ref b ∧ TabIn X.K H3 p ob xs ∧ xs.length < sizeLine ∧ KeyIn X.K H3 y k ∧ ∀ u o', RelV v u → TabOf o' (storedH xs k b u) → D.nx σ (upd H3 p (AtO p o'))) := by
  refine ⟨fun pins s σ H D I h => ?_⟩
  refine wpAny_Assign_Subscript (thn (hv.run pins s σ H _ I h) fun r s1 ⟨v, H1, I1, rv, q1⟩ => thn (ho.run pins s1 σ H1 _ I1 q1) fun u s2 ⟨x, H2, I2, rx, q2⟩ => thn (hi.run pins s2 σ H2 _ I2 q2) fun iv s3 ⟨y, H3, I3, ry, p, ob, xs, k, b, ex, ey, T, hl, ky, q3⟩ => ?_) hs
  subst ex
  obtain rfl : u = Value.ref p := rx
  obtain ⟨b2, e2, rfl, his⟩ := ky.is I3 ry
  rw [ey] at e2
  cases e2
  refine wpAny_setItem_heap (hsz := Nat.le_of_lt hl) (r8 hu) his (tab_heap I3 T) fun h' dd' hs' => ?_
  obtain ⟨o', tb, I4⟩ := at_write (t' := s3.toks + (nestedKind X.prog X.w).draws k) I3 T hs' dd' (nt_stored T.tab.nt ky.nt)
  exact ⟨σ, _, I4, q3 r o' rv tb⟩
theorem pe_tget2 (hu : room8 X) (ho : PE X o td) (he : PE X e ty) (hf : PE X f tx) (m : M2 X o "get" apos e f cpos) : PE X (.Call (.Attribute o "get" apos) [e, f] [] cpos) (fun σ H Q => td σ H fun x H1 => ∃ p ob xs0, x = .ref p ∧ TabIn X.K H1 p ob xs0 ∧ ty σ H1 fun y H2 => tx σ H2 fun z H3 => ∃ ob xs k, TabIn X.K H3 p ob xs ∧ KeyIn X.K H3 y k ∧ (atKey xs k = none → Q z H3) ∧ ∀ b u, atKey xs k = some (b, u) → ∃ v, RelV v u ∧ Q v H3) := by
  refine ⟨fun pins s σ H Q I h => ?_⟩
  refine wpAny_Call_method m.base m.few m.line PySem.F.plainAttrs_dict PySem.F.slot_dict_get PySem.F.type_dict_get (thn (ho.run pins s σ H _ I h) fun u s1 ⟨x, H1, I1, rx, p, ob, xs0, ex, T0, q1⟩ => ?_)
  subst ex
  obtain rfl : u = Value.ref p := rx
  have dd0 := tab_heap I1 T0
  refine ⟨dd0.typeIs, PyProof.Rows.dictOfH_noDict dd0, ?_⟩
  rw [m.trees]
  refine Calls.callWith_builtin rfl (Calls.evalArgs_plain (Calls.spliced_cons (thn (he.run pins s1 σ H1 _ I1 q1) fun iv s2 ⟨y, H2, I2, ry, q2⟩ =>
    Calls.spliced_cons (thn (hf.run pins s2 σ H2 _ I2 q2) fun fv s3 ⟨z, H3, I3, rz, ob, xs, k, T, ky, q3, q4⟩ => Calls.spliced_nil ?_))))
  obtain ⟨b2, rfl, rfl, his⟩ := ky.is I3 ry
  have dd := tab_heap I3 T
  refine call_meetsIn PySem.F.slot_dict_get dd.typeIs PySem.F.entry_dict_get (PySem.F.args_dict_get_3 _ _ _) (meetsH_dict_get_default (nestedKind X.prog X.w) p b2 T.sys fv) ⟨r8 hu, k, xs, his, dd, ?_⟩
  cases ha : atKey xs k with
  | none => exact ⟨z, H3, I3.tok _, rz, q3 ha⟩
  | some bu =>
    obtain ⟨v, rv, qv⟩ := q4 bu.1 bu.2 ha
    exact ⟨v, H3, I3.tok _, rv, qv⟩
theorem pe_tpop1 (hu : room8 X) (ho : PE X o td) (he : PE X e ty) (m : M1 X o "pop" apos e cpos) : PE X (.Call (.Attribute o "pop" apos) [e] [] cpos) (fun σ H Q => td σ H fun x H1 => ∃ p ob xs0, x = .ref p ∧ TabIn X.K H1 p ob xs0 ∧ ty σ H1 fun y H2 => ∃ ob xs k b u v, TabIn X.K H2 p ob xs ∧ xs.length ≤ sizeLine ∧ KeyIn X.K H2 y k ∧ atKey xs k = some (b, u) ∧ RelV v u ∧ ∀ o', TabOf o' (withoutH xs k) → Q v (upd H2 p (AtO p o'))) := by
  refine ⟨fun pins s σ H Q I h => ?_⟩
  refine wpAny_Call_method m.base m.few m.line PySem.F.plainAttrs_dict PySem.F.slot_dict_pop PySem.F.type_dict_pop (thn (ho.run pins s σ H _ I h) fun u s1 ⟨x, H1, I1, rx, p, ob, xs0, ex, T0, q1⟩ => ?_)
  subst ex
  obtain rfl : u = Value.ref p := rx
  have dd0 := tab_heap I1 T0
  refine ⟨dd0.typeIs, PyProof.Rows.dictOfH_noDict dd0, ?_⟩
  rw [m.trees]
  refine Calls.callWith_builtin rfl (Calls.evalArgs_plain (Calls.spliced_cons (thn (he.run pins s1 σ H1 _ I1 q1) fun iv s2 ⟨y, H2, I2, ry, ob, xs, k, b, u, v, T, hl, ky, ha, rv, q2⟩ => Calls.spliced_nil ?_)))
  obtain ⟨b2, rfl, rfl, his⟩ := ky.is I2 ry
  have dd := tab_heap I2 T
  refine call_pop_heap (hsz := hl) (.inl rfl) (PySem.F.args_dict_pop_2 _ _) (r8 hu) his T.sys dd ha fun h' dd' hs' => ?_
  obtain ⟨o', tb, I4⟩ := at_write (t' := s2.toks + (nestedKind X.prog X.w).draws k) I2 T hs' dd' (nt_without T.tab.nt)
  exact ⟨v, _, I4, rv, q2 o' tb⟩
end
end Th

set_option Elab.async false
set_option linter.all false
set_option maxRecDepth 100000
namespace Th
open PySem PySem.Spec PyProof.Rows L2

structure KOk (y : NestedKey) : Prop where
  tp : ∃ ks, y = .tup ks
  dep : y.depth ≤ 8
  nt : noTx y = true
abbrev spK (p : Int × Int) : NestedKey := .tup [.num p.1, .num p.2]
theorem spK_data (p : Int × Int) : (spK p).data = encI2 p := rfl
theorem spK_ok (p : Int × Int) : KOk (spK p) := ⟨⟨_, rfl⟩, by show NestedKey.depth (.tup [.num p.1, .num p.2]) ≤ 8; simp [NestedKey.depth, NestedKey.depthAll], rfl⟩
theorem spK_inj {p q : Int × Int} (h : spK p = spK q) : p = q := by
  injection h with h
  injection h with h1 h2
  injection h2 with h2 _
  injection h1 with h1
  injection h2 with h2
  exact Prod.ext h1 h2
theorem KOk.key {K : PySem.W.Frag} {HF : Hp} {y : NestedKey} {x : V} (k : KOk y) (h : Dp K HF x y.data) : KeyIn K HF x y := by
  obtain ⟨ks, rfl⟩ := k.tp
  refine ⟨?_, h, k.dep, k.nt⟩
  rw [NestedKey.data] at h
  cases h with
  | tup h1 h2 => exact ⟨_, rfl⟩
section
variable {K : PySem.W.Frag} {HF H : Hp} {xs : List (NestedKey × Addr × Value)} {kvs : List (NestedKey × PyData)}
theorem tkv_len : ∀ {xs : List (NestedKey × Addr × Value)} {kvs : List (NestedKey × PyData)}, TKV K HF xs kvs → xs.length = kvs.length
  | _, _, .nil => rfl
  | _, _, .cons _ t => congrArg (· + 1) (tkv_len t)
theorem tkv_ks : ∀ {xs : List (NestedKey × Addr × Value)} {kvs : List (NestedKey × PyData)}, TKV K HF xs kvs → xs.map (·.1) = kvs.map (·.1)
  | _, _, .nil => rfl
  | _, _, .cons h t => by rw [List.map_cons, List.map_cons, tkv_ks t, h.1]
theorem tkv_keys : ∀ {xs : List (NestedKey × Addr × Value)} {kvs : List (NestedKey × PyData)}, TKV K HF xs kvs → ∀ x ∈ xs, Dp K HF (.ref x.2.1) x.1.data ∧ x.1.depth ≤ 8
  | _, _, .nil, _, h => nomatch h
  | _, _, .cons (a := a) (b := b) r t, x, h => by
    rcases List.mem_cons.mp h with e | h
    · subst e
      obtain ⟨e, hd, hp, _⟩ := r
      rw [e]
      exact ⟨hp, hd⟩
    · exact tkv_keys t x h
theorem tkv_val (k : NestedKey) : ∀ {xs : List (NestedKey × Addr × Value)} {kvs : List (NestedKey × PyData)}, TKV K HF xs kvs → (atKey xs k = none ∧ getK kvs k = none) ∨ ∃ b u v d, atKey xs k = some (b, u) ∧ getK kvs k = some d ∧ RelV v u ∧ Dp K HF v d
  | _, _, .nil => .inl ⟨rfl, rfl⟩
  | _, _, .cons (a := x) (b := kv) (l₁ := xs) (l₂ := kvs) r t => by
    obtain ⟨e, hd, hp, v, rv, dv⟩ := r
    by_cases g : x.1 = k
    · refine .inr ⟨x.2.1, x.2.2, v, kv.2, ?_, ?_, rv, dv⟩
      · unfold atKey
        rw [List.find?_cons, decide_eq_true g]
        rfl
      · unfold getK
        rw [List.find?_cons, decide_eq_true (e ▸ g)]
        rfl
    · have g2 : ¬ kv.1 = k := fun z => g (e.trans z)
      have a1 : atKey (x :: xs) k = atKey xs k := by
        unfold atKey
        rw [List.find?_cons, decide_eq_false g]
      have a2 : getK (kv :: kvs) k = getK kvs k := by
        unfold getK
        rw [List.find?_cons, decide_eq_false g2]
      rw [a1, a2]
      exact tkv_val k t
theorem tkv_app : ∀ {xs ys : List (NestedKey × Addr × Value)} {kvs lvs : List (NestedKey × PyData)}, TKV K HF xs kvs → TKV K HF ys lvs → TKV K HF (xs ++ ys) (kvs ++ lvs)
  | _, _, _, _, .nil, h => h
  | _, _, _, _, .cons r t, h => .cons r (tkv_app t h)
theorem tkv_map {k : NestedKey} {u : Value} {v : V} {d : PyData} (rv : RelV v u) (dv : Dp K HF v d) : ∀ {xs : List (NestedKey × Addr × Value)} {kvs : List (NestedKey × PyData)}, TKV K HF xs kvs → TKV K HF (xs.map (putAt k u)) (kvs.map fun kv => if kv.1 = k then (kv.1, d) else kv)
  | _, _, .nil => .nil
  | _, _, .cons (a := x) (b := kv) r t => by
    rw [List.map_cons, List.map_cons]
    refine .cons ?_ (tkv_map rv dv t)
    obtain ⟨e, hd, hp, v', rv', dv'⟩ := r
    unfold putAt
    by_cases g : x.1 = k
    · rw [if_pos g, if_pos (e ▸ g)]
      exact ⟨e, hd, hp, v, rv, dv⟩
    · rw [if_neg g, if_neg fun z => g (e.trans z)]
      exact ⟨e, hd, hp, v', rv', dv'⟩
theorem tkv_put {k : NestedKey} {b : Addr} {u : Value} {v : V} {d : PyData} (h : TKV K HF xs kvs) (hk : k.depth ≤ 8) (hb : Dp K HF (.ref b) k.data) (rv : RelV v u) (dv : Dp K HF v d) : TKV K HF (storedH xs k b u) (setK kvs k d) := by
  have any : (kvs.any fun kv => decide (kv.1 = k)) = (atKey xs k).isSome := by
    have : (kvs.any fun kv => decide (kv.1 = k)) = (getK kvs k).isSome := by
      unfold getK
      rw [Option.isSome_map, Bool.eq_iff_iff, List.find?_isSome, List.any_eq_true]
    rw [this]
    rcases tkv_val k h with ⟨e1, e2⟩ | ⟨_, _, _, _, e1, e2, _⟩ <;> rw [e1, e2] <;> rfl
  unfold storedH setK
  rw [any]
  by_cases g : (atKey xs k).isSome = true
  · rw [if_pos g, if_pos g]
    exact tkv_map rv dv h
  · rw [if_neg g, if_neg g]
    exact tkv_app h (.cons ⟨rfl, hk, hb, v, rv, dv⟩ .nil)
theorem tkv_drop (k : NestedKey) : ∀ {xs : List (NestedKey × Addr × Value)} {kvs : List (NestedKey × PyData)}, TKV K HF xs kvs → TKV K HF (withoutH xs k) (delK kvs k)
  | _, _, .nil => .nil
  | _, _, .cons (a := x) (b := kv) r t => by
    have ih := tkv_drop k t
    unfold withoutH delK at ih ⊢
    rw [List.filter_cons, List.filter_cons, r.1]
    split
    · exact .cons r ih
    · exact ih
theorem TRel.tin {p : Addr} {u : HO} (s : Same HF H) (h : TRel K HF p u kvs) (e : H p = some u) : ∃ o xs, u = AtO p o ∧ TabIn K H p o xs ∧ TKV K HF xs kvs := by
  obtain ⟨o, xs, e1, e2, e3, e4⟩ := h
  subst e1
  exact ⟨o, xs, rfl, ⟨e, e2, e3, tkv_keys (tkv_mono s e4)⟩, e4⟩
end

section
variable {X : Cx} {B : Bs} {P : Pst} {ρ ρ1 ρ2 ρ3 : Rho} {e e1 e2 tg iter : Expr} {es : List Expr} {pos pos' : Pos} {a : A} {b : Bool} {u v w z d : PyData} {ds xs : List PyData} {k : Option Nat} {kvs : List (NestedKey × PyData)} {y : NestedKey} {x : Str} {sts : List Stmt}
theorem Sl.tab {K : PySem.W.Frag} {σ : L2.St} {HF H : Hp} {i : Nat} (S1 : Sl K ρ σ HF H) (hi : ρ[i]? = some (.mt kvs)) : ∃ p o xs, σ[i]? = some (some (V.ref p)) ∧ HF p = none ∧ TabIn K H p o xs ∧ TKV K HF xs kvs := by
  obtain ⟨p, u, e, h1, h2, h3⟩ := S1.ownAt hi rfl
  cases u <;> first | exact h3.elim | skip
  obtain ⟨o, xs, e1, e2, e3⟩ := TRel.tin S1.sub h3 h2
  exact ⟨p, o, xs, e, h1, e2, e3⟩
/-- d[k], d an own dict in a slot -/
theorem e_tget (i : Nat) (y : NestedKey) (ky : KOk y) (he : E X e ρ (.d y.data) ρ1) (hi0 : ∃ k0, ρ[i]? = some (.mt k0)) (hi : ρ1[i]? = some (.mt kvs)) (hg : getK kvs y = some d) (hu : room8 X) (hs : NoSl e := by exact fun _ _ => rfl) (hN : X.N[i]? = some x := by rfl)
    (hv : Vis X.env.scope x := by first | exact Or.inl rfl | exact Or.inr (Or.inl rfl) | exact Or.inr (Or.inr rfl)) (hd : (x == ("__debug__" : Str)) = false := by decide) (hcd : (x == ("__classdict__" : Str)) = false := by decide) :
    E X (.Subscript (.Name x pos') e pos) ρ (.d d) ρ1 := .of (pe_tget hu (pe_var hN hv hd hcd) pe_w hs) fun σ HF H S1 Q q => by
  obtain ⟨k0, hk0⟩ := hi0
  obtain ⟨p, o, e0, _⟩ := S1.ownAt hk0 rfl
  refine ⟨.ref p, e0, he σ HF H S1 _ fun x1 HF1 H1 S2 f1 r1 => ?_⟩
  obtain ⟨p2, o2, xs, e3, h1, T, tk⟩ := S2.tab hi
  rw [e0] at e3
  cases e3
  rcases tkv_val y tk with ⟨_, g⟩ | ⟨b, u, v, d', g1, g2, rv, dv⟩
  · rw [hg] at g; cases g
  · rw [hg] at g2
    cases g2
    exact ⟨p, o2, xs, y, b, u, v, rfl, T, ky.key (dp_mono S2.sub r1), g1, rv, q _ HF1 H1 S2 f1 dv⟩
theorem e_tin (i : Nat) (y : NestedKey) (ky : KOk y) (he : E X e ρ (.d y.data) ρ1) (hi : ρ1[i]? = some (.mt kvs)) (hu : room8 X) (hN : X.N[i]? = some x := by rfl)
    (hv : Vis X.env.scope x := by first | exact Or.inl rfl | exact Or.inr (Or.inl rfl) | exact Or.inr (Or.inr rfl)) (hd : (x == ("__debug__" : Str)) = false := by decide) (hcd : (x == ("__classdict__" : Str)) = false := by decide)
    (hb : behindInMarks .In (.Name x pos') = false := by rfl) : E X (.Compare e [.In] [.Name x pos'] pos) ρ (.d (.bool (getK kvs y).isSome)) ρ1 := .of (pe_cmp (pc_tin hu pe_w (pe_var hN hv hd hcd)) hb) fun σ HF H S1 Q q => he σ HF H S1 _ fun x1 HF1 H1 S2 f1 r1 => by
  obtain ⟨p2, o2, xs, e3, h1, T, tk⟩ := S2.tab hi
  refine ⟨.ref p2, e3, p2, o2, xs, y, rfl, T, ky.key (dp_mono S2.sub r1), ?_⟩
  rcases tkv_val y tk with ⟨g1, g2⟩ | ⟨b, u, v, d', g1, g2, rv, dv⟩
  · rw [g1]; rw [g2] at q
    exact q _ HF1 H1 S2 f1 (.bl _)
  · rw [g1]; rw [g2] at q
    exact q _ HF1 H1 S2 f1 (.bl _)
theorem e_tnin (i : Nat) (y : NestedKey) (ky : KOk y) (he : E X e ρ (.d y.data) ρ1) (hi : ρ1[i]? = some (.mt kvs)) (hu : room8 X) (hN : X.N[i]? = some x := by rfl)
    (hv : Vis X.env.scope x := by first | exact Or.inl rfl | exact Or.inr (Or.inl rfl) | exact Or.inr (Or.inr rfl)) (hd : (x == ("__debug__" : Str)) = false := by decide) (hcd : (x == ("__classdict__" : Str)) = false := by decide)
    (hb : behindInMarks .NotIn (.Name x pos') = false := by rfl) : E X (.Compare e [.NotIn] [.Name x pos'] pos) ρ (.d (.bool (!(getK kvs y).isSome))) ρ1 := .of (pe_cmp (pc_tnotin hu pe_w (pe_var hN hv hd hcd)) hb) fun σ HF H S1 Q q => he σ HF H S1 _ fun x1 HF1 H1 S2 f1 r1 => by
  obtain ⟨p2, o2, xs, e3, h1, T, tk⟩ := S2.tab hi
  refine ⟨.ref p2, e3, p2, o2, xs, y, rfl, T, ky.key (dp_mono S2.sub r1), ?_⟩
  rcases tkv_val y tk with ⟨g1, g2⟩ | ⟨b, u, v, d', g1, g2, rv, dv⟩
  · rw [g1]; rw [g2] at q
    exact q _ HF1 H1 S2 f1 (.bl _)
  · rw [g1]; rw [g2] at q
    exact q _ HF1 H1 S2 f1 (.bl _)
/-- d[k] = v -/
theorem s_tput (i : Nat) (y : NestedKey) (ky : KOk y) {ev : Expr} {p0 : Pos} (hv : E X ev ρ (.d v) ρ1) (hk : E X e ρ1 (.d y.data) ρ2) (hi0 : ∃ k0, ρ1[i]? = some (.mt k0)) (hi : ρ2[i]? = some (.mt kvs)) (hz : kvs.length < 100000) (h : P.nx (ρ2.set i (.mt (setK kvs y v)))) (hu : room8 X)
    (hs : swapsWith ev (some (.Subscript (.Name x p0) e pos')) pos.line X.env = pure false := by rfl) (hN : X.N[i]? = some x := by rfl)
    (hvs : Vis X.env.scope x := by first | exact Or.inl rfl | exact Or.inr (Or.inl rfl) | exact Or.inr (Or.inr rfl)) (hd : (x == ("__debug__" : Str)) = false := by decide) (hcd : (x == ("__classdict__" : Str)) = false := by decide) :
    S X B (.Assign [.Subscript (.Name x p0) e pos'] ev pos) ρ P := .of (ps_tput hu (pe_var hN hvs hd hcd) pe_w pe_w hs) fun σ HF H S1 bn D o => hv σ HF H S1 _ fun x1 HF1 H1 S2 f1 r1 => by
  obtain ⟨k0, hk0⟩ := hi0
  obtain ⟨p, o0, e0, _⟩ := S2.ownAt hk0 rfl
  refine ⟨.ref p, e0, hk σ HF1 H1 S2 _ fun x2 HF2 H2 S3 f2 r2 => ?_⟩
  obtain ⟨p2, o2, xs, e3, h1, T, tk⟩ := S3.tab hi
  rw [e0] at e3
  cases e3
  have hl := tkv_len tk
  obtain ⟨b, rfl⟩ := (ky.key (dp_mono S3.sub r2)).rf
  refine ⟨p, o2, xs, y, b, rfl, rfl, T, Nat.lt_of_lt_of_le (by rw [hl]; exact hz) (by decide), ky.key (dp_mono S3.sub r2), fun u o' rv tb => ?_⟩
  obtain ⟨S4, f4⟩ := S3.put hi rfl e0 (o' := AtO p o') (a' := .mt (setK kvs y v)) ⟨o', _, rfl, T.sys, tb, tkv_put tk ky.dep r2 rv (dp_mono f2.hf r1)⟩
  have f := (f1.trans f2).trans f4
  exact o.nx _ _ _ _ h S4 (bn.fw f) f.hf
theorem e_tget2 (i : Nat) (y : NestedKey) (ky : KOk y) {apos : Pos} (he : E X e1 ρ (.d y.data) ρ1) (he2 : E X e2 ρ1 (.d w) ρ2) (hi0 : ∃ k0, ρ[i]? = some (.mt k0)) (hi : ρ2[i]? = some (.mt kvs)) (hu : room8 X) (m : M2 X (.Name x pos') "get" apos e1 e2 pos := by exact ⟨rfl, rfl, rfl, rfl⟩) (hN : X.N[i]? = some x := by rfl)
    (hv : Vis X.env.scope x := by first | exact Or.inl rfl | exact Or.inr (Or.inl rfl) | exact Or.inr (Or.inr rfl)) (hd : (x == ("__debug__" : Str)) = false := by decide) (hcd : (x == ("__classdict__" : Str)) = false := by decide) :
    E X (.Call (.Attribute (.Name x pos') "get" apos) [e1, e2] [] pos) ρ (.d ((getK kvs y).getD w)) ρ2 := .of (pe_tget2 hu (pe_var hN hv hd hcd) pe_w pe_w m) fun σ HF H S1 Q q => by
  obtain ⟨k0, hk0⟩ := hi0
  obtain ⟨p, o0, xs0, e0, _, T0, _⟩ := S1.tab hk0
  refine ⟨.ref p, e0, p, o0, xs0, rfl, T0, he σ HF H S1 _ fun x1 HF1 H1 S2 f1 r1 => he2 σ HF1 H1 S2 _ fun x2 HF2 H2 S3 f2 r2 => ?_⟩
  obtain ⟨p2, o2, xs, e3, h1, T, tk⟩ := S3.tab hi
  rw [e0] at e3
  cases e3
  refine ⟨o2, xs, y, T, ky.key (dp_mono S3.sub (dp_mono f2.hf r1)), fun g => ?_, fun b u g => ?_⟩
  · rcases tkv_val y tk with ⟨_, g2⟩ | ⟨_, _, _, _, g1, _⟩
    · rw [g2] at q
      exact q _ HF2 H2 S3 (f1.trans f2) r2
    · rw [g] at g1; cases g1
  · rcases tkv_val y tk with ⟨g1, _⟩ | ⟨b', u', v', d', g1, g2, rv, dv⟩
    · rw [g] at g1; cases g1
    · rw [g] at g1
      cases g1
      rw [g2] at q
      exact ⟨v', rv, q _ HF2 H2 S3 (f1.trans f2) dv⟩
/-- d.pop(k) -/
theorem e_tpop1 (i : Nat) (y : NestedKey) (ky : KOk y) {apos : Pos} (he : E X e ρ (.d y.data) ρ1) (hi0 : ∃ k0, ρ[i]? = some (.mt k0)) (hi : ρ1[i]? = some (.mt kvs)) (hg : getK kvs y = some d) (hz : kvs.length < 100000) (hu : room8 X) (m : M1 X (.Name x pos') "pop" apos e pos := by exact ⟨rfl, rfl, rfl, rfl⟩) (hN : X.N[i]? = some x := by rfl)
    (hv : Vis X.env.scope x := by first | exact Or.inl rfl | exact Or.inr (Or.inl rfl) | exact Or.inr (Or.inr rfl)) (hd : (x == ("__debug__" : Str)) = false := by decide) (hcd : (x == ("__classdict__" : Str)) = false := by decide) :
    E X (.Call (.Attribute (.Name x pos') "pop" apos) [e] [] pos) ρ (.d d) (ρ1.set i (.mt (delK kvs y))) := .of (pe_tpop1 hu (pe_var hN hv hd hcd) pe_w m) fun σ HF H S1 Q q => by
  obtain ⟨k0, hk0⟩ := hi0
  obtain ⟨p, o0, xs0, e0, _, T0, _⟩ := S1.tab hk0
  refine ⟨.ref p, e0, p, o0, xs0, rfl, T0, he σ HF H S1 _ fun x1 HF1 H1 S2 f1 r1 => ?_⟩
  obtain ⟨p2, o2, xs, e3, h1, T, tk⟩ := S2.tab hi
  rw [e0] at e3
  cases e3
  have hl := tkv_len tk
  rcases tkv_val y tk with ⟨_, g⟩ | ⟨b, u, v, d', g1, g2, rv, dv⟩
  · rw [hg] at g; cases g
  · rw [hg] at g2
    cases g2
    refine ⟨o2, xs, y, b, u, v, T, Nat.le_of_lt (Nat.lt_of_lt_of_le (by rw [hl]; exact hz) (by decide)), ky.key (dp_mono S2.sub r1), g1, rv, fun o' tb => ?_⟩
    obtain ⟨S4, f4⟩ := S2.put hi rfl e0 (o' := AtO p o') (a' := .mt (delK kvs y)) ⟨o', _, rfl, T.sys, tb, tkv_drop y tk⟩
    exact q _ _ _ S4 (f1.trans f4) dv
/-- frozen ones -/
theorem ft_tab {K : PySem.W.Frag} {HF H : Hp} {z : V} (s : Same HF H) (r : FtRel K HF z kvs) : ∃ p o xs, z = .ref p ∧ HF p = some (AtO p o) ∧ TabIn K H p o xs ∧ TKV K HF xs kvs := by
  obtain ⟨p, u, rfl, h1, h2⟩ := r
  obtain ⟨o, xs, e1, e2, e3⟩ := TRel.tin s h2 (s _ _ h1)
  exact ⟨p, o, xs, rfl, by rw [h1, e1], e2, e3⟩
theorem e_tgetF (y : NestedKey) (ky : KOk y) (hd : E X e1 ρ (.ft kvs) ρ1) (he : E X e2 ρ1 (.d y.data) ρ2) (hg : getK kvs y = some d) (hu : room8 X) (hs : NoSl e2 := by exact fun _ _ => rfl) : E X (.Subscript e1 e2 pos) ρ (.d d) ρ2 := .of (pe_tget hu pe_w pe_w hs) fun σ HF H S1 Q q => hd σ HF H S1 _ fun z HF1 H1 S2 f1 r1 => he σ HF1 H1 S2 _ fun x2 HF2 H2 S3 f2 r2 => by
  obtain ⟨p, o, xs, rfl, h1, T, tk⟩ := ft_tab S3.sub (ft_mono f2.hf r1)
  rcases tkv_val y tk with ⟨_, g⟩ | ⟨b, u, v, d', g1, g2, rv, dv⟩
  · rw [hg] at g; cases g
  · rw [hg] at g2
    cases g2
    exact ⟨p, o, xs, y, b, u, v, rfl, T, ky.key (dp_mono S3.sub r2), g1, rv, q _ HF2 H2 S3 (f1.trans f2) dv⟩
theorem e_tinF (y : NestedKey) (ky : KOk y) (he : E X e1 ρ (.d y.data) ρ1) (hd : E X e2 ρ1 (.ft kvs) ρ2) (hu : room8 X) (hb : behindInMarks .In e2 = false := by rfl) : E X (.Compare e1 [.In] [e2] pos) ρ (.d (.bool (getK kvs y).isSome)) ρ2 := .of (pe_cmp (pc_tin hu pe_w pe_w) hb) fun σ HF H S1 Q q => he σ HF H S1 _ fun x1 HF1 H1 S2 f1 r1 => hd σ HF1 H1 S2 _ fun z HF2 H2 S3 f2 r2 => by
  obtain ⟨p, o, xs, rfl, h1, T, tk⟩ := ft_tab S3.sub r2
  refine ⟨p, o, xs, y, rfl, T, ky.key (dp_mono S3.sub (dp_mono f2.hf r1)), ?_⟩
  rcases tkv_val y tk with ⟨g1, g2⟩ | ⟨b, u, v, d', g1, g2, rv, dv⟩
  · rw [g1]; rw [g2] at q
    exact q _ HF2 H2 S3 (f1.trans f2) (.bl _)
  · rw [g1]; rw [g2] at q
    exact q _ HF2 H2 S3 (f1.trans f2) (.bl _)
theorem e_tninF (y : NestedKey) (ky : KOk y) (he : E X e1 ρ (.d y.data) ρ1) (hd : E X e2 ρ1 (.ft kvs) ρ2) (hu : room8 X) (hb : behindInMarks .NotIn e2 = false := by rfl) : E X (.Compare e1 [.NotIn] [e2] pos) ρ (.d (.bool (!(getK kvs y).isSome))) ρ2 := .of (pe_cmp (pc_tnotin hu pe_w pe_w) hb) fun σ HF H S1 Q q => he σ HF H S1 _ fun x1 HF1 H1 S2 f1 r1 => hd σ HF1 H1 S2 _ fun z HF2 H2 S3 f2 r2 => by
  obtain ⟨p, o, xs, rfl, h1, T, tk⟩ := ft_tab S3.sub r2
  refine ⟨p, o, xs, y, rfl, T, ky.key (dp_mono S3.sub (dp_mono f2.hf r1)), ?_⟩
  rcases tkv_val y tk with ⟨g1, g2⟩ | ⟨b, u, v, d', g1, g2, rv, dv⟩
  · rw [g1]; rw [g2] at q
    exact q _ HF2 H2 S3 (f1.trans f2) (.bl _)
  · rw [g1]; rw [g2] at q
    exact q _ HF2 H2 S3 (f1.trans f2) (.bl _)
/-- an own dict in a slot becomes one that stays -/
theorem Sl.frzTAt {K : PySem.W.Frag} {σ : L2.St} {HF H : Hp} {i : Nat} (S1 : Sl K ρ σ HF H) (b1 : Bn B ρ σ HF H) (hi : ρ[i]? = some (.mt kvs)) (hl : ∀ q ∈ B.L, q.1 ≠ i) :
    ∃ HF', Sl K (ρ.set i (.ft kvs)) σ HF' H ∧ Bn B (ρ.set i (.ft kvs)) σ HF' H ∧ Same HF HF' := by
  obtain ⟨p, o, e, h1, h2, h3⟩ := S1.ownAt hi rfl
  cases o <;> first | exact h3.elim | skip
  rename_i φ
  have hb : B.H0 p = none := (b1.mine i _ p hi rfl e).elim (fun z => (hl _ z rfl).elim) id
  have hlen : i < ρ.length := (List.getElem?_eq_some_iff.mp hi).1
  have own : ∀ (j : Nat) (a : A), (ρ.set i (.ft kvs))[j]? = some a → a.own = true → i ≠ j ∧ ρ[j]? = some a := fun j a h o => by
    by_cases hj : i = j
    · subst hj
      rw [List.getElem?_set_self hlen] at h
      cases h
      cases o
    · rw [List.getElem?_set_ne hj] at h
      exact ⟨hj, h⟩
  have apart' : ∀ (j : Nat) (a : A) (q : Addr), i ≠ j → ρ[j]? = some a → a.own = true → σ[j]? = some (some (V.ref q)) → q ≠ p := fun j a q hj h oa e' z => hj (S1.apart i j _ a p hi h rfl oa e (by rw [e', z]))
  refine ⟨upd HF p (.ext φ), ⟨by rw [List.length_set]; exact S1.len, fun b v e => ?_, fun j a h => ?_, fun j k a b q g1 g2 o1 o2 e1 e2 => S1.apart j k a b q (own j a g1 o1).2 (own k b g2 o2).2 o1 o2 e1 e2⟩,
    ⟨b1.hf.trans (same_upd h1), b1.keep, fun c u h => ?_, b1.pres, fun j a q g o e' => b1.mine j a q (own j a g o).2 o e', b1.lent⟩, same_upd h1⟩
  · by_cases hb : b = p
    · subst hb
      rw [upd_same] at e
      exact h2.trans e
    · rw [upd_ne hb] at e
      exact S1.sub b v e
  · by_cases hj : i = j
    · subst hj
      rw [List.getElem?_set_self hlen] at h
      cases h
      exact ⟨_, e, _, rfl, p, _, rfl, upd_same, trel_mono (same_upd h1) h3⟩
    · rw [List.getElem?_set_ne hj] at h
      obtain ⟨s, e', q⟩ := S1.slot j a h
      refine ⟨s, e', arel_mono q (same_upd h1) fun b v e1 g1 g2 oa => ⟨?_, g2⟩⟩
      rw [upd_ne (apart' j a b hj h oa (by rw [e', e1]))]
      exact g1
  · by_cases hc : c = p
    · subst hc
      exact .inr hb
    · rw [upd_ne hc] at h
      exact b1.new c u h
theorem Ex.frzT {K : PySem.W.Frag} {t : TS} (i : Nat) (hi : ρ[i]? = some (.mt kvs)) (hl : ∀ q ∈ B.L, q.1 ≠ i) (h : Ex K B t (ρ.set i (.ft kvs)) P) : Ex K B t ρ P := fun σ HF H S1 b D o => by
  obtain ⟨HF', S2, b2, s⟩ := S1.frzTAt b hi hl
  exact h σ HF' H S2 b2 D (o.up s)
end
end Th

set_option Elab.async false
set_option linter.all false
set_option maxRecDepth 100000
namespace Th
open PySem PySem.Spec PyProof.Rows L2

/-! ### a list unpacked -/
theorem g_lst {X : Cx} {B : Bs} {ρ ρ1 : Rho} {pos : Pos} {es : List Expr} {k : Nat} {vs : List PyData} {n : Nat} (h : GTs X B es vs ρ ρ1) (hz : vs.length = n := by rfl) (hc : X.calm = true := by rfl) (hn : (assignEach es X.env).length = n := by rfl) (hst : (assignEach es X.env).findIdx? (·.1) = none := by rfl) :
    GT X B (.Tuple es k pos) (.list vs) ρ ρ1 := fun x σ HF H Sl r Q q => ⟨_, pg_lst hc pgs_w hn hst, by
  cases r with
  | lst h1 h2 => exact ⟨_, _, rfl, same_l Sl.sub h1, (dpa_len h2).trans hz, h _ σ HF H Sl h2 Q q⟩⟩

/-! ### keys walked -/
def ItkA (d : Addr) (o : Obj) (xs : List (NestedKey × Addr × Value)) : It :=
  ⟨fun i H => H d = some (AtO d o) ∧ i < xs.length, fun i H x H' => H' = H ∧ ∃ y, xs[i]? = some y ∧ x = .ref y.2.1, fun i H => H d = some (AtO d o) ∧ xs.length ≤ i⟩
theorem tab_es {o : Obj} {xs : List (NestedKey × Addr × Value)} (T : TabOf o xs) : ∃ (es : Array DictEntry) (ep : Nat), o.data = .dict es ep ∧ es.size = xs.length ∧ ∀ (i : Nat) (y : NestedKey × Addr × Value), xs[i]? = some y → ∃ en : DictEntry, es[i]? = some en ∧ en.key = .ref y.2.1 ∧ en.val = y.2.2 := by
  obtain ⟨w, es, ep, h1, h2⟩ := T.es
  refine ⟨es, ep, h1, ?_, fun i y e => ⟨⟨y.1.hash w, .ref y.2.1, y.2.2⟩, ?_, rfl, rfl⟩⟩
  · rw [← Array.length_toList, h2, List.length_map]
  · rw [← Array.getElem?_toList, h2, List.getElem?_map, e]
    rfl
theorem turn_keysA {P : Program} {w : World} {K : PySem.W.Frag} {tg : Expr} {d : Addr} {o : Obj} {es : Array DictEntry} {ep : Nat} {xs : List (NestedKey × Addr × Value)} (it : Addr) (T : TabOf o xs) (hod : o.data = .dict es ep) : Turn P w K tg (ItkA d o xs) [it] it (fun i h => h.IsKeyIter it d i xs.length ep) where
  mem := by simp
  obj := fun i h st b hb => by
    have e : b = it := by simpa using hb
    subst e
    obtain ⟨oi, e, c, dd⟩ := st
    exact ⟨oi, e, fun v z => by rw [dd] at z; cases z⟩
  keep := fun i h h' st k => st.at fun oi e => k it (by simp) oi e
  item := by
    intro X hP hw hK hc i pins s σ H E I hf st hg
    subst hP hw hK
    obtain ⟨hd, hi⟩ := hg
    obtain ⟨f0, f1, f2, f3, f4, f5⟩ := hf it (by simp)
    obtain ⟨hgd, _⟩ := I.hok d _ hd
    obtain ⟨es', ep', hdt, hsz, ent⟩ := tab_es T
    obtain ⟨rfl, rfl⟩ := dict_ep hod hdt
    obtain ⟨en, hen, hkey, _⟩ := ent i _ (List.getElem?_eq_getElem hi)
    refine next_key_item st hgd hdt hsz hen fun h' st' sb => ?_
    have I1 : Inv X pins σ H { s with heap := h' } := I.turned (t' := s.toks) (fun b ob hb e => (sb.2 b hb).trans e) f0 f1 f3 f4 f5
    obtain ⟨oi, e, c, dd⟩ := id st'
    exact ⟨en.key, rfl, go_of (s := { s with heap := h' }) e c dd (by decide) ⟨.ref _, H, I1, hkey, ⟨rfl, _, List.getElem?_eq_getElem hi, rfl⟩, st', fun b hb => (hf b hb).1⟩⟩
  done := by
    intro X hP hw hK hc i pins s σ H E I hf st hg
    subst hP hw hK
    obtain ⟨hd, hi⟩ := hg
    obtain ⟨f0, f1, f2, f3, f4, f5⟩ := hf it (by simp)
    obtain ⟨hgd, _⟩ := I.hok d _ hd
    obtain ⟨es', ep', hdt, hsz, ent⟩ := tab_es T
    obtain ⟨rfl, rfl⟩ := dict_ep hod hdt
    exact next_key_end (I.ok.hd hc) st hgd hdt hsz hi fun h' eb => ⟨rfl, I.turned (t' := s.toks) (fun b ob hb e => eb b ob hb e) f0 f1 f3 f4 f5⟩
  self := fun A i s Q E st h => by
    refine wpAny_pyIter_slot st.typeIs PySem.F.slot_dict_keyiterator_iter (wpAny_call_entry PySem.F.slot_dict_keyiterator_iter st.typeIs PySem.F.entry_dict_keyiterator_iter ?_ (PySem.F.args_dict_keyiterator_iter_1 _))
    show wpAny _ _ (ret (.ref it)) _ _ s
    exact wpAny_pure ⟨_, rfl, "dict_keyiterator", _, st.typeIs, PySem.F.slot_dict_keyiterator_next.lookup, h⟩
def iKeysA (td : TE) : TI := fun σ H R => td σ H fun x H1 => ∃ d o xs, x = .ref d ∧ H1 d = some (AtO d o) ∧ (d == sysModules) = false ∧ TabOf o xs ∧ R (ItkA d o xs) H1
theorem pi_keysA {X : Cx} {tg e : Expr} {td : TE} (he : PE X e td) : PI X tg e (iKeysA td) := by
  refine ⟨fun pins s σ H R I h => ?_⟩
  refine thn (he.run pins s σ H _ I h) fun u s1 ⟨x, H1, I1, rx, d, o, xs, ex, hd, hs, T, q⟩ => ?_
  subst ex
  obtain rfl : u = Value.ref d := rx
  obtain ⟨hgd, _⟩ := I1.hok d _ hd
  obtain ⟨es, ep, hdt, hsz, ent⟩ := tab_es T
  refine iter_keys hs hgd T.ex hdt (pi_one (tk := s1.toks) I1 _ (turn_keysA _ T hdt) ⟨_, Heap.get?_push_size _ rfl, rfl, ?_⟩ q)
  rw [hsz] <;> rfl
section
variable {X : Cx} {ρ ρ1 : Rho} {tg iter e : Expr} {pos : Pos} {kvs : List (NestedKey × PyData)} {k : Option Nat}
theorem tkv_get {K : PySem.W.Frag} {HF : Hp} : ∀ {xs : List (NestedKey × Addr × Value)} {kvs : List (NestedKey × PyData)} {i : Nat} {y : NestedKey × Addr × Value}, TKV K HF xs kvs → xs[i]? = some y → ∃ kv, kvs[i]? = some kv ∧ Dp K HF (.ref y.2.1) kv.1.data
  | _, _, _, _, .nil, h => by simp at h
  | _, _, 0, _, .cons (b := kv) r _, h => by
    simp at h
    subst h
    exact ⟨kv, rfl, r.2.2.1⟩
  | _, _, i + 1, _, .cons _ t, h => by
    obtain ⟨kv, h1, h2⟩ := tkv_get (i := i) t (by simpa using h)
    exact ⟨kv, by simpa using h1, h2⟩
/-- for k in d, d a dict that stays -/
theorem src_tkeys (h : E X iter ρ (.ft kvs) ρ1) : Src X tg iter ρ (kvs.map fun kv => kv.1.data) ρ1 none := ⟨_, pi_keysA pe_w, fun σ HF H S1 R q => h σ HF H S1 _ fun x HF1 H1 S2 f1 r1 => by
  obtain ⟨p, o, xs, rfl, h1, T, tk⟩ := ft_tab S2.sub r1
  refine ⟨p, o, xs, rfl, T.at_, T.sys, T.tab, q _ HF1 H1 S2 f1 fun σ2 ρ2 HF2 H2 _ _ S3 s3 => ?_⟩
  have hd : H2 p = some (AtO p o) := S3.sub _ _ (s3 _ _ h1)
  have hl := tkv_len tk
  refine ⟨fun i hi => ⟨hd, by rw [List.length_map] at hi; omega⟩, ⟨hd, by rw [List.length_map]; omega⟩, fun i x H3 hi ⟨e, y, hy, ex⟩ => ?_⟩
  obtain ⟨kv, g1, g2⟩ := tkv_get tk hy
  refine ⟨kv.1.data, by rw [List.getElem?_map, g1]; rfl, .inl ⟨e, by rw [ex]; exact dp_mono s3 g2⟩⟩⟩
end

/-! ### sorted lists of pairs -/
abbrev II := Int × Int
abbrev leP (p q : II) : Bool := !SrtO.lexB q p
def sortP (ps : List II) : List II := ps.mergeSort leP
theorem leP_iff {p q : II} : leP p q = true ↔ p.1 < q.1 ∨ (p.1 = q.1 ∧ p.2 ≤ q.2) := by
  unfold leP
  rw [Bool.not_eq_true', SrtO.lexB_no]
  omega
theorem leP_trans (a b c : II) (h1 : leP a b = true) (h2 : leP b c = true) : leP a c = true := by
  rw [leP_iff] at *
  omega
theorem leP_total (a b : II) : (leP a b || leP b a) = true := by
  rw [Bool.or_eq_true, leP_iff, leP_iff]
  omega
theorem sortP_perm (ps : List II) : (sortP ps).Perm ps := List.mergeSort_perm ..
theorem sortP_pw (ps : List II) : (sortP ps).Pairwise fun a b => leP a b = true := List.pairwise_mergeSort leP_trans leP_total ps
theorem sortP_eq {ps qs : List II} (hp : qs.Perm ps) (hs : qs.Pairwise fun a b => leP a b = true) : qs = sortP ps :=
  List.Perm.eq_of_pairwise (fun a b _ _ h1 h2 => by
    rw [leP_iff] at h1 h2
    exact Prod.ext (by omega) (by omega)) hs (sortP_pw ps) (hp.trans (sortP_perm ps).symm)
theorem sortP_congr {ps qs : List II} (hp : qs.Perm ps) : sortP qs = sortP ps := sortP_eq ((sortP_perm qs).trans hp) (sortP_pw qs)
open Classical in
noncomputable def kOf (K : PySem.W.Frag) (H : Hp) (x : V) : II := if h : ∃ p : II, ∃ t, x = .ref t ∧ SqT K H t [.int p.1, .int p.2] then h.choose else (0, 0)
abbrev IsP (K : PySem.W.Frag) (H : Hp) (x : V) (p : II) : Prop := ∃ t, x = .ref t ∧ SqT K H t [.int p.1, .int p.2]
theorem kOf_spec {K : PySem.W.Frag} {H : Hp} {x : V} {p : II} (h : IsP K H x p) : IsP K H x (kOf K H x) := by
  unfold kOf
  have hx : ∃ p : II, ∃ t, x = .ref t ∧ SqT K H t [.int p.1, .int p.2] := ⟨p, h⟩
  rw [dif_pos hx]
  exact hx.choose_spec
theorem isP_inj {X : Cx} {pins : List (Addr × Obj)} {σ : L2.St} {H : Hp} {s : Shared} {x : V} {p q : II} (I : Inv X pins σ H s) (h : IsP X.K H x p) (g : IsP X.K H x q) : p = q := by
  obtain ⟨t, rfl, h⟩ := h
  obtain ⟨t', e, g⟩ := g
  cases e
  have := I.tuple_inj h g
  injection this with a b
  injection b with b _
  injection a with a
  injection b with b
  exact Prod.ext a b
theorem kOf_eq {X : Cx} {pins : List (Addr × Obj)} {σ : L2.St} {H : Hp} {s : Shared} {x : V} {p : II} (I : Inv X pins σ H s) (h : IsP X.K H x p) : kOf X.K H x = p := isP_inj I (kOf_spec h) h
theorem is_pair {X : Cx} {pins : List (Addr × Obj)} {σ : L2.St} {H : Hp} {s : Shared} {t : Addr} {p : II} (I : Inv X pins σ H s) (h : IsP X.K H (.ref t) p) : Srt.IsPair s.heap (.ref t) p.1 p.2 := by
  obtain ⟨t', e, h⟩ := h
  cases e
  obtain ⟨its2, r2, ⟨o, ho, hc, n, hd⟩, _⟩ := I.tuple h
  obtain ⟨u1, u2, rfl, ri, rj⟩ := vals2 r2
  obtain ⟨t1, rfl⟩ := ri
  obtain ⟨t2, rfl⟩ := rj
  exact ⟨t, o, t1, t2, n, rfl, ho, hc, hd⟩
def rSortedPS (K : PySem.W.Frag) : List V → Hp → VK → Prop := fun vs H Q => ∃ (a : Addr) (xs : List V) (ps : List II), vs = [V.ref a] ∧ SqL K H a xs ∧ Paired (IsP K H) xs ps ∧
  ∀ (ys : List V) p, ys.Perm xs → ys.map (kOf K H) = sortP ps → (∀ x p, IsP K H x p → kOf K H x = p) → H p = none → Q (.ref p) (upd H p (.lst ys))
theorem paired_map {X : Cx} {pins : List (Addr × Obj)} {σ : L2.St} {H : Hp} {s : Shared} (I : Inv X pins σ H s) : ∀ {xs : List V} {ps : List II}, Paired (IsP X.K H) xs ps → xs.map (kOf X.K H) = ps
  | _, _, .nil => rfl
  | _, _, .cons h t => by rw [List.map_cons, kOf_eq I h, paired_map I t]
theorem paired_mem {α β : Type} {R : α → β → Prop} : ∀ {xs : List α} {ps : List β}, Paired R xs ps → ∀ x ∈ xs, ∃ p ∈ ps, R x p
  | _, _, .nil, _, h => nomatch h
  | _, _, .cons (b := b) r t, x, h => by
    rcases List.mem_cons.mp h with rfl | h
    · exact ⟨b, List.mem_cons_self, r⟩
    · obtain ⟨p, h1, h2⟩ := paired_mem t x h
      exact ⟨p, List.mem_cons_of_mem _ h1, h2⟩
theorem srt_fin {k : V → II} {ys : List V} {xs : List V} {ps : List II} (h1 : SrtO.Srtd (ltP k) ys) (hp : ys.Perm xs) (e : xs.map k = ps) : ys.map k = sortP ps := by
  refine sortP_eq (by rw [← e]; exact hp.map k) ?_
  rw [List.pairwise_map]
  refine List.Pairwise.imp (fun {x y} h => ?_) h1
  show (!SrtO.lexB (k y) (k x)) = true
  rw [Bool.not_eq_true']
  exact h
theorem cr_sortedPS {X : Cx} : CallR X (.builtin "sorted") (rSortedPS X.K) := by
  intro pins s σ H vs us Q I r h
  obtain ⟨a, xs, ps, rfl, hs, hx, q⟩ := h
  obtain ⟨its, rv, hl, hz⟩ := I.list hs
  obtain ⟨u, rfl, ru⟩ := vals1 r
  obtain rfl : u = Value.ref a := ru
  obtain ⟨e1, e2⟩ := refs_back rv fun x m => by
    obtain ⟨p, _, t, e, _⟩ := paired_mem hx x m
    exact ⟨t, e⟩
  refine SrtO.sorted_pairsO (k := fun u => kOf X.K H (backV u)) hl.isList (by rw [← rv.length]; exact hz) (fun v hv => ?_) fun h' d out h1 h2 kp hd hn => ?_
  · obtain ⟨t, rfl⟩ := e2 v hv
    have hm : V.ref t ∈ xs := by rw [e1]; exact List.mem_map.mpr ⟨_, hv, rfl⟩
    obtain ⟨p, _, hp⟩ := paired_mem hx _ hm
    exact is_pair I (kOf_spec hp)
  · have h3 : ∀ u ∈ out, ∃ a, u = Value.ref a := fun u hu => e2 u (h2.perm.mem_iff.mp hu)
    obtain ⟨n, hn⟩ := hn
    have hb : SrtO.Stb (ltP (kOf X.K H)) (out.map backV) xs := by
      rw [e1]
      exact SrtO.Stb.map (ltP_swo _) backV h2
    refine ⟨.ref d, upd H d (.lst (out.map backV)), I.laid (t' := s.toks) kp hd ⟨?_, out, n, vals_back h3, hn⟩, rfl, q _ d hb.perm (srt_fin (SrtO.srtd_map h1) hb.perm (paired_map I hx)) (fun x p h => kOf_eq I h) (I.hok.fresh hd)⟩
    rw [hb.len]
    exact hz
/-- sorted(d), keys pairs -/
def rSortedTab (K : PySem.W.Frag) : List V → Hp → VK → Prop := fun vs H Q => ∃ (a : Addr) (o : Obj) (xs : List (NestedKey × Addr × Value)) (ps : List II), vs = [V.ref a] ∧ TabIn K H a o xs ∧ xs.length ≤ sizeLine ∧ Paired (IsP K H) (xs.map fun x => V.ref x.2.1) ps ∧
  ∀ (ys : List V) p, ys.Perm (xs.map fun x => V.ref x.2.1) → ys.map (kOf K H) = sortP ps → (∀ x p, IsP K H x p → kOf K H x = p) → H p = none → Q (.ref p) (upd H p (.lst ys))
theorem cr_sortedTab {X : Cx} (hcalm : X.calm = true) : CallR X (.builtin "sorted") (rSortedTab X.K) := by
  intro pins s σ H vs us Q I r h
  obtain ⟨a, o, xs, ps, rfl, T, hz, hx, q⟩ := h
  obtain ⟨u, rfl, ru⟩ := vals1 r
  obtain rfl : u = Value.ref a := ru
  obtain ⟨hgd, _⟩ := I.hok a _ T.at_
  obtain ⟨es, ep, hdt, hsz, ent⟩ := tab_es T.tab
  refine Calls.call_function_entry PyProof.Rows.kind_sorted PyProof.Rows.plain_sorted PyProof.Rows.entry_sorted (PyProof.Rows.args_sorted1 _) ?_
  unfold Builtin.«sorted»
  refine wpAny_bind (m := checkCount "sorted" 1 1 _) (wpAny_pure ?_)
  refine wpAny_bind (PySem.W.kdu_collect (A := X.A.in1) (kdl_raw T.sys T.tab.ex hdt) (I.ok.hd hcalm) hgd (by omega) fun h' tk acc hk hacc => ?_)
  have ea : acc.toList = xs.map fun x => Value.ref x.2.1 := by
    have hl : acc.toList.length = xs.length := by rw [Array.length_toList, hacc.1, hsz]
    apply List.ext_getElem?
    intro j
    rw [List.getElem?_map]
    cases hj : acc.toList[j]? with
    | none =>
      have h1 := List.getElem?_eq_none_iff.mp hj
      rw [List.getElem?_eq_none (by omega)]
      rfl
    | some v =>
      obtain ⟨en, hen, hv⟩ := hacc.2 j v (by rw [← Array.getElem?_toList]; exact hj)
      have hjx : j < xs.length := by
        have := (List.getElem?_eq_some_iff.mp hj).1
        omega
      obtain ⟨en', h1, h2, _⟩ := ent j _ (List.getElem?_eq_getElem hjx)
      rw [hen] at h1
      cases h1
      rw [List.getElem?_eq_getElem hjx, hv, h2]
      rfl
  have I1 : Inv X pins σ H { s with heap := h', toks := tk } := I.kept hk
  have hz2 : acc.toList.length ≤ sizeLine := by rw [ea, List.length_map]; exact hz
  have hpair : ∀ v ∈ acc.toList, Srt.IsPair h' v (kOf X.K H (backV v)).1 (kOf X.K H (backV v)).2 := fun v hv => by
    rw [ea] at hv
    obtain ⟨x, hx1, rfl⟩ := List.mem_map.mp hv
    obtain ⟨p, _, hp⟩ := paired_mem hx (V.ref x.2.1) (List.mem_map.mpr ⟨x, hx1, rfl⟩)
    exact is_pair I1 (kOf_spec hp)
  refine wpAny_bind (wpAny_newList ?_ hz2)
  have hoL : (h'.push (seqObj "list" acc.toList.toArray 0)).get? h'.objs.size = some (seqObj "list" acc.toList.toArray 0) := Heap.get?_push_size _ rfl
  show wpAny _ _ _ _ _ { s with heap := h'.push (seqObj "list" acc.toList.toArray 0), toks := tk }
  refine wpAny_bind (wpAny_holding (wpAny_call_entry PyProof.Rows.slot_list_sort ⟨_, hoL, rfl⟩ PyProof.Rows.entry_list_sort
    (SrtO.list_sort_ord (s := { s with heap := h'.push (seqObj "list" acc.toList.toArray 0), toks := tk }) (SrtO.swo_lex fun u => kOf X.K H (backV u)) hoL hz2 (fun h2 => SrtO.pairs_sortableO (by omega) (fun v hv => (hpair v hv).keeps fun b o e _ => Heap.get?_push_of_some _ e) fun o e c => ?_) fun out h1 h2 => ⟨_, rfl, ?_⟩) (PyProof.Rows.args_list_sort _)))
  · rw [show ({ s with heap := h'.push (seqObj "list" acc.toList.toArray 0), toks := tk } : Shared).heap.get? h'.objs.size = _ from hoL] at e
    cases e
    exact absurd (Value.type.inj c) (by decide)
  obtain ⟨e', he'⟩ := PyProof.Rows.sortedHeap_at (vs := acc.toList) (out := out.toArray) hoL
  have h3 : ∀ u ∈ out, ∃ a, u = Value.ref a := fun u hu => by
    have := h2.perm.mem_iff.mp hu
    rw [ea] at this
    obtain ⟨x, _, rfl⟩ := List.mem_map.mp this
    exact ⟨_, rfl⟩
  have hb : (out.map backV).Perm (xs.map fun x => V.ref x.2.1) := by
    have := h2.perm.map backV
    rw [ea, List.map_map] at this
    exact this
  have hlen : (out.map backV).length ≤ sizeLine := by
    rw [hb.length_eq, List.length_map]
    exact hz
  refine wpAny_pure ⟨_, rfl, .ref h'.objs.size, upd H h'.objs.size (.lst (out.map backV)), I1.laid (t' := tk) (fun b u e => ?_) (Nat.le_refl _)
    (show ObjOk X.prog X.w _ _ _ (.lst (out.map backV)) from ⟨hlen, out, e', vals_back h3, he'⟩), rfl, q _ _ hb (srt_fin (SrtO.srtd_map h1) hb (paired_map I hx)) (fun x p h => kOf_eq I h) (I1.hok.fresh (Nat.le_refl _))⟩
  have hb : b < h'.objs.size := Heap.lt_size e
  rw [PyProof.Rows.sortedHeap_old (Nat.ne_of_lt hb) (by rw [size_push']; exact Nat.lt_succ_of_lt hb)]
  exact Heap.get?_push_of_some _ e
theorem dp_isP {K : PySem.W.Frag} {HF : Hp} {x : V} {p : II} (h : Dp K HF x (encI2 p)) : IsP K HF x p := by
  cases h with
  | tup h1 h2 =>
    cases h2 with
    | cons a t =>
      cases t with
      | cons b t =>
        cases t
        cases a
        cases b
        exact ⟨_, rfl, h1⟩
theorem isP_dp {K : PySem.W.Frag} {HF : Hp} {x : V} {p : II} (h : IsP K HF x p) : Dp K HF x (encI2 p) := by
  obtain ⟨t, rfl, h⟩ := h
  exact .tup h (.cons (.int _) (.cons (.int _) .nil))
theorem dpa_isP {K : PySem.W.Frag} {HF H : Hp} (s : Same HF H) : ∀ {xs : List V} {ps : List II}, DpAll K HF xs (ps.map encI2) → Paired (IsP K H) xs ps
  | _, [], .nil => .nil
  | _, p :: ps, .cons h t => .cons (by
    obtain ⟨t, e, g⟩ := dp_isP h
    exact ⟨t, e, same_t s g⟩) (dpa_isP s t)
theorem sorted_dpa {K : PySem.W.Frag} {HF H : Hp} (s : Same HF H) {xs ys : List V} {ps : List II} (h : DpAll K HF xs (ps.map encI2)) (hp : ys.Perm xs) (hk : ys.map (kOf K H) = sortP ps) (hu : ∀ x p, IsP K H x p → kOf K H x = p) : DpAll K HF ys ((sortP ps).map encI2) := by
  rw [← hk]
  have key : ∀ zs : List V, (∀ z ∈ zs, z ∈ xs) → DpAll K HF zs ((zs.map (kOf K H)).map encI2) := fun zs => by
    induction zs with
    | nil => intro _; exact .nil
    | cons z zs ih =>
      intro hz
      refine .cons ?_ (ih fun y hy => hz y (List.mem_cons_of_mem _ hy))
      obtain ⟨i, hi⟩ := List.mem_iff_getElem?.mp (hz z List.mem_cons_self)
      obtain ⟨d, h1, h2⟩ := dpa_get' h hi
      obtain ⟨p, _, rfl⟩ := map_get h1
      obtain ⟨t, e, g⟩ := dp_isP h2
      rw [hu z p ⟨t, e, same_t s g⟩]
      exact h2
  exact key ys fun z hz => hp.mem_iff.mp hz
section
variable {X : Cx} {ρ ρ1 : Rho} {e : Expr} {pos pos' pn : Pos} {k : Option Nat} {ps : List II} {m : List (II × PyData)} {x : Str}
theorem e_sortedP (h : EO X e ρ (.list (ps.map encI2)) ρ1 k) (hm : X.mg "sorted" = none) (hg : Gl X "sorted" := by rfl) (he : starEach [e] X.env = (false, eval e X.env) :: starEach [] X.env := by rfl) : E X (.Call (.Name "sorted" pn) [e] [] pos) ρ (.ml ((sortP ps).map encI2)) ρ1 :=
  .of (pe_callB cr_sortedPS hg hm (by decide +kernel) (pa_cons pe_w pa_nil he) (he := he)) (ev_cbN h fun HF H x Q r s q => by
    obtain ⟨p, ys, rfl, h1, h2⟩ := r
    exact ⟨p, ys, ps, rfl, h1, dpa_isP s h2, fun zs p hp hk hu hn => q p _ hn (sorted_dpa s h2 hp hk hu)⟩)
theorem tkv_pairs {K : PySem.W.Frag} {HF : Hp} : ∀ {xs : List (NestedKey × Addr × Value)} {m : List (II × PyData)}, TKV K HF xs (m.map fun p => (spK p.1, p.2)) → DpAll K HF (xs.map fun x => V.ref x.2.1) ((m.map (·.1)).map encI2)
  | _, [], .nil => .nil
  | _, p :: m, .cons r t => .cons r.2.2.1 (tkv_pairs t)
/-- sorted(d), d an own dict in a slot, its keys pairs -/
theorem e_sortedT (i : Nat) (hi : ρ[i]? = some (.mt (m.map fun p => (spK p.1, p.2)))) (hz : m.length ≤ 100000) (hm : X.mg "sorted" = none) (hg : Gl X "sorted" := by rfl) (hc : X.calm = true := by rfl) (hN : X.N[i]? = some x := by rfl)
    (hv : Vis X.env.scope x := by first | exact Or.inl rfl | exact Or.inr (Or.inl rfl) | exact Or.inr (Or.inr rfl)) (hd : (x == ("__debug__" : Str)) = false := by decide) (hcd : (x == ("__classdict__" : Str)) = false := by decide)
    (he : starEach [.Name x pos'] X.env = (false, eval (.Name x pos') X.env) :: starEach [] X.env := by rfl) : E X (.Call (.Name "sorted" pn) [.Name x pos'] [] pos) ρ (.ml ((sortP (m.map (·.1))).map encI2)) ρ :=
  .of (pe_callB (cr_sortedTab hc) hg hm (by decide +kernel) (pa_cons (pe_var hN hv hd hcd) pa_nil he) (he := he)) fun σ HF H S1 Q q => by
    obtain ⟨p2, o2, xs, e3, h1, T, tk⟩ := S1.tab hi
    have hl := tkv_len tk
    rw [List.length_map] at hl
    have dp := tkv_pairs tk
    refine ⟨.ref p2, e3, p2, o2, xs, m.map (·.1), rfl, T, Nat.le_trans (by omega) (show 100000 ≤ sizeLine by decide), dpa_isP S1.sub dp, fun ys p hp hk hu hn => ?_⟩
    obtain ⟨S2, f2⟩ := S1.allocO hn (.lst ys)
    exact q _ _ _ S2 f2 ⟨p, _, rfl, hn, S1.hfNone hn, upd_same, sorted_dpa S1.sub dp hp hk hu⟩
end
end Th

set_option Elab.async false
set_option linter.all false
set_option maxRecDepth 100000
namespace Th
open PySem PySem.Spec PyProof.Rows L2

/-! ### dicts by any kind of key, plain -/
section
variable {κ α : Type} [DecidableEq κ]
def getA (m : List (κ × α)) (k : κ) : Option α := (m.find? fun kv => decide (kv.1 = k)).map (·.2)
def setA (m : List (κ × α)) (k : κ) (v : α) : List (κ × α) := if (m.any fun kv => decide (kv.1 = k)) = true then m.map (fun kv => if kv.1 = k then (kv.1, v) else kv) else m ++ [(k, v)]
def delA (m : List (κ × α)) (k : κ) : List (κ × α) := m.filter fun kv => decide (kv.1 ≠ k)
variable {m : List (κ × α)} {k q : κ} {v : α}
theorem getA_nil : getA ([] : List (κ × α)) k = none := rfl
theorem getA_cons {p : κ × α} : getA (p :: m) k = if p.1 = k then some p.2 else getA m k := by
  unfold getA
  rw [List.find?_cons]
  by_cases h : p.1 = k
  · rw [decide_eq_true h, if_pos h]; rfl
  · rw [decide_eq_false h, if_neg h]
theorem getA_none (h : k ∉ m.map (·.1)) : getA m k = none := by
  induction m with
  | nil => rfl
  | cons p m ih =>
    rw [List.map_cons, List.mem_cons, not_or] at h
    rw [getA_cons, if_neg fun e => h.1 e.symm, ih h.2]
theorem getA_app {l : List (κ × α)} : getA (m ++ l) k = (getA m k).or (getA l k) := by
  induction m with
  | nil => rfl
  | cons p m ih =>
    rw [List.cons_append, getA_cons, getA_cons]
    by_cases h : p.1 = k
    · rw [if_pos h, if_pos h]; rfl
    · rw [if_neg h, if_neg h, ih]
theorem getA_mem (h : getA m k = some v) : (k, v) ∈ m := by
  induction m with
  | nil => cases h
  | cons p m ih =>
    rw [getA_cons] at h
    by_cases g : p.1 = k
    · rw [if_pos g] at h
      cases h
      rw [← g]
      exact List.mem_cons_self
    · rw [if_neg g] at h
      exact List.mem_cons_of_mem _ (ih h)
theorem getA_key (h : k ∈ m.map (·.1)) : ∃ v, getA m k = some v := by
  induction m with
  | nil => cases h
  | cons p m ih =>
    rw [getA_cons]
    by_cases g : p.1 = k
    · rw [if_pos g]; exact ⟨_, rfl⟩
    · rw [if_neg g]
      rw [List.map_cons] at h
      exact ih ((List.mem_cons.mp h).resolve_left fun e => g e.symm)
theorem keyA_iff : k ∈ m.map (·.1) ↔ ∃ v, getA m k = some v := ⟨getA_key, fun ⟨v, h⟩ => List.mem_map.mpr ⟨(k, v), getA_mem h, rfl⟩⟩
theorem anyA_iff : (m.any fun kv => decide (kv.1 = k)) = true ↔ k ∈ m.map (·.1) := by
  rw [List.any_eq_true, List.mem_map]
  constructor
  · rintro ⟨p, h1, h2⟩
    exact ⟨p, h1, of_decide_eq_true h2⟩
  · rintro ⟨p, h1, h2⟩
    exact ⟨p, h1, decide_eq_true h2⟩
theorem getA_map1 : ∀ (m : List (κ × α)), k ∈ m.map (·.1) → getA (m.map fun kv => if kv.1 = k then (kv.1, v) else kv) k = some v
  | [], h => nomatch h
  | p :: m, h => by
    rw [List.map_cons, getA_cons]
    by_cases g : p.1 = k
    · rw [if_pos g]
      dsimp only
      rw [if_pos g]
    · rw [if_neg g, if_neg g]
      rw [List.map_cons] at h
      exact getA_map1 m ((List.mem_cons.mp h).resolve_left fun e => g e.symm)
theorem getA_map2 (e : k ≠ q) : ∀ (m : List (κ × α)), getA (m.map fun kv => if kv.1 = k then (kv.1, v) else kv) q = getA m q
  | [] => rfl
  | p :: m => by
    rw [List.map_cons, getA_cons, getA_cons, getA_map2 e m]
    by_cases g : p.1 = k
    · rw [if_pos g]
      dsimp only
      rw [if_neg (by rw [g]; exact e), if_neg (by rw [g]; exact e)]
    · rw [if_neg g]
theorem getA_set : getA (setA m k v) q = if k = q then some v else getA m q := by
  unfold setA
  by_cases h : (m.any fun kv => decide (kv.1 = k)) = true
  · rw [if_pos h]
    by_cases e : k = q
    · subst e
      rw [if_pos rfl, getA_map1 m (anyA_iff.mp h)]
    · rw [if_neg e, getA_map2 e]
  · rw [if_neg h, getA_app, getA_cons, getA_nil]
    have hk : k ∉ m.map (·.1) := fun z => h (anyA_iff.mpr z)
    by_cases e : k = q
    · subst e
      rw [if_pos rfl, if_pos rfl, getA_none hk]
      rfl
    · rw [if_neg e, if_neg e]
      cases getA m q <;> rfl
theorem keysA_set : (setA m k v).map (·.1) = if k ∈ m.map (·.1) then m.map (·.1) else m.map (·.1) ++ [k] := by
  unfold setA
  by_cases h : k ∈ m.map (·.1)
  · rw [if_pos (anyA_iff.mpr h), if_pos h, List.map_map]
    refine List.map_congr_left fun p _ => ?_
    show (if p.1 = k then (p.1, v) else p).1 = p.1
    split <;> rfl
  · rw [if_neg fun z => h (anyA_iff.mp z), if_neg h, List.map_append]
    rfl
theorem nodupA_set (h : (m.map (·.1)).Nodup) : ((setA m k v).map (·.1)).Nodup := by
  rw [keysA_set]
  split
  · exact h
  · rename_i hk
    rw [List.nodup_append]
    exact ⟨h, by simp, fun a ha b hb e => hk (by rw [List.mem_singleton] at hb; rw [← hb, ← e]; exact ha)⟩
theorem lenA_set : (setA m k v).length ≤ m.length + 1 := by
  unfold setA
  split
  · rw [List.length_map]; omega
  · rw [List.length_append, List.length_singleton]; omega
theorem getA_del : ∀ (m : List (κ × α)), getA (delA m k) q = if k = q then none else getA m q
  | [] => by simp [delA, getA]
  | p :: m => by
    have ih := getA_del m
    unfold delA at ih ⊢
    rw [List.filter_cons]
    by_cases g : p.1 = k
    · rw [decide_eq_false (by simpa using g)]
      rw [if_neg (by decide), ih, getA_cons]
      by_cases e : k = q
      · rw [if_pos e, if_pos e]
      · rw [if_neg e, if_neg e, if_neg (by rw [g]; exact e)]
    · rw [decide_eq_true (show p.1 ≠ k from g), if_pos rfl, getA_cons, getA_cons, ih]
      by_cases e : k = q
      · rw [if_pos e, if_pos e, if_neg (by rw [← e]; exact g)]
      · rw [if_neg e, if_neg e]
theorem keysA_del : (delA m k).map (·.1) = (m.map (·.1)).filter fun x => decide (x ≠ k) := by
  unfold delA
  rw [List.filter_map]
  rfl
theorem nodupA_del (h : (m.map (·.1)).Nodup) : ((delA m k).map (·.1)).Nodup := by
  rw [keysA_del]
  exact h.filter _
theorem lenA_del : (delA m k).length ≤ m.length := List.length_filter_le _ _
/-! .. as data -/
variable (kc : κ → NestedKey) (f : α → PyData)
def encA (m : List (κ × α)) : List (NestedKey × PyData) := m.map fun p => (kc p.1, f p.2)
theorem encA_len (m : List (κ × α)) : (encA kc f m).length = m.length := List.length_map ..
variable {kc} {f}
theorem getK_encA (hi : ∀ a b, kc a = kc b → a = b) : ∀ (m : List (κ × α)), getK (encA kc f m) (kc k) = (getA m k).map f
  | [] => rfl
  | p :: m => by
    have ih := getK_encA hi m
    unfold encA at ih ⊢
    rw [List.map_cons, getA_cons]
    unfold getK at ih ⊢
    rw [List.find?_cons]
    by_cases g : p.1 = k
    · rw [decide_eq_true (show kc p.1 = kc k by rw [g]), if_pos g]; rfl
    · rw [decide_eq_false (show ¬ kc p.1 = kc k from fun e => g (hi _ _ e)), if_neg g, ih]
theorem setK_encA (hi : ∀ a b, kc a = kc b → a = b) (m : List (κ × α)) : setK (encA kc f m) (kc k) (f v) = encA kc f (setA m k v) := by
  have ha : ((encA kc f m).any fun kv => decide (kv.1 = kc k)) = (m.any fun kv => decide (kv.1 = k)) := by
    unfold encA
    rw [List.any_map]
    congr 1
    funext p
    show decide (kc p.1 = kc k) = decide (p.1 = k)
    by_cases g : p.1 = k
    · rw [decide_eq_true g, decide_eq_true (by rw [g])]
    · rw [decide_eq_false g, decide_eq_false fun e => g (hi _ _ e)]
  unfold setK setA
  rw [ha]
  split
  · unfold encA
    rw [List.map_map, List.map_map]
    refine List.map_congr_left fun p _ => ?_
    show (if kc p.1 = kc k then (kc p.1, f v) else (kc p.1, f p.2)) = _
    by_cases g : p.1 = k
    · rw [if_pos (by rw [g])]
      show _ = (kc (if p.1 = k then (p.1, v) else p).1, f (if p.1 = k then (p.1, v) else p).2)
      rw [if_pos g]
    · rw [if_neg fun e => g (hi _ _ e)]
      show _ = (kc (if p.1 = k then (p.1, v) else p).1, f (if p.1 = k then (p.1, v) else p).2)
      rw [if_neg g]
  · unfold encA
    rw [List.map_append]
    rfl
theorem delK_encA (hi : ∀ a b, kc a = kc b → a = b) (m : List (κ × α)) : delK (encA kc f m) (kc k) = encA kc f (delA m k) := by
  unfold delK delA encA
  rw [List.filter_map]
  congr 1
  refine List.filter_congr fun p _ => ?_
  show decide (kc p.1 ≠ kc k) = decide (p.1 ≠ k)
  by_cases g : p.1 = k
  · rw [decide_eq_false (show ¬ (kc p.1 ≠ kc k) from fun z => z (by rw [g])), decide_eq_false (show ¬ (p.1 ≠ k) from fun z => z g)]
  · rw [decide_eq_true (show kc p.1 ≠ kc k from fun e => g (hi _ _ e)), decide_eq_true (show p.1 ≠ k from g)]
end
abbrev encS {α : Type} (f : α → PyData) (m : List (II × α)) : List (NestedKey × PyData) := encA spK f m
theorem spK_i : ∀ a b : II, spK a = spK b → a = b := fun _ _ h => spK_inj h

/-! ### the places of a web -/
def crSpots (m : Nat) : List II := ((List.range m).map fun k : Nat => (List.range 4).map fun a : Nat => ((k : Int), (a : Int))).flatten
def rimSpots (e : Nat) : List II := (List.range e).map fun a : Nat => ((-1 : Int), (a : Int))
def spotsN (m e : Nat) : List II := crSpots m ++ rimSpots e
abbrev spotsW (w : Wb) : List II := spotsN w.cs.length w.ends.length
def arcAt (w : Wb) (s : II) : Int := if s.1 < 0 then w.ends.getD s.2.toNat 0 else (w.cs.getD s.1.toNat []).getD s.2.toNat 0
theorem mem_cr {m : Nat} {s : II} : s ∈ crSpots m ↔ ∃ k a : Nat, k < m ∧ a < 4 ∧ s = ((k : Int), (a : Int)) := by
  unfold crSpots
  rw [List.mem_flatten]
  constructor
  · rintro ⟨l, hl, h⟩
    obtain ⟨k, hk, rfl⟩ := List.mem_map.mp hl
    obtain ⟨a, ha, rfl⟩ := List.mem_map.mp h
    exact ⟨k, a, List.mem_range.mp hk, List.mem_range.mp ha, rfl⟩
  · rintro ⟨k, a, hk, ha, rfl⟩
    exact ⟨_, List.mem_map.mpr ⟨k, List.mem_range.mpr hk, rfl⟩, List.mem_map.mpr ⟨a, List.mem_range.mpr ha, rfl⟩⟩
theorem mem_rim {e : Nat} {s : II} : s ∈ rimSpots e ↔ ∃ a : Nat, a < e ∧ s = ((-1 : Int), (a : Int)) := by
  unfold rimSpots
  rw [List.mem_map]
  constructor
  · rintro ⟨a, ha, rfl⟩
    exact ⟨a, List.mem_range.mp ha, rfl⟩
  · rintro ⟨a, ha, rfl⟩
    exact ⟨a, List.mem_range.mpr ha, rfl⟩
theorem cr_succ (m : Nat) : crSpots (m + 1) = crSpots m ++ (List.range 4).map fun a : Nat => ((m : Int), (a : Int)) := by
  unfold crSpots
  rw [List.range_succ (n := m), List.map_append, List.flatten_append]
  congr 1
theorem cr_len (m : Nat) : (crSpots m).length = 4 * m := by
  induction m with
  | zero => rfl
  | succ m ih => rw [cr_succ, List.length_append, ih, List.length_map, List.length_range]; omega
theorem rim_len (e : Nat) : (rimSpots e).length = e := by unfold rimSpots; simp
theorem spots_len (m e : Nat) : (spotsN m e).length = 4 * m + e := by unfold spotsN; rw [List.length_append, cr_len, rim_len]
theorem cr_nodup (m : Nat) : (crSpots m).Nodup := by
  induction m with
  | zero => exact List.nodup_nil
  | succ m ih =>
    rw [cr_succ, List.nodup_append]
    refine ⟨ih, ?_, fun a ha b hb e => ?_⟩
    · rw [List.nodup_iff_pairwise_ne, List.pairwise_map]
      exact List.Pairwise.imp (fun {x y} h e => h (by injection e with _ e; exact Int.ofNat.inj e)) (List.nodup_range (n := 4))
    · obtain ⟨k, c, hk, _, rfl⟩ := mem_cr.mp ha
      obtain ⟨d, _, rfl⟩ := List.mem_map.mp hb
      injection e with e _
      have : k = m := Int.ofNat.inj e
      omega
theorem rim_nodup (e : Nat) : (rimSpots e).Nodup := by
  unfold rimSpots
  rw [List.nodup_iff_pairwise_ne, List.pairwise_map]
  exact List.Pairwise.imp (fun {x y} h e => h (by injection e with _ e; exact Int.ofNat.inj e)) List.nodup_range
theorem spots_nodup (m e : Nat) : (spotsN m e).Nodup := by
  unfold spotsN
  rw [List.nodup_append]
  refine ⟨cr_nodup m, rim_nodup e, fun a ha b hb h => ?_⟩
  obtain ⟨k, c, _, _, rfl⟩ := mem_cr.mp ha
  obtain ⟨d, _, rfl⟩ := mem_rim.mp hb
  injection h with h _
  omega
def FourW (w : Wb) : Prop := ∀ c ∈ w.cs, c.length = 4
theorem four_map {c : List Int} (h : c.length = 4) : ((List.range 4).map fun a => c.getD a 0) = c := by
  match c, h with
  | [_, _, _, _], _ => rfl
theorem map_getD (es : List Int) : ((List.range es.length).map fun a => es.getD a 0) = es := by
  apply List.ext_getElem?
  intro i
  rw [List.getElem?_map]
  by_cases h : i < es.length
  · rw [List.getElem?_range h, List.getElem?_eq_getElem h]
    show some (es.getD i 0) = _
    rw [List.getD_eq_getElem?_getD, List.getElem?_eq_getElem h]
    rfl
  · rw [List.getElem?_eq_none (by rw [List.length_range]; omega), List.getElem?_eq_none (by omega)]
    rfl
theorem arcs_spots {w : Wb} (h : FourW w) : (spotsW w).map (arcAt w) = arcsW w := by
  unfold spotsW spotsN arcsW
  rw [List.map_append]
  congr 1
  · have key : ∀ n, n ≤ w.cs.length → (crSpots n).map (arcAt w) = (w.cs.take n).flatten := fun n => by
      induction n with
      | zero => intro _; rfl
      | succ n ih =>
        intro hn
        have hc : w.cs[n]? = some w.cs[n] := List.getElem?_eq_getElem (by omega)
        rw [cr_succ, List.map_append, ih (by omega), List.take_add_one, hc, List.flatten_append]
        congr 1
        rw [List.map_map]
        show (List.range 4).map (fun a : Nat => arcAt w ((n : Int), (a : Int))) = (some w.cs[n]).toList.flatten
        have e : (fun a : Nat => arcAt w ((n : Int), (a : Int))) = fun a => (w.cs[n]).getD a 0 := by
          funext a
          unfold arcAt
          rw [if_neg (show ¬ (n : Int) < 0 by omega)]
          show (w.cs.getD (n : Int).toNat []).getD (a : Int).toNat 0 = _
          rw [Int.toNat_natCast, Int.toNat_natCast, List.getD_eq_getElem?_getD (l := w.cs), hc]
          rfl
        rw [e, four_map (h _ (List.getElem_mem _))]
        simp
    have := key w.cs.length (Nat.le_refl _)
    rwa [List.take_length] at this
  · unfold rimSpots
    rw [List.map_map]
    have e : (arcAt w ∘ fun a : Nat => ((-1 : Int), (a : Int))) = fun a => w.ends.getD a 0 := by
      funext a
      show arcAt w (-1, (a : Int)) = _
      unfold arcAt
      rw [if_pos (show (-1 : Int) < 0 by omega)]
      rfl
    rw [e, map_getD]
/-- each arc stands at two places -/
def TwW (w : Wb) : Prop := ∀ s ∈ spotsW w, ∃ t ∈ spotsW w, t ≠ s ∧ arcAt w t = arcAt w s ∧ ∀ u ∈ spotsW w, arcAt w u = arcAt w s → u = s ∨ u = t
def TwL (A : List Int) : Prop := ∀ i < A.length, ∃ j < A.length, j ≠ i ∧ A.getD j 0 = A.getD i 0 ∧ ∀ k < A.length, A.getD k 0 = A.getD i 0 → k = i ∨ k = j
theorem twW_of {w : Wb} (h : FourW w) (hA : TwL (arcsW w)) : TwW w := by
  have hl : (spotsW w).length = (arcsW w).length := by rw [← arcs_spots h, List.length_map]
  have at_ : ∀ (i : Nat) (s : II), (spotsW w)[i]? = some s → (arcsW w).getD i 0 = arcAt w s ∧ i < (arcsW w).length := fun i s e => by
    have hi := (List.getElem?_eq_some_iff.mp e).1
    rw [← arcs_spots h, List.getD_eq_getElem?_getD, List.getElem?_map, e]
    exact ⟨rfl, by rw [List.length_map]; exact hi⟩
  intro s hs
  obtain ⟨i, hi⟩ := List.mem_iff_getElem?.mp hs
  obtain ⟨a1, a2⟩ := at_ i s hi
  obtain ⟨j, hj, hne, he, hu⟩ := hA i a2
  have hj' : j < (spotsW w).length := by omega
  have ej := List.getElem?_eq_getElem hj'
  obtain ⟨b1, _⟩ := at_ j _ ej
  refine ⟨_, List.getElem_mem hj', fun e => hne ?_, by rw [← b1, he, a1], fun u hu' ea => ?_⟩
  · have := (List.getElem?_inj hj' (spots_nodup _ _)).mp ((ej.trans (by rw [e])).trans hi.symm)
    exact this
  · obtain ⟨k, hk⟩ := List.mem_iff_getElem?.mp hu'
    obtain ⟨c1, c2⟩ := at_ k u hk
    rcases hu k c2 (by rw [c1, ea, a1]) with e | e
    · rw [e, hi] at hk
      exact .inl (Option.some.inj hk).symm
    · rw [e, ej] at hk
      exact .inr (Option.some.inj hk).symm
/-- the other place of an arc -/
def tie (w : Wb) (s : II) : II := ((spotsW w).find? fun t => decide (t ≠ s ∧ arcAt w t = arcAt w s)).getD s
structure TieOk (w : Wb) (s t : II) : Prop where
  mem : t ∈ spotsW w
  ne : t ≠ s
  arc : arcAt w t = arcAt w s
  un : ∀ u ∈ spotsW w, arcAt w u = arcAt w s → u = s ∨ u = t
theorem tie_ok {w : Wb} (h : TwW w) {s : II} (hs : s ∈ spotsW w) : TieOk w s (tie w s) := by
  obtain ⟨t, h1, h2, h3, h4⟩ := h s hs
  have e : tie w s = t := by
    unfold tie
    cases hf : (spotsW w).find? fun t => decide (t ≠ s ∧ arcAt w t = arcAt w s) with
    | none =>
      rw [List.find?_eq_none] at hf
      exact absurd (decide_eq_true ⟨h2, h3⟩) (hf t h1)
    | some u =>
      have hm := List.mem_of_find?_eq_some hf
      have hp' : decide (u ≠ s ∧ arcAt w u = arcAt w s) = true := List.find?_some (p := fun t => decide (t ≠ s ∧ arcAt w t = arcAt w s)) hf
      have hp := of_decide_eq_true hp'
      exact (h4 u hm hp.2).resolve_left hp.1
  rw [e]
  exact ⟨h1, h2, h3, h4⟩
theorem tie_tie {w : Wb} (h : TwW w) {s : II} (hs : s ∈ spotsW w) : tie w (tie w s) = s := by
  have a := tie_ok h hs
  have b := tie_ok h a.mem
  rcases a.un _ b.mem (b.arc.trans a.arc) with e | e
  · exact e
  · exact absurd e b.ne
theorem tie_is {w : Wb} (h : TwW w) {s t : II} (hs : s ∈ spotsW w) (ht : t ∈ spotsW w) (hn : t ≠ s) (ha : arcAt w t = arcAt w s) : tie w s = t := (((tie_ok h hs).un t ht ha).resolve_left hn).symm

/-! ### the law's way: arc by arc as it is first met -/
abbrev FD := List (Int × II) × List (II × II)
def tieStep (w : Wb) (t : FD) (s : II) : FD := match getI t.1 (arcAt w s) with
  | some s0 => (t.1, setA (setA t.2 s s0) s0 s)
  | none => (setI t.1 (arcAt w s) s, t.2)
structure TieInv (w : Wb) (P : List II) (t : FD) : Prop where
  f : ∀ a, getI t.1 a = P.find? fun s => decide (arcAt w s = a)
  d : ∀ s, getA t.2 s = if s ∈ P ∧ tie w s ∈ P then some (tie w s) else none
  n : (t.2.map (·.1)).Nodup
  fl : t.1.length ≤ P.length
theorem tie_inv {w : Wb} (h : TwW w) {P : List II} {s : II} {t : FD} (hP : ∀ u ∈ P, u ∈ spotsW w) (hs : s ∈ spotsW w) (hn : s ∉ P) (I : TieInv w P t) : TieInv w (P ++ [s]) (tieStep w t s) := by
  have T := tie_ok h hs
  unfold tieStep
  cases hf : getI t.1 (arcAt w s) with
  | some s0 =>
    have e := (I.f (arcAt w s)).symm.trans hf
    have hm := List.mem_of_find?_eq_some e
    have ha' : decide (arcAt w s0 = arcAt w s) = true := List.find?_some (p := fun u => decide (arcAt w u = arcAt w s)) e
    have ha := of_decide_eq_true ha'
    have hne : s0 ≠ s := fun z => hn (z ▸ hm)
    have h0 : tie w s = s0 := tie_is h hs (hP s0 hm) hne ha
    refine ⟨fun a => ?_, fun u => ?_, nodupA_set (nodupA_set I.n), by rw [List.length_append]; exact Nat.le_trans I.fl (by omega)⟩
    · show getI t.1 a = _
      rw [I.f a, List.find?_append]
      cases hq : P.find? fun s => decide (arcAt w s = a) with
      | some _ => rfl
      | none =>
        have : arcAt w s ≠ a := fun z => by
          rw [← z, e] at hq
          cases hq
        rw [List.find?_cons, decide_eq_false this]
        rfl
    · show getA (setA (setA t.2 s s0) s0 s) u = _
      rw [getA_set, getA_set, I.d u]
      by_cases e1 : s0 = u
      · subst e1
        have : tie w s0 = s := by rw [← h0, tie_tie h hs]
        rw [if_pos rfl, if_pos ⟨List.mem_append_left _ hm, by rw [this]; simp⟩, this]
      · rw [if_neg e1]
        by_cases e2 : s = u
        · subst e2
          rw [if_pos rfl, if_pos ⟨by simp, by rw [h0]; exact List.mem_append_left _ hm⟩, h0]
        · rw [if_neg e2]
          have iff1 : u ∈ P ++ [s] ↔ u ∈ P := by simp [Ne.symm e2]
          by_cases hu : u ∈ P
          · have hts : tie w u ≠ s := fun z => e1 (by rw [← h0, ← z, tie_tie h (hP u hu)])
            have iff2 : tie w u ∈ P ++ [s] ↔ tie w u ∈ P := by simp [hts]
            simp only [iff1, iff2]
          · rw [if_neg fun z => hu z.1, if_neg fun z => hu (iff1.mp z.1)]
  | none =>
    have e := (I.f (arcAt w s)).symm.trans hf
    rw [List.find?_eq_none] at e
    refine ⟨fun a => ?_, fun u => ?_, I.n, ?_⟩
    · show getI (setI t.1 (arcAt w s) s) a = _
      rw [getI_set, I.f a, List.find?_append]
      by_cases g : arcAt w s = a
      · subst g
        rw [if_pos rfl, List.find?_eq_none.mpr e, List.find?_cons, decide_eq_true rfl]
        rfl
      · rw [if_neg g, List.find?_cons, decide_eq_false g]
        cases P.find? fun s => decide (arcAt w s = a) <;> rfl
    · show getA t.2 u = _
      rw [I.d u]
      have no : ∀ v ∈ P, arcAt w v ≠ arcAt w s := fun v hv z => e v hv (decide_eq_true z)
      by_cases e2 : u = s
      · subst e2
        rw [if_neg fun z => hn z.1, if_neg fun z => ?_]
        rcases List.mem_append.mp z.2 with z | z
        · exact no _ z T.arc
        · exact T.ne (List.mem_singleton.mp z)
      · have iff1 : u ∈ P ++ [s] ↔ u ∈ P := by simp [e2]
        by_cases hu : u ∈ P
        · have hts : tie w u ≠ s := fun z => no u hu (by rw [← z]; exact (tie_ok h (hP u hu)).arc.symm)
          have iff2 : tie w u ∈ P ++ [s] ↔ tie w u ∈ P := by simp [hts]
          simp only [iff1, iff2]
        · rw [if_neg fun z => hu z.1, if_neg fun z => hu (iff1.mp z.1)]
    · show (setI t.1 _ _).length ≤ _
      have := setI_len t.1 (arcAt w s) s
      have := I.fl
      rw [List.length_append, List.length_singleton]
      omega
def tiesF (w : Wb) : FD := (spotsW w).foldl (tieStep w) ([], [])
theorem ties_inv {w : Wb} (h : TwW w) : ∀ (R P : List II) (t : FD), P ++ R = spotsW w → TieInv w P t → TieInv w (spotsW w) (R.foldl (tieStep w) t)
  | [], P, t, e, I => by rw [List.append_nil] at e; rw [← e]; exact I
  | s :: R, P, t, e, I => by
    have nd := spots_nodup w.cs.length w.ends.length
    have hm : ∀ u ∈ P ++ s :: R, u ∈ spotsW w := fun u hu => by rw [← e]; exact hu
    refine ties_inv h R (P ++ [s]) (tieStep w t s) (by rw [← e]; simp) (tie_inv h (fun u hu => hm u (List.mem_append_left _ hu)) (hm s (by simp)) (fun z => ?_) I)
    have nd' : (P ++ s :: R).Nodup := by rw [e]; exact nd
    rw [List.nodup_append] at nd'
    exact nd'.2.2 s z s List.mem_cons_self rfl
theorem ties_ok {w : Wb} (h : TwW w) : TieInv w (spotsW w) (tiesF w) := ties_inv h (spotsW w) [] ([], []) rfl ⟨fun _ => rfl, fun _ => by simp [getA], List.nodup_nil, Nat.le_refl _⟩
abbrev tiesD (w : Wb) : List (II × II) := (tiesF w).2
theorem ties_get {w : Wb} (h : TwW w) (s : II) : getA (tiesD w) s = if s ∈ spotsW w then some (tie w s) else none := by
  rw [(ties_ok h).d s]
  by_cases hs : s ∈ spotsW w
  · rw [if_pos hs, if_pos ⟨hs, (tie_ok h hs).mem⟩]
  · rw [if_neg hs, if_neg fun z => hs z.1]
theorem ties_keys {w : Wb} (h : TwW w) : ((tiesD w).map (·.1)).Perm (spotsW w) := by
  rw [List.perm_ext_iff_of_nodup (ties_ok h).n (spots_nodup _ _)]
  intro s
  rw [keyA_iff]
  constructor
  · rintro ⟨v, e⟩
    rw [ties_get h] at e
    by_cases hs : s ∈ spotsW w
    · exact hs
    · rw [if_neg hs] at e; cases e
  · intro hs
    exact ⟨tie w s, by rw [ties_get h, if_pos hs]⟩
theorem ties_len {w : Wb} (h : TwW w) : (tiesD w).length = 4 * w.cs.length + w.ends.length := by
  have := (ties_keys h).length_eq
  rw [List.length_map, spots_len] at this
  exact this
end Th

set_option Elab.async false
set_option linter.all false
set_option maxRecDepth 100000
namespace Th
open PySem PySem.Spec PyProof.Rows L2

/-! ### webs drawn: each arc at two places -/
def putS (t : List Int × List Nat) (arc : Int) (i : Nat) : List Int × List Nat := ((t.1.set (t.2.headD 0) arc).set (t.2.tail.getD i 0) arc, t.2.tail.eraseIdx i)
def flat2 : List (Nat × Nat) → List Nat
  | [] => []
  | q :: Q => q.1 :: q.2 :: flat2 Q
theorem flat2_app : ∀ (P Q : List (Nat × Nat)), flat2 (P ++ Q) = flat2 P ++ flat2 Q
  | [], _ => rfl
  | p :: P, Q => by
    show p.1 :: p.2 :: flat2 (P ++ Q) = p.1 :: p.2 :: (flat2 P ++ flat2 Q)
    rw [flat2_app P Q]
theorem flat2_len : ∀ Q : List (Nat × Nat), (flat2 Q).length = 2 * Q.length
  | [] => rfl
  | q :: Q => by
    show (flat2 Q).length + 1 + 1 = 2 * (Q.length + 1)
    rw [flat2_len Q]; omega
theorem flat2_mem : ∀ {Q : List (Nat × Nat)} {i : Nat}, i ∈ flat2 Q ↔ ∃ (k : Nat) (q : Nat × Nat), Q[k]? = some q ∧ (i = q.1 ∨ i = q.2)
  | [], i => by simp [flat2]
  | p :: Q, i => by
    have ih := @flat2_mem Q i
    show i ∈ p.1 :: p.2 :: flat2 Q ↔ _
    rw [List.mem_cons, List.mem_cons, ih]
    constructor
    · rintro (h | h | ⟨k, q, h1, h2⟩)
      · exact ⟨0, p, rfl, .inl h⟩
      · exact ⟨0, p, rfl, .inr h⟩
      · exact ⟨k + 1, q, by simpa using h1, h2⟩
    · rintro ⟨k, q, h1, h2⟩
      cases k with
      | zero =>
        simp at h1
        subst h1
        rcases h2 with h | h
        · exact .inl h
        · exact .inr (.inl h)
      | succ k => exact .inr (.inr ⟨k, q, by simpa using h1, h2⟩)
theorem flat2_ne {Q : List (Nat × Nat)} (h : (flat2 Q).Nodup) {k : Nat} {q : Nat × Nat} (e : Q[k]? = some q) : q.1 ≠ q.2 := by
  obtain ⟨P, R, rfl⟩ := List.mem_iff_append.mp (List.mem_of_getElem? e)
  rw [flat2_app, List.nodup_append] at h
  have h2 : (q.1 :: q.2 :: flat2 R).Nodup := h.2.1
  rw [List.nodup_cons] at h2
  exact fun z => h2.1 (by rw [z]; exact List.mem_cons_self)
theorem erase_perm {α : Type} : ∀ (l : List α) (i : Nat) (h : i < l.length), (l[i] :: l.eraseIdx i).Perm l
  | [], _, h => nomatch h
  | x :: l, 0, _ => .refl _
  | x :: l, i + 1, h => by
    have h' : i < l.length := by simpa using h
    show (l[i] :: x :: l.eraseIdx i).Perm (x :: l)
    exact (List.Perm.swap _ _ _).trans (List.Perm.cons _ (erase_perm l i h'))
structure PairSt (N : Nat) (arcs : List Int) (t : List Int × List Nat) : Prop where
  ex : ∃ Q : List (Nat × Nat), Q.length = arcs.length ∧ (flat2 Q ++ t.2).Perm (List.range N) ∧ t.1.length = N ∧ ∀ (k : Nat) (q : Nat × Nat) (a : Int), Q[k]? = some q → arcs[k]? = some a → t.1[q.1]? = some a ∧ t.1[q.2]? = some a
theorem pair_0 (N : Nat) : PairSt N [] (List.replicate N 0, List.range N) := ⟨[], rfl, .refl _, List.length_replicate .., fun k q a h => by simp at h⟩
theorem pair_step {N : Nat} {arcs : List Int} {t : List Int × List Nat} {a : Int} {i : Nat} (h : PairSt N arcs t) (hi : i < t.2.tail.length) : PairSt N (arcs ++ [a]) (putS t a i) := by
  obtain ⟨Q, h1, h2, h3, h4⟩ := h.ex
  obtain ⟨A, L⟩ := t
  cases L with
  | nil => simp at hi
  | cons x tl =>
    have hi : i < tl.length := hi
    have ey : tl.getD i 0 = tl[i] := by rw [List.getD_eq_getElem?_getD, List.getElem?_eq_getElem hi]; rfl
    have nd : (flat2 Q ++ x :: tl).Nodup := h2.nodup_iff.mpr List.nodup_range
    have hlt : ∀ z ∈ flat2 Q ++ x :: tl, z < N := fun z hz => List.mem_range.mp (h2.mem_iff.mp hz)
    have hx := hlt x (by simp)
    have hy := hlt tl[i] (by simp)
    refine ⟨Q ++ [(x, tl[i])], by rw [List.length_append, List.length_append, h1]; rfl, ?_, ?_, fun k q b hk hb => ?_⟩
    · rw [flat2_app]
      show ((flat2 Q ++ [x, tl[i]]) ++ tl.eraseIdx i).Perm _
      rw [List.append_assoc]
      refine List.Perm.trans (List.Perm.append_left _ ?_) h2
      show (x :: tl[i] :: tl.eraseIdx i).Perm (x :: tl)
      exact List.Perm.cons _ (erase_perm _ _ hi)
    · show ((A.set x a).set (tl.getD i 0) a).length = N
      rw [List.length_set, List.length_set]
      exact h3
    · show ((A.set x a).set (tl.getD i 0) a)[q.1]? = some b ∧ ((A.set x a).set (tl.getD i 0) a)[q.2]? = some b
      have h3 : A.length = N := h3
      rw [ey]
      by_cases hkl : k < Q.length
      · rw [List.getElem?_append_left hkl] at hk
        rw [List.getElem?_append_left (by omega)] at hb
        obtain ⟨g1, g2⟩ := h4 k q b hk hb
        rw [List.nodup_append] at nd
        have off : ∀ z, z ∈ flat2 Q → z ≠ x ∧ z ≠ tl[i] := fun z hz => ⟨nd.2.2 z hz x List.mem_cons_self, nd.2.2 z hz _ (List.mem_cons_of_mem _ (List.getElem_mem hi))⟩
        obtain ⟨o1, o2⟩ := off q.1 (flat2_mem.mpr ⟨k, q, hk, .inl rfl⟩)
        obtain ⟨o3, o4⟩ := off q.2 (flat2_mem.mpr ⟨k, q, hk, .inr rfl⟩)
        rw [List.getElem?_set_ne (Ne.symm o2), List.getElem?_set_ne (Ne.symm o1), List.getElem?_set_ne (Ne.symm o4), List.getElem?_set_ne (Ne.symm o3)]
        exact ⟨g1, g2⟩
      · have hkk : k = Q.length := by
          have := (List.getElem?_eq_some_iff.mp hk).1
          rw [List.length_append] at this
          simp at this
          omega
        subst hkk
        rw [List.getElem?_append_right (by omega), Nat.sub_self] at hk
        rw [h1, List.getElem?_append_right (by omega), Nat.sub_self] at hb
        simp at hk hb
        subst hk
        subst hb
        refine ⟨?_, ?_⟩
        · by_cases e : x = tl[i]
          · show ((A.set x a).set tl[i] a)[x]? = _
            rw [e, List.getElem?_set_self (by rw [List.length_set]; omega)]
          · show ((A.set x a).set tl[i] a)[x]? = _
            rw [List.getElem?_set_ne (Ne.symm e), List.getElem?_set_self (by omega)]
        · show ((A.set x a).set tl[i] a)[tl[i]]? = _
          rw [List.getElem?_set_self (by rw [List.length_set]; omega)]
theorem pair_end {N : Nat} {arcs : List Int} {t : List Int × List Nat} (h : PairSt N arcs t) (hl : 2 * arcs.length = N) (hn : arcs.Nodup) : TwL t.1 ∧ t.1.length = N := by
  obtain ⟨Q, h1, h2, h3, h4⟩ := h.ex
  refine ⟨?_, h3⟩
  have hL : t.2 = [] := by
    have := h2.length_eq
    rw [List.length_append, flat2_len, List.length_range] at this
    exact List.length_eq_zero_iff.mp (by omega)
  rw [hL, List.append_nil] at h2
  have nd : (flat2 Q).Nodup := h2.nodup_iff.mpr List.nodup_range
  have val : ∀ (k : Nat) (q : Nat × Nat), Q[k]? = some q → ∃ a, arcs[k]? = some a ∧ t.1.getD q.1 0 = a ∧ t.1.getD q.2 0 = a := fun k q hk => by
    have hk2 : k < arcs.length := by have := (List.getElem?_eq_some_iff.mp hk).1; omega
    obtain ⟨g1, g2⟩ := h4 k q _ hk (List.getElem?_eq_getElem hk2)
    refine ⟨_, List.getElem?_eq_getElem hk2, ?_, ?_⟩
    · rw [List.getD_eq_getElem?_getD, g1]; rfl
    · rw [List.getD_eq_getElem?_getD, g2]; rfl
  have inQ : ∀ i, i < N ↔ i ∈ flat2 Q := fun i => by rw [h2.mem_iff, List.mem_range]
  have uniq : ∀ (k k' : Nat) (q q' : Nat × Nat), Q[k]? = some q → Q[k']? = some q' → ∀ a, arcs[k]? = some a → arcs[k']? = some a → q' = q := fun k k' q q' hk hk' a ha ha' => by
    have hlt := (List.getElem?_eq_some_iff.mp ha).1
    have := (List.getElem?_inj hlt hn).mp (ha.trans ha'.symm)
    subst this
    rw [hk] at hk'
    exact (Option.some.inj hk').symm
  intro i hi
  rw [h3] at hi
  obtain ⟨k, q, hk, hiq⟩ := flat2_mem.mp ((inQ i).mp hi)
  obtain ⟨a, ha, v1, v2⟩ := val k q hk
  have hne := flat2_ne nd hk
  have m1 : q.1 < N := (inQ _).mpr (flat2_mem.mpr ⟨k, q, hk, .inl rfl⟩)
  have m2 : q.2 < N := (inQ _).mpr (flat2_mem.mpr ⟨k, q, hk, .inr rfl⟩)
  have other : ∀ u < t.1.length, t.1.getD u 0 = a → u = q.1 ∨ u = q.2 := fun u hu e => by
    rw [h3] at hu
    obtain ⟨k', q', hk', huq⟩ := flat2_mem.mp ((inQ u).mp hu)
    obtain ⟨a', ha', w1, w2⟩ := val k' q' hk'
    have : a' = a := by
      rcases huq with z | z
      · rw [← e, z, w1]
      · rw [← e, z, w2]
    subst this
    rw [uniq k k' q q' hk hk' a' ha ha'] at huq
    exact huq
  rcases hiq with e | e
  · subst e
    exact ⟨q.2, by rw [h3]; exact m2, Ne.symm hne, by rw [v1, v2], fun u hu z => other u hu (by rw [z, v1])⟩
  · subst e
    exact ⟨q.1, by rw [h3]; exact m1, hne, by rw [v1, v2], fun u hu z => (other u hu (by rw [z, v2])).symm⟩
theorem webCs_flat {A : List Int} : ∀ {m : Nat}, 4 * m ≤ A.length → (webCs A m).flatten = A.take (4 * m)
  | 0, _ => rfl
  | m + 1, h => by
    unfold webCs
    rw [List.range_succ, List.map_append, List.flatten_append]
    have := webCs_flat (A := A) (m := m) (by omega)
    unfold webCs at this
    rw [this]
    simp only [List.map_cons, List.map_nil, List.flatten_cons, List.flatten_nil, List.append_nil]
    have e := List.take_append_drop (4 * m) (A.take (4 * m + 4))
    rw [List.take_take, show min (4 * m) (4 * m + 4) = 4 * m by omega] at e
    exact e
theorem webCs_four {A : List Int} {m : Nat} (h : 4 * m ≤ A.length) : ∀ c ∈ webCs A m, c.length = 4 := fun c hc => by
  obtain ⟨k, hk, rfl⟩ := List.mem_map.mp hc
  have := List.mem_range.mp hk
  rw [List.length_drop, List.length_take]
  omega
/-- a web cut out of a row of arcs -/
theorem cut_tw {A : List Int} {m : Nat} {r : Int} (h : 4 * m ≤ A.length) (hA : TwL A) : TwW ⟨webCs A m, A.drop (4 * m), r⟩ ∧ FourW ⟨webCs A m, A.drop (4 * m), r⟩ := by
  have h4 : FourW ⟨webCs A m, A.drop (4 * m), r⟩ := webCs_four h
  refine ⟨twW_of h4 ?_, h4⟩
  show TwL ((webCs A m).flatten ++ A.drop (4 * m))
  rw [webCs_flat h, List.take_append_drop]
  exact hA
theorem pair_fold {N : Nat} {s0 : Int} (f : WSt → Int → WSt) (hf : ∀ (i : Nat) (t : WSt) (a : Int), WOk N s0 i t → 2 * (i + 1) ≤ N → WOk N s0 (i + 1) (f t a) ∧ ∃ j, j < t.L.tail.length ∧ ((f t a).A, (f t a).L) = putS (t.A, t.L) a j) :
    ∀ (xs ys : List Int) (i : Nat) (t : WSt), WOk N s0 i t → PairSt N ys (t.A, t.L) → 2 * (i + xs.length) ≤ N → PairSt N (ys ++ xs) ((xs.foldl f t).A, (xs.foldl f t).L)
  | [], ys, i, t, _, p, _ => by rw [List.append_nil]; exact p
  | x :: xs, ys, i, t, h, p, hl => by
    rw [List.length_cons] at hl
    obtain ⟨h1, j, hj, e⟩ := hf i t x h (by omega)
    have := pair_fold f hf xs (ys ++ [x]) (i + 1) (f t x) h1 (by rw [e]; exact pair_step p hj) (by omega)
    rw [List.append_assoc] at this
    exact this
theorem step_put {N : Nat} {s0 : Int} (i : Nat) (t : WSt) (a : Int) (h : WOk N s0 i t) (hi : 2 * (i + 1) ≤ N) : WOk N s0 (i + 1) (webStep t a) ∧ ∃ j, j < t.L.tail.length ∧ ((webStep t a).A, (webStep t a).L) = putS (t.A, t.L) a j := by
  have hl := h.left
  have htl : t.L.tail.length = t.L.length - 1 := List.length_tail
  have h0 := tkV_lo (s := t.s) (b := (t.L.tail.length : Int)) (by omega)
  have h1 := tkV_hi (s := t.s) (b := (t.L.tail.length : Int)) (by omega)
  exact ⟨wok_step h hi, (tkV t.s t.L.tail.length).toNat, by omega, rfl⟩
theorem step_putN {N : Nat} {s0 nr : Int} (hn : 1 ≤ nr) (i : Nat) (t : WSt) (a : Int) (h : WOk N s0 i t) (hi : 2 * (i + 1) ≤ N) : WOk N s0 (i + 1) (webStepN nr t a) ∧ ∃ j, j < t.L.tail.length ∧ ((webStepN nr t a).A, (webStepN nr t a).L) = putS (t.A, t.L) a j := by
  have hl := h.left
  have htl : t.L.tail.length = t.L.length - 1 := List.length_tail
  have h0 := tkV_lo (s := t.s) (b := min nr (t.L.tail.length : Int)) (by omega)
  have h1 := tkV_hi (s := t.s) (b := min nr (t.L.tail.length : Int)) (by omega)
  exact ⟨wok_stepN h hn hi, (tkV t.s (min nr t.L.tail.length)).toNat, by omega, rfl⟩
structure DrawnW (w : Wb) (m h : Nat) : Prop where
  ok : WbOk w
  four : FourW w
  two : TwW w
  cs : w.cs.length = m
  ends : w.ends.length = 2 * h
theorem webF_drawn (s : Int × Int) {m h : Nat} (hm : 2 * m + h ≤ 101) : DrawnW (webF s m h) m h := by
  have hw := wok_0 s m h
  have hP := pair_fold webStep step_put (arcsL s (2 * m + h)) [] 0 (web0 s m h) hw (pair_0 _) (by rw [arcsL_len]; omega)
  obtain ⟨hA, hl⟩ := pair_end hP (by rw [List.nil_append, arcsL_len]; omega) (arcs_nodup s hm)
  have hA : TwL (webR s m h).A := hA
  have hl : (webR s m h).A.length = 4 * m + 2 * h := hl
  obtain ⟨h1, h2⟩ := cut_tw (r := ringsF4 (tkV (webR s m h).s 4)) (show 4 * m ≤ (webR s m h).A.length by omega) hA
  have hcs : (webF s m h).cs.length = m := by show ((List.range m).map _).length = m; rw [List.length_map, List.length_range]
  have hen : (webF s m h).ends.length = 2 * h := by show ((webR s m h).A.drop (4 * m)).length = _; rw [List.length_drop]; omega
  exact ⟨⟨by rw [hcs]; omega, fun c hc => by rw [h2 c hc]; omega, by rw [hen]; omega⟩, h2, h1, hcs, hen⟩
theorem webFN_drawn (s : Int × Int) {m h : Nat} (most : Int) (hm : 2 * m + h ≤ 101) : DrawnW (webFN s m h most) m h := by
  have hw := wok_0 (tkS s 4) m h
  have hn : 1 ≤ nearO s := (nearF_pos (tkV_lo (by decide)) (tkV_hi (by decide))).1
  have hP := pair_fold (webStepN (nearO s)) (step_putN hn) (arcsL (tkS s 4) (2 * m + h)) [] 0 (web0 (tkS s 4) m h) hw (pair_0 _) (by rw [arcsL_len]; omega)
  obtain ⟨hA, hl⟩ := pair_end hP (by rw [List.nil_append, arcsL_len]; omega) (arcs_nodup _ hm)
  have hA : TwL (webRN s m h).A := hA
  have hl : (webRN s m h).A.length = 4 * m + 2 * h := hl
  obtain ⟨h1, h2⟩ := cut_tw (r := [0, 1, 2, most].getD (tkV (webRN s m h).s 4).toNat 0) (show 4 * m ≤ (webRN s m h).A.length by omega) hA
  have hcs : (webFN s m h most).cs.length = m := by show ((List.range m).map _).length = m; rw [List.length_map, List.length_range]
  have hen : (webFN s m h most).ends.length = 2 * h := by show ((webRN s m h).A.drop (4 * m)).length = _; rw [List.length_drop]; omega
  exact ⟨⟨by rw [hcs]; omega, fun c hc => by rw [h2 c hc]; omega, by rw [hen]; omega⟩, h2, h1, hcs, hen⟩

/-! ### the program's way: arc by arc -/
def addL (m : Pls) (l : List (II × Int)) : Pls := l.foldl (fun m q => addQ m q.2 q.1) m
def rowL (n : Int) (row : List Int) : List (II × Int) := row.zipIdx.map fun q => ((n, (q.2 : Int)), q.1)
def placL (w : Wb) : List (II × Int) := (w.cs.zipIdx.map fun q => rowL (q.2 : Int) q.1).flatten ++ rowL (-1) w.ends
theorem addRow_L (n : Int) (m : Pls) (row : List Int) : addRow n m row = addL m (rowL n row) := by
  unfold addRow addL rowL
  rw [List.foldl_map]
theorem places_L (w : Wb) : placesF w = addL [] (placL w) := by
  unfold placesF placL
  rw [addRow_L]
  unfold addL
  rw [List.foldl_append, List.foldl_flatten, List.foldl_map]
  congr 1
  have : (fun m (q : List Int × Nat) => addRow (q.2 : Int) m q.1) = fun m q => (rowL (q.2 : Int) q.1).foldl (fun m q => addQ m q.2 q.1) m := by
    funext m q
    exact addRow_L _ _ _
  rw [this]
theorem addL_get (a : Int) : ∀ (l : List (II × Int)) (m : Pls), (getI (addL m l) a).getD [] = (getI m a).getD [] ++ (l.filter fun q => decide (q.2 = a)).map (·.1)
  | [], m => by simp [addL]
  | q :: l, m => by
    show (getI (addL (addQ m q.2 q.1) l) a).getD [] = _
    rw [addL_get a l]
    unfold addQ
    rw [getI_set, List.filter_cons]
    by_cases h : q.2 = a
    · rw [if_pos h, decide_eq_true h, if_pos rfl, h]
      simp
    · rw [if_neg h, decide_eq_false h]
      simp
theorem zip_eq {α β : Type} : ∀ {l l' : List (α × β)}, l.map (·.1) = l'.map (·.1) → l.map (·.2) = l'.map (·.2) → l = l'
  | [], [], _, _ => rfl
  | [], _ :: _, h, _ => by simp at h
  | _ :: _, [], h, _ => by simp at h
  | p :: l, q :: l', h, g => by
    rw [List.map_cons, List.map_cons, List.cons.injEq] at h g
    rw [zip_eq h.2 g.2, Prod.ext h.1 g.1]
theorem rowL_fst (n : Int) (row : List Int) : (rowL n row).map (·.1) = (List.range row.length).map fun a : Nat => (n, (a : Int)) := by
  unfold rowL
  rw [List.map_map]
  have : ((fun x : II × Int => x.1) ∘ fun q : Int × Nat => ((n, (q.2 : Int)), q.1)) = (fun a : Nat => (n, (a : Int))) ∘ Prod.snd := rfl
  rw [this, ← List.map_map, List.zipIdx_map_snd, List.range_eq_range']
theorem rowL_snd (n : Int) (row : List Int) : (rowL n row).map (·.2) = row := by
  unfold rowL
  rw [List.map_map]
  have : ((fun x : II × Int => x.2) ∘ fun q : Int × Nat => ((n, (q.2 : Int)), q.1)) = Prod.fst := rfl
  rw [this, List.zipIdx_map_fst]
theorem placL_eq {w : Wb} (h : FourW w) : placL w = (spotsW w).map fun s => (s, arcAt w s) := by
  refine zip_eq ?_ ?_
  · rw [List.map_map]
    show _ = (spotsW w).map id
    rw [List.map_id]
    unfold placL spotsW spotsN
    rw [List.map_append, rowL_fst]
    congr 1
    unfold crSpots
    rw [List.map_flatten, List.map_map]
    congr 1
    have e : w.cs.zipIdx.map ((List.map fun x : II × Int => x.1) ∘ fun q => rowL (q.2 : Int) q.1) = w.cs.zipIdx.map ((fun k : Nat => (List.range 4).map fun a : Nat => ((k : Int), (a : Int))) ∘ Prod.snd) := by
      refine List.map_congr_left fun q hq => ?_
      show (rowL (q.2 : Int) q.1).map (·.1) = _
      rw [rowL_fst, h q.1 (List.fst_mem_of_mem_zipIdx hq)]
      rfl
    rw [e, ← List.map_map, List.zipIdx_map_snd, ← List.range_eq_range']
  · rw [List.map_map]
    show _ = (spotsW w).map (arcAt w)
    rw [arcs_spots h]
    unfold placL arcsW
    rw [List.map_append, rowL_snd]
    congr 1
    rw [List.map_flatten, List.map_map]
    congr 1
    have e : w.cs.zipIdx.map ((List.map fun x : II × Int => x.2) ∘ fun q => rowL (q.2 : Int) q.1) = w.cs.zipIdx.map Prod.fst := by
      refine List.map_congr_left fun q _ => ?_
      exact rowL_snd _ _
    rw [e, List.zipIdx_map_fst]
theorem places_val {w : Wb} (h : FourW w) {a : Int} {v : List II} (hm : (a, v) ∈ placesF w) : v = (spotsW w).filter fun s => decide (arcAt w s = a) := by
  have e := getI_nodup (keys_nodup w) hm
  have g := addL_get a (placL w) []
  rw [← places_L, e] at g
  have g : v = (getI ([] : Pls) a).getD [] ++ ((placL w).filter fun q => decide (q.2 = a)).map (·.1) := g
  rw [getI_nil, placL_eq h, List.filter_map, List.map_map] at g
  have e2 : ((fun x : II × Int => x.1) ∘ fun s => (s, arcAt w s)) = id := rfl
  rw [e2, List.map_id] at g
  exact g
theorem two_list {α : Type} {l : List α} {x y : α} (hn : l.Nodup) (hm : ∀ u, u ∈ l ↔ u = x ∨ u = y) (h : x ≠ y) : l = [x, y] ∨ l = [y, x] := by
  have hp : l.Perm [x, y] := by
    rw [List.perm_ext_iff_of_nodup hn (by simp [h])]
    intro u
    rw [hm u]
    simp
  match l, hp.length_eq, hn, hm with
  | [a, b], _, hn, hm =>
    have ha := (hm a).mp (by simp)
    have hb := (hm b).mp (by simp)
    have hab : a ≠ b := by
      intro e
      rw [e] at hn
      simp at hn
    rcases ha with rfl | rfl <;> rcases hb with rfl | rfl
    · exact absurd rfl hab
    · exact .inl rfl
    · exact .inr rfl
    · exact absurd rfl hab
theorem places_two {w : Wb} (h : FourW w) (ht : TwW w) {a : Int} {v : List II} (hm : (a, v) ∈ placesF w) : ∃ p ∈ spotsW w, v = [p, tie w p] := by
  have hv := places_val h hm
  have hk : a ∈ keysW w := by
    rw [← keysP_places]
    exact List.mem_map.mpr ⟨(a, v), hm, rfl⟩
  have hk := mem_keysW.mp hk
  rw [← arcs_spots h] at hk
  obtain ⟨s, hs, e⟩ := List.mem_map.mp hk
  have T := tie_ok ht hs
  have := two_list (l := v) (x := s) (y := tie w s) (by rw [hv]; exact (spots_nodup _ _).filter _) (fun u => by
    rw [hv, List.mem_filter, decide_eq_true_eq]
    constructor
    · rintro ⟨h1, h2⟩
      exact T.un u h1 (by rw [h2, e])
    · rintro (rfl | rfl)
      · exact ⟨hs, e⟩
      · exact ⟨T.mem, by rw [T.arc, e]⟩) (Ne.symm T.ne)
  rcases this with z | z
  · exact ⟨s, hs, z⟩
  · exact ⟨tie w s, T.mem, by rw [z, tie_tie ht hs]⟩
def twStep (D : List (II × II)) : List II → List (II × II)
  | [a, b] => setA (setA D a b) b a
  | _ => D
def valsP (w : Wb) : List (List II) := (placesF w).map (·.2)
def twinsF (w : Wb) : List (II × II) := (valsP w).foldl twStep []
theorem tw_fold {w : Wb} (ht : TwW w) (s : II) : ∀ (V : List (List II)) (D : List (II × II)), (∀ v ∈ V, ∃ p ∈ spotsW w, v = [p, tie w p]) → getA (V.foldl twStep D) s = if s ∈ V.flatten then some (tie w s) else getA D s
  | [], D, _ => by simp
  | v :: V, D, h => by
    obtain ⟨p, hp, e⟩ := h v List.mem_cons_self
    rw [List.foldl_cons, tw_fold ht s V _ fun u hu => h u (List.mem_cons_of_mem _ hu), List.flatten_cons]
    by_cases hV : s ∈ V.flatten
    · rw [if_pos hV, if_pos (List.mem_append_right _ hV)]
    · rw [if_neg hV, e]
      show getA (setA (setA D p (tie w p)) (tie w p) p) s = _
      rw [getA_set, getA_set]
      by_cases e1 : tie w p = s
      · subst e1
        rw [if_pos rfl, if_pos (by simp), tie_tie ht hp]
      · rw [if_neg e1]
        by_cases e2 : p = s
        · subst e2
          rw [if_pos rfl, if_pos (by simp)]
        · rw [if_neg e2, if_neg]
          intro z
          rcases List.mem_append.mp z with z | z
          · rcases List.mem_cons.mp z with z | z
            · exact e2 z.symm
            · exact e1 (List.mem_singleton.mp z).symm
          · exact hV z
theorem twins_get {w : Wb} (h : FourW w) (ht : TwW w) (s : II) : getA (twinsF w) s = if s ∈ spotsW w then some (tie w s) else none := by
  have hV : ∀ v ∈ valsP w, ∃ p ∈ spotsW w, v = [p, tie w p] := fun v hv => by
    obtain ⟨q, hq, rfl⟩ := List.mem_map.mp hv
    exact places_two h ht (a := q.1) hq
  unfold twinsF
  rw [tw_fold ht s _ _ hV, getA_nil]
  have iff1 : s ∈ (valsP w).flatten ↔ s ∈ spotsW w := by
    rw [List.mem_flatten]
    constructor
    · rintro ⟨v, hv, hs⟩
      obtain ⟨p, hp, rfl⟩ := hV v hv
      rcases List.mem_cons.mp hs with e | e
      · rw [e]; exact hp
      · rw [List.mem_singleton.mp e]
        exact (tie_ok ht hp).mem
    · intro hs
      have hk : arcAt w s ∈ keysP (placesF w) := by
        rw [keysP_places, mem_keysW, ← arcs_spots h]
        exact List.mem_map.mpr ⟨s, hs, rfl⟩
      obtain ⟨q, hq, e⟩ := List.mem_map.mp hk
      have hv := places_val h (a := q.1) (v := q.2) hq
      exact ⟨q.2, List.mem_map.mpr ⟨q, hq, rfl⟩, by rw [hv, List.mem_filter]; exact ⟨hs, decide_eq_true e.symm⟩⟩
  simp only [iff1]
theorem tw_len : ∀ (V : List (List II)) (D : List (II × II)), (V.foldl twStep D).length ≤ D.length + 2 * V.length
  | [], D => by simp
  | v :: V, D => by
    rw [List.foldl_cons, List.length_cons]
    have := tw_len V (twStep D v)
    have h2 : (twStep D v).length ≤ D.length + 2 := by
      unfold twStep
      split
      · rename_i a b
        have h1 := lenA_set (m := D) (k := a) (v := b)
        have h2 := lenA_set (m := setA D a b) (k := b) (v := a)
        omega
      · omega
    omega
end Th

set_option Elab.async false
set_option linter.all false
set_option maxRecDepth 100000
namespace Th
open PySem PySem.Spec PyProof.Rows L2

def laterF (w : Wb) (s : II) : II := if s.1 < 0 then (-1, if s.2 + 1 = w.ends.length then 0 else s.2 + 1) else (s.1, [3, 0, 1, 2].getD s.2.toNat 0)
def earlF (w : Wb) (s : II) : II := if s.1 < 0 then (-1, if s.2 = 0 then w.ends.length - 1 else s.2 - 1) else (s.1, [1, 2, 3, 0].getD s.2.toNat 0)
theorem mem_sp {w : Wb} {s : II} : s ∈ spotsW w ↔ (∃ k a : Nat, k < w.cs.length ∧ a < 4 ∧ s = ((k : Int), (a : Int))) ∨ ∃ a : Nat, a < w.ends.length ∧ s = ((-1 : Int), (a : Int)) := by
  unfold spotsW spotsN
  rw [List.mem_append, mem_cr, mem_rim]
theorem later_cr {w : Wb} {k a : Nat} (h : a < 4) : laterF w ((k : Int), (a : Int)) = ((k : Int), (((a + 3) % 4 : Nat) : Int)) := by
  unfold laterF
  rw [if_neg (show ¬ (k : Int) < 0 by omega)]
  have : a = 0 ∨ a = 1 ∨ a = 2 ∨ a = 3 := by omega
  rcases this with rfl | rfl | rfl | rfl <;> rfl
theorem earl_cr {w : Wb} {k a : Nat} (h : a < 4) : earlF w ((k : Int), (a : Int)) = ((k : Int), (((a + 1) % 4 : Nat) : Int)) := by
  unfold earlF
  rw [if_neg (show ¬ (k : Int) < 0 by omega)]
  have : a = 0 ∨ a = 1 ∨ a = 2 ∨ a = 3 := by omega
  rcases this with rfl | rfl | rfl | rfl <;> rfl
theorem later_rim {w : Wb} {a : Nat} (h : a < w.ends.length) : laterF w (-1, (a : Int)) = (-1, (((a + 1) % w.ends.length : Nat) : Int)) := by
  unfold laterF
  rw [if_pos (show (-1 : Int) < 0 by omega)]
  by_cases e : a + 1 = w.ends.length
  · rw [if_pos (show ((a : Int) + 1 = (w.ends.length : Int)) by omega), e, Nat.mod_self]; rfl
  · rw [if_neg (show ¬ ((a : Int) + 1 = (w.ends.length : Int)) by omega), Nat.mod_eq_of_lt (by omega)]; rfl
theorem later_mem {w : Wb} {s : II} (h : s ∈ spotsW w) : laterF w s ∈ spotsW w := by
  rcases mem_sp.mp h with ⟨k, a, hk, ha, rfl⟩ | ⟨a, ha, rfl⟩
  · rw [later_cr ha]
    exact mem_sp.mpr (.inl ⟨k, _, hk, Nat.mod_lt _ (by decide), rfl⟩)
  · rw [later_rim ha]
    exact mem_sp.mpr (.inr ⟨_, Nat.mod_lt _ (by omega), rfl⟩)
theorem later_earl {w : Wb} {s : II} (h : s ∈ spotsW w) : earlF w s ∈ spotsW w ∧ laterF w (earlF w s) = s := by
  rcases mem_sp.mp h with ⟨k, a, hk, ha, rfl⟩ | ⟨a, ha, rfl⟩
  · rw [earl_cr ha, later_cr (Nat.mod_lt _ (by decide))]
    refine ⟨mem_sp.mpr (.inl ⟨k, _, hk, Nat.mod_lt _ (by decide), rfl⟩), ?_⟩
    rw [show ((a + 1) % 4 + 3) % 4 = a by omega]
  · have e : earlF w (-1, (a : Int)) = (-1, ((if a = 0 then w.ends.length - 1 else a - 1 : Nat) : Int)) := by
      unfold earlF
      rw [if_pos (show (-1 : Int) < 0 by omega)]
      by_cases g : a = 0
      · subst g
        rw [if_pos rfl, if_pos (show ((0 : Nat) : Int) = 0 from rfl)]
        congr 1
        omega
      · rw [if_neg g, if_neg (show ¬ ((a : Int) = 0) by omega)]
        congr 1
        show (a : Int) - 1 = _
        omega
    have hlt : (if a = 0 then w.ends.length - 1 else a - 1) < w.ends.length := by split <;> omega
    rw [e, later_rim hlt]
    refine ⟨mem_sp.mpr (.inr ⟨_, hlt, rfl⟩), ?_⟩
    congr 2
    by_cases g : a = 0
    · rw [if_pos g, show w.ends.length - 1 + 1 = w.ends.length by omega, Nat.mod_self, g]
    · rw [if_neg g, show a - 1 + 1 = a by omega, Nat.mod_eq_of_lt ha]
theorem later_inj {w : Wb} {s t : II} (hs : s ∈ spotsW w) (ht : t ∈ spotsW w) (e : laterF w s = laterF w t) : s = t := by
  rcases mem_sp.mp hs with ⟨k, a, hk, ha, rfl⟩ | ⟨a, ha, rfl⟩ <;> rcases mem_sp.mp ht with ⟨k', a', hk', ha', rfl⟩ | ⟨a', ha', rfl⟩
  · rw [later_cr ha, later_cr ha'] at e
    injection e with e1 e2
    congr 1
    omega
  · rw [later_cr ha, later_rim ha'] at e
    injection e with e1 e2
    omega
  · rw [later_rim ha, later_cr ha'] at e
    injection e with e1 e2
    omega
  · rw [later_rim ha, later_rim ha'] at e
    injection e with e1 e2
    congr 1
    have e2 : (a + 1) % w.ends.length = (a' + 1) % w.ends.length := by omega
    by_cases g : a + 1 = w.ends.length <;> by_cases g' : a' + 1 = w.ends.length
    · omega
    · rw [g, Nat.mod_self, Nat.mod_eq_of_lt (by omega)] at e2; omega
    · rw [g', Nat.mod_self, Nat.mod_eq_of_lt (by omega)] at e2; omega
    · rw [Nat.mod_eq_of_lt (by omega), Nat.mod_eq_of_lt (by omega)] at e2; omega
/-- what comes behind goes through all places -/
theorem behind_perm {w : Wb} (ht : TwW w) : ((spotsW w).map fun s => laterF w (tie w s)).Perm (spotsW w) := by
  have nd := spots_nodup w.cs.length w.ends.length
  rw [List.perm_ext_iff_of_nodup ?_ nd]
  · intro y
    rw [List.mem_map]
    constructor
    · rintro ⟨s, hs, rfl⟩
      exact later_mem (tie_ok ht hs).mem
    · intro hy
      obtain ⟨h1, h2⟩ := later_earl hy
      exact ⟨tie w (earlF w y), (tie_ok ht h1).mem, by rw [tie_tie ht h1, h2]⟩
  · rw [List.nodup_iff_pairwise_ne, List.pairwise_map]
    refine List.Pairwise.imp_of_mem (fun {a b} ha hb h e => h ?_) nd
    have := later_inj (tie_ok ht ha).mem (tie_ok ht hb).mem e
    rw [← tie_tie ht ha, this, tie_tie ht hb]
def rowC (k : Nat) : List II := (List.range 4).map fun a : Nat => ((k : Int), (a : Int))
theorem fold_cr (m : Nat) : (List.range m).foldl (fun t k => t ++ rowC k) [] = crSpots m := by
  induction m with
  | zero => rfl
  | succ m ih =>
    rw [List.range_succ (n := m), List.foldl_append, ih, cr_succ]
    rfl
structure WbF (w : Wb) : Prop where
  ok : WbOk w
  four : FourW w
  two : TwW w
theorem DrawnW.f {w : Wb} {m h : Nat} (d : DrawnW w m h) : WbF w := ⟨d.ok, d.four, d.two⟩
theorem spw_len {w : Wb} (h : WbOk w) : (spotsW w).length ≤ 5000 := by
  unfold spotsW
  rw [spots_len]
  have := h.cs
  have := h.ends
  omega
def fSpots : List PyData → A → Prop := fun ds r => ∃ w : Wb, WbOk w ∧ ds = [encW w] ∧ r = .ml ((spotsW w).map encI2)
def fArc : List PyData → A → Prop := fun ds r => ∃ (w : Wb) (s : II), WbOk w ∧ FourW w ∧ s ∈ spotsW w ∧ ds = [encW w, encI2 s] ∧ r = .d (.int (arcAt w s))
def fTies : List PyData → A → Prop := fun ds r => ∃ w : Wb, WbOk w ∧ FourW w ∧ ds = [encW w] ∧ r = .mt (encS encI2 (tiesD w))
def fLater : List PyData → A → Prop := fun ds r => ∃ (w : Wb) (s : II), s ∈ spotsW w ∧ ds = [encW w, encI2 s] ∧ r = .d (encI2 (laterF w s))
def fTwins : List PyData → A → Prop := fun ds r => ∃ w : Wb, WbF w ∧ ds = [encW w] ∧ r = .mt (encS encI2 (twinsF w))
def fTwin : List PyData → A → Prop := fun ds r => ∃ (w : Wb) (s : II), WbF w ∧ s ∈ spotsW w ∧ ds = [encW w, encI2 s] ∧ r = .d (encI2 (tie w s))
def fBehind : List PyData → A → Prop := fun ds r => ∃ (w : Wb) (s : II), WbF w ∧ s ∈ spotsW w ∧ ds = [encW w, encI2 s] ∧ r = .d (encI2 (laterF w (tie w s)))
theorem src_vals {X : Cx} {ρ ρ1 : Rho} {tg e : Expr} {apos cpos : Pos} {w : Wb} (h : E X e ρ (.dl (encM (placesF w))) ρ1) (hbase : attributeBase e "values" X.env (eval e X.env) = eval e X.env := by rfl) (hline : (apos.endLine == cpos.line) = true := by rfl) :
    Src X tg (.Call (.Attribute e "values" apos) [] [] cpos) ρ ((valsP w).map fun l => PyData.list (l.map encI2)) ρ1 none := by
  refine Src.to ?_ (src_values (e_frzDl h) hbase hline)
  unfold valsP Th.encM
  rw [List.map_map, List.map_map, List.map_map]
  rfl
theorem vals_len {w : Wb} (h : WbOk w) : (valsP w).length ≤ 20000 := by
  have := webs_len h
  rw [← keysP_places] at this
  unfold keysP at this
  unfold valsP
  rw [List.length_map] at *
  exact this
theorem vals_two {w : Wb} (h : WbF w) {i : Nat} {v : List II} (e : (valsP w)[i]? = some v) : ∃ p, p ∈ spotsW w ∧ v = [p, tie w p] := by
  obtain ⟨q, hq, rfl⟩ := List.mem_map.mp (List.mem_of_getElem? e)
  obtain ⟨p, h1, h2⟩ := places_two h.four h.two (a := q.1) hq
  exact ⟨p, h1, h2⟩
theorem twS_len (D : List (II × II)) (v : List II) : (twStep D v).length ≤ D.length + 2 := by
  have := tw_len [v] D
  exact this
theorem encS_get {α : Type} {f : α → PyData} {m : List (II × α)} {s : II} {v : α} (h : getA m s = some v) : getK (encS f m) (spK s) = some (f v) := by
  rw [getK_encA spK_i, h]
  rfl
theorem encS_set2 {α : Type} {f : α → PyData} (m : List (II × α)) (s t : II) (v u : α) : setK (setK (encS f m) (spK s) (f v)) (spK t) (f u) = encS f (setA (setA m s v) t u) := by
  rw [setK_encA spK_i, setK_encA spK_i]
end Th

set_option Elab.async false
set_option linter.all false
set_option maxRecDepth 100000
namespace Th
open PySem PySem.Spec PyProof.Rows L2
/-! ### texts -/
section
variable {X : Cx} {ρ ρ1 ρ2 ρ3 : Rho} {e e1 e2 o : Expr} {pos pn apos : Pos} {a b : Str} {ys : List Str} {i : Int} {k : Option Nat}
/-- str(n) -/
theorem e_strI (h : E X e ρ (.d (.int i)) ρ1) (hz : i.natAbs.log2 < 1920) (hm : X.mg "str" = none) (hg : Gl X "str" := by rfl) (he : starEach [e] X.env = (false, eval e X.env) :: starEach [] X.env := by rfl) :
    E X (.Call (.Name "str" pn) [e] [] pos) ρ (.d (.str (toString i))) ρ1 :=
  .of (pe_callTy call_str_int hg hm (by decide +kernel) (pa_cons pe_w pa_nil he) (he := he)) fun σ HF H S1 Q q => h σ HF H S1 _ fun x HF1 H1 S2 f1 r1 => by
    cases r1
    exact ⟨i, rfl, hz, q _ HF1 H1 S2 f1 (.str _)⟩
/-- int(text) -/
theorem e_intS (h : E X e ρ (.d (.str a)) ρ1) (hn : PySem.intText? a = some i) (hl : a.length ≤ 640) (hm : X.mg "int" = none) (hg : Gl X "int" := by rfl) (he : starEach [e] X.env = (false, eval e X.env) :: starEach [] X.env := by rfl) :
    E X (.Call (.Name "int" pn) [e] [] pos) ρ (.d (.int i)) ρ1 :=
  .of (pe_callTy call_int_str hg hm (by decide +kernel) (pa_cons pe_w pa_nil he) (he := he)) fun σ HF H S1 Q q => h σ HF H S1 _ fun x HF1 H1 S2 f1 r1 => by
    cases r1
    exact ⟨a, i, rfl, hn, hl, q _ HF1 H1 S2 f1 (.int _)⟩
/-- len(text) -/
theorem e_lenS (h : E X e ρ (.d (.str a)) ρ1) (hz : a.length ≤ 16777216) (hm : X.mg "len" = none) (hg : Gl X "len" := by rfl) (he : starEach [e] X.env = (false, eval e X.env) :: starEach [] X.env := by rfl) :
    E X (.Call (.Name "len" pn) [e] [] pos) ρ (.d (.int a.length)) ρ1 :=
  .of (pe_callB call_len_str hg hm PySem.boot_len (pa_cons pe_w pa_nil he) (he := he)) fun σ HF H S1 Q q => h σ HF H S1 _ fun x HF1 H1 S2 f1 r1 => by
    cases r1
    exact ⟨a, rfl, by rw [sizeLine_eq]; exact hz, q _ HF1 H1 S2 f1 (.int _)⟩
/-- a + b -/
theorem e_addS (ha : E X e1 ρ (.d (.str a)) ρ1) (hb : E X e2 ρ1 (.d (.str b)) ρ2) (hz : a.length + b.length ≤ 16777216) : E X (.BinOp e1 .Add e2 pos) ρ (.d (.str (a ++ b))) ρ2 :=
  .of (pe_op op_add_str pe_w pe_w) (ev_op ha hb fun HF H x y Q hx hy _ q => by
    cases hx
    cases hy
    exact ⟨a, b, rfl, rfl, Nat.le_trans hz (by rw [sizeLine_eq]; exact Nat.le_refl _), q _ (.str _)⟩)
/-- text.split(b) -/
theorem e_splitS (ho : E X o ρ (.d (.str a)) ρ1) (he : E X e ρ1 (.d (.str b)) ρ2) (hb : (b.length == 0) = false) (hz : a.length ≤ 16777214) (hs : starEach [e] X.env = [(false, eval e X.env)] := by rfl) (hbase : attributeBase o "split" X.env (eval o X.env) = eval o X.env := by rfl) (hline : (apos.endLine == pos.line) = true := by rfl) :
    E X (.Call (.Attribute o "split" apos) [e] [] pos) ρ (.ml ((Txt.split a b).map PyData.str)) ρ2 :=
  .of (pe_split pe_w pe_w hs hbase hline) fun σ HF H S1 Q q => ho σ HF H S1 _ fun x HF1 H1 S2 f1 r1 => by
    cases r1
    refine ⟨⟨a, rfl⟩, he σ HF1 H1 S2 _ fun y HF2 H2 S3 f2 r2 => ?_⟩
    cases r2
    refine ⟨a, b, rfl, rfl, hb, by rw [sizeLine_eq]; omega, fun p hp => ?_⟩
    obtain ⟨S4, f4⟩ := S3.allocO hp (.lst ((Txt.split a b).map V.str))
    have f12 := f1.trans f2
    refine q _ _ _ S4 (f12.trans f4) ⟨p, _, rfl, f12.fresh hp, S3.hfNone hp, upd_same, ?_⟩
    have key : ∀ l : List Str, DpAll X.K HF2 (l.map V.str) (l.map PyData.str) := fun l => by
      induction l with
      | nil => exact .nil
      | cons z l ih => exact .cons (.str _) ih
    exact key _
/-- text.partition(b) -/
theorem e_partS (ho : E X o ρ (.d (.str a)) ρ1) (he : E X e ρ1 (.d (.str b)) ρ2) (hb : (b.length == 0) = false) (hz : a.length ≤ 16777216) (hs : starEach [e] X.env = [(false, eval e X.env)] := by rfl) (hbase : attributeBase o "partition" X.env (eval o X.env) = eval o X.env := by rfl) (hline : (apos.endLine == pos.line) = true := by rfl) :
    E X (.Call (.Attribute o "partition" apos) [e] [] pos) ρ (.d (.tuple [.str (Txt.partition a b).1, .str (Txt.partition a b).2.1, .str (Txt.partition a b).2.2])) ρ2 :=
  .of (pe_partition pe_w pe_w hs hbase hline) fun σ HF H S1 Q q => ho σ HF H S1 _ fun x HF1 H1 S2 f1 r1 => by
    cases r1
    refine ⟨⟨a, rfl⟩, he σ HF1 H1 S2 _ fun y HF2 H2 S3 f2 r2 => ?_⟩
    cases r2
    refine ⟨a, b, rfl, rfl, hb, by rw [sizeLine_eq]; omega, fun p hp => ?_⟩
    obtain ⟨S4, f4⟩ := S3.allocD hp (.tup [.str (Txt.partition a b).1, .str (Txt.partition a b).2.1, .str (Txt.partition a b).2.2])
    exact q _ _ _ S4 ((f1.trans f2).trans f4) (.tup (.inl (.inl upd_same)) (.cons (.str _) (.cons (.str _) (.cons (.str _) .nil))))
/-- b.join(words) -/
theorem e_joinS (ho : E X o ρ (.d (.str b)) ρ1) (he : EO X e ρ1 (.list (ys.map .str)) ρ2 k) (hz : (ys.map (·.length)).sum + ys.length * b.length ≤ 16777216) (hk : Kp k ρ2 ρ2 := by first | exact trivial | exact rfl) (hs : starEach [e] X.env = [(false, eval e X.env)] := by rfl) (hbase : attributeBase o "join" X.env (eval o X.env) = eval o X.env := by rfl) (hline : (apos.endLine == pos.line) = true := by rfl) :
    E X (.Call (.Attribute o "join" apos) [e] [] pos) ρ (.d (.str (Txt.join b ys))) ρ2 :=
  .of (pe_join pe_w pe_w hs hbase hline) fun σ HF H S1 Q q => ho σ HF H S1 _ fun x HF1 H1 S2 f1 r1 => by
    cases r1
    refine ⟨⟨b, rfl⟩, he σ HF1 H1 S2 _ fun y HF2 H2 S3 f2 r2 => ?_⟩
    obtain ⟨p, zs, rfl, h1, h2⟩ := r2 ρ2 HF2 H2 hk S3 (.refl ..)
    have key : ∀ {l : List Str} {vs : List V}, DpAll X.K HF2 vs (l.map PyData.str) → vs = l.map V.str := fun {l} => by
      induction l with
      | nil => intro vs h; cases h; rfl
      | cons z l ih =>
        intro vs h
        cases h with
        | cons h1 h2 => cases h1; rw [ih h2]; rfl
    have := key h2
    subst this
    exact ⟨b, p, ys, rfl, rfl, .inl h1, hz, q _ HF2 H2 S3 (f1.trans f2) (.str _)⟩
/-- text[i] -/
theorem e_ixS {c : Nat} (ha : E X e1 ρ (.d (.str a)) ρ1) (hb : E X e2 ρ1 (.d (.int i)) ρ2) (h0 : 0 ≤ i) (hi : i < a.length) (hz : a.length ≤ 16777216) (hc : a.cps[i.toNat]? = some c) (hs : PlainIxT e2 := by exact fun _ _ => rfl) : E X (.Subscript e1 e2 pos) ρ (.d (.str ⟨#[c]⟩)) ρ2 :=
  .of (pe_item_str pe_w pe_w hs) (ev_op ha hb fun HF H x y Q hx hy _ q => by
    cases hx
    cases hy
    exact ⟨a, i, c, rfl, rfl, h0, by omega, hi, hc, q _ (.str _)⟩)
/-- text[l:h] -/
theorem e_slS {lo hi : Option Expr} {l h : Option Int} {p2 : Pos} (ha : E X e ρ (.d (.str a)) ρ1) (hl : EP X lo ρ1 l ρ2) (hh : EP X hi ρ2 h ρ3) (hz : a.length ≤ 16777216) : E X (.Subscript e (.Slice lo hi none p2) pos) ρ (.d (.str (cutS a l h))) ρ3 :=
  .of (pe_slice sl_str pe_w po_w po_w) fun σ HF H S Q q => ha σ HF H S _ fun x HF1 H1 S1 f1 r1 => hl σ HF1 H1 S1 _ fun HF2 H2 S2 f2 => hh σ HF2 H2 S2 _ fun HF3 H3 S3 f3 => by
    cases r1
    exact ⟨a, rfl, by rw [sizeLine_eq]; exact hz, q _ HF3 H3 S3 (f1.trans (f2.trans f3)) (.str _)⟩
end
section
variable {X : Cx} {ρ ρ1 ρ2 : Rho} {e1 e2 : Expr} {pos : Pos} {a b : Str}
/-- a in b, a one sign: by looking at b's signs -/
theorem e_inS (ha : E X e1 ρ (.d (.str a)) ρ1) (hb : E X e2 ρ1 (.d (.str b)) ρ2) (hm : behindInMarks .In e2 = false := by rfl) : ET X (.Compare e1 [.In] [e2] pos) ρ (!(Builtin.Str.occurrences b a 0 b.length 1).isEmpty) ρ2 :=
  t_cmp op_in_str (ev_op ha hb fun HF H x y Q hx hy _ q => by
    cases hx
    cases hy
    exact ⟨a, b, rfl, rfl, q _ (.bl _)⟩) hm
end
section
variable {X : Cx} {ρ ρ1 ρ2 : Rho} {e1 e2 e3 tg iter : Expr} {pos : Pos} {l : List Nat}
/-- a <= b <= c -/
theorem t_chII {i j l : Int} (ha : E X e1 ρ (.d (.int i)) ρ1) (hb : E X e2 ρ1 (.d (.int j)) ρ2) (hc : E X e3 ρ2 (.d (.int l)) ρ2) (hm : lastMarks [.LtE, .LtE] [e2, e3] = false := by with_unfolding_all rfl) : ET X (.Compare e1 [.LtE, .LtE] [e2, e3] pos) ρ (decide (i ≤ j) && decide (j ≤ l)) ρ2 :=
  .of (pt_chain op_le op_le pe_w pe_w pe_w hm) fun σ HF H S1 Q q => ha σ HF H S1 _ fun x HF1 H1 S2 f1 r1 => hb σ HF1 H1 S2 _ fun y HF2 H2 S3 f2 r2 => by
    cases r1
    cases r2
    refine ⟨i, j, rfl, rfl, decide (i ≤ j), rfl, ?_⟩
    by_cases h : i ≤ j
    · rw [if_pos (decide_eq_true h), decide_eq_true h, Bool.true_and] at *
      refine hc σ HF2 H2 S3 _ fun z HF3 H3 S4 f3 r3 => ?_
      cases r3
      exact ⟨j, l, rfl, rfl, _, rfl, q HF3 H3 S4 ((f1.trans f2).trans f3)⟩
    · rw [if_neg (by rw [decide_eq_false h]; exact Bool.false_ne_true), decide_eq_false h, Bool.false_and] at *
      exact ⟨_, rfl, q HF2 H2 S3 (f1.trans f2)⟩
/-- for c in text -/
theorem src_str (h : E X iter ρ (.d (.str ⟨l.toArray⟩)) ρ1) : Src X tg iter ρ (l.map fun c => PyData.str ⟨#[c]⟩) ρ1 none := ⟨_, pi_str pe_w, fun σ HF H S1 R q => h σ HF H S1 _ fun x HF1 H1 S2 f1 r1 => by
  cases (show Dp X.K HF1 x (.str ⟨l.toArray⟩) from r1)
  refine ⟨⟨l.toArray⟩, rfl, q _ HF1 H1 S2 f1 fun σ2 ρ2 HF2 H2 _ _ S3 s3 => ⟨fun i hi => ?_, ?_, fun i x H3 hi ⟨e, c, hc, ex⟩ => ?_⟩⟩
  · show i < l.toArray.size
    rw [List.length_map] at hi
    simpa using hi
  · show l.toArray.size ≤ (l.map fun c => PyData.str ⟨#[c]⟩).length
    rw [List.length_map]
    simp
  · have hc : l.toArray[i]? = some c := hc
    have hc : l[i]? = some c := by simpa using hc
    exact ⟨.str ⟨#[c]⟩, by rw [List.getElem?_map, hc]; rfl, .inl ⟨e, by rw [ex]; exact .str _⟩⟩⟩
/-- c in text, one sign -/
theorem e_in1 {c : Nat} {b : Str} (ha : E X e1 ρ (.d (.str ⟨#[c]⟩)) ρ1) (hb : E X e2 ρ1 (.d (.str b)) ρ2) (hm : behindInMarks .In e2 = false := by rfl) : E X (.Compare e1 [.In] [e2] pos) ρ (.d (.bool (decide (c ∈ b.cps.toList)))) ρ2 :=
  .of (pe_cmpR op_in_str pe_w pe_w hm) (ev_op ha hb fun HF H x y Q hx hy _ q => by
    cases hx
    cases hy
    rw [← PySem.StrLaws.found_one] at q
    exact ⟨_, _, rfl, rfl, q _ (.bl _)⟩)
end
section
open L2
variable {X : Cx} {ρ ρ1 : Rho} {e1 : Expr} {pos px : Pos} {c x : Str} {d : Addr} {es : Array DictEntry} {n : Nat} {r : Option Value}
/-- c not in D, D a dict of the module with text keys -/
theorem t_ninKd (D : KDict X.K X.w d es n) (hg : X.mg x = some (.ref d)) (ha : E X e1 ρ (.d (.str c)) ρ1) (hr : PySem.W.nsIn X.K d c = some r) (hgl : Gl X x := by rfl) (hdx : (x == ("__debug__" : Str)) = false := by decide) (hm : behindInMarks .NotIn (.Name x px) = false := by rfl) :
    ET X (.Compare e1 [.NotIn] [.Name x px] pos) ρ (!r.isSome) ρ1 :=
  t_cmp (op_notIn_kd D) (fun σ HF H S Q q => ha σ HF H S _ fun x1 HF1 H1 S1 f1 r1 => by
    cases r1
    exact ⟨_, pe_glob (v := .ref d) hgl hg rfl hdx, c, r, rfl, rfl, hr, q _ HF1 H1 S1 f1 (.bl _)⟩) hm
/-- D[c], a whole number -/
theorem e_ixKd {i : Int} {t : Tok} (D : KDict X.K X.w d es n) (hg : X.mg x = some (.ref d)) (ha : E X e1 ρ (.d (.str c)) ρ1) (hr : PySem.W.nsIn X.K d c = some (some (.int i t))) (hgl : Gl X x := by rfl) (hdx : (x == ("__debug__" : Str)) = false := by decide) (hp : PlainIx e1 := by exact fun _ _ => rfl) :
    E X (.Subscript (.Name x px) e1 pos) ρ (.d (.int i)) ρ1 :=
  .of (pe_ix ix_kdict (pe_glob (v := .ref d) hgl hg rfl hdx) pe_w hp) fun σ HF H S Q q => ha σ HF H S _ fun x1 HF1 H1 S1 f1 r1 => by
    cases r1
    exact ⟨d, c, .int i, rfl, rfl, ⟨es, n, .int i t, D.at_, D.lit, hr, ⟨_, rfl⟩⟩, q _ HF1 H1 S1 f1 (.int _)⟩
end
end Th

set_option Elab.async false
set_option linter.all false
set_option maxRecDepth 100000
namespace Th
open PySem PySem.Spec PyProof.Rows L2 TL
/-! ### polynomials as texts, by their signs (32 blank, 43 +, 45 -, 94 ^, 120 x) -/
def mkS (l : List Nat) : Str := ⟨l.toArray⟩
theorem tl_mkS (l : List Nat) : tl (mkS l) = l := tl_mk l
theorem mkS_tl (x : Str) : mkS (tl x) = x := mk_tl x
theorem mkS_app (a b : List Nat) : mkS a ++ mkS b = mkS (a ++ b) := ext_tl (by rw [tl_append, tl_mkS, tl_mkS, tl_mkS])
theorem mkS_len (l : List Nat) : (mkS l).length = l.length := by rw [len_tl, tl_mkS]
theorem mkS_inj {a b : List Nat} (h : mkS a = mkS b) : a = b := by rw [← tl_mkS a, h, tl_mkS]
def intL (p : Int) : List Nat := if p < 0 then 45 :: numL p.natAbs else numL p.natAbs
theorem tl_int (p : Int) : tl (Str.ofString (toString p)) = intL p := by
  unfold intL
  cases p with
  | ofNat n =>
    rw [if_neg (show ¬ Int.ofNat n < 0 from Int.not_lt.mpr (Int.natCast_nonneg n))]
    exact tl_num n
  | negSucc n =>
    rw [if_pos (Int.negSucc_lt_zero n)]
    have e : toString (Int.negSucc n) = "-" ++ toString (n + 1) := rfl
    have h := tl_num (n + 1)
    have e2 : toString ((n + 1 : Nat) : Int) = toString (n + 1) := rfl
    rw [e2, tl_ofString] at h
    rw [e, tl_ofString, String.toList_append, List.map_append, h]
    rfl
theorem str_int (p : Int) : (Str.ofString (toString p)) = mkS (intL p) := by rw [← tl_int, mkS_tl]
def headL (p n : Int) : List Nat := if p ≠ 0 ∧ n.natAbs = 1 then [] else numL n.natAbs
def powL (p : Int) : List Nat := if p = 1 then [] else 94 :: intL p
def bodyL (p n : Int) : List Nat := headL p n ++ if p = 0 then [] else 120 :: powL p
def sgL (n : Int) : Nat := if n < 0 then 45 else 43
theorem intL_free {p : Int} {s : Nat} (h : s ≠ 45) (h2 : s < 48 ∨ 57 < s) : s ∉ intL p := by
  unfold intL
  split
  · intro z
    rcases List.mem_cons.mp z with z | z
    · exact h z
    · exact numL_free h2 z
  · exact numL_free h2
theorem headL_free {p n : Int} {s : Nat} (h2 : s < 48 ∨ 57 < s) : s ∉ headL p n := by
  unfold headL
  split
  · exact fun z => nomatch z
  · exact numL_free h2
theorem bodyL_free {p n : Int} {s : Nat} (h : s ≠ 45) (h1 : s ≠ 120) (h3 : s ≠ 94) (h2 : s < 48 ∨ 57 < s) : s ∉ bodyL p n := by
  unfold bodyL
  intro z
  rcases List.mem_append.mp z with z | z
  · exact headL_free h2 z
  · split at z
    · cases z
    · rcases List.mem_cons.mp z with z | z
      · exact h1 z
      · unfold powL at z
        split at z
        · cases z
        · rcases List.mem_cons.mp z with z | z
          · exact h3 z
          · exact intL_free h h2 z
def restL (l : List Tm) : List Nat := l.flatMap fun t => 32 :: sgL t.2 :: 32 :: bodyL t.1 t.2
def shownL : List Tm → List Nat
  | [] => [48]
  | t :: l => (if t.2 < 0 then [45] else []) ++ bodyL t.1 t.2 ++ restL l
def wordsL : List Tm → List (List Nat)
  | [] => []
  | t :: l => bodyL t.1 t.2 :: l.flatMap fun t => [[sgL t.2], bodyL t.1 t.2]
theorem join_rest : ∀ (l : List Tm) (w : List Nat), joinL [32] (w :: l.flatMap fun t => [[sgL t.2], bodyL t.1 t.2]) = w ++ restL l
  | [], w => by
    show w = w ++ []
    rw [List.append_nil]
  | t :: l, w => by
    have ih := join_rest l (bodyL t.1 t.2)
    show joinL [32] (w :: [sgL t.2] :: bodyL t.1 t.2 :: l.flatMap fun t => [[sgL t.2], bodyL t.1 t.2]) = w ++ (32 :: sgL t.2 :: 32 :: bodyL t.1 t.2 ++ restL l)
    have e : ∀ (a b : List Nat) (r : List (List Nat)), joinL [32] (a :: b :: r) = a ++ ([32] ++ joinL [32] (b :: r)) := fun a b r => by
      first | rfl | simp [joinL]
    rw [e, e, ih]
    simp
theorem map_tl (ps : List (List Nat)) : (ps.map mkS).map tl = ps := by
  rw [List.map_map]
  have : tl ∘ mkS = id := funext tl_mkS
  rw [this, List.map_id]
theorem words_free (t : Tm) (l : List Tm) : ∀ w ∈ wordsL (t :: l), 32 ∉ w := fun w hw => by
  have hb : ∀ p n : Int, 32 ∉ bodyL p n := fun p n => bodyL_free (by decide) (by decide) (by decide) (.inl (by decide))
  rcases List.mem_cons.mp hw with rfl | hw
  · exact hb _ _
  · obtain ⟨u, _, hu⟩ := List.mem_flatMap.mp hw
    rcases List.mem_cons.mp hu with rfl | hu
    · intro z
      rw [List.mem_singleton] at z
      unfold sgL at z
      split at z <;> cases z
    · rw [List.mem_singleton] at hu
      rw [hu]
      exact hb _ _
theorem words_join (t : Tm) (l : List Tm) : Txt.join (mkS [32]) ((wordsL (t :: l)).map mkS) = mkS (bodyL t.1 t.2 ++ restL l) := by
  refine ext_tl ?_
  rw [join_eq, tl_join, map_tl, tl_mkS, tl_mkS]
  exact join_rest l _
theorem words_split (t : Tm) (l : List Tm) : Txt.split (mkS (bodyL t.1 t.2 ++ restL l)) (mkS [32]) = (wordsL (t :: l)).map mkS := by
  rw [← words_join]
  refine split_join (tl_mkS [32]) (by simp [mkS]) (fun e => nomatch (List.map_eq_nil_iff.mp e)) fun p hp => ?_
  obtain ⟨w, hw, rfl⟩ := List.mem_map.mp hp
  rw [tl_mkS]
  exact words_free t l w hw
theorem part_zero (n : Int) : Txt.partition (mkS (bodyL 0 n)) (mkS [120]) = (mkS (numL n.natAbs), Str.empty, Str.empty) := by
  have e : bodyL 0 n = numL n.natAbs := by
    unfold bodyL headL
    rw [if_neg (by rintro ⟨h, _⟩; exact h rfl), if_pos rfl, List.append_nil]
  rw [e]
  exact partition_none (tl_mkS [120]) (by rw [tl_mkS]; exact numL_free (.inr (by decide)))
theorem part_pow {p : Int} (n : Int) (h : p ≠ 0) : Txt.partition (mkS (bodyL p n)) (mkS [120]) = (mkS (headL p n), mkS [120], mkS (powL p)) := by
  have e : mkS (bodyL p n) = mkS (headL p n) ++ mkS [120] ++ mkS (powL p) := by
    rw [mkS_app, mkS_app]
    unfold bodyL
    rw [if_neg h, List.append_assoc]
    rfl
  rw [e]
  exact partition_app (tl_mkS [120]) (by rw [tl_mkS]; exact headL_free (.inr (by decide)))
theorem num_text {n : Nat} (h : n < 10 ^ 60) : PySem.intText? (mkS (numL n)) = some (n : Int) ∧ (numL n).length ≤ 60 ∧ 1 ≤ (numL n).length := by
  have hl := numL_len (n := n) (k := 60) (by decide) h
  refine ⟨?_, hl, ?_⟩
  · rw [← tl_num, mkS_tl]
    exact int_num (Nat.le_trans hl (by decide))
  · have := numL_ne n
    cases e : numL n with
    | nil => exact absurd e this
    | cons c r => exact Nat.le_add_left ..
end Th

set_option Elab.async false
set_option linter.all false
set_option maxRecDepth 100000
namespace Th
open PySem PySem.Spec PyProof.Rows L2 TL RT RZ
/-! ### xs[lo::c], zip of two lists -/
def pickL {α : Type} (xs : List α) (lo : Option Int) (c : Int) : List α := (sliceRange (sliceBounds lo none (some c) xs.length).1 (sliceBounds lo none (some c) xs.length).2.1 c).filterMap (xs[·]?)
theorem vals_pick {xs : List V} {us : List Value} (r : Vals xs us) : ∀ is : List Nat, Vals (is.filterMap (xs[·]?)) (is.filterMap (us[·]?))
  | [] => .nil
  | i :: is => by
    have ih := vals_pick r is
    have hl := r.length
    rw [List.filterMap_cons, List.filterMap_cons]
    by_cases h : i < xs.length
    · obtain ⟨u, hu, ru⟩ := r.get (List.getElem?_eq_getElem h)
      rw [List.getElem?_eq_getElem h, hu]
      exact .cons ru ih
    · rw [List.getElem?_eq_none (by omega), List.getElem?_eq_none (by omega)]
      exact ih
theorem dpa_pick {K : PySem.W.Frag} {H : Hp} {vs : List V} {ds : List PyData} (r : DpAll K H vs ds) : ∀ is : List Nat, DpAll K H (is.filterMap (vs[·]?)) (is.filterMap (ds[·]?))
  | [] => .nil
  | i :: is => by
    have ih := dpa_pick r is
    have hl := dpa_len r
    rw [List.filterMap_cons, List.filterMap_cons]
    by_cases h : i < ds.length
    · obtain ⟨u, hu, ru⟩ := dpa_get r (List.getElem?_eq_getElem h)
      rw [List.getElem?_eq_getElem h, hu]
      exact .cons ru ih
    · rw [List.getElem?_eq_none (by omega), List.getElem?_eq_none (by omega)]
      exact ih
def tStepL (K : PySem.W.Frag) (te : TE) (tl : TO) (c : Int) : TE := fun σ H Q => te σ H fun x H1 => tl σ H1 fun o H2 => ∃ a xs, x = .ref a ∧ SqL K H2 a xs ∧ ∀ p, H2 p = none → Q (.ref p) (upd H2 p (.lst (pickL xs o c)))
theorem pe_stepL {X : Cx} {te : TE} {tl : TO} {lo : Option Expr} {e : Expr} {k : Nat} {c : Int} {p1 p3 pos : Pos} (he : PE X e te) (hl : PO X lo tl) (hc : 0 < c) : PE X (.Subscript e (.Slice lo none (some (.Constant (.int c) k p1)) p3) pos) (tStepL X.K te tl c) := by
  refine ⟨fun pins s σ H Q I h => ?_⟩
  refine Subscript_ (thn (he.run pins s σ H _ I h) fun v s1 ⟨x, H1, I1, r1, q1⟩ => ?_)
  refine wpAny_Slice (thn (hl.run pins s1 σ H1 _ I1 q1) fun vl s2 ⟨l, H2, I2, pl, q2⟩ => ?_)
  obtain ⟨a, xs, ex, hx, q⟩ := q2
  subst ex
  cases r1
  have hst : PO X (some (.Constant (.int c) k p1)) (tPart (tC (.int c))) := po_some pe_int
  refine thn (po_none.run pins s2 σ H2 (fun o H3 => o = none ∧ H3 = H2) I2 ⟨rfl, rfl⟩) fun vu s3 ⟨u, H3, I3, pu, eu, e3⟩ => ?_
  subst eu e3
  refine thn (hst.run pins s3 σ H3 (fun o H4 => o = some c ∧ H4 = H3) I3 ⟨c, rfl, rfl, rfl⟩) fun vs s4 ⟨o, H4, I4, ps, eo, e4⟩ => ?_
  subst eo e4
  have I5 : Inv X pins σ H4 { s4 with heap := s4.heap.push { cls := .type "slice", data := .fields #[vl, vu, vs] } } := I4.kept (t' := s4.toks) fun b ob q => Heap.get?_push_of_some _ q
  obtain ⟨its, r, ht, hz⟩ := I5.list hx
  have hlen := r.length
  show wpAny (model X.prog X.w) X.A (subscriptTail e (.Slice lo none (some (.Constant (.int c) k p1)) p3) (.ref a) (.ref s4.heap.objs.size)) (L2.EP X pins σ Q) X.xe { s4 with heap := s4.heap.push { cls := .type "slice", data := .fields #[vl, vu, vs] } }
  refine tail_any (ops := [.ref a, .ref s4.heap.objs.size]) ht.isList.typeIs (PySem.slot_list_getitem.lookup) ?_ (by with_unfolding_all rfl)
  have hsz : (slicePick its.toArray l none (some c)).size ≤ its.toArray.size := slicePick_size_le its.toArray l none (some c)
  refine wpAny_getItem_list_slice ht.isList (Heap.IsSliceOf.new _ vl vu vs) pl pu ps (fun z => by injection z with z; omega) ?_ (by rw [List.size_toArray]; omega)
  have e : slicePick its.toArray l none (some c) = ((sliceRange (sliceBounds l none (some c) xs.length).1 (sliceBounds l none (some c) xs.length).2.1 c).filterMap (its[·]?)).toArray := by
    unfold slicePick
    rw [List.size_toArray, ← hlen]
    simp
    rfl
  rw [e] at hsz ⊢
  have rp := vals_pick r (sliceRange (sliceBounds l none (some c) xs.length).1 (sliceBounds l none (some c) xs.length).2.1 c)
  have hlp := rp.length
  refine ⟨.ref _, _, I5.laid (t' := s4.toks) (o := .lst (pickL xs l c)) (fun b ob q => Heap.get?_push_of_some _ q) (Nat.le_refl _) ?_, rfl, q _ (I5.hok.fresh (Nat.le_refl _))⟩
  refine ⟨?_, _, 0, rp, Heap.get?_push_size _ rfl⟩
  rw [List.size_toArray, List.size_toArray] at hsz
  unfold pickL
  omega
section
variable {X : Cx} {ρ ρ1 ρ2 : Rho} {e e1 e2 : Expr} {pos : Pos} {ds xs ys : List PyData} {k : Option Nat}
/-- xs[lo::c] -/
theorem e_stepL {j : Nat} {p1 p3 : Pos} {lo : Option Expr} {l : Option Int} {c : Int} (h : EO X e ρ (.list ds) ρ1 k) (hl : EP X lo ρ1 l ρ2) (hk : Kp k ρ1 ρ2 := by first | exact trivial | exact rfl) (hc : 0 < c := by decide) : E X (.Subscript e (.Slice lo none (some (.Constant (.int c) j p1)) p3) pos) ρ (.ml (pickL ds l c)) ρ2 := .of (pe_stepL pe_w po_w hc) fun σ HF H S1 Q q => h σ HF H S1 _ fun x HF1 H1 S2 f1 r1 => hl σ HF1 H1 S2 _ fun HF2 H2 S3 f2 => by
  obtain ⟨p, ys, rfl, h1, h2⟩ := r1 ρ2 HF2 H2 hk S3 f2
  refine ⟨p, ys, rfl, h1, fun r hr => ?_⟩
  obtain ⟨S4, f4⟩ := S3.allocO hr (.lst (pickL ys l c))
  refine q _ _ _ S4 ((f1.trans f2).trans f4) ⟨r, _, rfl, (f1.trans f2).fresh hr, S3.hfNone hr, upd_same, ?_⟩
  have e : pickL ys l c = ((sliceRange (sliceBounds l none (some c) ds.length).1 (sliceBounds l none (some c) ds.length).2.1 c).filterMap (ys[·]?)) := by
    unfold pickL
    rw [dpa_len h2]
  rw [e]
  exact dpa_pick h2 _
theorem srcAt_zl {K : PySem.W.Frag} {HF H : Hp} {p q : Addr} {vs ws : List V} (s : Same HF H) (h1 : SqL K H p vs) (g1 : SqL K H q ws) (h2 : DpAll K HF vs xs) (g2 : DpAll K HF ws ys) : SrcAt K (Itz K p q) (zipD xs ys) HF H := by
  have l1 := dpa_len h2
  have l2 := dpa_len g2
  refine ⟨fun i hi => ?_, ⟨vs, ws, h1, g1, ?_⟩, fun i x H2 hi ⟨T, v, w, e1, e2, e3, y1, y2⟩ => ?_⟩
  · rw [zipD_len] at hi
    obtain ⟨v, e1, _⟩ := dpa_get h2 (List.getElem?_eq_getElem (show i < xs.length by omega))
    obtain ⟨w, e2, _⟩ := dpa_get g2 (List.getElem?_eq_getElem (show i < ys.length by omega))
    exact ⟨vs, ws, v, w, h1, g1, e1, e2⟩
  · rw [zipD_len]
    omega
  · obtain ⟨a, a1, a2⟩ := dpa_get' h2 (y1 vs h1)
    obtain ⟨b, b1, b2⟩ := dpa_get' g2 (y2 ws g1)
    exact ⟨_, zipD_get a1 b1, .inr ⟨T, _, _, e2, e3, e1, rfl, .cons a2 (.cons b2 .nil)⟩⟩
/-- zip(xs, ys), two lists as data -/
theorem src_zipL {p : Pos} {elts : List Expr} {kk : Nat} {tpos : Pos} (h : E X e1 ρ (.d (.list xs)) ρ1) (h2 : E X e2 ρ1 (.d (.list ys)) ρ2) (hm : X.mg "zip" = none) (hg : Gl X "zip" := by rfl) (hs : starEach [e1, e2] X.env = (false, eval e1 X.env) :: starEach [e2] X.env := by rfl)
    (hs2 : starEach [e2] X.env = (false, eval e2 X.env) :: starEach [] X.env := by rfl) (hpl : (backTo pos (starEach [e2] X.env)).any (·.1) = false := by rfl) : Src X (.Tuple elts kk tpos) (.Call (.Name "zip" p) [e1, e2] [] pos) ρ (zipD xs ys) ρ2 none :=
  ⟨_, pi_zipA hg hm (pa_cons pe_w (pa_cons pe_w pa_nil hs2) hs) hs hpl, fun σ HF H S1 R q => h σ HF H S1 _ fun x HF1 H1 S2 f1 r1 => h2 σ HF1 H1 S2 _ fun y HF2 H2 S3 f2 r2 => by
  cases (show Dp X.K HF1 x (.list xs) from r1) with
  | @lst p vs _ a1 a2 =>
    cases (show Dp X.K HF2 y (.list ys) from r2) with
    | @lst p2 ws _ b1 b2 =>
      exact ⟨p, p2, vs, ws, rfl, .inl ⟨same_l S3.sub (same_l f2.hf a1), same_l S3.sub b1, q _ HF2 H2 S3 (f1.trans f2) fun σ2 ρ2 HF3 H3 _ _ S4 s4 =>
        srcAt_zl S4.sub (same_l S4.sub (same_l s4 (same_l f2.hf a1))) (same_l S4.sub (same_l s4 b1)) (dpa_mono s4 (dpa_mono f2.hf a2)) (dpa_mono s4 b2)⟩⟩⟩
end
/-- every other one of a row a, b, a, b .. -/
theorem pick_even {α : Type} {xs : List α} {n : Nat} (h : xs.length = 2 * n) : pickL xs none 2 = (List.range n).filterMap fun i => xs[2 * i]? := by
  unfold pickL
  have e1 : sliceBounds none none (some 2) xs.length = (0, (xs.length : Int), 2) := rfl
  rw [e1]
  have e2 : sliceRange 0 (xs.length : Int) 2 = (List.range n).map fun i => 2 * i := by
    unfold sliceRange
    rw [h]
    by_cases h0 : n = 0
    · subst h0
      rfl
    have hz : (if (2 : Int) > 0 then (if (0 : Int) < ((2 * n : Nat) : Int) then (((2 * n : Nat) : Int) - 0 + 2 - 1) / 2 else 0) else (if (0 : Int) > ((2 * n : Nat) : Int) then (0 - ((2 * n : Nat) : Int) - 2 - 1) / (-2) else 0)).toNat = n := by
      rw [if_pos (by decide), if_pos (by omega)]
      omega
    show (List.range _).map _ = _
    rw [hz]
    refine List.map_congr_left fun i _ => ?_
    omega
  rw [e2, List.filterMap_map]
  rfl
theorem pick_odd {α : Type} {xs : List α} {n : Nat} (h : xs.length = 2 * n) : pickL xs (some 1) 2 = (List.range n).filterMap fun i => xs[2 * i + 1]? := by
  unfold pickL
  have e1 : sliceBounds (some 1) none (some 2) xs.length = (max 0 (min 1 (xs.length : Int)), (xs.length : Int), 2) := rfl
  rw [e1]
  have e2 : sliceRange (max 0 (min 1 (xs.length : Int))) (xs.length : Int) 2 = (List.range n).map fun i => 2 * i + 1 := by
    unfold sliceRange
    rw [h]
    by_cases h0 : n = 0
    · subst h0
      rfl
    have hm : max 0 (min 1 (((2 * n : Nat) : Int))) = 1 := by omega
    rw [hm]
    have hz : (if (2 : Int) > 0 then (if (1 : Int) < ((2 * n : Nat) : Int) then (((2 * n : Nat) : Int) - 1 + 2 - 1) / 2 else 0) else (if (1 : Int) > ((2 * n : Nat) : Int) then (1 - ((2 * n : Nat) : Int) - 2 - 1) / (-2) else 0)).toNat = n := by
      rw [if_pos (by decide), if_pos (by omega)]
      omega
    show (List.range _).map _ = _
    rw [hz]
    refine List.map_congr_left fun i _ => ?_
    omega
  rw [e2, List.filterMap_map]
  rfl
end Th

set_option Elab.async false
set_option linter.all false
set_option maxRecDepth 100000
namespace Th
open PySem PySem.Spec PyProof.Rows L2 TL
/-! ### texts of plain signs -/
abbrev eS (w : List Nat) : PyData := .str (mkS w)
def Asc (l : List Nat) : Prop := ∀ c ∈ l, c < 128
theorem asc_num (n : Nat) : Asc (numL n) := fun c hc => by
  have := numL_digits n c hc
  omega
theorem asc_app {a b : List Nat} (h : Asc a) (g : Asc b) : Asc (a ++ b) := fun c hc => (List.mem_append.mp hc).elim (h c) (g c)
theorem asc_cons {x : Nat} {a : List Nat} (hx : x < 128) (h : Asc a) : Asc (x :: a) := fun c hc => (List.mem_cons.mp hc).elim (fun e => by rw [e]; exact hx) (h c)
theorem asc_nil : Asc [] := fun _ z => nomatch z
theorem asc_str {l : List Nat} (h : Asc l) : PyData.strOk (mkS l) = true := by
  show (mkS l).cps.all (· < 0x110000) = true
  unfold mkS
  simp only [List.all_toArray, List.all_eq_true, decide_eq_true_iff]
  intro c hc
  have := h c hc
  omega
theorem asc_ok {l : List Nat} (h : Asc l) : SeqAt.shaped (.str (mkS l)) = true := (fit_str (n := 0) (asc_str h)).shaped
theorem eqv_str (a b : List Nat) : PyData.eqv (.str (mkS a)) (.str (mkS b)) = decide (a = b) := by
  rw [eqE_str (mkS a) (mkS b)]
  rw [Bool.eq_iff_iff, decide_eq_true_iff, decide_eq_true_iff]
  exact ⟨fun h => mkS_inj h, fun h => by rw [h]⟩
theorem eqE_eS : EqE eS := fun a b => eqv_str a b
theorem fitW {W : List (List Nat)} (h : ∀ w ∈ W, Asc w) : SeqAt.shaped (.list (W.map eS)) = true := (fit_lm (n := 0) fun w hw => fit_str (asc_str (h w hw))).shaped
theorem natS_eq (n : Nat) : (Str.ofString (toString (n : Int))) = mkS (numL n) := by rw [← tl_num, mkS_tl]
theorem numL_head (n : Nat) : ∃ c r, numL n = c :: r ∧ (c = 48 → n = 0 ∧ r = []) := by
  induction n using Nat.strongRecOn with
  | _ n ih =>
    by_cases h : n < 10
    · exact ⟨48 + n, [], numL_lt h, fun z => ⟨by omega, rfl⟩⟩
    · obtain ⟨c, r, e, z⟩ := ih (n / 10) (by omega)
      refine ⟨c, r ++ [48 + n % 10], by rw [numL_step (by omega), e]; rfl, fun q => ?_⟩
      have := (z q).1
      omega
theorem str_i {a : Int} (h : 0 ≤ a) : (Str.ofString (toString a)) = mkS (numL a.natAbs) := by
  rw [str_int]
  unfold intL
  rw [if_neg (by omega)]
theorem lg9 {a : Int} (h0 : 0 ≤ a) (h : a < 10 ^ 9) : a.natAbs.log2 < 1920 := by
  by_cases h1 : a.natAbs = 0
  · rw [h1]
    decide
  · have : a.natAbs < 2 ^ 64 := by omega
    have := (Nat.log2_lt h1).mpr this
    omega
/-! ### words of webs -/
def wX : List Nat := [120]
def wEe : List Nat := [101]
def wO : List Nat := [111]
def numI (a : Int) : List Nat := numL a.natAbs
def csWs (cs : List (List Int)) : List (List Nat) := cs.flatMap fun c => wX :: c.map numI
def esWs (es : List Int) : List (List Nat) := if es = [] then [] else wEe :: es.map numI
def rsWs (r : Int) : List (List Nat) := if 0 < r then [wO, numI r] else []
def webWs (w : Wb) : List (List Nat) := csWs w.cs ++ esWs w.ends ++ rsWs w.rings
def textL (W : List (List Nat)) : List Nat := joinL [32] W
theorem join_text (W : List (List Nat)) : Txt.join (" " : Str) (W.map mkS) = mkS (textL W) := by
  refine ext_tl ?_
  rw [join_eq, tl_join, map_tl, tl_mkS]
  rfl
theorem numI_free (a : Int) : 32 ∉ numI a := numL_free (.inl (by decide))
theorem free_1 {x : Nat} (h : x ≠ 32) : 32 ∉ ([x] : List Nat) := fun z => h (List.mem_singleton.mp z).symm
theorem webWs_free (w : Wb) : ∀ p ∈ webWs w, 32 ∉ p ∧ p ≠ [] ∧ Asc p := fun p hp => by
  have hn : ∀ a : Int, 32 ∉ numI a ∧ numI a ≠ [] ∧ Asc (numI a) := fun a => ⟨numI_free a, numL_ne _, asc_num _⟩
  have h1 : ∀ x : Nat, x ≠ 32 → x < 128 → 32 ∉ ([x] : List Nat) ∧ ([x] : List Nat) ≠ [] ∧ Asc [x] := fun x h h2 => ⟨free_1 h, (fun z => nomatch z), asc_cons h2 asc_nil⟩
  unfold webWs at hp
  rcases List.mem_append.mp hp with hp | hp
  · rcases List.mem_append.mp hp with hp | hp
    · obtain ⟨c, _, hp⟩ := List.mem_flatMap.mp hp
      rcases List.mem_cons.mp hp with rfl | hp
      · exact h1 _ (by decide) (by decide)
      · obtain ⟨a, _, rfl⟩ := List.mem_map.mp hp
        exact hn a
    · unfold esWs at hp
      split at hp
      · cases hp
      · rcases List.mem_cons.mp hp with rfl | hp
        · exact h1 _ (by decide) (by decide)
        · obtain ⟨a, _, rfl⟩ := List.mem_map.mp hp
          exact hn a
  · unfold rsWs at hp
    split at hp
    · rcases List.mem_cons.mp hp with rfl | hp
      · exact h1 _ (by decide) (by decide)
      · rw [List.mem_singleton.mp hp]
        exact hn _
    · cases hp
theorem split_text {W : List (List Nat)} (hne : W ≠ []) (h : ∀ p ∈ W, 32 ∉ p) : Txt.split (mkS (textL W)) (" " : Str) = W.map mkS := by
  rw [← join_text]
  refine split_join (y := (" " : Str)) (tl_mkS [32]) (by decide +kernel) (fun e => hne (List.map_eq_nil_iff.mp e)) fun p hp => ?_
  obtain ⟨w, hw, rfl⟩ := List.mem_map.mp hp
  rw [tl_mkS]
  exact h w hw
theorem text_nil {W : List (List Nat)} (h : ∀ p ∈ W, p ≠ []) : textL W = [] ↔ W = [] := by
  constructor
  · intro e
    match W, h, e with
    | [], _, _ => rfl
    | [a], h, e => exact absurd e (h a List.mem_cons_self)
    | a :: b :: r, h, e =>
      have e : a ++ ([32] ++ joinL [32] (b :: r)) = [] := e
      exact absurd (List.append_eq_nil_iff.mp e).1 (h a List.mem_cons_self)
  · rintro rfl
    rfl
theorem join_len : ∀ W : List (List Nat), (textL W).length ≤ (W.map (·.length)).sum + W.length
  | [] => Nat.le_refl _
  | [a] => by
    show a.length ≤ a.length + 0 + 1
    omega
  | a :: b :: r => by
    have ih := join_len (b :: r)
    have e : textL (a :: b :: r) = a ++ ([32] ++ textL (b :: r)) := rfl
    have h1 : (textL (a :: b :: r)).length = a.length + (1 + (textL (b :: r)).length) := by rw [e, List.length_append, List.length_append]; rfl
    have h2 : ((a :: b :: r).map (·.length)).sum = a.length + ((b :: r).map (·.length)).sum := rfl
    have h3 : (a :: b :: r).length = (b :: r).length + 1 := rfl
    omega
theorem asc_text : ∀ W : List (List Nat), (∀ p ∈ W, Asc p) → Asc (textL W)
  | [], _ => asc_nil
  | [a], h => h a List.mem_cons_self
  | a :: b :: r, h => asc_app (h a List.mem_cons_self) (asc_cons (by decide) (asc_text (b :: r) fun p hp => h p (List.mem_cons_of_mem _ hp)))
/-- webs whose numbers are written by at most nine figures -/
structure WebT (w : Wb) : Prop where
  f : WbF w
  nn : ∀ a ∈ arcsW w, 0 ≤ a ∧ a < 10 ^ 9
  r0 : 0 ≤ w.rings
  r1 : w.rings < 10 ^ 9
  cs : w.cs.length ≤ 200
  es : w.ends.length ≤ 200
theorem numI_len {a : Int} (h0 : 0 ≤ a) (h : a < 10 ^ 9) : (numI a).length ≤ 9 := numL_len (by decide) (by omega)
theorem WebT.cr {w : Wb} (h : WebT w) {c : List Int} (hc : c ∈ w.cs) {a : Int} (ha : a ∈ c) : 0 ≤ a ∧ a < 10 ^ 9 := h.nn a (List.mem_append_left _ (List.mem_flatten.mpr ⟨c, hc, ha⟩))
theorem WebT.en {w : Wb} (h : WebT w) {a : Int} (ha : a ∈ w.ends) : 0 ≤ a ∧ a < 10 ^ 9 := h.nn a (List.mem_append_right _ ha)
theorem csWs_len : ∀ cs : List (List Int), (∀ c ∈ cs, c.length = 4) → (csWs cs).length = 5 * cs.length
  | [], _ => rfl
  | c :: cs, h => by
    have ih := csWs_len cs fun x hx => h x (List.mem_cons_of_mem _ hx)
    have h4 := h c List.mem_cons_self
    show (wX :: c.map numI ++ csWs cs).length = _
    rw [List.length_append, ih, List.length_cons, List.length_map, h4, List.length_cons]
    omega
theorem csWs_get : ∀ (cs : List (List Int)), (∀ c ∈ cs, c.length = 4) → ∀ (i : Nat) (c : List Int), cs[i]? = some c → (csWs cs)[5 * i]? = some wX ∧ ∀ j, j < 4 → (csWs cs)[5 * i + 1 + j]? = (c[j]?).map numI
  | [], _, i, c, e => nomatch e
  | c0 :: cs, h, 0, c, e => by
    cases e
    have h4 := h c0 List.mem_cons_self
    refine ⟨rfl, fun j hj => ?_⟩
    show (wX :: c0.map numI ++ csWs cs)[5 * 0 + 1 + j]? = _
    rw [List.getElem?_append_left (by rw [List.length_cons, List.length_map, h4]; omega), show 5 * 0 + 1 + j = j + 1 by omega, List.getElem?_cons_succ, List.getElem?_map]
  | c0 :: cs, h, i + 1, c, e => by
    have h4 := h c0 List.mem_cons_self
    obtain ⟨h1, h2⟩ := csWs_get cs (fun x hx => h x (List.mem_cons_of_mem _ hx)) i c e
    have hl : (wX :: c0.map numI).length = 5 := by rw [List.length_cons, List.length_map, h4]
    refine ⟨?_, fun j hj => ?_⟩
    · show (wX :: c0.map numI ++ csWs cs)[5 * (i + 1)]? = _
      rw [List.getElem?_append_right (by rw [hl]; omega), hl, show 5 * (i + 1) - 5 = 5 * i by omega]
      exact h1
    · show (wX :: c0.map numI ++ csWs cs)[5 * (i + 1) + 1 + j]? = _
      rw [List.getElem?_append_right (by rw [hl]; omega), hl, show 5 * (i + 1) + 1 + j - 5 = 5 * i + 1 + j by omega]
      exact h2 j hj
theorem esWs_len (es : List Int) : (esWs es).length ≤ es.length + 1 := by
  unfold esWs
  split
  · exact Nat.zero_le _
  · rw [List.length_cons, List.length_map]; omega
theorem rsWs_len (r : Int) : (rsWs r).length ≤ 2 := by
  unfold rsWs
  split
  · exact Nat.le_refl _
  · exact Nat.zero_le _
theorem webWs_len {w : Wb} (h : WebT w) : (webWs w).length ≤ 1203 ∧ ∀ p ∈ webWs w, p.length ≤ 9 := by
  have h1 := csWs_len w.cs h.f.four
  have h2 := esWs_len w.ends
  have h3 := rsWs_len w.rings
  have h4 := h.cs
  have h5 := h.es
  refine ⟨?_, fun p hp => ?_⟩
  · unfold webWs
    rw [List.length_append, List.length_append]
    omega
  · unfold webWs at hp
    rcases List.mem_append.mp hp with hp | hp
    · rcases List.mem_append.mp hp with hp | hp
      · obtain ⟨c, hc, hp⟩ := List.mem_flatMap.mp hp
        rcases List.mem_cons.mp hp with rfl | hp
        · decide
        · obtain ⟨a, ha, rfl⟩ := List.mem_map.mp hp
          have := h.cr hc ha
          exact numI_len this.1 this.2
      · unfold esWs at hp
        split at hp
        · cases hp
        · rcases List.mem_cons.mp hp with rfl | hp
          · decide
          · obtain ⟨a, ha, rfl⟩ := List.mem_map.mp hp
            have := h.en ha
            exact numI_len this.1 this.2
    · unfold rsWs at hp
      split at hp
      · rcases List.mem_cons.mp hp with rfl | hp
        · decide
        · rw [List.mem_singleton.mp hp]
          exact numI_len h.r0 h.r1
      · cases hp
theorem sum_le {W : List (List Nat)} {n : Nat} (h : ∀ p ∈ W, p.length ≤ n) : (W.map (·.length)).sum ≤ W.length * n := by
  induction W with
  | nil => exact Nat.zero_le _
  | cons a W ih =>
    have h1 := h a List.mem_cons_self
    have h2 := ih fun p hp => h p (List.mem_cons_of_mem _ hp)
    rw [List.map_cons, List.sum_cons, List.length_cons, Nat.succ_mul]
    omega
theorem text_len {w : Wb} (h : WebT w) : (textL (webWs w)).length ≤ 20000 := by
  obtain ⟨h1, h2⟩ := webWs_len h
  have h3 := join_len (webWs w)
  have h4 := sum_le h2
  omega
def fNumOf : List PyData → A → Prop := fun ds r => ∃ a : Int, 0 ≤ a ∧ a < 10 ^ 9 ∧ ds = [eS (numI a)] ∧ r = .d (.int a)
def fWordsOf : List PyData → A → Prop := fun ds r => ∃ w : Wb, WebT w ∧ ds = [eS (textL (webWs w))] ∧ r = .ml ((webWs w).map eS)
def fWordAt : List PyData → A → Prop := fun ds r => ∃ (W : List (List Nat)) (n : Nat) (v : List Nat), W.length ≤ 2000 ∧ (∀ p ∈ W, Asc p) ∧ Asc v ∧ ds = [.list (W.map eS), .int n, eS v] ∧ r = .d (.bool (decide (W[n]? = some v)))
def fNumAt : List PyData → A → Prop := fun ds r => ∃ (W : List (List Nat)) (n : Nat) (a : Int), W.length ≤ 2000 ∧ W[n]? = some (numI a) ∧ 0 ≤ a ∧ a < 10 ^ 9 ∧ ds = [.list (W.map eS), .int n] ∧ r = .d (.int a)
def fReadEnds : List PyData → A → Prop := fun ds r => ∃ (W : List (List Nat)) (n : Nat) (es : List Int), W.length ≤ 2000 ∧ (∀ p ∈ W, Asc p) ∧ es ≠ [] ∧ (∀ a ∈ es, 0 ≤ a ∧ a < 10 ^ 9) ∧ (∃ r, W.drop n = es.map numI ++ r ∧ (r = [] ∨ ∃ q, r = wO :: q)) ∧ ds = [.list (W.map eS), .int n] ∧ r = .d (encR es)
def fReadWeb : List PyData → A → Prop := fun ds r => ∃ w : Wb, WebT w ∧ ds = [.list ((webWs w).map eS)] ∧ r = .d (encW w)
def fRead : List PyData → A → Prop := fun ds r => ∃ w : Wb, WebT w ∧ ds = [eS (textL (webWs w))] ∧ r = .d (encW w)
def fShownW : List PyData → A → Prop := fun ds r => ∃ w : Wb, WebT w ∧ ds = [encW w] ∧ r = .d (eS (textL (webWs w)))
def fCheckW : List PyData → A → Prop := fun ds r => ∃ w : Wb, WebT w ∧ ds = [encW w] ∧ r = .d .none
def fCount : List PyData → A → Prop := fun ds r => ∃ a : Int, 0 ≤ a ∧ ds = [.int a] ∧ r = .d (.bool true)
def fAreArcs : List PyData → A → Prop := fun ds r => ∃ l : List Int, l.length ≤ 1000 ∧ (∀ a ∈ l, 0 ≤ a) ∧ ds = [encR l] ∧ r = .d (.bool true)
def fIsMade : List PyData → A → Prop := fun ds r => ∃ w : Wb, WebT w ∧ ds = [encW w] ∧ r = .d (.bool true)
section
variable {X : Cx} {ρ ρ1 ρ2 : Rho} {e1 e2 : Expr} {pos : Pos}
/-- c not in text, one sign -/
theorem t_nin1 {c : Nat} {b : Str} (ha : E X e1 ρ (.d (.str ⟨#[c]⟩)) ρ1) (hb : E X e2 ρ1 (.d (.str b)) ρ2) (hm : behindInMarks .NotIn e2 = false := by rfl) : ET X (.Compare e1 [.NotIn] [e2] pos) ρ (!decide (c ∈ b.cps.toList)) ρ2 :=
  t_cmp op_notInS (ev_op ha hb fun HF H x y Q hx hy _ q => by
    cases hx
    cases hy
    exact ⟨_, _, rfl, rfl, q _ (.bl _)⟩) hm
end
end Th
namespace Th
open PySem PySem.Spec PyProof.Rows L2 TL
/-- drawn webs' arcs have at most nine figures -/
theorem arcsL_bd (s : Int × Int) (n : Nat) : ∀ x ∈ arcsL s n, 0 ≤ x ∧ x < 10 ^ 9 := fun x hx => by
  obtain ⟨k, _, rfl⟩ := List.mem_map.mp hx
  have hp := arcP_bd s
  have h1 := emod_lo (a := arcOff s + (k : Int) * arcLeap s) (b := arcP s) (by omega)
  have h2 := emod_hi (a := arcOff s + (k : Int) * arcLeap s) (b := arcP s) (by omega)
  exact ⟨h1, by omega⟩
theorem webF_bd (s : Int × Int) (m h : Nat) : ∀ a ∈ arcsW (webF s m h), 0 ≤ a ∧ a < 10 ^ 9 := by
  have key : ∀ (xs : List Int) (t : WSt), (∀ x ∈ xs, 0 ≤ x ∧ x < 10 ^ 9) → (∀ x ∈ t.A, 0 ≤ x ∧ x < 10 ^ 9) → ∀ x ∈ (xs.foldl webStep t).A, 0 ≤ x ∧ x < 10 ^ 9 := fun xs => by
    induction xs with
    | nil => intro t _ h; exact h
    | cons a xs ih =>
      intro t hx h
      refine ih (webStep t a) (fun x hm => hx x (List.mem_cons_of_mem _ hm)) fun x hm => ?_
      have ha := hx a List.mem_cons_self
      rcases List.mem_or_eq_of_mem_set (show x ∈ List.set (List.set t.A _ a) _ a from hm) with z | z
      · rcases List.mem_or_eq_of_mem_set z with z | z
        · exact h x z
        · rw [z]; exact ha
      · rw [z]; exact ha
  have hA : ∀ x ∈ (webR s m h).A, 0 ≤ x ∧ x < 10 ^ 9 := key _ _ (arcsL_bd s _) fun x hx => by rw [(List.mem_replicate.mp hx).2]; decide
  intro a ha
  refine hA a ?_
  rcases List.mem_append.mp ha with ha | ha
  · obtain ⟨c, hc, ha⟩ := List.mem_flatten.mp ha
    obtain ⟨k, _, rfl⟩ := List.mem_map.mp hc
    exact List.mem_of_mem_take (List.mem_of_mem_drop ha)
  · exact List.mem_of_mem_drop ha
theorem ringsF4_bd {i : Int} (h0 : 0 ≤ i) (h : i < 4) : 0 ≤ ringsF4 i ∧ ringsF4 i ≤ 20 := by
  have : i = 0 ∨ i = 1 ∨ i = 2 ∨ i = 3 := by omega
  rcases this with rfl | rfl | rfl | rfl <;> exact ⟨by decide, by decide⟩
theorem webF_t (s : Int × Int) {m h : Nat} (hm : 2 * m + h ≤ 101) (hm2 : m ≤ 50) (hh : h ≤ 50) : WebT (webF s m h) := by
  have d := webF_drawn s hm
  have hr := ringsF4_bd (tkV_lo (s := (webR s m h).s) (b := 4) (by decide)) (tkV_hi (by decide))
  refine ⟨d.f, webF_bd s m h, hr.1, ?_, by rw [d.cs]; omega, by rw [d.ends]; omega⟩
  have : (webF s m h).rings = ringsF4 (tkV (webR s m h).s 4) := rfl
  rw [this]
  omega
end Th

set_option Elab.async false
set_option linter.all false
set_option maxRecDepth 100000
set_option maxHeartbeats 4000000
set_option pp.maxSteps 300
namespace K03
open PySem PySem.Spec PyProof.Rows L2 Th
def topS (i : Nat) : Stmt := PySem.Challenge.pw_tanglehouse_k03_whole_shown_and_read.main.body.getD i (.Pass ⟨0, 0, 0, 0⟩)
abbrev sLaw : Stmt := topS 31
abbrev nLaw : List Str := ["_law_script", "_law_cell", "_law_row", "_law_many", "_law_web_here", "_law_text_here", "_law_found"]
theorem scLaw : FnScope nLaw ["_law_script"] (defScope sLaw) := ⟨rfl, rfl, rfl, by decide +kernel, rfl, by decide +kernel, by decide +kernel⟩
abbrev sWeb : Stmt := topS 27
abbrev nWeb : List Str := ["_law_row", "_law_many", "_law_ends", "_law_arcs_here", "_law_left", "_law_arc", "_law_crossings", "_law_k"]
theorem scWeb : FnScope nWeb ["_law_row", "_law_many", "_law_ends"] (defScope sWeb) := ⟨rfl, rfl, rfl, by decide +kernel, rfl, by decide +kernel, by decide +kernel⟩
abbrev sShown : Stmt := topS 15
abbrev nShown : List Str := ["web", "words", "crossing", "arc"]
theorem scShown : FnScope nShown ["web"] (defScope sShown) := ⟨rfl, rfl, rfl, by decide +kernel, rfl, by decide +kernel, by decide +kernel⟩
abbrev sRead : Stmt := topS 22
abbrev nRead : List Str := ["text", "web"]
theorem scRead : FnScope nRead ["text"] (defScope sRead) := ⟨rfl, rfl, rfl, by decide +kernel, rfl, by decide +kernel, by decide +kernel⟩
abbrev sTake : Stmt := topS 25
abbrev nTake : List Str := ["_law_row", "_law_base", "_law_rest", "_law_number"]
theorem scTake : FnScope nTake ["_law_row", "_law_base"] (defScope sTake) := ⟨rfl, rfl, rfl, by decide +kernel, rfl, by decide +kernel, by decide +kernel⟩
abbrev sText : Stmt := topS 28
abbrev nText : List Str := ["_law_web_here", "_law_words", "_law_crossing", "_law_arc"]
theorem scText : FnScope nText ["_law_web_here"] (defScope sText) := ⟨rfl, rfl, rfl, by decide +kernel, rfl, by decide +kernel, by decide +kernel⟩
abbrev sMade : Stmt := topS 30
abbrev nMade : List Str := ["_law_found", "_law_crossing", "_law_arc"]
theorem scMade : FnScope nMade ["_law_found"] (defScope sMade) := ⟨rfl, rfl, rfl, by decide +kernel, rfl, by decide +kernel, by decide +kernel⟩
abbrev sArcs : Stmt := topS 26
abbrev nArcs : List Str := ["_law_row", "_law_many", "_law_prime", "_law_leap", "_law_offset", "_law_k"]
theorem scArcs : FnScope nArcs ["_law_row", "_law_many"] (defScope sArcs) := ⟨rfl, rfl, rfl, by decide +kernel, rfl, by decide +kernel, by decide +kernel⟩
abbrev sReadWeb : Stmt := topS 21
abbrev nReadWeb : List Str := ["words", "crossings", "at", "k", "ends", "rings"]
theorem scReadWeb : FnScope nReadWeb ["words"] (defScope sReadWeb) := ⟨rfl, rfl, rfl, by decide +kernel, rfl, by decide +kernel, by decide +kernel⟩
abbrev sCheckWeb : Stmt := topS 11
abbrev nCheckWeb : List Str := ["thing", "odd", "arc", "some"]
theorem scCheckWeb : FnScope nCheckWeb ["thing"] (defScope sCheckWeb) := ⟨rfl, rfl, rfl, by decide +kernel, rfl, by decide +kernel, by decide +kernel⟩
abbrev sWordsOf : Stmt := topS 17
abbrev nWordsOf : List Str := ["text"]
theorem scWordsOf : FnScope nWordsOf ["text"] (defScope sWordsOf) := ⟨rfl, rfl, rfl, by decide +kernel, rfl, by decide +kernel, by decide +kernel⟩
abbrev sWhole : Stmt := topS 29
abbrev nWhole : List Str := ["_law_found"]
theorem scWhole : FnScope nWhole ["_law_found"] (defScope sWhole) := ⟨rfl, rfl, rfl, by decide +kernel, rfl, by decide +kernel, by decide +kernel⟩
abbrev sIsWordAt : Stmt := topS 18
abbrev nIsWordAt : List Str := ["words", "at", "word"]
theorem scIsWordAt : FnScope nIsWordAt ["words", "at", "word"] (defScope sIsWordAt) := ⟨rfl, rfl, rfl, by decide +kernel, rfl, by decide +kernel, by decide +kernel⟩
abbrev sReadEnds : Stmt := topS 20
abbrev nReadEnds : List Str := ["words", "at", "ends", "here"]
theorem scReadEnds : FnScope nReadEnds ["words", "at"] (defScope sReadEnds) := ⟨rfl, rfl, rfl, by decide +kernel, rfl, by decide +kernel, by decide +kernel⟩
abbrev sNumberAt : Stmt := topS 19
abbrev nNumberAt : List Str := ["words", "at", "number"]
theorem scNumberAt : FnScope nNumberAt ["words", "at"] (defScope sNumberAt) := ⟨rfl, rfl, rfl, by decide +kernel, rfl, by decide +kernel, by decide +kernel⟩
abbrev sIsMade : Stmt := topS 9
abbrev nIsMade : List Str := ["thing", "crossing"]
theorem scIsMade : FnScope nIsMade ["thing"] (defScope sIsMade) := ⟨rfl, rfl, rfl, by decide +kernel, rfl, by decide +kernel, by decide +kernel⟩
abbrev sPlaces : Stmt := topS 10
abbrev nPlaces : List Str := ["web", "found", "number", "crossing", "place", "arc"]
theorem scPlaces : FnScope nPlaces ["web"] (defScope sPlaces) := ⟨rfl, rfl, rfl, by decide +kernel, rfl, by decide +kernel, by decide +kernel⟩
abbrev sNumberOf : Stmt := topS 16
abbrev nNumberOf : List Str := ["word", "sign"]
theorem scNumberOf : FnScope nNumberOf ["word"] (defScope sNumberOf) := ⟨rfl, rfl, rfl, by decide +kernel, rfl, by decide +kernel, by decide +kernel⟩
abbrev sAreArcs : Stmt := topS 8
abbrev nAreArcs : List Str := ["thing", "arc"]
theorem scAreArcs : FnScope nAreArcs ["thing"] (defScope sAreArcs) := ⟨rfl, rfl, rfl, by decide +kernel, rfl, by decide +kernel, by decide +kernel⟩
abbrev sIsCount : Stmt := topS 7
abbrev nIsCount : List Str := ["thing"]
theorem scIsCount : FnScope nIsCount ["thing"] (defScope sIsCount) := ⟨rfl, rfl, rfl, by decide +kernel, rfl, by decide +kernel, by decide +kernel⟩
structure Txt (K : PySem.W.Frag) (mg : Str → Option Value) where
  aWeb : Addr
  dWeb : FuncData
  FWeb : Fun K "_law_web" "_law_web" sWeb aWeb dWeb
  gWeb : mg "_law_web" = some (.ref aWeb)
  aShown : Addr
  dShown : FuncData
  FShown : Fun K "shown" "shown" sShown aShown dShown
  gShown : mg "shown" = some (.ref aShown)
  aRead : Addr
  dRead : FuncData
  FRead : Fun K "read" "read" sRead aRead dRead
  gRead : mg "read" = some (.ref aRead)
  aTake : Addr
  dTake : FuncData
  FTake : Fun K "_law_take" "_law_take" sTake aTake dTake
  gTake : mg "_law_take" = some (.ref aTake)
  aText : Addr
  dText : FuncData
  FText : Fun K "_law_text" "_law_text" sText aText dText
  gText : mg "_law_text" = some (.ref aText)
  aMade : Addr
  dMade : FuncData
  FMade : Fun K "_law_made" "_law_made" sMade aMade dMade
  gMade : mg "_law_made" = some (.ref aMade)
  aArcs : Addr
  dArcs : FuncData
  FArcs : Fun K "_law_arcs" "_law_arcs" sArcs aArcs dArcs
  gArcs : mg "_law_arcs" = some (.ref aArcs)
  aReadWeb : Addr
  dReadWeb : FuncData
  FReadWeb : Fun K "read_web" "read_web" sReadWeb aReadWeb dReadWeb
  gReadWeb : mg "read_web" = some (.ref aReadWeb)
  aCheckWeb : Addr
  dCheckWeb : FuncData
  FCheckWeb : Fun K "check_web" "check_web" sCheckWeb aCheckWeb dCheckWeb
  gCheckWeb : mg "check_web" = some (.ref aCheckWeb)
  aWordsOf : Addr
  dWordsOf : FuncData
  FWordsOf : Fun K "words_of" "words_of" sWordsOf aWordsOf dWordsOf
  gWordsOf : mg "words_of" = some (.ref aWordsOf)
  aWhole : Addr
  dWhole : FuncData
  FWhole : Fun K "_law_whole" "_law_whole" sWhole aWhole dWhole
  gWhole : mg "_law_whole" = some (.ref aWhole)
  aIsWordAt : Addr
  dIsWordAt : FuncData
  FIsWordAt : Fun K "is_word_at" "is_word_at" sIsWordAt aIsWordAt dIsWordAt
  gIsWordAt : mg "is_word_at" = some (.ref aIsWordAt)
  aReadEnds : Addr
  dReadEnds : FuncData
  FReadEnds : Fun K "read_ends" "read_ends" sReadEnds aReadEnds dReadEnds
  gReadEnds : mg "read_ends" = some (.ref aReadEnds)
  aNumberAt : Addr
  dNumberAt : FuncData
  FNumberAt : Fun K "number_at" "number_at" sNumberAt aNumberAt dNumberAt
  gNumberAt : mg "number_at" = some (.ref aNumberAt)
  aIsMade : Addr
  dIsMade : FuncData
  FIsMade : Fun K "is_made" "is_made" sIsMade aIsMade dIsMade
  gIsMade : mg "is_made" = some (.ref aIsMade)
  aPlaces : Addr
  dPlaces : FuncData
  FPlaces : Fun K "places" "places" sPlaces aPlaces dPlaces
  gPlaces : mg "places" = some (.ref aPlaces)
  aNumberOf : Addr
  dNumberOf : FuncData
  FNumberOf : Fun K "number_of" "number_of" sNumberOf aNumberOf dNumberOf
  gNumberOf : mg "number_of" = some (.ref aNumberOf)
  aAreArcs : Addr
  dAreArcs : FuncData
  FAreArcs : Fun K "are_arcs" "are_arcs" sAreArcs aAreArcs dAreArcs
  gAreArcs : mg "are_arcs" = some (.ref aAreArcs)
  aIsCount : Addr
  dIsCount : FuncData
  FIsCount : Fun K "is_count" "is_count" sIsCount aIsCount dIsCount
  gIsCount : mg "is_count" = some (.ref aIsCount)
  z_int : mg "int" = none
  z_isinstance : mg "isinstance" = none
  z_str : mg "str" = none
  z_list : mg "list" = none
  z_range : mg "range" = none
  z_tuple : mg "tuple" = none
  z_len : mg "len" = none
  z_min : mg "min" = none
  z_bool : mg "bool" = none
  z_enumerate : mg "enumerate" = none
  z_all : mg "all" = none
  c_RIM : GCst K mg "RIM" (.int (-1))
  c_MOST_FIGURES : GCst K mg "MOST_FIGURES" (.int (9))
  c_FIGURES : GCst K mg "FIGURES" (.str "0123456789")
theorem Txt.bWeb {K : PySem.W.Frag} {mg : Str → Option Value} (T : Txt K mg) : Binds K T.dWeb ["_law_row", "_law_many", "_law_ends"] [] := T.FWeb.binds (ps := ["_law_row", "_law_many", "_law_ends"]) fun _ _ _ _ _ _ us hl => match us, hl with | [_, _, _], _ => rfl
theorem Txt.bShown {K : PySem.W.Frag} {mg : Str → Option Value} (T : Txt K mg) : Binds K T.dShown ["web"] [] := T.FShown.binds (ps := ["web"]) fun _ _ _ _ _ _ us hl => match us, hl with | [_], _ => rfl
theorem Txt.bRead {K : PySem.W.Frag} {mg : Str → Option Value} (T : Txt K mg) : Binds K T.dRead ["text"] [] := T.FRead.binds (ps := ["text"]) fun _ _ _ _ _ _ us hl => match us, hl with | [_], _ => rfl
theorem Txt.bTake {K : PySem.W.Frag} {mg : Str → Option Value} (T : Txt K mg) : Binds K T.dTake ["_law_row", "_law_base"] [] := T.FTake.binds (ps := ["_law_row", "_law_base"]) fun _ _ _ _ _ _ us hl => match us, hl with | [_, _], _ => rfl
theorem Txt.bText {K : PySem.W.Frag} {mg : Str → Option Value} (T : Txt K mg) : Binds K T.dText ["_law_web_here"] [] := T.FText.binds (ps := ["_law_web_here"]) fun _ _ _ _ _ _ us hl => match us, hl with | [_], _ => rfl
theorem Txt.bMade {K : PySem.W.Frag} {mg : Str → Option Value} (T : Txt K mg) : Binds K T.dMade ["_law_found"] [] := T.FMade.binds (ps := ["_law_found"]) fun _ _ _ _ _ _ us hl => match us, hl with | [_], _ => rfl
theorem Txt.bArcs {K : PySem.W.Frag} {mg : Str → Option Value} (T : Txt K mg) : Binds K T.dArcs ["_law_row", "_law_many"] [] := T.FArcs.binds (ps := ["_law_row", "_law_many"]) fun _ _ _ _ _ _ us hl => match us, hl with | [_, _], _ => rfl
theorem Txt.bReadWeb {K : PySem.W.Frag} {mg : Str → Option Value} (T : Txt K mg) : Binds K T.dReadWeb ["words"] [] := T.FReadWeb.binds (ps := ["words"]) fun _ _ _ _ _ _ us hl => match us, hl with | [_], _ => rfl
theorem Txt.bCheckWeb {K : PySem.W.Frag} {mg : Str → Option Value} (T : Txt K mg) : Binds K T.dCheckWeb ["thing"] [] := T.FCheckWeb.binds (ps := ["thing"]) fun _ _ _ _ _ _ us hl => match us, hl with | [_], _ => rfl
theorem Txt.bWordsOf {K : PySem.W.Frag} {mg : Str → Option Value} (T : Txt K mg) : Binds K T.dWordsOf ["text"] [] := T.FWordsOf.binds (ps := ["text"]) fun _ _ _ _ _ _ us hl => match us, hl with | [_], _ => rfl
theorem Txt.bWhole {K : PySem.W.Frag} {mg : Str → Option Value} (T : Txt K mg) : Binds K T.dWhole ["_law_found"] [] := T.FWhole.binds (ps := ["_law_found"]) fun _ _ _ _ _ _ us hl => match us, hl with | [_], _ => rfl
theorem Txt.bIsWordAt {K : PySem.W.Frag} {mg : Str → Option Value} (T : Txt K mg) : Binds K T.dIsWordAt ["words", "at", "word"] [] := T.FIsWordAt.binds (ps := ["words", "at", "word"]) fun _ _ _ _ _ _ us hl => match us, hl with | [_, _, _], _ => rfl
theorem Txt.bReadEnds {K : PySem.W.Frag} {mg : Str → Option Value} (T : Txt K mg) : Binds K T.dReadEnds ["words", "at"] [] := T.FReadEnds.binds (ps := ["words", "at"]) fun _ _ _ _ _ _ us hl => match us, hl with | [_, _], _ => rfl
theorem Txt.bNumberAt {K : PySem.W.Frag} {mg : Str → Option Value} (T : Txt K mg) : Binds K T.dNumberAt ["words", "at"] [] := T.FNumberAt.binds (ps := ["words", "at"]) fun _ _ _ _ _ _ us hl => match us, hl with | [_, _], _ => rfl
theorem Txt.bIsMade {K : PySem.W.Frag} {mg : Str → Option Value} (T : Txt K mg) : Binds K T.dIsMade ["thing"] [] := T.FIsMade.binds (ps := ["thing"]) fun _ _ _ _ _ _ us hl => match us, hl with | [_], _ => rfl
theorem Txt.bPlaces {K : PySem.W.Frag} {mg : Str → Option Value} (T : Txt K mg) : Binds K T.dPlaces ["web"] [] := T.FPlaces.binds (ps := ["web"]) fun _ _ _ _ _ _ us hl => match us, hl with | [_], _ => rfl
theorem Txt.bNumberOf {K : PySem.W.Frag} {mg : Str → Option Value} (T : Txt K mg) : Binds K T.dNumberOf ["word"] [] := T.FNumberOf.binds (ps := ["word"]) fun _ _ _ _ _ _ us hl => match us, hl with | [_], _ => rfl
theorem Txt.bAreArcs {K : PySem.W.Frag} {mg : Str → Option Value} (T : Txt K mg) : Binds K T.dAreArcs ["thing"] [] := T.FAreArcs.binds (ps := ["thing"]) fun _ _ _ _ _ _ us hl => match us, hl with | [_], _ => rfl
theorem Txt.bIsCount {K : PySem.W.Frag} {mg : Str → Option Value} (T : Txt K mg) : Binds K T.dIsCount ["thing"] [] := T.FIsCount.binds (ps := ["thing"]) fun _ _ _ _ _ _ us hl => match us, hl with | [_], _ => rfl
open TL
theorem row4 {c : List Int} (h : c.length = 4) : PyData.tuple ((List.range 4).map fun j : Nat => PyData.int (c.getD j 0)) = encR c := by
  match c, h with
  | [a, b, x, y], _ => rfl
theorem all_t {α : Type} (l : List α) : (l.map fun _ => true).all id = true := by
  rw [List.all_map]
  exact List.all_eq_true.mpr fun _ _ => rfl
def encPl1 (q : Int × List II) : PyData := .tuple [.int q.1, .list (q.2.map encI2)]
theorem pl_items (m : Pls) : (fkOf (encM m)).map (fun kv => PyData.tuple [kD kv.1, kv.2]) = m.map encPl1 := by
  unfold fkOf Th.encM
  rw [List.map_map, List.map_map]
  rfl
theorem csWs_fold : ∀ (cs : List (List Int)) (W : List (List Nat)), cs.foldl (fun W c => W ++ (wX :: c.map numI)) W = W ++ csWs cs
  | [], W => by
    show W = W ++ []
    rw [List.append_nil]
  | c :: cs, W => by
    rw [List.foldl_cons, csWs_fold cs, List.append_assoc]
    rfl
def fWhole : List PyData → A → Prop := fun ds r => ∃ a : Int, ds = [.int a] ∧ r = .d (.bool true)
def fMadeW : List PyData → A → Prop := fun ds r => ∃ w : Wb, WebT w ∧ ds = [encW w] ∧ r = .d (.bool true)
theorem cat_row (w : Wb) : (w.cs.map encR) ++ [encR w.ends] = (w.cs ++ [w.ends]).map encR := by rw [List.map_append]; rfl
theorem eqvW (w : Wb) : PyData.eqv (encW w) (encW w) = true := by rw [eqE_W w w]; exact decide_eq_true rfl
section
variable {P : Program} {w : World} {K : PySem.W.Frag} {mg : Str → Option Value} {base : Heap}
theorem ok_take {f : Addr} {fd : FuncData} {k : Nat} (F : Fun K "_law_take" "_law_take" sTake f fd) (T : Txt K mg) : FnOk P w K mg base CX0 (k + 1) f fd ["_law_row", "_law_base"] (spA K fTake) := by
  refine fn_ok F scTake (fun as r as' h => by obtain ⟨_, _, _, _, rfl, _⟩ := h; rfl) (by decide) [0] (fun as r as' h i a e o => by
    obtain ⟨_, _, _, _, rfl, _⟩ := h
    exact own_1 (ds := [_]) e o) (fun cdv A1 outer s H W B as r as' hr hf hB => ?_)
  obtain ⟨p, b, hn, ⟨hb, hb2⟩, rfl, rfl, rfl⟩ := hf
  have hu := hr.units
  refine ss_cons (s_setL 0 (xs := [.int p.1, .int p.2]) (e_add (e_ixL (o_slot 0 rfl) e_int (v := .int p.2) rfl) e_int) e_int ⟨_, rfl⟩ rfl (j := 1) rfl ?_)
  refine ss_cons (s_if (t_gt (e_ixL (o_slot 0 rfl) e_int (v := .int p.1) rfl) (e_pow e_int e_int ⟨by decide, by decide, by decide⟩)) (fun hc => ?_) (fun hc => ?_))
  · have hc' : (10 : Int) ^ 18 < p.1 := of_decide_eq_true hc
    refine ss_cons (s_set 2 (e_sub (e_ixL (o_slot 0 rfl) e_int (v := .int p.1) rfl) (e_pow e_int e_int ⟨by decide, by decide, by decide⟩)) ?_ (nl hB) scTake.nd)
    refine ss_cons (s_setL 0 (e_add (e_pow e_int e_int ⟨by decide, by decide, by decide⟩) (e_div (e_var 2 rfl) (e_var 1 rfl) (wide_div hb hb2 (by decide) (by decide)))) e_int ⟨_, rfl⟩ rfl (j := 0) rfl ?_)
    refine ss_one (s_ret (e_mod (e_var 2 rfl) (e_var 1 rfl) hb) (pr_1 (ds := [.int b]) ?_ ?_))
    · unfold tkV
      rw [if_pos hc']
      rfl
    · unfold tkS tkC
      rw [if_pos hc']
      rfl
  · have hc' : ¬ (10 : Int) ^ 18 < p.1 := of_decide_eq_false hc
    refine ss_nil ?_
    refine ss_cons (s_set 3 (e_mod (e_add (e_add (e_mulS (e_ixL (o_slot 0 rfl) e_int (v := .int p.1) rfl) e_int (.inr ⟨by decide, by decide⟩)) (e_mulS (e_mulS e_int (e_ixL (o_slot 0 rfl) e_int (v := .int (p.2 + 1)) rfl) (.inl ⟨by decide, by decide⟩)) (e_ixL (o_slot 0 rfl) e_int (v := .int (p.2 + 1)) rfl) (.inr ⟨by omega, by omega⟩))) e_int) e_int (by decide)) ?_ (nl hB) scTake.nd)
    have h1 := tkU_lo p
    have h2 := tkU_hi p
    refine ss_cons (s_set 3 (e_mod (e_add (e_add (e_mulS (i := tkU p) (e_var 3 rfl) (e_var 3 rfl) (.inr ⟨by omega, by omega⟩)) (e_mulS e_int (e_ixL (o_slot 0 rfl) e_int (v := .int (p.2 + 1)) rfl) (.inl ⟨by decide, by decide⟩))) e_int) e_int (by decide)) ?_ (nl hB) scTake.nd)
    refine ss_one (s_ret (e_mod (e_div (e_var 3 rfl) e_int ⟨by decide, by decide⟩) (e_var 1 rfl) hb) (pr_1 (ds := [.int b]) ?_ ?_))
    · unfold tkV
      rw [if_neg hc']
      rfl
    · unfold tkS tkC
      rw [if_neg hc']
      rfl
theorem ok_arcs {f : Addr} {fd : FuncData} {k : Nat} (F : Fun K "_law_arcs" "_law_arcs" sArcs f fd) (T : Txt K mg) : FnOk P w K mg base CX0 (k + 2) f fd ["_law_row", "_law_many"] (spA K fArcs) := by
  have GTake := ok_take (P := P) (w := w) (base := base) (k := 0) T.FTake T
  refine fn_ok F scArcs (fun as r as' h => by obtain ⟨_, _, _, _, rfl, _⟩ := h; rfl) (by decide) [0] (fun as r as' h i a e o => by
    obtain ⟨_, _, _, _, rfl, _⟩ := h
    exact own_1 (ds := [_]) e o) (fun cdv A1 outer s H W B as r as' hr hf hB => ?_)
  obtain ⟨p, n, hn, hm, rfl, rfl, rfl⟩ := hf
  have hp := arcP_bd p
  have hl := arcLeap_bd p
  refine ss_cons (s_set 2 (e_ixL (v := .int (arcP p)) (E.ol (e_lst (d_cons e_int (d_cons e_int (d_cons e_int d_nil))))) (e_take 0 (s := p) GTake (hr.mono (by omega)) T.gTake T.FTake.kp T.bTake e_int ⟨_, rfl, rfl⟩ rfl) (at_i3 (tkV_lo (by decide)) (tkV_hi (by decide)))) ?_ (nl hB) scArcs.nd)
  refine ss_cons (s_set 3 (e_add e_int (e_take 0 (s := tkS p 3) GTake (hr.mono (by omega)) T.gTake T.FTake.kp T.bTake (e_sub (e_var 2 rfl) e_int) ⟨_, rfl, rfl⟩ rfl (h0 := ⟨by omega, by omega⟩))) ?_ (nl hB) scArcs.nd)
  refine ss_cons (s_set 4 (e_take 0 (s := tkS (tkS p 3) (arcP p - 1)) GTake (hr.mono (by omega)) T.gTake T.FTake.kp T.bTake (e_var 2 rfl) ⟨_, rfl, rfl⟩ rfl (h0 := ⟨by omega, by omega⟩)) ?_ (nl hB) scArcs.nd)
  show Ss _ _ _ [rowA (arcsS p), .d (.int n), .d (.int (arcP p)), .d (.int (arcLeap p)), .d (.int (arcOff p)), .any] _
  refine ss_one (s_ret (e_lcM [("_law_k", 5)] encN (xs := List.range n) (fun k => .int ((arcOff p + (k : Int) * arcLeap p) % arcP p)) (src_rN (e_var 1 rfl) T.z_range (by omega)) scArcs.nd (by rw [List.length_range]; omega) (fun i x hx => ⟨_, fun s H C cl fp => gcn 5 rfl (by decide) scArcs.nd, fun s H C cl fp => e_mod (e_add (e_var 4 rfl) (e_mulS (e_var 5 rfl) (e_var 3 rfl) (.inr ⟨by omega, by omega⟩))) (e_var 2 rfl) (by omega), rfl⟩) rfl (fun _ z => nomatch z) (blkOk_by (N := nArcs) (sc := defScope sArcs) (by decide +kernel))) (pr_1 (ds := [.int n]) ?_ rfl))
  unfold arcsL
  rw [List.map_map]
  rfl
theorem ok_web {f : Addr} {fd : FuncData} {k : Nat} (F : Fun K "_law_web" "_law_web" sWeb f fd) (T : Txt K mg) : FnOk P w K mg base CX0 (k + 3) f fd ["_law_row", "_law_many", "_law_ends"] (spA K fWeb) := by
  have GArcs := ok_arcs (P := P) (w := w) (base := base) (k := 0) T.FArcs T
  have GTake := ok_take (P := P) (w := w) (base := base) (k := 0) T.FTake T
  refine fn_ok F scWeb (fun as r as' h => by obtain ⟨_, _, _, _, _, _, rfl, _⟩ := h; rfl) (by decide) [0] (fun as r as' h i a e o => by
    obtain ⟨_, _, _, _, _, _, rfl, _⟩ := h
    exact own_1 (ds := [_, _]) e o) (fun cdv A1 outer s H W B as r as' hr hf hB => ?_)
  obtain ⟨p, m, h, hn, hm, hh, rfl, rfl, rfl⟩ := hf
  have e1 : 4 * (m : Int) + ((2 * h : Nat) : Int) = ((4 * m + 2 * h : Nat) : Int) := by push_cast; omega
  have e2 : 2 * (m : Int) + ((2 * h : Nat) : Int) / 2 = ((2 * m + h : Nat) : Int) := by push_cast; omega
  have h0 := wok_0 p m h
  have hR := wok_fold h0 (arcsL p (2 * m + h)) (by rw [arcsL_len]; omega)
  refine ss_cons (s_set 3 (e_rep (E.pl (e_lst (d_cons e_int d_nil))) (E.to (e_add (e_mulS e_int (e_var 1 rfl) (.inl ⟨by decide, by decide⟩)) (e_var 2 rfl)) (congrArg PyData.int e1)) ⟨by omega, by omega⟩ (by rw [List.length_singleton]; omega)) ?_ (nl hB) scWeb.nd)
  rw [Int.toNat_natCast, rep_one]
  refine ss_cons (s_set 4 (e_lrange (E.to (e_add (e_mulS e_int (e_var 1 rfl) (.inl ⟨by decide, by decide⟩)) (e_var 2 rfl)) (congrArg PyData.int e1)) T.z_list T.z_range (by omega)) ?_ (nl hB) scWeb.nd)
  refine ss_cons (s_forF PyData.int (xs := arcsL p (2 * m + h)) (src_l (E.fz (e_call GArcs (hr.mono (by omega)) T.gArcs T.FArcs.kp T.bArcs (a_lent 0 rfl rfl (a_dat (E.to (e_add (e_mulS e_int (e_var 1 rfl) (.inl ⟨by decide, by decide⟩)) (e_div (e_var 2 rfl) e_int ⟨by decide, by decide⟩)) (congrArg PyData.int e2)) a_nil)) ⟨p, 2 * m + h, by omega, by omega, rfl, rfl, rfl⟩ shape_1 (show [0].Nodup by decide) (fun _ _ z => z.elim)))) (web0 p m h) webStep (fun t => [rowA t.s, .d (.int m), .any, .ml (t.A.map .int), .ml (t.L.map encN), .any, .any, .any]) (fun t i => WOk (4 * m + 2 * h) (p.2 + 3) i t) h0 (.eq (.eq (.any (.ll ?ha (.eq (.eq (.eq (.eq .nil)))))))) (fun t i x hi hJ => ?_) (fun ρ' hJ l => ?_))
  case ha =>
    unfold web0
    rw [List.map_replicate]
  · have hj := (List.getElem?_eq_some_iff.mp hi).1
    rw [arcsL_len] at hj
    refine ⟨wok_step hJ (by omega), _, g_name 5 (nl hB) scWeb.nd, ?_⟩
    obtain ⟨A, L, sr⟩ := t
    have hl := hJ.left
    have hs := hJ.sn
    have hA := hJ.len
    have hb := hJ.bd
    dsimp only at hl hs hA hb
    cases L with
    | nil => rw [List.length_nil] at hl; omega
    | cons i0 L1 =>
      rw [List.length_cons] at hl
      have b0 := hb i0 List.mem_cons_self
      have t0 := tkV_lo (s := sr) (b := (L1.length : Int)) (by omega)
      have t1 := tkV_hi (s := sr) (b := (L1.length : Int)) (by omega)
      have hk : ((tkV sr L1.length).toNat : Int) = tkV sr L1.length := Int.toNat_of_nonneg t0
      generalize hq : (tkV sr L1.length).toNat = q at *
      have hql : q < L1.length := by omega
      have hg : L1[q]? = some (L1.getD q 0) := by rw [List.getD_eq_getElem?_getD, List.getElem?_eq_getElem hql]; rfl
      have b1 := hb (L1.getD q 0) (List.mem_cons_of_mem _ (List.mem_of_getElem? hg))
      refine ss_cons (s_setL 3 (j := i0) (e_var 5 rfl) (e_popAt 4 (j := 0) (v := encN i0) e_int ⟨_, rfl⟩ rfl (by rw [List.length_map, List.length_cons]; omega) (by rw [List.length_map, List.length_cons]; exact ixN_nat (by decide) (by omega)) rfl) ⟨_, rfl⟩ rfl (by rw [List.length_map, hA]; exact (ixN_nat (by omega) (by omega)).trans (by rw [Int.toNat_natCast])) ?_)
      show Ss _ _ _ [rowA sr, .d (.int m), .any, .ml ((A.map .int).set i0 (.int x)), .ml (L1.map encN), .d (.int x), .any, .any] _
      rw [ints_set]
      refine ss_one (s_setL 3 (j := L1.getD q 0) (e_var 5 rfl) (e_popAt 4 (j := q) (v := encN (L1.getD q 0)) (e_take 0 (s := sr) (b := (L1.length : Int)) GTake (hr.mono (by omega)) T.gTake T.FTake.kp T.bTake (E.to (e_lenL (o_slot 4 rfl) T.z_len) (by rw [List.length_map])) ⟨_, rfl, rfl⟩ rfl (hs := ⟨by omega, by omega⟩) (h0 := ⟨by omega, by omega⟩)) ⟨_, rfl⟩ rfl (by rw [List.length_map]; omega) (by rw [List.length_map]; exact (ixN_nat t0 t1).trans (by rw [hq])) (by rw [List.getElem?_map, hg]; rfl)) ⟨_, rfl⟩ rfl (by rw [List.length_map, List.length_set, hA]; exact (ixN_nat (by omega) (by omega)).trans (by rw [Int.toNat_natCast])) ?_)
      refine .eq (.eq (.any (.ll ?_ (.ll ?_ (.any (.any (.any .nil)))))))
      · rw [ints_set]
        show _ = (List.set (A.set i0 x) (L1.getD (tkV sr L1.length).toNat 0) x).map _
        rw [hq]
      · show _ = (L1.eraseIdx (tkV sr L1.length).toNat).map encN
        rw [hq, map_erase]
  refine Ex.toLe ?_ l
  have eR : List.foldl webStep (web0 p m h) (arcsL p (2 * m + h)) = webR p m h := rfl
  rw [eR] at hR ⊢
  rw [arcsL_len] at hR
  have hsn := hR.sn
  have hA := hR.len
  refine ss_cons (s_setLc 6 (l_lcM [("_law_k", 7)] encN (xs := List.range m) (fun k => encR (((webR p m h).A.take (4 * k + 4)).drop (4 * k))) (src_rN (e_var 1 rfl) T.z_range (by omega)) scWeb.nd (by rw [List.length_range]; omega) (fun i x hx => ⟨_, fun s H C cl fp => gcn 7 rfl (by decide) scWeb.nd, fun s H C cl fp => E.to (e_tupL (E.ol (e_slL (o_slot 3 rfl) (p_some (e_mulS e_int (e_var 7 rfl) (.inl ⟨by decide, by decide⟩))) (p_some (e_add (e_mulS e_int (e_var 7 rfl) (.inl ⟨by decide, by decide⟩)) e_int)))) T.z_tuple) ?hsl, rfl⟩) rfl (fun _ z => nomatch z) (blkOk_by (N := nWeb) (sc := defScope sWeb) (by decide +kernel))) ?_ (nl hB))
  case hsl =>
    rw [show 4 * (x : Int) = ((4 * x : Nat) : Int) by push_cast; rfl, show ((4 * x : Nat) : Int) + 4 = ((4 * x + 4 : Nat) : Int) by push_cast; rfl, cut_mid, ← List.map_take, ← List.map_drop]
  refine ss_one (s_ret (e_tup (d_cons (e_tupL (o_slot 6 rfl) T.z_tuple) (d_cons (E.to (e_tupL (E.ol (e_slL (o_slot 3 rfl) (p_some (e_mulS e_int (e_var 1 rfl) (.inl ⟨by decide, by decide⟩))) p_none)) T.z_tuple) (w := encR ((webR p m h).A.drop (4 * m))) ?hdr) (d_cons (e_ixL (v := .int (ringsF4 (tkV (webR p m h).s 4))) (E.ol (e_lst (d_cons e_int (d_cons e_int (d_cons e_int (d_cons e_int d_nil)))))) (e_take 0 (s := (webR p m h).s) GTake (hr.mono (by omega)) T.gTake T.FTake.kp T.bTake e_int ⟨_, rfl, rfl⟩ rfl) (at_i4 (tkV_lo (by decide)) (tkV_hi (by decide)))) d_nil)))) (pr_1 (ds := [.int m, .int ((2 * h : Nat) : Int)]) ?_ rfl))
  case hdr =>
    rw [show 4 * (m : Int) = ((4 * m : Nat) : Int) by push_cast; rfl, drop_cut, ← List.map_drop]
  unfold webF webCs encW
  rw [List.map_map]
  rfl
theorem ok_places {f : Addr} {fd : FuncData} {k : Nat} (F : Fun K "places" "places" sPlaces f fd) (T : Txt K mg) : FnOk P w K mg base CX0 (k + 1) f fd ["web"] (spA K (pure_ fPlaces)) := by
  refine fn_pure F scPlaces (by decide) (fun ds r h => by obtain ⟨_, _, rfl, _⟩ := h; rfl) (fun cdv A1 outer s H W B ds r hr hf hB => ?_)
  obtain ⟨wb, hw, rfl, rfl⟩ := hf
  have hu := hr.units
  refine ss_pin (R2 := fun _ _ => True) 1 rfl (fun p => ?_) (nl hB) scPlaces.nd
  refine gj_cons (g_forF (fun q : List Int × Nat => .tuple [.int (q.2 : Nat), encR q.1]) (src_enumI (enc := encR) (e_ixT (v := .tuple (wb.cs.map encR)) (e_var 0 rfl) e_int rfl) T.z_enumerate) ([] : Pls) (fun m q => addRow (q.2 : Int) m q.1) [.d (encW wb), .pin (.ref p), .any, .any, .any, .any] (fun m => PlR K B p (encM m)) (fun m i => Bd (8 * i) m) ⟨by simp, fun _ z => nomatch z⟩ (.eq (.eq (.any (.any (.any (.any .nil)))))) rfl rfl (fun _ => plR_kept) (fun m i q hq hJ => ?_) (fun ρ' le => ?_))
  · obtain ⟨row, n⟩ := q
    obtain ⟨q1, q2⟩ := Th.zipIdx_get hq
    dsimp only at q1 q2
    have hrow := hw.row row (List.mem_of_getElem? q2)
    have hi : i < wb.cs.length := (List.getElem?_eq_some_iff.mp q2).1
    have hcs := hw.cs
    refine ⟨(hJ.row row).up (by omega), _, g_tup (gs_cons (g_name 2 (nl hB) scPlaces.nd) (gs_cons (g_name 3 (nl hB) scPlaces.nd) gs_nil)), ?_⟩
    refine gj_one (g_forF (fun q : Int × Nat => .tuple [.int (q.2 : Nat), .int q.1]) (src_enumI (enc := PyData.int) (e_var 3 rfl) T.z_enumerate) m (fun m q => addQ m q.1 ((n : Int), (q.2 : Int))) [.d (encW wb), .pin (.ref p), .d (.int (n : Nat)), .any, .any, .any] (fun m => PlR K B p (encM m)) (fun m j => Bd (8 * i + j) m) hJ (.eq (.eq (.eq (.any (.any (.any .nil)))))) rfl rfl (fun _ => plR_kept) (fun m' j q hq' hJ' => ?_) (fun ρ' le => ?_))
    · obtain ⟨arc, at_⟩ := q
      obtain ⟨q3, q4⟩ := Th.zipIdx_get hq'
      dsimp only at q3 q4
      have hj : j < row.length := (List.getElem?_eq_some_iff.mp q4).1
      refine ⟨hJ'.add _ _, _, g_tup (gs_cons (g_name 4 (nl hB) scPlaces.nd) (gs_cons (g_name 5 (nl hB) scPlaces.nd) gs_nil)), ?_⟩
      rw [← addP_enc]
      exact gj_one (g_setd 1 rfl rfl (e_var 5 rfl) (e_tup (d_cons (e_var 2 rfl) (d_cons (e_var 4 rfl) d_nil))) (Nat.le_trans hJ'.m.1 (by omega)) (fun kv hk => Nat.le_trans (hJ'.m.2 kv hk) (by omega)) (.eq (.eq (.eq (.any (.any (.any .nil)))))))
    · exact Le.trans le (.eq (.eq (.any (.any (.any (.any .nil))))))
  refine Gj.toLe ?_ le
  have hcs := hw.cs
  have hen := hw.ends
  generalize hm1 : (wb.cs.zipIdx.foldl (fun m q => addRow (q.2 : Int) m q.1) ([] : Pls)) = m1
  have hb1 : Bd 8000 m1 := by
    rw [← hm1]
    have key : ∀ (l : List (List Int × Nat)) (c : Nat) (m : Pls), (∀ q ∈ l, q.1.length ≤ 8) → Bd c m → Bd (c + 8 * l.length) (l.foldl (fun m q => addRow (q.2 : Int) m q.1) m) := fun l => by
      induction l with
      | nil => intro c m _ h; exact h
      | cons q l ih =>
        intro c m hl h
        have h1 := hl q List.mem_cons_self
        have := ih (c + 8) _ (fun x hx => hl x (List.mem_cons_of_mem _ hx)) ((h.row (n := (q.2 : Int)) q.1).up (by omega))
        rw [List.foldl_cons, List.length_cons]
        exact this.up (by omega)
    have := key wb.cs.zipIdx 0 [] (fun q hq => hw.row q.1 (List.fst_mem_of_mem_zipIdx hq)) ⟨Nat.le_refl _, fun _ z => nomatch z⟩
    rw [List.length_zipIdx] at this
    exact this.up (by omega)
  refine gj_cons (g_forF (fun q : Int × Nat => .tuple [.int (q.2 : Nat), .int q.1]) (src_enumI (enc := PyData.int) (e_ixT (v := encR wb.ends) (e_var 0 rfl) e_int rfl) T.z_enumerate) m1 (fun m q => addQ m q.1 ((-1 : Int), (q.2 : Int))) [.d (encW wb), .pin (.ref p), .any, .any, .any, .any] (fun m => PlR K B p (encM m)) (fun m j => Bd (8000 + j) m) hb1 (.eq (.eq (.any (.any (.any (.any .nil)))))) rfl rfl (fun _ => plR_kept) (fun m' j q hq' hJ' => ?_) (fun ρ' le => ?_))
  · obtain ⟨arc, at_⟩ := q
    obtain ⟨q3, q4⟩ := Th.zipIdx_get hq'
    dsimp only at q3 q4
    have hj : j < wb.ends.length := (List.getElem?_eq_some_iff.mp q4).1
    refine ⟨hJ'.add _ _, _, g_tup (gs_cons (g_name 4 (nl hB) scPlaces.nd) (gs_cons (g_name 5 (nl hB) scPlaces.nd) gs_nil)), ?_⟩
    rw [← addP_enc]
    exact gj_one (g_setd 1 rfl rfl (e_var 5 rfl) (e_tup (d_cons (e_glob T.c_RIM) (d_cons (e_var 4 rfl) d_nil))) (Nat.le_trans hJ'.m.1 (by omega)) (fun kv hk => Nat.le_trans (hJ'.m.2 kv hk) (by omega)) (.eq (.eq (.any (.any (.any (.any .nil)))))))
  refine Gj.toLe ?_ le
  refine g_retDl 1 rfl (pr_is ?_)
  rw [← hm1]
  rfl
theorem ok_number_of {f : Addr} {fd : FuncData} {k : Nat} (F : Fun K "number_of" "number_of" sNumberOf f fd) (T : Txt K mg) : FnOk P w K mg base CX0 (k + 1) f fd ["word"] (spA K (pure_ fNumOf)) := by
  refine fn_pure F scNumberOf (by decide) (fun ds r h => by obtain ⟨_, _, _, rfl, _⟩ := h; rfl) (fun cdv A1 outer s H W B ds r hr hf hB => ?_)
  obtain ⟨a, h0, h1, rfl, rfl⟩ := hf
  have hu := hr.units
  have hl := numI_len h0 h1
  have hn := numL_ne a.natAbs
  have hl1 : 1 ≤ (numI a).length := List.length_pos_iff.mpr hn
  obtain ⟨c, r, ec, hc48⟩ := numL_head a.natAbs
  have ec : numI a = c :: r := ec
  have hA : Asc (numI a) := asc_num _
  refine ss_cons (s_if (t_not (t_chII e_int (E.to (e_lenS (e_var 0 rfl) (by rw [mkS_len]; omega) T.z_len) (congrArg (fun n : Nat => PyData.int (n : Int)) (mkS_len (numI a)))) (e_glob T.c_MOST_FIGURES))) (fun hc => ?_) (fun hc => ss_nil ?_))
  · have hc : (!(decide ((1 : Int) ≤ ((numI a).length : Nat)) && decide ((((numI a).length : Nat) : Int) ≤ 9))) = true := hc
    rw [decide_eq_true (show (1 : Int) ≤ ((numI a).length : Nat) by omega), decide_eq_true (show (((numI a).length : Nat) : Int) ≤ 9 by omega)] at hc
    cases hc
  refine ss_cons (s_forF (fun c : Nat => PyData.str ⟨#[c]⟩) (xs := numI a) (src_str (e_var 0 rfl)) () (fun _ _ => ()) (fun t => [.d (eS (numI a)), .any]) (fun t i => True) trivial (Le.refl _) (fun t i x hi hJ => ?_) (fun ρ' hJ l => ?_))
  · refine ⟨trivial, _, g_name 1 (nl hB) scNumberOf.nd, ?_⟩
    have hx := numL_digits a.natAbs x (List.mem_of_getElem? hi)
    have e : (("0123456789" : Str)).cps.toList = [48, 49, 50, 51, 52, 53, 54, 55, 56, 57] := by decide +kernel
    refine ss_one (s_if (t_nin1 (e_var 1 rfl) (e_glob T.c_FIGURES)) (fun hc => ?_) (fun hc => ss_nil ?_))
    · have hc : (!decide (x ∈ (("0123456789" : Str)).cps.toList)) = true := hc
      rw [e, decide_eq_true (by simp only [List.mem_cons, List.not_mem_nil, or_false]; omega)] at hc
      cases hc
    · exact .eq (.any .nil)
  refine Ex.toLe ?_ l
  refine ss_cons (s_if (t_w (w_and (t_eqD (hr := hu) (E.o (E.to (e_ixS (c := c) (e_var 0 rfl) e_int (by decide) (by rw [mkS_len]; omega) (by rw [mkS_len]; omega) (by show (mkS (numI a)).cps[0]? = some c; rw [ec]; rfl)) (w := eS [c]) rfl)) (E.o e_str) (asc_ok (l := [c]) (asc_cons (hA c (by rw [ec]; exact List.mem_cons_self)) asc_nil)) (asc_ok (l := [48]) (asc_cons (by decide) asc_nil))) (fun _ => w_and1 (t_gt (E.to (e_lenS (e_var 0 rfl) (by rw [mkS_len]; omega) T.z_len) (congrArg (fun n : Nat => PyData.int (n : Int)) (mkS_len (numI a)))) e_int)))) (fun hc => ?_) (fun hc => ss_nil ?_))
  · have hc : (PyData.eqv (.str (mkS [c])) (.str (mkS [48])) && decide ((1 : Int) < ((numI a).length : Nat))) = true := hc
    rw [eqv_str, Bool.and_eq_true, decide_eq_true_iff, decide_eq_true_iff] at hc
    obtain ⟨hc1, hc2⟩ := hc
    injection hc1 with hc1 _
    obtain ⟨_, hr2⟩ := hc48 hc1
    rw [ec, hr2, List.length_singleton] at hc2
    omega
  have h3 : PySem.intText? (mkS (numI a)) = some a := by
    have := (num_text (n := a.natAbs) (by omega)).1
    rw [show numI a = numL a.natAbs from rfl, this]
    exact congrArg some (by omega)
  exact ss_one (s_ret (e_intS (e_var 0 rfl) h3 (by rw [mkS_len]; omega) T.z_int) (pr_is rfl))
theorem ok_words_of {f : Addr} {fd : FuncData} {k : Nat} (F : Fun K "words_of" "words_of" sWordsOf f fd) (T : Txt K mg) : FnOk P w K mg base CX0 (k + 1) f fd ["text"] (spA K (pure_ fWordsOf)) := by
  refine fn_pure F scWordsOf (by decide) (fun ds r h => by obtain ⟨_, _, rfl, _⟩ := h; rfl) (fun cdv A1 outer s H W B ds r hr hf hB => ?_)
  obtain ⟨wb, hw, rfl, rfl⟩ := hf
  have hu := hr.units
  have hf := webWs_free wb
  have hl := text_len hw
  refine ss_cons (s_if (t_eqD (hr := hu) (E.o (e_var 0 rfl)) (E.o e_str) (asc_ok (asc_text _ fun p hp => (hf p hp).2.2)) (asc_ok asc_nil)) (fun hc => ?_) (fun hc => ss_nil ?_))
  · have hc : PyData.eqv (eS (textL (webWs wb))) (eS []) = true := hc
    rw [eqv_str, decide_eq_true_iff, text_nil fun p hp => (hf p hp).2.1] at hc
    rw [hc]
    exact ss_one (s_ret (e_lst d_nil) (pr_is rfl))
  have hc : PyData.eqv (eS (textL (webWs wb))) (eS []) = false := hc
  rw [eqv_str, decide_eq_false_iff_not, text_nil fun p hp => (hf p hp).2.1] at hc
  refine ss_one (s_ret (E.toA (e_splitS (e_var 0 rfl) e_str (by decide) (by rw [mkS_len]; omega)) (es1 := (webWs wb).map eS) ?_) (pr_is rfl))
  rw [split_text hc fun p hp => (hf p hp).1, List.map_map]
  rfl
theorem ok_is_word_at {f : Addr} {fd : FuncData} {k : Nat} (F : Fun K "is_word_at" "is_word_at" sIsWordAt f fd) (T : Txt K mg) : FnOk P w K mg base CX0 (k + 1) f fd ["words", "at", "word"] (spA K (pure_ fWordAt)) := by
  refine fn_pure F scIsWordAt (by decide) (fun ds r h => by obtain ⟨_, _, _, _, _, _, rfl, _⟩ := h; rfl) (fun cdv A1 outer s H W B ds r hr hf hB => ?_)
  obtain ⟨Ws, n, v, hl, hA, hv, rfl, rfl⟩ := hf
  have hu := hr.units
  by_cases hn : n < Ws.length
  · refine ss_one (s_ret (E.to (e_and (e_lt (e_var 1 rfl) (e_lenL (E.o (e_var 0 rfl)) T.z_len)) (fun _ => e_one (e_eqD (hr := hu) (E.o (e_ixL (v := eS Ws[n]) (E.o (e_var 0 rfl)) (e_var 1 rfl) (at_get (by omega) (by rw [Int.toNat_natCast, List.getElem?_map, List.getElem?_eq_getElem hn]; rfl)))) (E.o (e_var 2 rfl)) (asc_ok (hA _ (List.getElem_mem hn))) (asc_ok hv)))) (w := .bool (decide (Ws[n]? = some v))) ?_) (pr_is rfl))
    rw [List.length_map, eqv_str, decide_eq_true (show (n : Int) < (Ws.length : Int) by omega), List.getElem?_eq_getElem hn]
    show PyData.bool (true && _) = _
    rw [Bool.true_and]
    refine congrArg PyData.bool ?_
    rw [Bool.eq_iff_iff, decide_eq_true_iff, decide_eq_true_iff]
    exact ⟨fun h => by rw [h], fun h => Option.some.inj h⟩
  · refine ss_one (s_ret (E.to (e_and (c := false) (e_lt (e_var 1 rfl) (e_lenL (E.o (e_var 0 rfl)) T.z_len)) (fun z => ?_)) (w := .bool (decide (Ws[n]? = some v))) ?_) (pr_is rfl))
    · have z : decide ((n : Int) < ((Ws.map eS).length : Nat)) = true := z
      rw [List.length_map, decide_eq_true_iff] at z
      omega
    · rw [List.getElem?_eq_none (by omega), Bool.and_false]
      rfl
theorem ok_number_at {f : Addr} {fd : FuncData} {k : Nat} (F : Fun K "number_at" "number_at" sNumberAt f fd) (T : Txt K mg) : FnOk P w K mg base CX0 (k + 2) f fd ["words", "at"] (spA K (pure_ fNumAt)) := by
  have GNumberOf := ok_number_of (P := P) (w := w) (base := base) (k := 0) T.FNumberOf T
  refine fn_pure F scNumberAt (by decide) (fun ds r h => by obtain ⟨_, _, _, _, _, _, _, rfl, _⟩ := h; rfl) (fun cdv A1 outer s H W B ds r hr hf hB => ?_)
  obtain ⟨Ws, n, a, hl, hg, h0, h1, rfl, rfl⟩ := hf
  have hn := (List.getElem?_eq_some_iff.mp hg).1
  refine ss_cons (s_if (t_ge (e_var 1 rfl) (e_lenL (E.o (e_var 0 rfl)) T.z_len)) (fun hc => ?_) (fun hc => ss_nil ?_))
  · have hc : (((Ws.map eS).length : Nat) : Int) ≤ (n : Int) := of_decide_eq_true hc
    rw [List.length_map] at hc
    omega
  refine ss_cons (s_set 2 (e_callP GNumberOf (hr.mono (by omega)) T.gNumberOf T.FNumberOf.kp T.bNumberOf (d_cons (e_ixL (v := eS (numI a)) (E.o (e_var 0 rfl)) (e_var 1 rfl) (at_get (by omega) (by rw [Int.toNat_natCast, List.getElem?_map, hg]; rfl))) d_nil) ⟨a, h0, h1, rfl, rfl⟩) ?_ (nl hB) scNumberAt.nd)
  refine ss_cons (s_if (t_isN (e_var 2 rfl)) (fun hc => nomatch hc) (fun hc => ss_nil ?_))
  exact ss_one (s_ret (e_var 2 rfl) (pr_is rfl))
theorem ok_read_ends {f : Addr} {fd : FuncData} {k : Nat} (F : Fun K "read_ends" "read_ends" sReadEnds f fd) (T : Txt K mg) : FnOk P w K mg base CX0 (k + 3) f fd ["words", "at"] (spA K (pure_ fReadEnds)) := by
  have GNumberAt := ok_number_at (P := P) (w := w) (base := base) (k := 0) T.FNumberAt T
  refine fn_pure F scReadEnds (by decide) (fun ds r h => by obtain ⟨_, _, _, _, _, _, _, _, rfl, _⟩ := h; rfl) (fun cdv A1 outer s H W B ds r hr hf hB => ?_)
  obtain ⟨Ws, n, es, hl, hA, hne, hes, ⟨q, hq, hq2⟩, rfl, rfl⟩ := hf
  have hu := hr.units
  have hdr : ∀ i, Ws[n + i]? = (es.map numI ++ q)[i]? := fun i => by rw [← hq, List.getElem?_drop]
  have hel : ∀ i, (h : i < es.length) → Ws[n + i]? = some (numI es[i]) := fun i h => by
    rw [hdr, List.getElem?_append_left (by rw [List.length_map]; exact h), List.getElem?_map, List.getElem?_eq_getElem h]
    rfl
  have hwl : Ws.length = n + es.length + q.length := by
    have h1 := congrArg List.length hq
    rw [List.length_drop, List.length_append, List.length_map] at h1
    have h2 := (List.getElem?_eq_some_iff.mp (hel 0 (List.length_pos_iff.mpr hne))).1
    have h3 : 1 ≤ es.length := List.length_pos_iff.mpr hne
    omega
  obtain ⟨e0, es1, rfl⟩ : ∃ e0 es1, es = e0 :: es1 := by
    cases es with
    | nil => exact absurd rfl hne
    | cons a r => exact ⟨a, r, rfl⟩
  have h00 := hes e0 List.mem_cons_self
  have hw0 : Ws[n]? = some (numI e0) := hel 0 (by rw [List.length_cons]; omega)
  rw [List.length_cons] at hwl
  refine ss_cons (s_set 2 (e_lst (d_cons (e_callP GNumberAt (hr.mono (by omega)) T.gNumberAt T.FNumberAt.kp T.bNumberAt (d_cons (e_var 0 rfl) (d_cons (e_var 1 rfl) d_nil)) (r := .d (.int e0)) ⟨Ws, n, e0, hl, hw0, h00.1, h00.2, rfl, rfl⟩) d_nil)) ?_ (nl hB) scReadEnds.nd)
  have hew : ∀ i, i < es1.length → numI (es1.getD i 0) ≠ wO := fun i _ z => by
    have := numL_digits (es1.getD i 0).natAbs 111 (by rw [show numL (es1.getD i 0).natAbs = wO from z]; exact List.mem_cons_self)
    omega
  refine ss_cons (s_forS encN (xs := List.range' (n + 1) (Ws.length - (n + 1))) (src_r2N (E.to (e_add (e_var 1 rfl) e_int) (w := .int ((n + 1 : Nat) : Int)) rfl) (E.to (e_lenL (E.o (e_var 0 rfl)) T.z_len) (w := .int (Ws.length : Int)) (by rw [List.length_map])) T.z_range ⟨by omega, by omega⟩) 0 (fun t : Nat => [.d (.list (Ws.map eS)), .any, .ml (((e0 :: es1).take (t + 1)).map .int), .any]) (fun t i => t = i ∧ i ≤ es1.length) ⟨rfl, Nat.zero_le _⟩ (.eq (.any (.eq (.any .nil)))) (fun t i x hi hJ => ?_) (fun t ρ' hJ l => ?_))
  · obtain ⟨rfl, hJ⟩ := hJ
    have hil := (List.getElem?_eq_some_iff.mp hi).1
    rw [List.length_range'] at hil
    have hx : x = n + 1 + t := by
      rw [List.getElem?_range' hil] at hi
      have := Option.some.inj hi
      omega
    subst hx
    have hxl : n + 1 + t < Ws.length := by omega
    refine ⟨_, g_name 3 (nl hB) scReadEnds.nd, ?_⟩
    have hwx : Ws[n + 1 + t]? = some Ws[n + 1 + t] := List.getElem?_eq_getElem hxl
    refine ss_cons (s_if (t_eqD (hr := hu) (E.o (e_ixL (v := eS Ws[n + 1 + t]) (E.o (e_var 0 rfl)) (e_var 3 rfl) (at_get (by omega) (by rw [Int.toNat_natCast, List.getElem?_map, hwx]; rfl)))) (E.o e_str) (asc_ok (hA _ (List.getElem_mem hxl))) (asc_ok (l := [111]) (asc_cons (by decide) asc_nil))) (fun hc => ?_) (fun hc => ss_nil ?_))
    · have hc : PyData.eqv (eS Ws[n + 1 + t]) (eS wO) = true := hc
      rw [eqv_str, decide_eq_true_iff] at hc
      have hte : t = es1.length := by
        by_cases h : t < es1.length
        · have h1 := hel (t + 1) (by rw [List.length_cons]; omega)
          rw [show n + (t + 1) = n + 1 + t by omega, hwx, hc] at h1
          have h2 : (e0 :: es1)[t + 1]'(by rw [List.length_cons]; omega) = es1.getD t 0 := by
            rw [List.getElem_cons_succ, List.getD_eq_getElem?_getD, List.getElem?_eq_getElem h]
            rfl
          rw [h2] at h1
          exact absurd (Option.some.inj h1).symm (hew t h)
        · omega
      refine ss_one (s_break ?_)
      refine ss_one (s_ret (e_tupL (o_slot 2 rfl) T.z_tuple) (pr_is ?_))
      rw [List.take_of_length_le (by rw [List.length_cons]; omega)]
    · have hc : PyData.eqv (eS Ws[n + 1 + t]) (eS wO) = false := hc
      rw [eqv_str, decide_eq_false_iff_not] at hc
      have hte : t < es1.length := by
        by_cases h : t < es1.length
        · exact h
        · have h1 := hdr (t + 1)
          rw [show n + (t + 1) = n + 1 + t by omega, hwx, List.getElem?_append_right (by rw [List.length_map, List.length_cons]; omega), List.length_map, List.length_cons, show t + 1 - (es1.length + 1) = 0 by omega] at h1
          rcases hq2 with rfl | ⟨q', rfl⟩
          · cases h1
          · exact absurd (Option.some.inj h1) hc
      have h1 := hel (t + 1) (by rw [List.length_cons]; omega)
      rw [List.getElem_cons_succ, show n + (t + 1) = n + 1 + t by omega] at h1
      have h2 := hes es1[t] (List.mem_cons_of_mem _ (List.getElem_mem hte))
      refine ss_one (s_expr (e_app 2 (e_callP GNumberAt (hr.mono (by omega)) T.gNumberAt T.FNumberAt.kp T.bNumberAt (d_cons (e_var 0 rfl) (d_cons (e_var 3 rfl) d_nil)) (r := .d (.int es1[t])) ⟨Ws, n + 1 + t, es1[t], hl, h1, h2.1, h2.2, rfl, rfl⟩) ⟨_, rfl⟩ rfl (by rw [List.length_map, List.length_take, List.length_cons]; omega)) ?_)
      refine ⟨t + 1, ⟨rfl, hte⟩, .eq (.any (.ll ?_ (.any .nil)))⟩
      have e : (e0 :: es1).take (t + 1 + 1) = (e0 :: es1).take (t + 1) ++ [es1[t]] := by
        rw [List.take_add_one (i := t + 1), List.getElem?_cons_succ, List.getElem?_eq_getElem hte]
        rfl
      rw [e, List.map_append]
      rfl
  · obtain ⟨rfl, hJ⟩ := hJ
    rw [List.length_range'] at hJ l
    refine Ex.toLe ?_ l
    refine ss_one (s_ret (e_tupL (o_slot 2 rfl) T.z_tuple) (pr_is ?_))
    rw [List.take_of_length_le (by rw [List.length_cons]; omega)]
theorem ok_read_web {f : Addr} {fd : FuncData} {k : Nat} (F : Fun K "read_web" "read_web" sReadWeb f fd) (T : Txt K mg) : FnOk P w K mg base CX0 (k + 4) f fd ["words"] (spA K (pure_ fReadWeb)) := by
  have GIsWordAt := ok_is_word_at (P := P) (w := w) (base := base) (k := 0) T.FIsWordAt T
  have GNumberAt := ok_number_at (P := P) (w := w) (base := base) (k := 0) T.FNumberAt T
  have GReadEnds := ok_read_ends (P := P) (w := w) (base := base) (k := 0) T.FReadEnds T
  refine fn_pure F scReadWeb (by decide) (fun ds r h => by obtain ⟨_, _, rfl, _⟩ := h; rfl) (fun cdv A1 outer s H W B ds r hr hf hB => ?_)
  obtain ⟨wb, hw, rfl, rfl⟩ := hf
  have hu := hr.units
  have hfr := webWs_free wb
  have hfA : ∀ p ∈ webWs wb, Asc p := fun p hp => (hfr p hp).2.2
  have hlen := (webWs_len hw).1
  have hL : (webWs wb).length ≤ 2000 := by omega
  have hcl := csWs_len wb.cs hw.f.four
  have hcg := csWs_get wb.cs hw.f.four
  have hcs := hw.cs
  have hes := hw.es
  generalize hWs : webWs wb = Ws at *
  have hat : ∀ i, i < 5 * wb.cs.length → Ws[i]? = (csWs wb.cs)[i]? := fun i hi => by
    rw [← hWs]
    unfold webWs
    rw [List.append_assoc, List.getElem?_append_left (by omega)]
  have hat2 : ∀ i, Ws[5 * wb.cs.length + i]? = (esWs wb.ends ++ rsWs wb.rings)[i]? := fun i => by
    rw [← hWs]
    unfold webWs
    rw [List.append_assoc, List.getElem?_append_right (by omega), hcl]
    congr 1
    omega
  have hwl : Ws.length = 5 * wb.cs.length + ((esWs wb.ends).length + (rsWs wb.rings).length) := by
    rw [← hWs]
    unfold webWs
    rw [List.append_assoc, List.length_append, List.length_append, hcl]
  have wcall : ∀ (n : Nat) (v : List Nat), Asc v → fWordAt [.list (Ws.map eS), .int n, eS v] (.d (.bool (decide (Ws[n]? = some v)))) := fun n v hv => ⟨Ws, n, v, hL, hfA, hv, rfl, rfl⟩
  have a1 : ∀ x : Nat, x < 128 → Asc [x] := fun x h => asc_cons h asc_nil
  refine ss_cons (s_set 1 (e_lst d_nil) ?_ (nl hB) scReadWeb.nd)
  refine ss_cons (s_set 2 e_int ?_ (nl hB) scReadWeb.nd)
  refine ss_cons (s_whileR (fun t : Nat => [.d (.list (Ws.map eS)), .ml ((wb.cs.take t).map encR), .d (.int ((5 * t : Nat) : Int)), .any, .any, .any]) (fun t => wb.cs.length - t) (fun t => t ≤ wb.cs.length) 0 (Nat.zero_le _) (.eq (.eq (.eq (.any (.any (.any .nil)))))) (fun t hJ => ⟨_, _, t_val (e_callP GIsWordAt (hr.mono (by omega)) T.gIsWordAt T.FIsWordAt.kp T.bIsWordAt (d_cons (e_var 0 rfl) (d_cons (e_var 2 rfl) (d_cons e_str d_nil))) (wcall (5 * t) wX (a1 120 (by decide)))), fun hc => ?_, fun hc ρ' l => ?_⟩))
  · have hc : Ws[5 * t]? = some wX := of_decide_eq_true hc
    have ht : t < wb.cs.length := by
      by_cases h : t < wb.cs.length
      · exact h
      · have e : t = wb.cs.length := by omega
        have h2 := hat2 0
        rw [e] at hc
        rw [Nat.add_zero, hc] at h2
        unfold esWs rsWs at h2
        split at h2
        · split at h2
          · rw [List.nil_append] at h2
            injection h2 with h2
            exact absurd h2 (by decide)
          · cases h2
        · injection h2 with h2
          exact absurd h2 (by decide)
    have hg := List.getElem?_eq_getElem ht
    obtain ⟨_, hg4⟩ := hcg t _ hg
    have h4 : wb.cs[t].length = 4 := hw.f.four _ (List.getElem_mem ht)
    have hnum : ∀ j (hj : j < 4), Ws[5 * t + 1 + j]? = some (numI (wb.cs[t].getD j 0)) ∧ 0 ≤ wb.cs[t].getD j 0 ∧ wb.cs[t].getD j 0 < 10 ^ 9 := fun j hj => by
      have e : wb.cs[t][j]? = some (wb.cs[t].getD j 0) := getD_of (by omega)
      have hb := hw.cr (List.getElem_mem ht) (List.mem_of_getElem? e)
      refine ⟨?_, hb.1, hb.2⟩
      rw [hat _ (by omega), hg4 j hj, e]
      rfl
    refine ss_cons (s_expr (e_app 1 (v := encR wb.cs[t]) (E.to (e_tupL (E.ol (e_lcM [("k", 3)] encN (xs := List.range 4) (fun j : Nat => .int (wb.cs[t].getD j 0)) (src_rN (n := 4) e_int T.z_range (by decide)) scReadWeb.nd (by decide) (fun i x hx => ⟨_, fun s H C cl fp => gcn 3 rfl (by decide) scReadWeb.nd, fun s H C cl fp => e_callP GNumberAt (hr.mono (by omega)) T.gNumberAt T.FNumberAt.kp T.bNumberAt (d_cons (e_var 0 rfl) (d_cons (E.to (e_add (e_add (e_var 2 rfl) e_int) (e_var 3 rfl)) (w := .int ((5 * t + 1 + x : Nat) : Int)) (congrArg PyData.int (by push_cast; omega))) d_nil)) ⟨Ws, 5 * t + 1 + x, wb.cs[t].getD x 0, hL, (hnum x (by have := range_get hx; omega)).1, (hnum x (by have := range_get hx; omega)).2.1, (hnum x (by have := range_get hx; omega)).2.2, rfl, rfl⟩, rfl⟩) rfl (fun _ z => nomatch z) (blkOk_by (N := nReadWeb) (sc := defScope sReadWeb) (by decide +kernel)))) T.z_tuple) (row4 h4)) ⟨_, rfl⟩ rfl (by rw [List.length_map, List.length_take]; omega)) ?_)
    refine ss_one (s_set 2 (e_add (e_var 2 rfl) e_int) ?_ (nl hB) scReadWeb.nd)
    refine ⟨t + 1, ht, by omega, .eq (.ll ?_ (.dd ?_ (.any (.any (.any .nil)))))⟩
    · rw [List.take_add_one, hg, List.map_append]
      rfl
    · exact congrArg PyData.int (by push_cast; omega)
  have hc : ¬ Ws[5 * t]? = some wX := of_decide_eq_false hc
  have ht : t = wb.cs.length := by
    by_cases h : t < wb.cs.length
    · obtain ⟨h1, _⟩ := hcg t _ (List.getElem?_eq_getElem h)
      exact absurd ((hat _ (by omega)).trans h1) hc
    · omega
  subst ht
  rw [List.take_of_length_le (Nat.le_refl _)] at l
  refine Ex.toLe ?_ l
  clear hc
  generalize hcn : wb.cs.length = m at *
  refine ss_cons (s_set 4 (e_tup d_nil) ?_ (nl hB) scReadWeb.nd)
  refine ss_cons (s_ifR [.d (.list (Ws.map eS)), .ml (wb.cs.map encR), .d (.int ((5 * m + (esWs wb.ends).length : Nat) : Int)), .any, .d (encR wb.ends), .any] (t_val (e_callP GIsWordAt (hr.mono (by omega)) T.gIsWordAt T.FIsWordAt.kp T.bIsWordAt (d_cons (e_var 0 rfl) (d_cons (e_var 2 rfl) (d_cons e_str d_nil))) (wcall (5 * m) wEe (a1 101 (by decide))))) (fun hc => ?_) (fun hc => ?_) (fun ρ' l => ?_))
  · have hc : Ws[5 * m]? = some wEe := of_decide_eq_true hc
    have hne : wb.ends ≠ [] := fun z => by
      have h2 := hat2 0
      rw [Nat.add_zero, hc] at h2
      unfold esWs rsWs at h2
      rw [if_pos z, List.nil_append] at h2
      split at h2
      · injection h2 with h2
        exact absurd h2 (by decide)
      · cases h2
    have hE : esWs wb.ends = wEe :: wb.ends.map numI := if_neg hne
    have hdrop : Ws.drop (5 * m + 1) = wb.ends.map numI ++ rsWs wb.rings := by
      refine List.ext_getElem? fun i => ?_
      rw [List.getElem?_drop, show 5 * m + 1 + i = 5 * m + (i + 1) by omega, hat2, hE]
      rfl
    have hrs : rsWs wb.rings = [] ∨ ∃ q, rsWs wb.rings = wO :: q := by
      unfold rsWs
      split
      · exact .inr ⟨_, rfl⟩
      · exact .inl rfl
    refine ss_cons (s_set 4 (e_callP GReadEnds (hr.mono (by omega)) T.gReadEnds T.FReadEnds.kp T.bReadEnds (d_cons (e_var 0 rfl) (d_cons (E.to (e_add (e_var 2 rfl) e_int) (w := .int ((5 * m + 1 : Nat) : Int)) (congrArg PyData.int (by push_cast; omega))) d_nil)) (r := .d (encR wb.ends)) ⟨Ws, 5 * m + 1, wb.ends, hL, hfA, hne, fun a ha => hw.en ha, ⟨_, hdrop, hrs⟩, rfl, rfl⟩) ?_ (nl hB) scReadWeb.nd)
    refine ss_one (s_set 2 (e_add (e_add (e_var 2 rfl) e_int) (e_lenT (e_var 4 rfl) T.z_len)) ?_ (nl hB) scReadWeb.nd)
    refine .eq (.eq (.dd ?_ (.any (.eq (.any .nil)))))
    rw [hE, List.length_cons, List.length_map, List.length_map]
    exact congrArg PyData.int (by push_cast; omega)
  · have hc : ¬ Ws[5 * m]? = some wEe := of_decide_eq_false hc
    have hne : wb.ends = [] := by
      by_cases h : wb.ends = []
      · exact h
      · have h2 := hat2 0
        unfold esWs at h2
        rw [if_neg h] at h2
        exact absurd h2 hc
    refine ss_nil (.eq (.eq (.dd ?_ (.any (.dd ?_ (.any .nil))))))
    · unfold esWs
      rw [if_pos hne]
      rfl
    · rw [hne]
      rfl
  refine Ex.toLe ?_ l
  have hat3 : ∀ i, Ws[5 * m + (esWs wb.ends).length + i]? = (rsWs wb.rings)[i]? := fun i => by
    rw [Nat.add_assoc, hat2, List.getElem?_append_right (by omega)]
    congr 1
    omega
  generalize hj : 5 * m + (esWs wb.ends).length = j at *
  have hjl : Ws.length = j + (rsWs wb.rings).length := by omega
  refine ss_cons (s_set 5 e_int ?_ (nl hB) scReadWeb.nd)
  refine ss_cons (s_ifR [.d (.list (Ws.map eS)), .ml (wb.cs.map encR), .d (.int ((Ws.length : Nat) : Int)), .any, .d (encR wb.ends), .d (.int wb.rings)] (t_val (e_callP GIsWordAt (hr.mono (by omega)) T.gIsWordAt T.FIsWordAt.kp T.bIsWordAt (d_cons (e_var 0 rfl) (d_cons (e_var 2 rfl) (d_cons e_str d_nil))) (wcall j wO (a1 111 (by decide))))) (fun hc => ?_) (fun hc => ?_) (fun ρ' l => ?_))
  · have hc : Ws[j]? = some wO := of_decide_eq_true hc
    have hr0 : 0 < wb.rings := by
      by_cases h : 0 < wb.rings
      · exact h
      · have h2 := hat3 0
        unfold rsWs at h2
        rw [if_neg h, Nat.add_zero, hc] at h2
        cases h2
    have hR : rsWs wb.rings = [wO, numI wb.rings] := if_pos hr0
    have h1 := hat3 1
    rw [hR] at h1
    have hrr := hw.r1
    refine ss_cons (s_set 5 (e_callP GNumberAt (hr.mono (by omega)) T.gNumberAt T.FNumberAt.kp T.bNumberAt (d_cons (e_var 0 rfl) (d_cons (E.to (e_add (e_var 2 rfl) e_int) (w := .int ((j + 1 : Nat) : Int)) (congrArg PyData.int (by push_cast; omega))) d_nil)) (r := .d (.int wb.rings)) ⟨Ws, j + 1, wb.rings, hL, h1, by omega, hrr, rfl, rfl⟩) ?_ (nl hB) scReadWeb.nd)
    refine ss_cons (s_if (t_eqI (e_var 5 rfl) e_int) (fun hc => ?_) (fun hc => ss_nil ?_))
    · have hc : wb.rings = 0 := of_decide_eq_true hc
      omega
    refine ss_one (s_set 2 (e_add (e_var 2 rfl) e_int) ?_ (nl hB) scReadWeb.nd)
    refine .eq (.eq (.dd ?_ (.any (.eq (.eq .nil)))))
    rw [hjl, hR]
    exact congrArg PyData.int (by show _ = ((j + 2 : Nat) : Int); push_cast; omega)
  · have hc : ¬ Ws[j]? = some wO := of_decide_eq_false hc
    have hr0 : ¬ 0 < wb.rings := fun h => by
      have h2 := hat3 0
      unfold rsWs at h2
      rw [if_pos h, Nat.add_zero] at h2
      exact hc h2
    have hR : rsWs wb.rings = [] := if_neg hr0
    have h0 := hw.r0
    refine ss_nil (.eq (.eq (.dd ?_ (.any (.eq (.dd ?_ .nil))))))
    · rw [hjl, hR]
      rfl
    · exact congrArg PyData.int (by omega)
  refine Ex.toLe ?_ l
  refine ss_cons (s_if (t_lt (e_var 2 rfl) (E.to (e_lenL (E.o (e_var 0 rfl)) T.z_len) (w := .int (Ws.length : Int)) (by rw [List.length_map]))) (fun hc => ?_) (fun hc => ss_nil ?_))
  · have hc : (Ws.length : Int) < (Ws.length : Int) := of_decide_eq_true hc
    omega
  exact ss_one (s_ret (e_tup (d_cons (e_tupL (o_slot 1 rfl) T.z_tuple) (d_cons (e_var 4 rfl) (d_cons (e_var 5 rfl) d_nil)))) (pr_is rfl))
theorem ok_is_count {f : Addr} {fd : FuncData} {k : Nat} (F : Fun K "is_count" "is_count" sIsCount f fd) (T : Txt K mg) : FnOk P w K mg base CX0 (k + 1) f fd ["thing"] (spA K (pure_ fCount)) := by
  refine fn_pure F scIsCount (by decide) (fun ds r h => by obtain ⟨_, _, rfl, _⟩ := h; rfl) (fun cdv A1 outer s H W B ds r hr hf hB => ?_)
  obtain ⟨a, h0, rfl, rfl⟩ := hf
  refine ss_one (s_ret (e_and (e_is .int (E.o (e_var 0 rfl)) T.z_isinstance T.z_int) (fun _ => e_and (e_not (e_is .bool (E.o (e_var 0 rfl)) T.z_isinstance T.z_bool)) (fun _ => e_one (e_ge (e_var 0 rfl) e_int)))) (pr_is ?_))
  show A.d (.bool (true && (true && decide (0 ≤ a)))) = _
  rw [decide_eq_true h0]
  rfl
theorem ok_are_arcs {f : Addr} {fd : FuncData} {k : Nat} (F : Fun K "are_arcs" "are_arcs" sAreArcs f fd) (T : Txt K mg) : FnOk P w K mg base CX0 (k + 2) f fd ["thing"] (spA K (pure_ fAreArcs)) := by
  have GIsCount := ok_is_count (P := P) (w := w) (base := base) (k := 0) T.FIsCount T
  refine fn_pure F scAreArcs (by decide) (fun ds r h => by obtain ⟨_, _, _, rfl, _⟩ := h; rfl) (fun cdv A1 outer s H W B ds r hr hf hB => ?_)
  obtain ⟨l, hl, h0, rfl, rfl⟩ := hf
  refine ss_one (s_ret (e_and (e_is .tuple (E.o (e_var 0 rfl)) T.z_isinstance T.z_tuple) (fun _ => e_one (e_all (bs := l.map fun _ => true) (EO.tol (E.ol (e_lcM (k := none) [("arc", 1)] PyData.int (xs := l) (fun _ => .bool true) (src_t (e_var 0 rfl)) scAreArcs.nd (by omega) (fun j u hu2 => ⟨_, fun s H C cl fp => gcn 1 rfl (by decide) scAreArcs.nd, fun s H C cl fp => e_callP GIsCount (hr.mono (by omega)) T.gIsCount T.FIsCount.kp T.bIsCount (d_cons (e_var 1 rfl) d_nil) ⟨u, h0 u (List.mem_of_getElem? hu2), rfl, rfl⟩, rfl⟩) rfl (fun _ z => nomatch z) (blkOk_by (N := nAreArcs) (sc := defScope sAreArcs) (by decide +kernel)))) (by rw [List.map_map]; rfl)) T.z_all))) (pr_is ?_))
  rw [all_t]
  rfl
theorem ok_is_made {f : Addr} {fd : FuncData} {k : Nat} (F : Fun K "is_made" "is_made" sIsMade f fd) (T : Txt K mg) : FnOk P w K mg base CX0 (k + 3) f fd ["thing"] (spA K (pure_ fIsMade)) := by
  have GAreArcs := ok_are_arcs (P := P) (w := w) (base := base) (k := 0) T.FAreArcs T
  have GIsCount := ok_is_count (P := P) (w := w) (base := base) (k := 0) T.FIsCount T
  refine fn_pure F scIsMade (by decide) (fun ds r h => by obtain ⟨_, _, rfl, _⟩ := h; rfl) (fun cdv A1 outer s H W B ds r hr hf hB => ?_)
  obtain ⟨wb, hw, rfl, rfl⟩ := hf
  have hu := hr.units
  have hcs := hw.cs
  have hes := hw.es
  refine ss_cons (s_if (t_w (w_or (t_not (t_val (e_is .tuple (E.o (e_var 0 rfl)) T.z_isinstance T.z_tuple))) (fun _ => w_or (t_neI (e_lenT (e_var 0 rfl) T.z_len) e_int) (fun _ => w_or1 (t_not (t_val (e_is .tuple (E.o (e_ixT (v := .tuple (wb.cs.map encR)) (e_var 0 rfl) e_int rfl)) T.z_isinstance T.z_tuple))))))) (fun hc => nomatch hc) (fun hc => ss_nil ?_))
  refine ss_cons (s_forF encR (xs := wb.cs) (src_t (e_ixT (v := .tuple (wb.cs.map encR)) (e_var 0 rfl) e_int rfl)) () (fun _ _ => ()) (fun t => [.d (encW wb), .any]) (fun t i => True) trivial (Le.refl _) (fun t i x hi hJ => ?_) (fun ρ' hJ l => ?_))
  · have hx := List.mem_of_getElem? hi
    have h4 := hw.f.four x hx
    refine ⟨trivial, _, g_name 1 (nl hB) scIsMade.nd, ?_⟩
    refine ss_one (s_if (t_w (w_or (t_not (t_val (e_callP GAreArcs (hr.mono (by omega)) T.gAreArcs T.FAreArcs.kp T.bAreArcs (d_cons (e_var 1 rfl) d_nil) (r := .d (.bool true)) ⟨x, by omega, fun a ha => (hw.cr hx ha).1, rfl, rfl⟩))) (fun _ => w_or1 (t_neI (E.to (e_lenT (e_var 1 rfl) T.z_len) (w := .int 4) (by rw [List.length_map, h4]; rfl)) e_int)))) (fun hc => nomatch hc) (fun hc => ss_nil ?_))
    exact .eq (.any .nil)
  refine Ex.toLe ?_ l
  have hr0 := hw.r0
  exact ss_one (s_ret (e_and (e_callP GAreArcs (hr.mono (by omega)) T.gAreArcs T.FAreArcs.kp T.bAreArcs (d_cons (e_ixT (v := encR wb.ends) (e_var 0 rfl) e_int rfl) d_nil) (r := .d (.bool true)) ⟨wb.ends, by omega, fun a ha => (hw.en ha).1, rfl, rfl⟩) (fun _ => e_one (e_callP GIsCount (hr.mono (by omega)) T.gIsCount T.FIsCount.kp T.bIsCount (d_cons (e_ixT (v := .int wb.rings) (e_var 0 rfl) e_int rfl) d_nil) (r := .d (.bool true)) ⟨wb.rings, hr0, rfl, rfl⟩))) (pr_is rfl))
theorem ok_check_web {f : Addr} {fd : FuncData} {k : Nat} (F : Fun K "check_web" "check_web" sCheckWeb f fd) (T : Txt K mg) : FnOk P w K mg base CX0 (k + 4) f fd ["thing"] (spA K (pure_ fCheckW)) := by
  have GIsMade := ok_is_made (P := P) (w := w) (base := base) (k := 0) T.FIsMade T
  have GPlaces := ok_places (P := P) (w := w) (base := base) (k := 0) T.FPlaces T
  refine fn_pure F scCheckWeb (by decide) (fun ds r h => by obtain ⟨_, _, rfl, _⟩ := h; rfl) (fun cdv A1 outer s H W B ds r hr hf hB => ?_)
  obtain ⟨wb, hw, rfl, rfl⟩ := hf
  have hu := hr.units
  refine ss_cons (s_if (t_not (t_val (e_callP GIsMade (hr.mono (by omega)) T.gIsMade T.FIsMade.kp T.bIsMade (d_cons (e_var 0 rfl) d_nil) (r := .d (.bool true)) ⟨wb, hw, rfl, rfl⟩))) (fun hc => nomatch hc) (fun hc => ss_nil ?_))
  have hkl : (placesF wb).length ≤ 20000 := by
    have := webs_len hw.f.ok
    rw [← keysP_places] at this
    unfold keysP at this
    rwa [List.length_map] at this
  have hall : (placesF wb).filter (fun q => !decide ((q.2.length : Int) = 2)) = [] := by
    refine List.filter_eq_nil_iff.mpr fun q hq => ?_
    obtain ⟨p, _, h2⟩ := places_two hw.f.four hw.f.two (a := q.1) hq
    rw [h2]
    exact fun z => nomatch z
  refine ss_cons (s_setLc 1 (l_lcF [("arc", 2), ("some", 3)] encPl1 (xs := placesF wb) (fun q => !decide ((q.2.length : Int) = 2)) (fun q => .int q.1) (Src.to (pl_items _) (src_items (e_frzDl (e_callP GPlaces (hr.mono (by omega)) T.gPlaces T.FPlaces.kp T.bPlaces (d_cons (e_var 0 rfl) d_nil) ⟨wb, hw.f.ok, rfl, rfl⟩)))) scCheckWeb.nd (by omega) (fun i q hq => ⟨_, fun s H C cl fp => gc_tup (gcs_cons (gcn 2 rfl (by decide) scCheckWeb.nd) (gcs_cons (gcn 3 rfl (by decide) scCheckWeb.nd) (gcsn rfl))), fun s H C cl fp => i_one (t_neI (E.to (e_lenL (E.o (e_var 3 rfl)) T.z_len) (w := .int (q.2.length : Int)) (by rw [List.length_map])) e_int), fun _ s H C cl fp => e_var 2 rfl, rfl⟩) rfl (fun _ z => nomatch z) (blkOk_by (N := nCheckWeb) (sc := defScope sCheckWeb) (by decide +kernel))) ?_ (nl hB))
  rw [hall]
  refine ss_one (s_if (t_gt (e_lenL (o_slot 1 rfl) T.z_len) e_int) (fun hc => nomatch hc) (fun hc => ss_nil ?_))
  exact pr_is rfl
theorem ok_read {f : Addr} {fd : FuncData} {k : Nat} (F : Fun K "read" "read" sRead f fd) (T : Txt K mg) : FnOk P w K mg base CX0 (k + 5) f fd ["text"] (spA K (pure_ fRead)) := by
  have GCheckWeb := ok_check_web (P := P) (w := w) (base := base) (k := 0) T.FCheckWeb T
  have GReadWeb := ok_read_web (P := P) (w := w) (base := base) (k := 0) T.FReadWeb T
  have GWordsOf := ok_words_of (P := P) (w := w) (base := base) (k := 0) T.FWordsOf T
  refine fn_pure F scRead (by decide) (fun ds r h => by obtain ⟨_, _, rfl, _⟩ := h; rfl) (fun cdv A1 outer s H W B ds r hr hf hB => ?_)
  obtain ⟨wb, hw, rfl, rfl⟩ := hf
  refine ss_cons (s_if (t_not (t_val (e_is .str (E.o (e_var 0 rfl)) T.z_isinstance T.z_str))) (fun hc => nomatch hc) (fun hc => ss_nil ?_))
  refine ss_cons (s_set 1 (e_callP GReadWeb (hr.mono (by omega)) T.gReadWeb T.FReadWeb.kp T.bReadWeb (d_cons (E.fz (e_callP GWordsOf (hr.mono (by omega)) T.gWordsOf T.FWordsOf.kp T.bWordsOf (d_cons (e_var 0 rfl) d_nil) ⟨wb, hw, rfl, rfl⟩)) d_nil) ⟨wb, hw, rfl, rfl⟩) ?_ (nl hB) scRead.nd)
  refine ss_cons (s_expr (e_callP GCheckWeb (hr.mono (by omega)) T.gCheckWeb T.FCheckWeb.kp T.bCheckWeb (d_cons (e_var 1 rfl) d_nil) ⟨wb, hw, rfl, rfl⟩) ?_)
  exact ss_one (s_ret (e_var 1 rfl) (pr_is rfl))
theorem ok_shown {f : Addr} {fd : FuncData} {k : Nat} (F : Fun K "shown" "shown" sShown f fd) (T : Txt K mg) : FnOk P w K mg base CX0 (k + 1) f fd ["web"] (spA K (pure_ fShownW)) := by
  refine fn_pure F scShown (by decide) (fun ds r h => by obtain ⟨_, _, rfl, _⟩ := h; rfl) (fun cdv A1 outer s H W B ds r hr hf hB => ?_)
  obtain ⟨wb, hw, rfl, rfl⟩ := hf
  have hu := hr.units
  have hcs := hw.cs
  have hes := hw.es
  refine ss_cons (s_set 1 (e_lst d_nil) ?_ (nl hB) scShown.nd)
  refine ss_cons (s_forF encR (xs := wb.cs) (src_t (e_ixT (v := .tuple (wb.cs.map encR)) (e_var 0 rfl) e_int rfl)) ([] : List (List Nat)) (fun W c => W ++ (wX :: c.map numI)) (fun W => [.d (encW wb), .ml (W.map eS), .any, .any]) (fun W i => W.length ≤ 9 * i) (Nat.le_refl _) (.eq (.eq (.any (.any .nil)))) (fun W i x hi hJ => ?_) (fun ρ' hJ l => ?_))
  · have hi' := (List.getElem?_eq_some_iff.mp hi).1
    have hx := List.mem_of_getElem? hi
    have h4 := hw.f.four x hx
    refine ⟨by rw [List.length_append, List.length_cons, List.length_map, h4]; omega, _, g_name 2 (nl hB) scShown.nd, ?_⟩
    refine ss_cons (s_expr (e_app 1 e_str ⟨_, rfl⟩ rfl (by rw [List.length_map]; omega)) ?_)
    refine ss_one (s_expr (e_ext 1 (e_lcM [("arc", 3)] PyData.int (xs := x) (fun a => eS (numI a)) (src_t (e_var 2 rfl)) scShown.nd (by omega) (fun j u hu2 => ⟨_, fun s H C cl fp => gcn 3 rfl (by decide) scShown.nd, fun s H C cl fp => E.to (e_strI (e_var 3 rfl) (lg9 (hw.cr hx (List.mem_of_getElem? hu2)).1 (hw.cr hx (List.mem_of_getElem? hu2)).2) T.z_str) (congrArg PyData.str (str_i (hw.cr hx (List.mem_of_getElem? hu2)).1)), rfl⟩) rfl (fun _ z => nomatch z) (blkOk_by (N := nShown) (sc := defScope sShown) (by decide +kernel))) ⟨_, rfl⟩ rfl (by rw [List.length_append, List.length_map, List.length_map, h4, List.length_singleton]; omega)) ?_)
    refine .eq (.ll ?_ (.any (.any .nil)))
    rw [List.map_append, List.map_cons, List.map_map, List.append_assoc]
    rfl
  refine Ex.toLe ?_ l
  rw [csWs_fold, List.nil_append]
  have hcl := csWs_len wb.cs hw.f.four
  have hel := esWs_len wb.ends
  refine ss_cons (s_ifR [.d (encW wb), .ml ((csWs wb.cs ++ esWs wb.ends).map eS), .any, .any] (t_gt (e_lenT (e_ixT (v := encR wb.ends) (e_var 0 rfl) e_int rfl) T.z_len) e_int) (fun hc => ?_) (fun hc => ?_) (fun ρ' l => ?_))
  · have hc : (0 : Int) < ((wb.ends.map PyData.int).length : Nat) := of_decide_eq_true hc
    rw [List.length_map] at hc
    have hne : wb.ends ≠ [] := fun z => by rw [z] at hc; exact absurd hc (by decide)
    refine ss_cons (s_expr (e_app 1 e_str ⟨_, rfl⟩ rfl (by rw [List.length_map]; omega)) ?_)
    refine ss_one (s_expr (e_ext 1 (e_lcM [("arc", 3)] PyData.int (xs := wb.ends) (fun a => eS (numI a)) (src_t (e_ixT (v := encR wb.ends) (e_var 0 rfl) e_int rfl)) scShown.nd (by omega) (fun j u hu2 => ⟨_, fun s H C cl fp => gcn 3 rfl (by decide) scShown.nd, fun s H C cl fp => E.to (e_strI (e_var 3 rfl) (lg9 (hw.en (List.mem_of_getElem? hu2)).1 (hw.en (List.mem_of_getElem? hu2)).2) T.z_str) (congrArg PyData.str (str_i (hw.en (List.mem_of_getElem? hu2)).1)), rfl⟩) rfl (fun _ z => nomatch z) (blkOk_by (N := nShown) (sc := defScope sShown) (by decide +kernel))) ⟨_, rfl⟩ rfl (by rw [List.length_append, List.length_map, List.length_map, List.length_singleton]; omega)) ?_)
    refine .eq (.ll ?_ (.any (.any .nil)))
    unfold esWs
    rw [if_neg hne, List.map_append, List.map_cons, List.map_map, List.append_assoc]
    rfl
  · have hc : ¬ (0 : Int) < ((wb.ends.map PyData.int).length : Nat) := of_decide_eq_false hc
    rw [List.length_map] at hc
    have hne : wb.ends = [] := List.eq_nil_of_length_eq_zero (by omega)
    refine ss_nil (.eq (.ll ?_ (.any (.any .nil))))
    unfold esWs
    rw [if_pos hne, List.append_nil]
  refine Ex.toLe ?_ l
  have hrl : (rsWs wb.rings).length ≤ 2 := rsWs_len _
  refine ss_cons (s_ifR [.d (encW wb), .ml ((webWs wb).map eS), .any, .any] (t_gt (e_ixT (v := .int wb.rings) (e_var 0 rfl) e_int rfl) e_int) (fun hc => ?_) (fun hc => ?_) (fun ρ' l => ?_))
  · have hc : 0 < wb.rings := of_decide_eq_true hc
    refine ss_one (s_expr (e_ext 1 (e_lst (d_cons e_str (d_cons (E.to (e_strI (e_ixT (v := .int wb.rings) (e_var 0 rfl) e_int rfl) (lg9 hw.r0 hw.r1) T.z_str) (w := eS (numI wb.rings)) (congrArg PyData.str (str_i hw.r0))) d_nil))) ⟨_, rfl⟩ rfl (by rw [List.length_map, List.length_append]; show _ + 2 ≤ _; omega)) ?_)
    refine .eq (.ll ?_ (.any (.any .nil)))
    unfold webWs rsWs
    rw [if_pos hc, List.map_append (l₂ := [wO, numI wb.rings])]
    rfl
  · have hc : ¬ 0 < wb.rings := of_decide_eq_false hc
    refine ss_nil (.eq (.ll ?_ (.any (.any .nil))))
    unfold webWs rsWs
    rw [if_neg hc, List.append_nil]
  refine Ex.toLe ?_ l
  obtain ⟨w1, w2⟩ := webWs_len hw
  have w3 := sum_le w2
  refine ss_one (s_ret (e_joinS (ys := (webWs wb).map mkS) e_str (EO.tol (o_slot 1 rfl) (by rw [List.map_map]; rfl)) ?_) (pr_is (by rw [join_text])))
  rw [List.map_map, List.length_map]
  have e : ((webWs wb).map ((·.length) ∘ mkS)).sum = ((webWs wb).map (·.length)).sum := congrArg List.sum (List.map_congr_left fun w _ => mkS_len w)
  have : (mkS [32]).length = 1 := rfl
  show _ + (webWs wb).length * (mkS [32]).length ≤ _
  rw [e, this]
  omega
theorem ok_text {f : Addr} {fd : FuncData} {k : Nat} (F : Fun K "_law_text" "_law_text" sText f fd) (T : Txt K mg) : FnOk P w K mg base CX0 (k + 1) f fd ["_law_web_here"] (spA K (pure_ fShownW)) := by
  refine fn_pure F scText (by decide) (fun ds r h => by obtain ⟨_, _, rfl, _⟩ := h; rfl) (fun cdv A1 outer s H W B ds r hr hf hB => ?_)
  obtain ⟨wb, hw, rfl, rfl⟩ := hf
  have hu := hr.units
  have hcs := hw.cs
  have hes := hw.es
  refine ss_cons (s_set 1 (e_lst d_nil) ?_ (nl hB) scText.nd)
  refine ss_cons (s_forF encR (xs := wb.cs) (src_t (e_ixT (v := .tuple (wb.cs.map encR)) (e_var 0 rfl) e_int rfl)) ([] : List (List Nat)) (fun W c => W ++ (wX :: c.map numI)) (fun W => [.d (encW wb), .ml (W.map eS), .any, .any]) (fun W i => W.length ≤ 9 * i) (Nat.le_refl _) (.eq (.eq (.any (.any .nil)))) (fun W i x hi hJ => ?_) (fun ρ' hJ l => ?_))
  · have hi' := (List.getElem?_eq_some_iff.mp hi).1
    have hx := List.mem_of_getElem? hi
    have h4 := hw.f.four x hx
    refine ⟨by rw [List.length_append, List.length_cons, List.length_map, h4]; omega, _, g_name 2 (nl hB) scText.nd, ?_⟩
    refine ss_one (s_set 1 (e_cat (E.pl (e_cat (pl_slot 1 rfl) (E.pl (e_lst (d_cons e_str d_nil))) (by rw [List.length_map]; show _ + 1 ≤ _; omega))) (E.pl (e_lcM [("_law_arc", 3)] PyData.int (xs := x) (fun a => eS (numI a)) (src_t (e_var 2 rfl)) scText.nd (by omega) (fun j u hu2 => ⟨_, fun s H C cl fp => gcn 3 rfl (by decide) scText.nd, fun s H C cl fp => E.to (e_strI (e_var 3 rfl) (lg9 (hw.cr hx (List.mem_of_getElem? hu2)).1 (hw.cr hx (List.mem_of_getElem? hu2)).2) T.z_str) (congrArg PyData.str (str_i (hw.cr hx (List.mem_of_getElem? hu2)).1)), rfl⟩) rfl (fun _ z => nomatch z) (blkOk_by (N := nText) (sc := defScope sText) (by decide +kernel)))) (by rw [List.length_append, List.length_map, List.length_map, h4, List.length_singleton]; omega)) ?_ (nl hB) scText.nd)
    refine .eq (.ll ?_ (.any (.any .nil)))
    rw [List.map_append, List.map_cons, List.map_map, List.append_assoc]
    rfl
  refine Ex.toLe ?_ l
  rw [csWs_fold, List.nil_append]
  have hcl := csWs_len wb.cs hw.f.four
  have hel := esWs_len wb.ends
  refine ss_cons (s_ifR [.d (encW wb), .ml ((csWs wb.cs ++ esWs wb.ends).map eS), .any, .any] (t_gt (e_lenT (e_ixT (v := encR wb.ends) (e_var 0 rfl) e_int rfl) T.z_len) e_int) (fun hc => ?_) (fun hc => ?_) (fun ρ' l => ?_))
  · have hc : (0 : Int) < ((wb.ends.map PyData.int).length : Nat) := of_decide_eq_true hc
    rw [List.length_map] at hc
    have hne : wb.ends ≠ [] := fun z => by rw [z] at hc; exact absurd hc (by decide)
    refine ss_one (s_set 1 (e_cat (E.pl (e_cat (pl_slot 1 rfl) (E.pl (e_lst (d_cons e_str d_nil))) (by rw [List.length_map]; show _ + 1 ≤ _; omega))) (E.pl (e_lcM [("_law_arc", 3)] PyData.int (xs := wb.ends) (fun a => eS (numI a)) (src_t (e_ixT (v := encR wb.ends) (e_var 0 rfl) e_int rfl)) scText.nd (by omega) (fun j u hu2 => ⟨_, fun s H C cl fp => gcn 3 rfl (by decide) scText.nd, fun s H C cl fp => E.to (e_strI (e_var 3 rfl) (lg9 (hw.en (List.mem_of_getElem? hu2)).1 (hw.en (List.mem_of_getElem? hu2)).2) T.z_str) (congrArg PyData.str (str_i (hw.en (List.mem_of_getElem? hu2)).1)), rfl⟩) rfl (fun _ z => nomatch z) (blkOk_by (N := nText) (sc := defScope sText) (by decide +kernel)))) (by rw [List.length_append, List.length_map, List.length_map, List.length_singleton]; omega)) ?_ (nl hB) scText.nd)
    refine .eq (.ll ?_ (.any (.any .nil)))
    unfold esWs
    rw [if_neg hne, List.map_append, List.map_cons, List.map_map, List.append_assoc]
    rfl
  · have hc : ¬ (0 : Int) < ((wb.ends.map PyData.int).length : Nat) := of_decide_eq_false hc
    rw [List.length_map] at hc
    have hne : wb.ends = [] := List.eq_nil_of_length_eq_zero (by omega)
    refine ss_nil (.eq (.ll ?_ (.any (.any .nil))))
    unfold esWs
    rw [if_pos hne, List.append_nil]
  refine Ex.toLe ?_ l
  have hrl : (rsWs wb.rings).length ≤ 2 := rsWs_len _
  refine ss_cons (s_ifR [.d (encW wb), .ml ((webWs wb).map eS), .any, .any] (t_gt (e_ixT (v := .int wb.rings) (e_var 0 rfl) e_int rfl) e_int) (fun hc => ?_) (fun hc => ?_) (fun ρ' l => ?_))
  · have hc : 0 < wb.rings := of_decide_eq_true hc
    refine ss_one (s_set 1 (e_cat (pl_slot 1 rfl) (E.pl (e_lst (d_cons e_str (d_cons (E.to (e_strI (e_ixT (v := .int wb.rings) (e_var 0 rfl) e_int rfl) (lg9 hw.r0 hw.r1) T.z_str) (w := eS (numI wb.rings)) (congrArg PyData.str (str_i hw.r0))) d_nil)))) (by rw [List.length_map, List.length_append]; show _ + 2 ≤ _; omega)) ?_ (nl hB) scText.nd)
    refine .eq (.ll ?_ (.any (.any .nil)))
    unfold webWs rsWs
    rw [if_pos hc, List.map_append (l₂ := [wO, numI wb.rings])]
    rfl
  · have hc : ¬ 0 < wb.rings := of_decide_eq_false hc
    refine ss_nil (.eq (.ll ?_ (.any (.any .nil))))
    unfold webWs rsWs
    rw [if_neg hc, List.append_nil]
  refine Ex.toLe ?_ l
  obtain ⟨w1, w2⟩ := webWs_len hw
  have w3 := sum_le w2
  refine ss_one (s_ret (e_joinS (ys := (webWs wb).map mkS) e_str (EO.tol (o_slot 1 rfl) (by rw [List.map_map]; rfl)) ?_) (pr_is (by rw [join_text])))
  rw [List.map_map, List.length_map]
  have e : ((webWs wb).map ((·.length) ∘ mkS)).sum = ((webWs wb).map (·.length)).sum := congrArg List.sum (List.map_congr_left fun w _ => mkS_len w)
  have : (mkS [32]).length = 1 := rfl
  show _ + (webWs wb).length * (mkS [32]).length ≤ _
  rw [e, this]
  omega
theorem ok_whole {f : Addr} {fd : FuncData} {k : Nat} (F : Fun K "_law_whole" "_law_whole" sWhole f fd) (T : Txt K mg) : FnOk P w K mg base CX0 (k + 1) f fd ["_law_found"] (spA K (pure_ fWhole)) := by
  refine fn_pure F scWhole (by decide) (fun ds r h => by obtain ⟨_, rfl, _⟩ := h; rfl) (fun cdv A1 outer s H W B ds r hr hf hB => ?_)
  obtain ⟨a, rfl, rfl⟩ := hf
  exact ss_one (s_ret (e_and (e_is .int (E.o (e_var 0 rfl)) T.z_isinstance T.z_int) (fun _ => e_one (e_not (e_is .bool (E.o (e_var 0 rfl)) T.z_isinstance T.z_bool)))) (pr_is rfl))
theorem ok_made {f : Addr} {fd : FuncData} {k : Nat} (F : Fun K "_law_made" "_law_made" sMade f fd) (T : Txt K mg) : FnOk P w K mg base CX0 (k + 2) f fd ["_law_found"] (spA K (pure_ fMadeW)) := by
  have GWhole := ok_whole (P := P) (w := w) (base := base) (k := 0) T.FWhole T
  refine fn_pure F scMade (by decide) (fun ds r h => by obtain ⟨_, _, rfl, _⟩ := h; rfl) (fun cdv A1 outer s H W B ds r hr hf hB => ?_)
  obtain ⟨wb, hw, rfl, rfl⟩ := hf
  have hu := hr.units
  have hcs := hw.cs
  have hes := hw.es
  refine ss_cons (s_if (t_w (w_or (t_not (t_val (e_is .tuple (E.o (e_var 0 rfl)) T.z_isinstance T.z_tuple))) (fun _ => w_or (t_neI (e_lenT (e_var 0 rfl) T.z_len) e_int) (fun _ => w_or1 (t_not (t_val (e_is .tuple (E.o (e_ixT (v := .tuple (wb.cs.map encR)) (e_var 0 rfl) e_int rfl)) T.z_isinstance T.z_tuple))))))) (fun hc => nomatch hc) (fun hc => ss_nil ?_))
  refine ss_cons (s_forF encR (xs := wb.cs ++ [wb.ends]) (src_t (E.to (e_catT (e_ixT (v := .tuple (wb.cs.map encR)) (e_var 0 rfl) e_int rfl) (e_tup (d_cons (e_ixT (v := encR wb.ends) (e_var 0 rfl) e_int rfl) d_nil)) (by rw [List.length_map]; show _ + 1 ≤ _; omega)) (congrArg PyData.tuple (cat_row wb)))) () (fun _ _ => ()) (fun t => [.d (encW wb), .any, .any]) (fun t i => True) trivial (Le.refl _) (fun t i x hi hJ => ?_) (fun ρ' hJ l => ?_))
  · refine ⟨trivial, _, g_name 1 (nl hB) scMade.nd, ?_⟩
    have hxl : x.length ≤ 1000 := by
      rcases List.mem_append.mp (List.mem_of_getElem? hi) with h | h
      · rw [hw.f.four x h]; omega
      · rw [List.mem_singleton.mp h]; omega
    have hfn : x.filter (fun _ => false) = [] := List.filter_eq_nil_iff.mpr fun _ _ => Bool.false_ne_true
    refine ss_one (s_if (t_w (w_or (t_not (t_val (e_is .tuple (E.o (e_var 1 rfl)) T.z_isinstance T.z_tuple))) (fun _ => w_or1 (t_neD (hr := hu) (EO.tol (E.ol (e_lcF (k := none) [("_law_arc", 2)] PyData.int (xs := x) (fun _ => false) PyData.int (src_t (e_var 1 rfl)) scMade.nd (by omega) (fun j u hu2 => ⟨_, fun s H C cl fp => gcn 2 rfl (by decide) scMade.nd, fun s H C cl fp => i_one (t_not (t_val (e_callP GWhole (hr.mono (by omega)) T.gWhole T.FWhole.kp T.bWhole (d_cons (e_var 2 rfl) d_nil) (r := .d (.bool true)) ⟨u, rfl, rfl⟩))), fun _ s H C cl fp => e_var 2 rfl, rfl⟩) rfl (fun _ z => nomatch z) (blkOk_by (N := nMade) (sc := defScope sMade) (by decide +kernel)))) (ys := []) (by rw [hfn]; rfl)) (E.ol (e_lst d_nil)) rfl rfl)))) (fun hc => nomatch hc) (fun hc => ss_nil ?_))
    exact .eq (.any (.any .nil))
  refine Ex.toLe ?_ l
  exact ss_one (s_ret (e_callP GWhole (hr.mono (by omega)) T.gWhole T.FWhole.kp T.bWhole (d_cons (e_ixT (v := .int wb.rings) (e_var 0 rfl) e_int rfl) d_nil) (r := .d (.bool true)) ⟨wb.rings, rfl, rfl⟩) (pr_is rfl))
theorem ok_law {f : Addr} {fd : FuncData} {k : Nat} (F : Fun K "law" "law" sLaw f fd) (T : Txt K mg) : FnOk P w K mg base CX0 (k + 6) f fd ["_law_script"] (spA K (pure_ lawF)) := by
  have GMade := ok_made (P := P) (w := w) (base := base) (k := 0) T.FMade T
  have GTake := ok_take (P := P) (w := w) (base := base) (k := 0) T.FTake T
  have GText := ok_text (P := P) (w := w) (base := base) (k := 0) T.FText T
  have GWeb := ok_web (P := P) (w := w) (base := base) (k := 0) T.FWeb T
  have GRead := ok_read (P := P) (w := w) (base := base) (k := 0) T.FRead T
  have GShown := ok_shown (P := P) (w := w) (base := base) (k := 0) T.FShown T
  refine fn_pure F scLaw (by decide) (fun ds r h => by obtain ⟨_, _, rfl, _⟩ := h; rfl) (fun cdv A1 outer s H W B ds r hr hf hB => ?_)
  obtain ⟨ns, hns, rfl, rfl⟩ := hf
  have hu := hr.units
  refine ss_cons (s_forF PyData.int (xs := 0 :: ns.take 63) (src_l (E.to (E.fz (e_cat (E.pl (e_lst (d_cons e_int d_nil))) (E.pl (e_slL (E.o (e_var 0 rfl)) p_none (p_some e_int))) (by have := List.length_take (i := 63) (l := ns.map PyData.int); show _ + (cut _ none (some ((63 : Nat) : Int))).length ≤ _; rw [take_cut]; show 1 + _ ≤ _; omega))) (w := .list ((0 :: ns.take 63).map .int)) (by show PyData.list (_ ++ cut _ none (some ((63 : Nat) : Int))) = _; rw [take_cut, ← List.map_take]; rfl))) () (fun _ _ => ()) (fun t => [.d (.list (ns.map .int)), .any, .any, .any, .any, .any, .any]) (fun t i => True) trivial (Le.refl _) (fun t i c hi hJ => ?_) (fun ρ' hJ l => ?_))
  · refine ⟨trivial, _, g_name 1 (nl hB) scLaw.nd, ?_⟩
    refine ss_cons (s_set 2 (e_lst (d_cons (e_var 1 rfl) (d_cons e_int d_nil))) ?_ (nl hB) scLaw.nd)
    have p0 := pick2_bd (s := (c, 0)) (a := 4) (b := 46) (c := 8) (m := 46) (by decide) (by decide) (by decide) (by decide)
    have u0 := tkV_lo (s := tkS (tkS (tkS (c, 0) 4) 46) 8) (b := 7) (by decide)
    have u1 := tkV_hi (s := tkS (tkS (tkS (c, 0) 4) 46) 8) (b := 7) (by decide)
    have hm' : ((pick2 (c, 0) 4 46 8).toNat : Int) = pick2 (c, 0) 4 46 8 := Int.toNat_of_nonneg p0.1
    have hh' : ((tkV (tkS (tkS (tkS (c, 0) 4) 46) 8) 7).toNat : Int) = tkV (tkS (tkS (tkS (c, 0) 4) 46) 8) 7 := Int.toNat_of_nonneg u0
    generalize hm : (pick2 (c, 0) 4 46 8).toNat = m at *
    generalize hh : (tkV (tkS (tkS (tkS (c, 0) 4) 46) 8) 7).toNat = h at *
    refine ss_cons (s_set 3 (E.to (e_ixL (E.ol (e_lst (d_cons (e_take 2 (s := (c, 0)) GTake (hr.mono (by omega)) T.gTake T.FTake.kp T.bTake e_int ⟨_, rfl, rfl⟩ rfl) (d_cons (e_take 2 (s := tkS (c, 0) 4) GTake (hr.mono (by omega)) T.gTake T.FTake.kp T.bTake e_int ⟨_, rfl, rfl⟩ rfl) d_nil)))) (e_intB (e_eqI (e_take 2 (s := tkS (tkS (c, 0) 4) 46) GTake (hr.mono (by omega)) T.gTake T.FTake.kp T.bTake e_int ⟨_, rfl, rfl⟩ rfl) e_int) T.z_int) at_b2i) (w := .int (m : Int)) (congrArg PyData.int hm'.symm)) ?_ (nl hB) scLaw.nd)
    refine ss_cons (s_set 4 (e_call GWeb (hr.mono (by omega)) T.gWeb T.FWeb.kp T.bWeb (a_lent 2 rfl rfl (a_dat (e_var 3 rfl) (a_dat (E.to (e_mulS e_int (e_take 2 (s := tkS (tkS (tkS (c, 0) 4) 46) 8) GTake (hr.mono (by omega)) T.gTake T.FTake.kp T.bTake e_int ⟨_, rfl, rfl⟩ rfl) (.inl ⟨by decide, by decide⟩)) (w := .int ((2 * h : Nat) : Int)) (congrArg PyData.int (by push_cast; omega))) a_nil))) ⟨tkS (tkS (tkS (tkS (c, 0) 4) 46) 8) 7, m, h, ⟨by show (0 : Int) ≤ 0 + 1 + 1 + 1 + 1; omega, by show (0 : Int) + 1 + 1 + 1 + 1 ≤ 800000; omega⟩, by omega, by omega, rfl, rfl, rfl⟩ shape_1 (show [2].Nodup by decide) (fun _ _ z => z.elim)) ?_ (nl hB) scLaw.nd)
    show Ss _ _ _ [.d (.list (ns.map .int)), .d (.int c), rowA (webS (tkS (tkS (tkS (tkS (c, 0) 4) 46) 8) 7) m h), .d (.int (m : Int)), .d (encW (webF (tkS (tkS (tkS (tkS (c, 0) 4) 46) 8) 7) m h)), .any, .any] _
    have hW := webF_t (tkS (tkS (tkS (tkS (c, 0) 4) 46) 8) 7) (m := m) (h := h) (by omega) (by omega) (by omega)
    generalize webF (tkS (tkS (tkS (tkS (c, 0) 4) 46) 8) 7) m h = wb at *
    have hA : Asc (textL (webWs wb)) := asc_text _ fun p hp => (webWs_free wb p hp).2.2
    have hfW : SeqAt.shaped (encW wb) = true := (fit_W wb).shaped
    refine ss_cons (s_set 5 (e_callP GShown (hr.mono (by omega)) T.gShown T.FShown.kp T.bShown (d_cons (e_var 4 rfl) d_nil) ⟨wb, hW, rfl, rfl⟩) ?_ (nl hB) scLaw.nd)
    refine ss_cons (s_if (t_w (w_or (t_not (t_val (e_is .str (E.o (e_var 5 rfl)) T.z_isinstance T.z_str))) (fun _ => w_or1 (t_neD (hr := hu) (E.o (e_var 5 rfl)) (E.o (e_callP GText (hr.mono (by omega)) T.gText T.FText.kp T.bText (d_cons (e_var 4 rfl) d_nil) (r := .d (eS (textL (webWs wb)))) ⟨wb, hW, rfl, rfl⟩)) (asc_ok hA) (asc_ok hA))))) (fun hc => ?_) (fun hc => ss_nil ?_))
    · have hc : (!true || !PyData.eqv (eS (textL (webWs wb))) (eS (textL (webWs wb)))) = true := hc
      rw [eqv_str, decide_eq_true rfl] at hc
      cases hc
    refine ss_cons (s_set 6 (e_callP GRead (hr.mono (by omega)) T.gRead T.FRead.kp T.bRead (d_cons (e_var 5 rfl) d_nil) ⟨wb, hW, rfl, rfl⟩) ?_ (nl hB) scLaw.nd)
    refine ss_one (s_if (t_w (w_or (t_not (t_val (e_callP GMade (hr.mono (by omega)) T.gMade T.FMade.kp T.bMade (d_cons (e_var 6 rfl) d_nil) (r := .d (.bool true)) ⟨wb, hW, rfl, rfl⟩))) (fun _ => w_or (t_neD (hr := hu) (E.o (e_var 6 rfl)) (E.o (e_var 4 rfl)) hfW hfW) (fun _ => w_or (t_neD (hr := hu) (E.o (e_callP GShown (hr.mono (by omega)) T.gShown T.FShown.kp T.bShown (d_cons (e_var 6 rfl) d_nil) (r := .d (eS (textL (webWs wb)))) ⟨wb, hW, rfl, rfl⟩)) (E.o (e_var 5 rfl)) (asc_ok hA) (asc_ok hA)) (fun _ => w_or1 (t_neD (hr := hu) (E.o (e_callP GRead (hr.mono (by omega)) T.gRead T.FRead.kp T.bRead (d_cons (e_var 5 rfl) d_nil) (r := .d (encW wb)) ⟨wb, hW, rfl, rfl⟩)) (E.o (e_var 4 rfl)) hfW hfW)))))) (fun hc => ?_) (fun hc => ss_nil ?_))
    · have hc : (!true || (!PyData.eqv (encW wb) (encW wb) || (!PyData.eqv (eS (textL (webWs wb))) (eS (textL (webWs wb))) || !PyData.eqv (encW wb) (encW wb)))) = true := hc
      rw [eqv_str, decide_eq_true rfl, eqvW] at hc
      cases hc
    exact .eq (.any (.any (.any (.any (.any (.any .nil))))))
  refine Ex.toLe ?_ l
  exact ss_one (s_ret e_bl (pr_is rfl))
end
theorem all_mk {l : PySem.W.OpenLaw} {w : World} {K : PySem.W.Frag} {h : Heap} {mg : Str → Option Value} {fa f1 f2 f3 f4 f5 f6 f7 f8 f9 f10 f11 f12 f13 f14 f15 f16 f17 f18 f19 f20 : Addr} (X : K.In h) (G : h.Ns mainGlobals mg) (hfa : mg "law" = some (.ref fa))
    {od1 an1 od2 an2 od3 an3 od4 an4 od5 an5 od6 an6 od7 an7 od8 an8 od9 an9 od10 an10 od11 an11 od12 an12 od13 an13 od14 an14 od15 an15 od16 an16 od17 an17 od18 an18 od19 an19 od20 an20 : Option Addr} {sl1 sl2 sl3 sl4 sl5 sl6 sl7 sl8 sl9 sl10 sl11 sl12 sl13 sl14 sl15 sl16 sl17 sl18 sl19 sl20 : Array (Option Value)} {oc1 kV1 dc1 pm1 cd1 ct1 oc2 kV2 dc2 pm2 cd2 ct2 oc3 kV3 dc3 pm3 cd3 ct3 oc4 kV4 dc4 pm4 cd4 ct4 oc5 kV5 dc5 pm5 cd5 ct5 oc6 kV6 dc6 pm6 cd6 ct6 oc7 kV7 dc7 pm7 cd7 ct7 oc8 kV8 dc8 pm8 cd8 ct8 oc9 kV9 dc9 pm9 cd9 ct9 oc10 kV10 dc10 pm10 cd10 ct10 oc11 kV11 dc11 pm11 cd11 ct11 oc12 kV12 dc12 pm12 cd12 ct12 oc13 kV13 dc13 pm13 cd13 ct13 oc14 kV14 dc14 pm14 cd14 ct14 oc15 kV15 dc15 pm15 cd15 ct15 oc16 kV16 dc16 pm16 cd16 ct16 oc17 kV17 dc17 pm17 cd17 ct17 oc18 kV18 dc18 pm18 cd18 ct18 oc19 kV19 dc19 pm19 cd19 ct19 oc20 kV20 dc20 pm20 cd20 ct20 : Value}
    (a1 : PySem.W.nsIn K mainGlobals "_law_web" = some (some (.ref f1))) (l1 : K.lookup f1 = some ⟨oc1, od1, .func (PySem.W.fnOf "_law_web" "_law_web" (defArgs sWeb) (defBody sWeb) (defScope sWeb) .none kV1 dc1 pm1 an1 cd1 ct1), sl1⟩) (c1 : PySem.W.codeIn K cd1 "_law_web" = true) (k1 : PySem.W.keepIn K (.ref f1) = true)
    (a2 : PySem.W.nsIn K mainGlobals "shown" = some (some (.ref f2))) (l2 : K.lookup f2 = some ⟨oc2, od2, .func (PySem.W.fnOf "shown" "shown" (defArgs sShown) (defBody sShown) (defScope sShown) .none kV2 dc2 pm2 an2 cd2 ct2), sl2⟩) (c2 : PySem.W.codeIn K cd2 "shown" = true) (k2 : PySem.W.keepIn K (.ref f2) = true)
    (a3 : PySem.W.nsIn K mainGlobals "read" = some (some (.ref f3))) (l3 : K.lookup f3 = some ⟨oc3, od3, .func (PySem.W.fnOf "read" "read" (defArgs sRead) (defBody sRead) (defScope sRead) .none kV3 dc3 pm3 an3 cd3 ct3), sl3⟩) (c3 : PySem.W.codeIn K cd3 "read" = true) (k3 : PySem.W.keepIn K (.ref f3) = true)
    (a4 : PySem.W.nsIn K mainGlobals "_law_take" = some (some (.ref f4))) (l4 : K.lookup f4 = some ⟨oc4, od4, .func (PySem.W.fnOf "_law_take" "_law_take" (defArgs sTake) (defBody sTake) (defScope sTake) .none kV4 dc4 pm4 an4 cd4 ct4), sl4⟩) (c4 : PySem.W.codeIn K cd4 "_law_take" = true) (k4 : PySem.W.keepIn K (.ref f4) = true)
    (a5 : PySem.W.nsIn K mainGlobals "_law_text" = some (some (.ref f5))) (l5 : K.lookup f5 = some ⟨oc5, od5, .func (PySem.W.fnOf "_law_text" "_law_text" (defArgs sText) (defBody sText) (defScope sText) .none kV5 dc5 pm5 an5 cd5 ct5), sl5⟩) (c5 : PySem.W.codeIn K cd5 "_law_text" = true) (k5 : PySem.W.keepIn K (.ref f5) = true)
    (a6 : PySem.W.nsIn K mainGlobals "_law_made" = some (some (.ref f6))) (l6 : K.lookup f6 = some ⟨oc6, od6, .func (PySem.W.fnOf "_law_made" "_law_made" (defArgs sMade) (defBody sMade) (defScope sMade) .none kV6 dc6 pm6 an6 cd6 ct6), sl6⟩) (c6 : PySem.W.codeIn K cd6 "_law_made" = true) (k6 : PySem.W.keepIn K (.ref f6) = true)
    (a7 : PySem.W.nsIn K mainGlobals "_law_arcs" = some (some (.ref f7))) (l7 : K.lookup f7 = some ⟨oc7, od7, .func (PySem.W.fnOf "_law_arcs" "_law_arcs" (defArgs sArcs) (defBody sArcs) (defScope sArcs) .none kV7 dc7 pm7 an7 cd7 ct7), sl7⟩) (c7 : PySem.W.codeIn K cd7 "_law_arcs" = true) (k7 : PySem.W.keepIn K (.ref f7) = true)
    (a8 : PySem.W.nsIn K mainGlobals "read_web" = some (some (.ref f8))) (l8 : K.lookup f8 = some ⟨oc8, od8, .func (PySem.W.fnOf "read_web" "read_web" (defArgs sReadWeb) (defBody sReadWeb) (defScope sReadWeb) .none kV8 dc8 pm8 an8 cd8 ct8), sl8⟩) (c8 : PySem.W.codeIn K cd8 "read_web" = true) (k8 : PySem.W.keepIn K (.ref f8) = true)
    (a9 : PySem.W.nsIn K mainGlobals "check_web" = some (some (.ref f9))) (l9 : K.lookup f9 = some ⟨oc9, od9, .func (PySem.W.fnOf "check_web" "check_web" (defArgs sCheckWeb) (defBody sCheckWeb) (defScope sCheckWeb) .none kV9 dc9 pm9 an9 cd9 ct9), sl9⟩) (c9 : PySem.W.codeIn K cd9 "check_web" = true) (k9 : PySem.W.keepIn K (.ref f9) = true)
    (a10 : PySem.W.nsIn K mainGlobals "words_of" = some (some (.ref f10))) (l10 : K.lookup f10 = some ⟨oc10, od10, .func (PySem.W.fnOf "words_of" "words_of" (defArgs sWordsOf) (defBody sWordsOf) (defScope sWordsOf) .none kV10 dc10 pm10 an10 cd10 ct10), sl10⟩) (c10 : PySem.W.codeIn K cd10 "words_of" = true) (k10 : PySem.W.keepIn K (.ref f10) = true)
    (a11 : PySem.W.nsIn K mainGlobals "_law_whole" = some (some (.ref f11))) (l11 : K.lookup f11 = some ⟨oc11, od11, .func (PySem.W.fnOf "_law_whole" "_law_whole" (defArgs sWhole) (defBody sWhole) (defScope sWhole) .none kV11 dc11 pm11 an11 cd11 ct11), sl11⟩) (c11 : PySem.W.codeIn K cd11 "_law_whole" = true) (k11 : PySem.W.keepIn K (.ref f11) = true)
    (a12 : PySem.W.nsIn K mainGlobals "is_word_at" = some (some (.ref f12))) (l12 : K.lookup f12 = some ⟨oc12, od12, .func (PySem.W.fnOf "is_word_at" "is_word_at" (defArgs sIsWordAt) (defBody sIsWordAt) (defScope sIsWordAt) .none kV12 dc12 pm12 an12 cd12 ct12), sl12⟩) (c12 : PySem.W.codeIn K cd12 "is_word_at" = true) (k12 : PySem.W.keepIn K (.ref f12) = true)
    (a13 : PySem.W.nsIn K mainGlobals "read_ends" = some (some (.ref f13))) (l13 : K.lookup f13 = some ⟨oc13, od13, .func (PySem.W.fnOf "read_ends" "read_ends" (defArgs sReadEnds) (defBody sReadEnds) (defScope sReadEnds) .none kV13 dc13 pm13 an13 cd13 ct13), sl13⟩) (c13 : PySem.W.codeIn K cd13 "read_ends" = true) (k13 : PySem.W.keepIn K (.ref f13) = true)
    (a14 : PySem.W.nsIn K mainGlobals "number_at" = some (some (.ref f14))) (l14 : K.lookup f14 = some ⟨oc14, od14, .func (PySem.W.fnOf "number_at" "number_at" (defArgs sNumberAt) (defBody sNumberAt) (defScope sNumberAt) .none kV14 dc14 pm14 an14 cd14 ct14), sl14⟩) (c14 : PySem.W.codeIn K cd14 "number_at" = true) (k14 : PySem.W.keepIn K (.ref f14) = true)
    (a15 : PySem.W.nsIn K mainGlobals "is_made" = some (some (.ref f15))) (l15 : K.lookup f15 = some ⟨oc15, od15, .func (PySem.W.fnOf "is_made" "is_made" (defArgs sIsMade) (defBody sIsMade) (defScope sIsMade) .none kV15 dc15 pm15 an15 cd15 ct15), sl15⟩) (c15 : PySem.W.codeIn K cd15 "is_made" = true) (k15 : PySem.W.keepIn K (.ref f15) = true)
    (a16 : PySem.W.nsIn K mainGlobals "places" = some (some (.ref f16))) (l16 : K.lookup f16 = some ⟨oc16, od16, .func (PySem.W.fnOf "places" "places" (defArgs sPlaces) (defBody sPlaces) (defScope sPlaces) .none kV16 dc16 pm16 an16 cd16 ct16), sl16⟩) (c16 : PySem.W.codeIn K cd16 "places" = true) (k16 : PySem.W.keepIn K (.ref f16) = true)
    (a17 : PySem.W.nsIn K mainGlobals "number_of" = some (some (.ref f17))) (l17 : K.lookup f17 = some ⟨oc17, od17, .func (PySem.W.fnOf "number_of" "number_of" (defArgs sNumberOf) (defBody sNumberOf) (defScope sNumberOf) .none kV17 dc17 pm17 an17 cd17 ct17), sl17⟩) (c17 : PySem.W.codeIn K cd17 "number_of" = true) (k17 : PySem.W.keepIn K (.ref f17) = true)
    (a18 : PySem.W.nsIn K mainGlobals "are_arcs" = some (some (.ref f18))) (l18 : K.lookup f18 = some ⟨oc18, od18, .func (PySem.W.fnOf "are_arcs" "are_arcs" (defArgs sAreArcs) (defBody sAreArcs) (defScope sAreArcs) .none kV18 dc18 pm18 an18 cd18 ct18), sl18⟩) (c18 : PySem.W.codeIn K cd18 "are_arcs" = true) (k18 : PySem.W.keepIn K (.ref f18) = true)
    (a19 : PySem.W.nsIn K mainGlobals "is_count" = some (some (.ref f19))) (l19 : K.lookup f19 = some ⟨oc19, od19, .func (PySem.W.fnOf "is_count" "is_count" (defArgs sIsCount) (defBody sIsCount) (defScope sIsCount) .none kV19 dc19 pm19 an19 cd19 ct19), sl19⟩) (c19 : PySem.W.codeIn K cd19 "is_count" = true) (k19 : PySem.W.keepIn K (.ref f19) = true)
    (a20 : PySem.W.nsIn K mainGlobals "law" = some (some (.ref f20))) (l20 : K.lookup f20 = some ⟨oc20, od20, .func (PySem.W.fnOf "law" "law" (defArgs sLaw) (defBody sLaw) (defScope sLaw) .none kV20 dc20 pm20 an20 cd20 ct20), sl20⟩) (c20 : PySem.W.codeIn K cd20 "law" = true) (k20 : PySem.W.keepIn K (.ref f20) = true)
    (z1 : PySem.W.nsIn K mainGlobals "int" = some none)
    (z2 : PySem.W.nsIn K mainGlobals "isinstance" = some none)
    (z3 : PySem.W.nsIn K mainGlobals "str" = some none)
    (z4 : PySem.W.nsIn K mainGlobals "list" = some none)
    (z5 : PySem.W.nsIn K mainGlobals "range" = some none)
    (z6 : PySem.W.nsIn K mainGlobals "tuple" = some none)
    (z7 : PySem.W.nsIn K mainGlobals "len" = some none)
    (z8 : PySem.W.nsIn K mainGlobals "min" = some none)
    (z9 : PySem.W.nsIn K mainGlobals "bool" = some none)
    (z10 : PySem.W.nsIn K mainGlobals "enumerate" = some none)
    (z11 : PySem.W.nsIn K mainGlobals "all" = some none)
    {v1_1 : Tok}
    (hc1 : PySem.W.nsIn K mainGlobals "RIM" = some (some (.int (-1) v1_1)))
    {v2_1 : Tok}
    (hc2 : PySem.W.nsIn K mainGlobals "MOST_FIGURES" = some (some (.int (9) v2_1)))
    {v3_1 : Tok}
    (hc3 : PySem.W.nsIn K mainGlobals "FIGURES" = some (some (.str "0123456789" v3_1)))
    : ∃ fd : FuncData, (∀ (s : Shared) (v : Value), BindsTo s fd ⟨[v], []⟩ [("_law_script", v)]) ∧ ∀ base : Heap, K.In base → base.Ns mainGlobals mg → FnOk l.prog w K mg base CX0 (0 + 6) fa fd ["_law_script"] (spA K (pure_ lawF)) := by
  have e := hfa.symm.trans (PySem.W.mg_of X G a20)
  cases e
  have F1 := fun_mk (st := sWeb) l1 c1 k1
  have F2 := fun_mk (st := sShown) l2 c2 k2
  have F3 := fun_mk (st := sRead) l3 c3 k3
  have F4 := fun_mk (st := sTake) l4 c4 k4
  have F5 := fun_mk (st := sText) l5 c5 k5
  have F6 := fun_mk (st := sMade) l6 c6 k6
  have F7 := fun_mk (st := sArcs) l7 c7 k7
  have F8 := fun_mk (st := sReadWeb) l8 c8 k8
  have F9 := fun_mk (st := sCheckWeb) l9 c9 k9
  have F10 := fun_mk (st := sWordsOf) l10 c10 k10
  have F11 := fun_mk (st := sWhole) l11 c11 k11
  have F12 := fun_mk (st := sIsWordAt) l12 c12 k12
  have F13 := fun_mk (st := sReadEnds) l13 c13 k13
  have F14 := fun_mk (st := sNumberAt) l14 c14 k14
  have F15 := fun_mk (st := sIsMade) l15 c15 k15
  have F16 := fun_mk (st := sPlaces) l16 c16 k16
  have F17 := fun_mk (st := sNumberOf) l17 c17 k17
  have F18 := fun_mk (st := sAreArcs) l18 c18 k18
  have F19 := fun_mk (st := sIsCount) l19 c19 k19
  have F20 := fun_mk (st := sLaw) l20 c20 k20
  exact ⟨PySem.W.fnOf "law" "law" (defArgs sLaw) (defBody sLaw) (defScope sLaw) .none kV20 dc20 pm20 an20 cd20 ct20, fun s v => .of_eq rfl, fun base _ _ => ok_law (k := 0) F20 ⟨f1, _, F1, PySem.W.mg_of X G a1, f2, _, F2, PySem.W.mg_of X G a2, f3, _, F3, PySem.W.mg_of X G a3, f4, _, F4, PySem.W.mg_of X G a4, f5, _, F5, PySem.W.mg_of X G a5, f6, _, F6, PySem.W.mg_of X G a6, f7, _, F7, PySem.W.mg_of X G a7, f8, _, F8, PySem.W.mg_of X G a8, f9, _, F9, PySem.W.mg_of X G a9, f10, _, F10, PySem.W.mg_of X G a10, f11, _, F11, PySem.W.mg_of X G a11, f12, _, F12, PySem.W.mg_of X G a12, f13, _, F13, PySem.W.mg_of X G a13, f14, _, F14, PySem.W.mg_of X G a14, f15, _, F15, PySem.W.mg_of X G a15, f16, _, F16, PySem.W.mg_of X G a16, f17, _, F17, PySem.W.mg_of X G a17, f18, _, F18, PySem.W.mg_of X G a18, f19, _, F19, PySem.W.mg_of X G a19, PySem.W.mg_none_of X G z1, PySem.W.mg_none_of X G z2, PySem.W.mg_none_of X G z3, PySem.W.mg_none_of X G z4, PySem.W.mg_none_of X G z5, PySem.W.mg_none_of X G z6, PySem.W.mg_none_of X G z7, PySem.W.mg_none_of X G z8, PySem.W.mg_none_of X G z9, PySem.W.mg_none_of X G z10, PySem.W.mg_none_of X G z11, ⟨_, PySem.W.mg_of X G hc1, kd_int⟩, ⟨_, PySem.W.mg_of X G hc2, kd_int⟩, ⟨_, PySem.W.mg_of X G hc3, kd_str⟩⟩⟩
end K03
open PySem PySem.W PyProof.Rows
set_option maxHeartbeats 0 in
theorem PySem.Challenge.cw_tanglehouse_k03_whole_shown_and_read_holds : PySem.Challenge.rw_tanglehouse_k03_whole_shown_and_read.Holds := by
  w_on; o_law; k_head; (case hw => w_witness2)
  k_fill
  refine L2.walk_of (l := PySem.Challenge.rw_tanglehouse_k03_whole_shown_and_read) (n := 63) (k := 6) (x := "_law_script") (CX := fun _ => L2.CX0) (sp := fun w => Th.spA _ (Th.pure_ Th.lawF)) rfl (by decide) rfl ⟨rfl, by decide, by decide⟩ (fun w h Y => PySem.W.kIn_of Y) ?F (fun _ _ a ns hl _ hS => Th.law_go hl hS) (fun _ _ _ _ _ h => h)
  case F =>
    intro w mg fa h KX G hmg
    refine' K03.all_mk KX G hmg ?a1 ?l1 ?c1 ?k1 ?a2 ?l2 ?c2 ?k2 ?a3 ?l3 ?c3 ?k3 ?a4 ?l4 ?c4 ?k4 ?a5 ?l5 ?c5 ?k5 ?a6 ?l6 ?c6 ?k6 ?a7 ?l7 ?c7 ?k7 ?a8 ?l8 ?c8 ?k8 ?a9 ?l9 ?c9 ?k9 ?a10 ?l10 ?c10 ?k10 ?a11 ?l11 ?c11 ?k11 ?a12 ?l12 ?c12 ?k12 ?a13 ?l13 ?c13 ?k13 ?a14 ?l14 ?c14 ?k14 ?a15 ?l15 ?c15 ?k15 ?a16 ?l16 ?c16 ?k16 ?a17 ?l17 ?c17 ?k17 ?a18 ?l18 ?c18 ?k18 ?a19 ?l19 ?c19 ?k19 ?a20 ?l20 ?c20 ?k20 ?z1 ?z2 ?z3 ?z4 ?z5 ?z6 ?z7 ?z8 ?z9 ?z10 ?z11 ?hc1 ?hc2 ?hc3
    (case a1 => k_is); (case l1 => k_is); (case c1 => k_is); (case k1 => k_is); (case a2 => k_is); (case l2 => k_is); (case c2 => k_is); (case k2 => k_is); (case a3 => k_is); (case l3 => k_is); (case c3 => k_is); (case k3 => k_is); (case a4 => k_is); (case l4 => k_is); (case c4 => k_is); (case k4 => k_is); (case a5 => k_is); (case l5 => k_is); (case c5 => k_is); (case k5 => k_is); (case a6 => k_is); (case l6 => k_is); (case c6 => k_is); (case k6 => k_is); (case a7 => k_is); (case l7 => k_is); (case c7 => k_is); (case k7 => k_is); (case a8 => k_is); (case l8 => k_is); (case c8 => k_is); (case k8 => k_is); (case a9 => k_is); (case l9 => k_is); (case c9 => k_is); (case k9 => k_is); (case a10 => k_is); (case l10 => k_is); (case c10 => k_is); (case k10 => k_is); (case a11 => k_is); (case l11 => k_is); (case c11 => k_is); (case k11 => k_is); (case a12 => k_is); (case l12 => k_is); (case c12 => k_is); (case k12 => k_is); (case a13 => k_is); (case l13 => k_is); (case c13 => k_is); (case k13 => k_is); (case a14 => k_is); (case l14 => k_is); (case c14 => k_is); (case k14 => k_is); (case a15 => k_is); (case l15 => k_is); (case c15 => k_is); (case k15 => k_is); (case a16 => k_is); (case l16 => k_is); (case c16 => k_is); (case k16 => k_is); (case a17 => k_is); (case l17 => k_is); (case c17 => k_is); (case k17 => k_is); (case a18 => k_is); (case l18 => k_is); (case c18 => k_is); (case k18 => k_is); (case a19 => k_is); (case l19 => k_is); (case c19 => k_is); (case k19 => k_is); (case a20 => k_is); (case l20 => k_is); (case c20 => k_is); (case k20 => k_is); (case z1 => k_is); (case z2 => k_is); (case z3 => k_is); (case z4 => k_is); (case z5 => k_is); (case z6 => k_is); (case z7 => k_is); (case z8 => k_is); (case z9 => k_is); (case z10 => k_is); (case z11 => k_is); (case hc1 => k_is); (case hc2 => k_is); (case hc3 => k_is)

