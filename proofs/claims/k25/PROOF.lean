import PyProof.Rows.All
import Wide.All
import OpenK.AllK
import Wide.FinOn
import HandS.ForMost
import HandS.Wide
import HandS.IsInst
import HandS.SortInts
import HandS.Zip
import HandS.TupAny
import KE.KDictKeyed
import HandS.More
import HandS.SetFor
import HandS.Style
import HandS.Rev
import HandS.Text
import HandS.HeadHook3
import HandS.Steps
import HandS.Conv
import HandS.ExcOwn
import HandS.TryOnly
import HandS.WordsExc
import HandS.ExcIs
import KE.KExcIs
import HandS.ExcField
import HandS.ExcInit
import HandS.SetKeys
import PySem.Challenge.RW_tanglehouse_k25_whole_any_text_read_or_n
set_option Elab.async false
set_option linter.all false
set_option maxRecDepth 100000
namespace Th
open PySem PySem.Spec PyProof.Rows L2

/-- whatever the heap that stays tells of a value -/
structure Gn where
  R : PySem.W.Frag → Hp → V → Prop
  mono : ∀ {K : PySem.W.Frag} {H H' : Hp} {x : V}, (∀ b o, H b = some o → H' b = some o) → R K H x → R K H' x
/-- an own object of any kind, what it leads to being in the heap that stays -/
structure Go where
  R : PySem.W.Frag → Hp → Addr → HO → Prop
  mono : ∀ {K : PySem.W.Frag} {H H' : Hp} {p : Addr} {o : HO}, (∀ b o, H b = some o → H' b = some o) → R K H p o → R K H' p o
  mu : ∀ {K : PySem.W.Frag} {H : Hp} {p : Addr} {o : HO}, R K H p o → Mut (some o)
/-- a new thing of any make, told by the heap in which it wasn't there, what stays, and the heap -/
structure Nw where
  R : PySem.W.Frag → Hp → Hp → Hp → V → Prop
  fresh : ∀ {K : PySem.W.Frag} {H H1 HF' H' : Hp} {x : V}, (∀ p, H1 p = none → H p = none) → R K H1 HF' H' x → R K H HF' H' x
  later : ∀ {K : PySem.W.Frag} {H HF1 H1 HF2 H2 : Hp} {x : V}, (∀ b o, HF1 b = some o → HF2 b = some o) → (∀ b o, H1 b = some o → H b = none → H2 b = some o ∧ (HF1 b = none → HF2 b = none)) → R K H HF1 H1 x → R K H HF2 H2 x
/-! ### what a slot holds: data that stays, or an object of one's own -/
inductive A where
  | d (v : PyData)
  | ml (xs : List PyData)
  | mk (kvs : List (Key × PyData))
  | mt (kvs : List (NestedKey × PyData))
  | fk (kvs : List (Key × PyData))
  | ft (kvs : List (NestedKey × PyData))
  | tw (l : List (List PyData ⊕ PyData))
  | dl (m : List (Int × List PyData))
  | rk (kvs : List (Key × PyData))
  | pin (x : V)
  | gn (g : Gn)
  | go (g : Go)
  | nw (g : Nw)
  | any
def A.own : A → Bool
  | .ml _ => true
  | .mk _ => true
  | .mt _ => true
  | .go _ => true
  | _ => false
abbrev Rho := List A

theorem same_upd {H : Hp} {p : Addr} {o : HO} (h : H p = none) : Same H (upd H p o) := fun b x e => by
  rw [upd_ne (ne_of_none e h)]
  exact e
theorem same_rd {H H' : Hp} {a : Addr} {o : HO} (s : Same H H') (h : Rd H a o) : Rd H' a o := h.elim (fun h => .inl (s _ _ h)) (fun ⟨u, h⟩ => .inr ⟨u, s _ _ h⟩)
theorem same_l {K : PySem.W.Frag} {H H' : Hp} {a : Addr} {xs : List V} (s : Same H H') (h : SqL K H a xs) : SqL K H' a xs := h.elim (fun h => .inl (same_rd s h)) .inr
theorem same_t {K : PySem.W.Frag} {H H' : Hp} {a : Addr} {xs : List V} (s : Same H H') (h : SqT K H a xs) : SqT K H' a xs := h.elim (fun h => .inl (same_rd s h)) .inr
section
variable {K : PySem.W.Frag} {H H' : Hp}
mutual
theorem dp_mono (s : Same H H') : ∀ {v : V} {d : PyData}, Dp K H v d → Dp K H' v d
  | _, _, .non => .non
  | _, _, .bl b => .bl b
  | _, _, .int i => .int i
  | _, _, .str x => .str x
  | _, _, .lst h a => .lst (same_l s h) (dpa_mono s a)
  | _, _, .tup h a => .tup (same_t s h) (dpa_mono s a)
theorem dpa_mono (s : Same H H') : ∀ {vs : List V} {ds : List PyData}, DpAll K H vs ds → DpAll K H' vs ds
  | _, _, .nil => .nil
  | _, _, .cons h t => .cons (dp_mono s h) (dpa_mono s t)
end
theorem dpa_len : ∀ {vs : List V} {ds : List PyData}, DpAll K H vs ds → vs.length = ds.length
  | _, _, .nil => rfl
  | _, _, .cons _ t => congrArg (· + 1) (dpa_len t)
theorem dpa_get : ∀ {vs : List V} {ds : List PyData} {i : Nat} {d : PyData}, DpAll K H vs ds → ds[i]? = some d → ∃ v, vs[i]? = some v ∧ Dp K H v d
  | _, _, _, _, .nil, e => by simp at e
  | _, _, 0, _, .cons h _, e => by simp at e; subst e; exact ⟨_, rfl, h⟩
  | _, _, i + 1, d, .cons _ t, e => by
    obtain ⟨v, a, b⟩ := dpa_get (i := i) (d := d) t (by simpa using e)
    exact ⟨v, by simpa using a, b⟩
theorem dpa_get' : ∀ {vs : List V} {ds : List PyData} {i : Nat} {v : V}, DpAll K H vs ds → vs[i]? = some v → ∃ d, ds[i]? = some d ∧ Dp K H v d
  | _, _, _, _, .nil, e => by simp at e
  | _, _, 0, _, .cons h _, e => by simp at e; subst e; exact ⟨_, rfl, h⟩
  | _, _, i + 1, d, .cons _ t, e => by
    obtain ⟨v, a, b⟩ := dpa_get' (i := i) (v := d) t (by simpa using e)
    exact ⟨v, by simpa using a, b⟩
theorem dpa_app : ∀ {vs ws : List V} {ds es : List PyData}, DpAll K H vs ds → DpAll K H ws es → DpAll K H (vs ++ ws) (ds ++ es)
  | _, _, _, _, .nil, h => h
  | _, _, _, _, .cons a t, h => .cons a (dpa_app t h)
theorem dpa_set : ∀ {vs : List V} {ds : List PyData} {i : Nat} {v : V} {d : PyData}, DpAll K H vs ds → Dp K H v d → DpAll K H (vs.set i v) (ds.set i d)
  | _, _, _, _, _, .nil, _ => .nil
  | _, _, 0, _, _, .cons _ t, h => .cons h t
  | _, _, i + 1, _, _, .cons a t, h => .cons a (dpa_set t h)
theorem dpa_take : ∀ {vs : List V} {ds : List PyData} (n : Nat), DpAll K H vs ds → DpAll K H (vs.take n) (ds.take n)
  | _, _, 0, _ => .nil
  | _, _, _ + 1, .nil => .nil
  | _, _, n + 1, .cons a t => .cons a (dpa_take n t)
theorem dpa_drop : ∀ {vs : List V} {ds : List PyData} (n : Nat), DpAll K H vs ds → DpAll K H (vs.drop n) (ds.drop n)
  | _, _, 0, h => h
  | _, _, _ + 1, .nil => .nil
  | _, _, n + 1, .cons _ t => dpa_drop n t
theorem dpa_rev : ∀ {vs : List V} {ds : List PyData}, DpAll K H vs ds → DpAll K H vs.reverse ds.reverse
  | _, _, .nil => .nil
  | _, _, .cons a t => by
    rw [List.reverse_cons, List.reverse_cons]
    exact dpa_app (dpa_rev t) (.cons a .nil)
end

def DpKV {κ : Type} (K : PySem.W.Frag) (HF : Hp) : List (κ × V) → List (κ × PyData) → Prop := Paired fun p q => p.1 = q.1 ∧ Dp K HF p.2 q.2
theorem dpkv_mono {κ : Type} {K : PySem.W.Frag} {H H' : Hp} (s : Same H H') {l : List (κ × V)} {m : List (κ × PyData)} (h : DpKV K H l m) : DpKV K H' l m := Paired.mapP h fun _ _ q => ⟨q.1, dp_mono s q.2⟩

/-! dicts whose keys are tuples, nested or not, without texts: known by the object itself -/
mutual
def noTx : NestedKey → Bool
  | .text _ => false
  | .tup ks => noTxs ks
  | .none => true
  | .num _ => true
def noTxs : List NestedKey → Bool
  | [] => true
  | k :: ks => noTx k && noTxs ks
end
mutual
theorem hash_noTx (w w' : World) : ∀ k : NestedKey, noTx k = true → k.hash w = k.hash w'
  | .none, _ => by simp only [NestedKey.hash]
  | .num _, _ => by simp only [NestedKey.hash]
  | .text _, h => by simp [noTx] at h
  | .tup ks, h => by
    simp only [NestedKey.hash]
    rw [hashes_noTx w w' ks (by simpa [noTx] using h)]
theorem hashes_noTx (w w' : World) : ∀ ks : List NestedKey, noTxs ks = true → NestedKey.hashes w ks = NestedKey.hashes w' ks
  | [], _ => by simp only [NestedKey.hashes]
  | k :: ks, h => by
    simp only [noTxs, Bool.and_eq_true] at h
    simp only [NestedKey.hashes]
    rw [hash_noTx w w' k h.1, hashes_noTx w w' ks h.2]
end
def AtO (p : Addr) (o : Obj) : HO := .ext fun h => h.get? p = some o
structure TabOf (o : Obj) (xs : List (NestedKey × Addr × Value)) : Prop where
  ex : o.ExactDict
  nt : ∀ x ∈ xs, noTx x.1 = true
  nd : (xs.map (·.1)).Nodup
  es : ∃ (w : World) (es : Array DictEntry) (ep : Nat), o.data = .dict es ep ∧ es.toList = xs.map fun x => ⟨x.1.hash w, .ref x.2.1, x.2.2⟩
def TKV (K : PySem.W.Frag) (HF : Hp) : List (NestedKey × Addr × Value) → List (NestedKey × PyData) → Prop := Paired fun x kv => x.1 = kv.1 ∧ kv.1.depth ≤ 8 ∧ Dp K HF (.ref x.2.1) kv.1.data ∧ ∃ v, RelV v x.2.2 ∧ Dp K HF v kv.2
theorem tkv_mono {K : PySem.W.Frag} {H H' : Hp} (s : Same H H') {xs : List (NestedKey × Addr × Value)} {kvs : List (NestedKey × PyData)} (h : TKV K H xs kvs) : TKV K H' xs kvs := Paired.mapP h fun _ _ q => by
  obtain ⟨a, b, c, v, d, e⟩ := q
  exact ⟨a, b, dp_mono s c, v, d, dp_mono s e⟩
def TRel (K : PySem.W.Frag) (HF : Hp) (p : Addr) (u : HO) (kvs : List (NestedKey × PyData)) : Prop := ∃ o xs, u = AtO p o ∧ (p == sysModules) = false ∧ TabOf o xs ∧ TKV K HF xs kvs
theorem trel_mono {K : PySem.W.Frag} {H H' : Hp} (s : Same H H') {p : Addr} {u : HO} {kvs : List (NestedKey × PyData)} (h : TRel K H p u kvs) : TRel K H' p u kvs := by
  obtain ⟨o, xs, a, b, c, d⟩ := h
  exact ⟨o, xs, a, b, c, tkv_mono s d⟩

/-- an own object's content -/
def HRel (K : PySem.W.Frag) (HF : Hp) (p : Addr) : HO → A → Prop
  | .lst ys, .ml xs => DpAll K HF ys xs
  | .dK kws, .mk kvs => DpKV K HF kws kvs
  | .ext φ, .mt kvs => TRel K HF p (.ext φ) kvs
  | o, .go g => g.R K HF p o
  | _, _ => False
theorem hrel_mono {K : PySem.W.Frag} {HF HF' : Hp} (s : Same HF HF') {p : Addr} {o : HO} {a : A} (h : HRel K HF p o a) : HRel K HF' p o a := by
  cases o <;> cases a <;> first | exact h.elim | exact dpa_mono s h | exact dpkv_mono s h | exact trel_mono s h | exact Go.mono _ s h
theorem hrel_own {K : PySem.W.Frag} {HF : Hp} {p : Addr} {o : HO} {a : A} (h : HRel K HF p o a) : a.own = true := by
  cases o <;> cases a <;> first | exact h.elim | rfl
theorem hrel_mut {K : PySem.W.Frag} {HF : Hp} {p : Addr} {o : HO} {a : A} (h : HRel K HF p o a) : Mut (some o) := by
  cases o <;> cases a <;> first | exact h.elim | exact Go.mu _ h | trivial

def Owns (K : PySem.W.Frag) (HF H : Hp) (x : V) (a : A) : Prop := ∃ p o, x = .ref p ∧ HF p = none ∧ H p = some o ∧ HRel K HF p o a
/-- a dict that nobody changes -/
def FkRel (K : PySem.W.Frag) (HF : Hp) (x : V) (kvs : List (Key × PyData)) : Prop := ∃ p kws od, x = .ref p ∧ HF p = some (.frz od (.dK kws)) ∧ DpKV K HF kws kvs
def FtRel (K : PySem.W.Frag) (HF : Hp) (x : V) (kvs : List (NestedKey × PyData)) : Prop := ∃ p u, x = .ref p ∧ HF p = some u ∧ TRel K HF p u kvs
theorem fk_mono {K : PySem.W.Frag} {HF HF' : Hp} (s : Same HF HF') {x : V} {kvs : List (Key × PyData)} (h : FkRel K HF x kvs) : FkRel K HF' x kvs := by
  obtain ⟨p, kws, od, e, h1, h2⟩ := h
  exact ⟨p, kws, od, e, s _ _ h1, dpkv_mono s h2⟩
theorem ft_mono {K : PySem.W.Frag} {HF HF' : Hp} (s : Same HF HF') {x : V} {kvs : List (NestedKey × PyData)} (h : FtRel K HF x kvs) : FtRel K HF' x kvs := by
  obtain ⟨p, u, e, h1, h2⟩ := h
  exact ⟨p, u, e, s _ _ h1, trel_mono s h2⟩
/-- a dict that is read for a while -/
def RkRel (K : PySem.W.Frag) (HF : Hp) (x : V) (kvs : List (Key × PyData)) : Prop := ∃ p kws, x = .ref p ∧ HF p = some (.dK kws) ∧ DpKV K HF kws kvs
theorem rk_mono {K : PySem.W.Frag} {HF HF' : Hp} (s : Same HF HF') {x : V} {kvs : List (Key × PyData)} (h : RkRel K HF x kvs) : RkRel K HF' x kvs := by
  obtain ⟨p, kws, e, h1, h2⟩ := h
  exact ⟨p, kws, e, s _ _ h1, dpkv_mono s h2⟩
def ARel (K : PySem.W.Frag) (HF H : Hp) (s : Option V) : A → Prop
  | .d v => ∃ x, s = some x ∧ Dp K HF x v
  | .any => True
  | .tw _ => True
  | .dl _ => True
  | .nw _ => True
  | .rk kvs => ∃ x, s = some x ∧ RkRel K HF x kvs
  | .pin y => s = some y
  | .fk kvs => ∃ x, s = some x ∧ FkRel K HF x kvs
  | .ft kvs => ∃ x, s = some x ∧ FtRel K HF x kvs
  | .gn g => ∃ x, s = some x ∧ g.R K HF x
  | a => ∃ x, s = some x ∧ Owns K HF H x a
theorem arel_own {K : PySem.W.Frag} {HF H : Hp} {s : Option V} {a : A} (ho : a.own = true) : ARel K HF H s a ↔ ∃ x, s = some x ∧ Owns K HF H x a := by
  cases a <;> first | exact Iff.rfl | cases ho

def OwnAt (ρ : Rho) (σ : L2.St) (p : Addr) : Prop := ∃ (i : Nat) (a : A), ρ[i]? = some a ∧ a.own = true ∧ σ[i]? = some (some (V.ref p))
structure Sl (K : PySem.W.Frag) (ρ : Rho) (σ : L2.St) (HF H : Hp) : Prop where
  len : σ.length = ρ.length
  sub : Same HF H
  slot : ∀ (i : Nat) (a : A), ρ[i]? = some a → ∃ s, σ[i]? = some s ∧ ARel K HF H s a
  apart : ∀ (i j : Nat) (a b : A) (p : Addr), ρ[i]? = some a → ρ[j]? = some b → a.own = true → b.own = true → σ[i]? = some (some (V.ref p)) → σ[j]? = some (some (V.ref p)) → i = j
theorem Sl.at {K : PySem.W.Frag} {ρ : Rho} {σ : L2.St} {HF H : Hp} (S : Sl K ρ σ HF H) {i : Nat} {v : PyData} (h : ρ[i]? = some (.d v)) : ∃ x, σ[i]? = some (some x) ∧ Dp K HF x v := by
  obtain ⟨s, e, x, rfl, q⟩ := S.slot i _ h
  exact ⟨x, e, q⟩
theorem Sl.ownAt {K : PySem.W.Frag} {ρ : Rho} {σ : L2.St} {HF H : Hp} (S : Sl K ρ σ HF H) {i : Nat} {a : A} (h : ρ[i]? = some a) (ho : a.own = true) : ∃ p o, σ[i]? = some (some (V.ref p)) ∧ HF p = none ∧ H p = some o ∧ HRel K HF p o a := by
  obtain ⟨s, e, q⟩ := S.slot i _ h
  obtain ⟨x, rfl, p, o, rfl, q1, q2, q3⟩ := (arel_own ho).mp q
  exact ⟨p, o, e, q1, q2, q3⟩
theorem Sl.ownAt' {K : PySem.W.Frag} {ρ : Rho} {σ : L2.St} {HF H : Hp} (S : Sl K ρ σ HF H) {p : Addr} (h : OwnAt ρ σ p) : HF p = none ∧ ∃ o, H p = some o := by
  obtain ⟨i, a, e1, ho, e2⟩ := h
  obtain ⟨q, o, e3, h1, h2, _⟩ := S.ownAt e1 ho
  rw [e2] at e3
  cases e3
  exact ⟨h1, o, h2⟩

/-- the shape stays -/
def Shape (ρ ρ' : Rho) : Prop := ρ'.length = ρ.length ∧ ∀ (i : Nat) (a : A), ρ[i]? = some a → ∃ a' : A, ρ'[i]? = some a' ∧ a'.own = a.own ∧ (a.own = false → a' = a)
theorem Shape.refl (ρ : Rho) : Shape ρ ρ := ⟨rfl, fun i a h => ⟨a, h, rfl, fun _ => rfl⟩⟩
theorem Shape.trans {ρ ρ1 ρ2 : Rho} (a : Shape ρ ρ1) (b : Shape ρ1 ρ2) : Shape ρ ρ2 := ⟨b.1.trans a.1, fun i x h => by
  obtain ⟨y, h1, h2, h3⟩ := a.2 i x h
  obtain ⟨z, g1, g2, g3⟩ := b.2 i y h1
  exact ⟨z, g1, g2.trans h2, fun e => (g3 (h2.trans e)).trans (h3 e)⟩⟩
theorem Shape.back {ρ ρ' : Rho} (s : Shape ρ ρ') {i : Nat} {a' : A} (h : ρ'[i]? = some a') : ∃ a, ρ[i]? = some a ∧ a'.own = a.own ∧ (a.own = false → a' = a) := by
  have hi : i < ρ.length := by
    have := (List.getElem?_eq_some_iff.mp h).1
    rw [s.1] at this
    exact this
  obtain ⟨a2, h1, h2, h3⟩ := s.2 i ρ[i] (List.getElem?_eq_getElem hi)
  rw [h] at h1
  cases h1
  exact ⟨_, List.getElem?_eq_getElem hi, h2, h3⟩
theorem Shape.own {ρ ρ' : Rho} (s : Shape ρ ρ') {σ : L2.St} {p : Addr} : OwnAt ρ' σ p ↔ OwnAt ρ σ p := by
  constructor
  · rintro ⟨i, a, h1, h2, h3⟩
    obtain ⟨b, g1, g2, _⟩ := s.back h1
    exact ⟨i, b, g1, by rw [← g2]; exact h2, h3⟩
  · rintro ⟨i, a, h1, h2, h3⟩
    obtain ⟨b, g1, g2, _⟩ := s.2 i a h1
    exact ⟨i, b, g1, by rw [g2]; exact h2, h3⟩

structure Fw (ρ ρ' : Rho) (σ : L2.St) (HF H HF' H' : Hp) : Prop where
  sh : Shape ρ ρ'
  hf : Same HF HF'
  keep : ∀ b o, H b = some o → ¬ OwnAt ρ σ b → H' b = some o
  new : ∀ b o, HF' b = some o → HF b = some o ∨ H b = none
  pres : ∀ b o, H b = some o → ∃ o', H' b = some o'
theorem Fw.refl (ρ : Rho) (σ : L2.St) (HF H : Hp) : Fw ρ ρ σ HF H HF H := ⟨.refl ρ, .refl _, fun _ _ h _ => h, fun _ _ h => .inl h, fun _ o h => ⟨o, h⟩⟩
theorem Fw.trans {ρ ρ1 ρ2 : Rho} {σ : L2.St} {HF H HF1 H1 HF2 H2 : Hp} (a : Fw ρ ρ1 σ HF H HF1 H1) (b : Fw ρ1 ρ2 σ HF1 H1 HF2 H2) : Fw ρ ρ2 σ HF H HF2 H2 where
  sh := a.sh.trans b.sh
  hf := a.hf.trans b.hf
  keep := fun p o h n => b.keep p o (a.keep p o h n) fun z => n (a.sh.own.mp z)
  new := fun p o h => by
    rcases b.new p o h with h | h
    · exact a.new p o h
    · cases q : H p with
      | none => exact .inr rfl
      | some u =>
        obtain ⟨o', e⟩ := a.pres p u q
        rw [h] at e
        cases e
  pres := fun p o h => by
    obtain ⟨o', e⟩ := a.pres p o h
    exact b.pres p o' e
/-- what is new stays so -/
theorem Fw.fresh {ρ ρ' : Rho} {σ : L2.St} {HF H HF' H' : Hp} (f : Fw ρ ρ' σ HF H HF' H') {p : Addr} (h : H' p = none) : H p = none := by
  cases q : H p with
  | none => rfl
  | some u =>
    obtain ⟨o', e⟩ := f.pres p u q
    rw [h] at e
    cases e
theorem Fw.hfn {ρ ρ' : Rho} {σ : L2.St} {HF H HF' H' : Hp} (f : Fw ρ ρ' σ HF H HF' H') {p : Addr} {o : HO} (h : HF p = none) (h2 : H p = some o) : HF' p = none := by
  cases q : HF' p with
  | none => rfl
  | some u =>
    rcases f.new p u q with e | e
    · rw [h] at e; cases e
    · rw [h2] at e; cases e

/-! ### a new object -/
section
variable {K : PySem.W.Frag} {ρ : Rho} {σ : L2.St} {HF H : Hp} {p : Addr}
theorem Sl.notOwn (S : Sl K ρ σ HF H) (hp : H p = none) : ¬ OwnAt ρ σ p := fun z => by
  obtain ⟨_, o, e⟩ := S.ownAt' z
  rw [hp] at e
  cases e
theorem Sl.hfNone (S : Sl K ρ σ HF H) (hp : H p = none) : HF p = none := by
  cases q : HF p with
  | none => rfl
  | some u =>
    have := S.sub p u q
    rw [hp] at this
    cases this
theorem arel_mono {HF' H' : Hp} {s : Option V} {a : A} (h : ARel K HF H s a) (hf : Same HF HF') (ho : ∀ p o, s = some (.ref p) → HF p = none → H p = some o → a.own = true → HF' p = none ∧ H' p = some o) : ARel K HF' H' s a := by
  cases hc : a.own with
  | true =>
    obtain ⟨x, rfl, p, o, rfl, h1, h2, h3⟩ := (arel_own hc).mp h
    obtain ⟨g1, g2⟩ := ho p o rfl h1 h2 hc
    exact (arel_own hc).mpr ⟨_, rfl, p, o, rfl, g1, g2, hrel_mono hf h3⟩
  | false =>
    cases a with
    | d v => obtain ⟨x, e, q⟩ := h; exact ⟨x, e, dp_mono hf q⟩
    | any => trivial
    | tw _ => trivial
    | dl _ => trivial
    | nw _ => trivial
    | rk v => obtain ⟨x, e, q⟩ := h; exact ⟨x, e, rk_mono hf q⟩
    | pin y => exact h
    | fk v => obtain ⟨x, e, q⟩ := h; exact ⟨x, e, fk_mono hf q⟩
    | ft v => obtain ⟨x, e, q⟩ := h; exact ⟨x, e, ft_mono hf q⟩
    | gn g => obtain ⟨x, e, q⟩ := h; exact ⟨x, e, g.mono hf q⟩
    | go _ => cases hc
    | ml _ => cases hc
    | mk _ => cases hc
    | mt _ => cases hc
/-- an own object that stands nowhere -/
theorem Sl.allocO (S : Sl K ρ σ HF H) (hp : H p = none) (o : HO) : Sl K ρ σ HF (upd H p o) ∧ Fw ρ ρ σ HF H HF (upd H p o) := by
  refine ⟨⟨S.len, fun b u e => ?_, fun i a h => ?_, S.apart⟩, ⟨.refl ρ, .refl _, fun b u e _ => ?_, fun _ _ h => .inl h, fun b u e => ?_⟩⟩
  · rw [upd_ne (ne_of_none (S.sub b u e) hp)]
    exact S.sub b u e
  · obtain ⟨s, e, q⟩ := S.slot i a h
    refine ⟨s, e, arel_mono q (.refl _) fun b u e1 h1 h2 _ => ⟨h1, ?_⟩⟩
    rw [upd_ne (ne_of_none h2 hp)]
    exact h2
  · rw [upd_ne (ne_of_none e hp)]
    exact e
  · exact ⟨u, by rw [upd_ne (ne_of_none e hp)]; exact e⟩
/-- data -/
theorem Sl.allocD (S : Sl K ρ σ HF H) (hp : H p = none) (o : HO) : Sl K ρ σ (upd HF p o) (upd H p o) ∧ Fw ρ ρ σ HF H (upd HF p o) (upd H p o) := by
  have hfp := S.hfNone hp
  refine ⟨⟨S.len, fun b u e => ?_, fun i a h => ?_, S.apart⟩, ⟨.refl ρ, same_upd hfp, fun b u e _ => ?_, fun b u e => ?_, fun b u e => ?_⟩⟩
  · by_cases hb : b = p
    · subst hb
      rw [upd_same] at e ⊢
      exact e
    · rw [upd_ne hb] at e ⊢
      exact S.sub b u e
  · obtain ⟨s, e, q⟩ := S.slot i a h
    refine ⟨s, e, arel_mono q (same_upd hfp) fun b u e1 h1 h2 _ => ?_⟩
    have hb := ne_of_none h2 hp
    rw [upd_ne hb, upd_ne hb]
    exact ⟨h1, h2⟩
  · rw [upd_ne (ne_of_none e hp)]
    exact e
  · by_cases hb : b = p
    · subst hb
      exact .inr hp
    · rw [upd_ne hb] at e
      exact .inl e
  · exact ⟨u, by rw [upd_ne (ne_of_none e hp)]; exact e⟩
/-- an own object in no slot becomes data -/
theorem Sl.frz (S : Sl K ρ σ HF H) {o : HO} (hp : H p = some o) (hn : HF p = none) (hw : ¬ OwnAt ρ σ p) : Sl K ρ σ (upd HF p o) H := by
  refine ⟨S.len, fun b u e => ?_, fun i a h => ?_, S.apart⟩
  · by_cases hb : b = p
    · subst hb
      rw [upd_same] at e
      exact hp.trans e
    · rw [upd_ne hb] at e
      exact S.sub b u e
  · obtain ⟨s, e, q⟩ := S.slot i a h
    refine ⟨s, e, arel_mono q (same_upd hn) fun b u e1 h1 h2 ho => ⟨?_, h2⟩⟩
    rw [upd_ne fun z => hw ⟨i, a, h, ho, by rw [← z, e, e1]⟩]
    exact h1
end

/-! ### results -/
/-- an item of a new tuple: a new list, or data -/
def TwR (K : PySem.W.Frag) (H HF' H' : Hp) (x : V) : List PyData ⊕ PyData → Prop
  | .inl zs => ∃ q us, x = .ref q ∧ H q = none ∧ HF' q = none ∧ H' q = some (.lst us) ∧ DpAll K HF' us zs
  | .inr v => Dp K HF' x v
def TwRel (K : PySem.W.Frag) (H HF' H' : Hp) (x : V) (l : List (List PyData ⊕ PyData)) : Prop := ∃ t ys, x = .ref t ∧ H t = none ∧ HF' t = none ∧ H' t = some (.tup ys) ∧ Paired (TwR K H HF' H') ys l
/-- a new dict of new lists -/
def DlI (K : PySem.W.Frag) (H0 HF H : Hp) (w : Key × V) (kv : Int × List PyData) : Prop := w.1 = Sum.inl kv.1 ∧ ∃ q us, w.2 = .ref q ∧ H0 q = none ∧ HF q = none ∧ H q = some (.lst us) ∧ DpAll K HF us kv.2
structure DlK (K : PySem.W.Frag) (H0 : Hp) (p : Addr) (kws : List (Key × V)) (m : List (Int × List PyData)) (HF H : Hp) : Prop where
  at_ : H p = some (.dK kws)
  base : H0 p = none
  fr : HF p = none
  its : Paired (DlI K H0 HF H) kws m
  nk : (m.map (·.1)).Nodup
  na : (kws.map (·.2)).Nodup
def RRel (K : PySem.W.Frag) (H HF' H' : Hp) (x : V) : A → Prop
  | .d v => Dp K HF' x v
  | .any => True
  | .tw l => TwRel K H HF' H' x l
  | .dl m => ∃ p kws, x = .ref p ∧ DlK K H p kws m HF' H'
  | .rk kvs => RkRel K HF' x kvs
  | .pin y => x = y
  | .fk kvs => FkRel K HF' x kvs
  | .ft kvs => FtRel K HF' x kvs
  | .gn g => g.R K HF' x
  | .nw g => g.R K H HF' H' x
  | a => ∃ p o, x = .ref p ∧ H p = none ∧ HF' p = none ∧ H' p = some o ∧ HRel K HF' p o a
theorem rrel_own {K : PySem.W.Frag} {H HF' H' : Hp} {x : V} {a : A} (ho : a.own = true) : RRel K H HF' H' x a ↔ ∃ p o, x = .ref p ∧ H p = none ∧ HF' p = none ∧ H' p = some o ∧ HRel K HF' p o a := by
  cases a <;> first | exact Iff.rfl | cases ho
theorem dl_fresh {K : PySem.W.Frag} {H H1 HF' H' : Hp} {x : V} {m : List (Int × List PyData)} (h : ∀ p, H1 p = none → H p = none) (r : RRel K H1 HF' H' x (.dl m)) : RRel K H HF' H' x (.dl m) := by
  obtain ⟨p, kws, e, g⟩ := r
  exact ⟨p, kws, e, g.at_, h _ g.base, g.fr, Paired.mapP g.its fun w kv z => by
    obtain ⟨z1, q, us, z2, z3, z4, z5, z6⟩ := z
    exact ⟨z1, q, us, z2, h _ z3, z4, z5, z6⟩, g.nk, g.na⟩
theorem tw_fresh {K : PySem.W.Frag} {H H1 HF' H' : Hp} {x : V} {l : List (List PyData ⊕ PyData)} (h : ∀ p, H1 p = none → H p = none) (r : TwRel K H1 HF' H' x l) : TwRel K H HF' H' x l := by
  obtain ⟨t, ys, e, h1, h2, h3, h4⟩ := r
  refine ⟨t, ys, e, h _ h1, h2, h3, Paired.mapP h4 fun y a z => ?_⟩
  cases a with
  | inl zs => obtain ⟨q, us, g1, g2, g3⟩ := z; exact ⟨q, us, g1, h _ g2, g3⟩
  | inr v => exact z
def Ev (K : PySem.W.Frag) (te : TE) (ρ : Rho) (a : A) (ρ' : Rho) : Prop := ∀ σ HF H, Sl K ρ σ HF H → ∀ Q : VK,
  (∀ x HF' H', Sl K ρ' σ HF' H' → Fw ρ ρ' σ HF H HF' H' → RRel K H HF' H' x a → Q x H') → te σ H Q
/-- an operand: readable as v, now and behind what leaves the slots as they are -/
def ORel (K : PySem.W.Frag) (HF H : Hp) (x : V) : PyData → Prop
  | .list xs => ∃ p ys, x = .ref p ∧ SqL K H p ys ∧ DpAll K HF ys xs
  | v => Dp K HF x v
theorem ORel.of {K : PySem.W.Frag} {HF H : Hp} {x : V} {v : PyData} (s : Same HF H) (h : Dp K HF x v) : ORel K HF H x v := by
  cases h with
  | lst a b => exact ⟨_, _, rfl, same_l s a, b⟩
  | non => exact .non
  | bl b => exact .bl b
  | int b => exact .int b
  | str b => exact .str b
  | tup a b => exact .tup a b
theorem ORel.dp {K : PySem.W.Frag} {HF H : Hp} {x : V} {v : PyData} (s : Same HF H) (h : ORel K HF H x v) : Dp K H x v := by
  cases v with
  | list xs => obtain ⟨p, ys, rfl, a, b⟩ := h; exact .lst a (dpa_mono s b)
  | none => exact dp_mono s h
  | bool b => exact dp_mono s h
  | int b => exact dp_mono s h
  | str b => exact dp_mono s h
  | tuple b => exact dp_mono s h
  | dict b => exact dp_mono s h
def Kp (k : Option Nat) (ρ ρ2 : Rho) : Prop := match k with
  | none => True
  | some i => ρ2[i]? = ρ[i]?
theorem Kp.refl {k : Option Nat} {ρ : Rho} : Kp k ρ ρ := by
  cases k with
  | none => trivial
  | some i => rfl
def Op (K : PySem.W.Frag) (te : TE) (ρ : Rho) (v : PyData) (ρ' : Rho) (k : Option Nat) : Prop := ∀ σ HF H, Sl K ρ σ HF H → ∀ Q : VK,
  (∀ x HF' H', Sl K ρ' σ HF' H' → Fw ρ ρ' σ HF H HF' H' → (∀ ρ2 HF2 H2, Kp k ρ' ρ2 → Sl K ρ2 σ HF2 H2 → Fw ρ' ρ2 σ HF' H' HF2 H2 → ORel K HF2 H2 x v) → Q x H') → te σ H Q
def EvT (K : PySem.W.Frag) (t : TT) (ρ : Rho) (b : Bool) (ρ' : Rho) : Prop := ∀ σ HF H, Sl K ρ σ HF H → ∀ Q : Bool → Hp → Prop,
  (∀ HF' H', Sl K ρ' σ HF' H' → Fw ρ ρ' σ HF H HF' H' → Q b H') → t σ H Q

section
variable {K : PySem.W.Frag} {ρ ρ1 ρ2 : Rho} {te ta tb : TE} {u v w z : PyData}
theorem Ev.op (h : Ev K te ρ (.d v) ρ1) : Op K te ρ v ρ1 none := fun σ HF H S Q q => h σ HF H S Q fun x HF' H' S' f r =>
  q x HF' H' S' f fun ρ2 HF2 H2 _ S2 f2 => .of S2.sub (dp_mono f2.hf r)
theorem Ev.opL {xs : List PyData} (h : Ev K te ρ (.ml xs) ρ1) : Op K te ρ (.list xs) ρ1 none := fun σ HF H S Q q => h σ HF H S Q fun x HF' H' S' f r => by
  obtain ⟨p, o, rfl, h0, h1, h2, h3⟩ := r
  refine q _ HF' H' S' f fun ρ2 HF2 H2 _ S2 f2 => ?_
  cases o <;> first | exact h3.elim | skip
  refine ⟨p, _, rfl, .inl (.inl (f2.keep p _ h2 fun z => S.notOwn h0 (f.sh.own.mp z))), dpa_mono f2.hf h3⟩
theorem op_slot {i : Nat} {xs : List PyData} (h : ρ[i]? = some (.ml xs)) : Op K (tVar i) ρ (.list xs) ρ (some i) := fun σ HF H S Q q => by
  obtain ⟨p, o, e, _⟩ := S.ownAt h rfl
  refine ⟨.ref p, e, q _ HF H S (.refl ..) fun ρ2 HF2 H2 hk S2 f2 => ?_⟩
  obtain ⟨p2, o2, e2, h1, h2, h3⟩ := S2.ownAt ((show ρ2[i]? = ρ[i]? from hk).trans h) rfl
  rw [e] at e2
  cases e2
  cases o2 <;> first | exact h3.elim | skip
  exact ⟨p, _, rfl, .inl (.inl h2), h3⟩
theorem Ev.freeze {xs : List PyData} (h : Ev K te ρ (.ml xs) ρ1) : Ev K te ρ (.d (.list xs)) ρ1 := fun σ HF H S Q q => h σ HF H S Q fun x HF' H' S' f r => by
  obtain ⟨p, o, rfl, h0, h1, h2, h3⟩ := r
  have nw : ¬ OwnAt ρ1 σ p := fun z => S.notOwn h0 (f.sh.own.mp z)
  cases o <;> first | exact h3.elim | skip
  rename_i ys
  refine q _ (upd HF' p (.lst ys)) H' (S'.frz h2 h1 nw) ⟨f.sh, f.hf.trans (same_upd h1), f.keep, fun b u e => ?_, f.pres⟩ (.lst (.inl (.inl upd_same)) (dpa_mono (same_upd h1) h3))
  by_cases hb : b = p
  · subst hb
    exact .inr h0
  · rw [upd_ne hb] at e
    exact f.new b u e
theorem ev_var {i : Nat} (h : ρ[i]? = some (.d v)) : Ev K (tVar i) ρ (.d v) ρ := fun σ HF H S Q q => by
  obtain ⟨x, e, r⟩ := S.at h
  exact ⟨x, e, q x HF H S (.refl ..) r⟩
theorem ev_c {x : V} (h : ∀ HF, Dp K HF x v) : Ev K (tC x) ρ (.d v) ρ := fun σ HF H S Q q => q x HF H S (.refl ..) (h HF)

/-- two values to one, nothing made -/
def RV (K : PySem.W.Frag) (r : R2) (u w z : PyData) : Prop := ∀ (HF H : Hp) (x y : V) (Q : VK), Dp K HF x u → Dp K HF y w → Same HF H → (∀ v, Dp K HF v z → Q v H) → r x y H Q
theorem ev_op {r : R2} (ha : Ev K ta ρ (.d u) ρ1) (hb : Ev K tb ρ1 (.d w) ρ2) (hr : RV K r u w z) : Ev K (tOp r ta tb) ρ (.d z) ρ2 := fun σ HF H S Q q =>
  ha σ HF H S _ fun x HF1 H1 S1 f1 r1 => hb σ HF1 H1 S1 _ fun y HF2 H2 S2 f2 r2 => hr HF2 H2 x y Q (dp_mono f2.hf r1) r2 S2.sub fun v hv => q v HF2 H2 S2 (f1.trans f2) hv
def RO (K : PySem.W.Frag) (r : R2) (u w z : PyData) : Prop := ∀ (HF H : Hp) (x y : V) (Q : VK), ORel K HF H x u → ORel K HF H y w → Same HF H → (∀ v, Dp K HF v z → Q v H) → r x y H Q
theorem ev_op2 {r : R2} {k k2 : Option Nat} (ha : Op K ta ρ u ρ1 k) (hb : Op K tb ρ1 w ρ2 k2) (hk : Kp k ρ1 ρ2) (hr : RO K r u w z) : Ev K (tOp r ta tb) ρ (.d z) ρ2 := fun σ HF H S Q q =>
  ha σ HF H S _ fun x HF1 H1 S1 f1 r1 => hb σ HF1 H1 S1 _ fun y HF2 H2 S2 f2 r2 => hr HF2 H2 x y Q (r1 ρ2 HF2 H2 hk S2 f2) (r2 ρ2 HF2 H2 .refl S2 (.refl ..)) S2.sub fun v hv => q v HF2 H2 S2 (f1.trans f2) hv
/-- .. a new own object -/
def RNo (K : PySem.W.Frag) (r : R2) (u w : PyData) (a : A) : Prop := ∀ (HF H : Hp) (x y : V) (Q : VK), ORel K HF H x u → ORel K HF H y w → Same HF H → (∀ p o, H p = none → HRel K HF p o a → Q (.ref p) (upd H p o)) → r x y H Q
theorem ev_opN {r : R2} {a : A} {k k2 : Option Nat} (ha : Op K ta ρ u ρ1 k) (hb : Op K tb ρ1 w ρ2 k2) (hk : Kp k ρ1 ρ2) (hr : RNo K r u w a) : Ev K (tOp r ta tb) ρ a ρ2 := fun σ HF H S Q q =>
  ha σ HF H S _ fun x HF1 H1 S1 f1 r1 => hb σ HF1 H1 S1 _ fun y HF2 H2 S2 f2 r2 => hr HF2 H2 x y Q (r1 ρ2 HF2 H2 hk S2 f2) (r2 ρ2 HF2 H2 .refl S2 (.refl ..)) S2.sub fun p o hp ho => by
    obtain ⟨S3, f3⟩ := S2.allocO hp o
    have f12 := f1.trans f2
    exact q _ HF2 _ S3 (f12.trans f3) ((rrel_own (hrel_own ho)).mpr ⟨p, o, rfl, f12.fresh hp, S2.hfNone hp, upd_same, ho⟩)

/-! ### argument lists -/
inductive Arg where
  | dat (v : PyData)
  | lent (i : Nat)
def ArgR (K : PySem.W.Frag) (ρ : Rho) (σ : L2.St) (HF : Hp) (x : V) : Arg → Prop
  | .dat v => Dp K HF x v
  | .lent i => σ[i]? = some (some x) ∧ ∃ a, ρ[i]? = some a ∧ a.own = true
def EvA (K : PySem.W.Frag) (ta : TA) (ρ : Rho) (l : List Arg) (ρ' : Rho) : Prop := ∀ σ HF H, Sl K ρ σ HF H → ∀ Q : List V → Hp → Prop,
  (∀ xs HF' H', Sl K ρ' σ HF' H' → Fw ρ ρ' σ HF H HF' H' → Paired (ArgR K ρ' σ HF') xs l → Q xs H') → ta σ H Q
theorem argR_mono {σ : L2.St} {HF HF' H H' : Hp} {x : V} {a : Arg} (f : Fw ρ ρ1 σ HF H HF' H') (h : ArgR K ρ σ HF x a) : ArgR K ρ1 σ HF' x a := by
  cases a with
  | dat v => exact dp_mono f.hf h
  | lent i =>
    obtain ⟨e, a, e2, ho⟩ := h
    obtain ⟨a', g1, g2, _⟩ := f.sh.2 i a e2
    exact ⟨e, a', g1, by rw [g2]; exact ho⟩
theorem ea_nil : EvA K tNil ρ [] ρ := fun σ HF H S Q q => q [] HF H S (.refl ..) .nil
theorem ea_cons {tr : TA} {l : List Arg} (ha : Ev K ta ρ (.d v) ρ1) (hr : EvA K tr ρ1 l ρ2) : EvA K (tCons ta tr) ρ (.dat v :: l) ρ2 := fun σ HF H S Q q =>
  ha σ HF H S _ fun x HF1 H1 S1 f1 r1 => hr σ HF1 H1 S1 _ fun xs HF2 H2 S2 f2 r2 => q _ HF2 H2 S2 (f1.trans f2) (.cons (dp_mono f2.hf r1) r2)
theorem ea_lent {tr : TA} {l : List Arg} {i : Nat} {a : A} (h : ρ[i]? = some a) (ho : a.own = true) (hr : EvA K tr ρ l ρ2) : EvA K (tCons (tVar i) tr) ρ (.lent i :: l) ρ2 := fun σ HF H S Q q => by
  obtain ⟨p, o, e, _⟩ := S.ownAt h ho
  exact ⟨.ref p, e, hr σ HF H S _ fun xs HF2 H2 S2 f2 r2 => q _ HF2 H2 S2 f2 (.cons (argR_mono f2 (a := .lent i) ⟨e, a, h, ho⟩) r2)⟩
end
end Th

set_option Elab.async false
set_option linter.all false
set_option maxRecDepth 100000
namespace Th
open PySem PySem.Spec PyProof.Rows L2

/-! ### the judgements on the text -/
section
variable (X : Cx)
def wE (e : Expr) : TE := fun σ H Q => ∃ te, PE X e te ∧ te σ H Q
def wT (e : Expr) : TT := fun σ H Q => ∃ te, PT X e te ∧ te σ H Q
def wW (e : Expr) : TT := fun σ H Q => ∃ te, PW X e te ∧ te σ H Q
def wA (es : List Expr) : TA := fun σ H Q => ∃ te, PA X es te ∧ te σ H Q
def wS (st : Stmt) : TS := fun D σ H => ∃ t, PS X st t ∧ t D σ H
def wSs (st : List Stmt) : TS := fun D σ H => ∃ t, PSs X st t ∧ t D σ H
abbrev E (e : Expr) (ρ : Rho) (a : A) (ρ' : Rho) : Prop := Ev X.K (wE X e) ρ a ρ'
abbrev EO (e : Expr) (ρ : Rho) (v : PyData) (ρ' : Rho) (k : Option Nat) : Prop := Op X.K (wE X e) ρ v ρ' k
abbrev ET (e : Expr) (ρ : Rho) (b : Bool) (ρ' : Rho) : Prop := EvT X.K (wT X e) ρ b ρ'
abbrev EW (e : Expr) (ρ : Rho) (b : Bool) (ρ' : Rho) : Prop := EvT X.K (wW X e) ρ b ρ'
end
section
variable {X : Cx}
theorem pe_w {e : Expr} : PE X e (wE X e) := ⟨fun pins s σ H Q I ⟨_, h, q⟩ => h.run pins s σ H Q I q⟩
theorem pt_w {e : Expr} : PT X e (wT X e) := ⟨fun pins s σ H Q I ⟨_, h, q⟩ => h.run pins s σ H Q I q⟩
theorem pw_w {e : Expr} : PW X e (wW X e) := ⟨fun wh pins s σ H Q I ⟨_, h, q⟩ => h.run wh pins s σ H Q I q⟩
theorem pa_w {es : List Expr} : PA X es (wA X es) := ⟨fun pos pins s σ H Q I ⟨_, h, q⟩ => h.run pos pins s σ H Q I q⟩
theorem ps_w {st : Stmt} : PS X st (wS X st) := ⟨fun pins s σ H Q I ⟨_, h, q⟩ => h.run pins s σ H Q I q⟩
theorem pss_w {st : List Stmt} : PSs X st (wSs X st) := ⟨fun pins s σ H Q I ⟨_, h, q⟩ => h.run pins s σ H Q I q⟩
variable {e e1 e2 : Expr} {te : TE} {ρ ρ1 ρ2 : Rho} {a : A} {u v w z : PyData} {k k1 k2 : Option Nat} {b : Bool} {pos : Pos}
theorem E.of (h : PE X e te) (h2 : Ev X.K te ρ a ρ1) : E X e ρ a ρ1 := fun σ HF H S Q q => ⟨te, h, h2 σ HF H S Q q⟩
theorem EO.of (h : PE X e te) (h2 : Op X.K te ρ v ρ1 k) : EO X e ρ v ρ1 k := fun σ HF H S Q q => ⟨te, h, h2 σ HF H S Q q⟩
theorem ET.of {t : TT} (h : PT X e t) (h2 : EvT X.K t ρ b ρ1) : ET X e ρ b ρ1 := fun σ HF H S Q q => ⟨t, h, h2 σ HF H S Q q⟩

/-! ### names, constants -/
theorem e_var (i : Nat) {x : Str} (h : ρ[i]? = some (.d v)) (hN : X.N[i]? = some x := by rfl) (hv : Vis X.env.scope x := by first | exact Or.inl rfl | exact Or.inr (Or.inl rfl) | exact Or.inr (Or.inr rfl))
    (hd : (x == ("__debug__" : Str)) = false := by decide) (hcd : (x == ("__classdict__" : Str)) = false := by decide) : E X (.Name x pos) ρ (.d v) ρ := .of (pe_var hN hv hd hcd) (ev_var h)
theorem o_slot (i : Nat) {x : Str} {xs : List PyData} (h : ρ[i]? = some (.ml xs)) (hN : X.N[i]? = some x := by rfl) (hv : Vis X.env.scope x := by first | exact Or.inl rfl | exact Or.inr (Or.inl rfl) | exact Or.inr (Or.inr rfl))
    (hd : (x == ("__debug__" : Str)) = false := by decide) (hcd : (x == ("__classdict__" : Str)) = false := by decide) : EO X (.Name x pos) ρ (.list xs) ρ (some i) := .of (pe_var hN hv hd hcd) (op_slot h)
theorem e_int {i : Int} {j : Nat} : E X (.Constant (.int i) j pos) ρ (.d (.int i)) ρ := .of pe_int (ev_c fun _ => .int i)
theorem e_bl {i : Bool} {j : Nat} : E X (.Constant (.bool i) j pos) ρ (.d (.bool i)) ρ := .of pe_bl (ev_c fun _ => .bl i)
theorem e_non {j : Nat} : E X (.Constant .none j pos) ρ (.d .none) ρ := .of pe_non (ev_c fun _ => .non)
theorem e_str {x : Str} {j : Nat} : E X (.Constant (.str x) j pos) ρ (.d (.str x)) ρ := .of pe_str (ev_c fun _ => .str x)
theorem E.o (h : E X e ρ (.d v) ρ1) : EO X e ρ v ρ1 none := Ev.op h
theorem E.ol {xs : List PyData} (h : E X e ρ (.ml xs) ρ1) : EO X e ρ (.list xs) ρ1 none := Ev.opL h
theorem E.fz {xs : List PyData} (h : E X e ρ (.ml xs) ρ1) : E X e ρ (.d (.list xs)) ρ1 := Ev.freeze h
theorem E.to (h : E X e ρ (.d v) ρ1) (q : v = w) : E X e ρ (.d w) ρ1 := q ▸ h
theorem ET.to {c : Bool} (h : ET X e ρ b ρ1) (q : b = c) : ET X e ρ c ρ1 := q ▸ h

/-! ### whole numbers -/
theorem rv_I0 {K : PySem.W.Frag} {g : Int → Int → V} {i j : Int} (h : ∀ HF, Dp K HF (g i j) z) : RV K (rI0 g) (.int i) (.int j) z := fun HF H x y Q hx hy _ q => by
  cases hx; cases hy
  exact ⟨i, j, rfl, rfl, q _ (h HF)⟩
theorem rv_I {K : PySem.W.Frag} {C : Int → Int → Prop} {g : Int → Int → V} {i j : Int} (hc : C i j) (h : ∀ HF, Dp K HF (g i j) z) : RV K (rI C g) (.int i) (.int j) z := fun HF H x y Q hx hy _ q => by
  cases hx; cases hy
  exact ⟨i, j, rfl, rfl, hc, q _ (h HF)⟩
variable {i j : Int}
theorem e_add (ha : E X e1 ρ (.d (.int i)) ρ1) (hb : E X e2 ρ1 (.d (.int j)) ρ2) : E X (.BinOp e1 .Add e2 pos) ρ (.d (.int (i + j))) ρ2 := .of (pe_op op_add pe_w pe_w) (ev_op ha hb (rv_I0 fun _ => .int _))
theorem e_sub (ha : E X e1 ρ (.d (.int i)) ρ1) (hb : E X e2 ρ1 (.d (.int j)) ρ2) : E X (.BinOp e1 .Sub e2 pos) ρ (.d (.int (i - j))) ρ2 := .of (pe_op op_sub pe_w pe_w) (ev_op ha hb (rv_I0 fun _ => .int _))
theorem e_mul (ha : E X e1 ρ (.d (.int i)) ρ1) (hb : E X e2 ρ1 (.d (.int j)) ρ2) (hc : CMulW i j) : E X (.BinOp e1 .Mult e2 pos) ρ (.d (.int (i * j))) ρ2 := .of (pe_op op_mulW pe_w pe_w) (ev_op ha hb (rv_I hc fun _ => .int _))
theorem e_div (ha : E X e1 ρ (.d (.int i)) ρ1) (hb : E X e2 ρ1 (.d (.int j)) ρ2) (hc : CDivW i j) : E X (.BinOp e1 .FloorDiv e2 pos) ρ (.d (.int (i / j))) ρ2 := .of (pe_op op_fdivW pe_w pe_w) (ev_op ha hb (rv_I hc fun _ => .int _))
theorem e_mod (ha : E X e1 ρ (.d (.int i)) ρ1) (hb : E X e2 ρ1 (.d (.int j)) ρ2) (hc : 0 < j) : E X (.BinOp e1 .Mod e2 pos) ρ (.d (.int (i % j))) ρ2 := .of (pe_op op_mod pe_w pe_w) (ev_op ha hb (rv_I (C := fun _ j => 0 < j) hc fun _ => .int _))
theorem e_pow (ha : E X e1 ρ (.d (.int i)) ρ1) (hb : E X e2 ρ1 (.d (.int j)) ρ2) (hc : CPow i j) : E X (.BinOp e1 .Pow e2 pos) ρ (.d (.int (i ^ j.toNat))) ρ2 := .of (pe_op op_pow pe_w pe_w) (ev_op ha hb (rv_I hc fun _ => .int _))
theorem e_neg (ha : E X e ρ (.d (.int i)) ρ1) : E X (.UnaryOp .USub e pos) ρ (.d (.int (-i))) ρ1 := .of (pe_un un_neg pe_w) fun σ HF H S Q q => ha σ HF H S _ fun x HF1 H1 S1 f1 r1 => by
  cases r1
  exact ⟨i, rfl, q _ HF1 H1 S1 f1 (.int _)⟩
theorem e_lt (ha : E X e1 ρ (.d (.int i)) ρ1) (hb : E X e2 ρ1 (.d (.int j)) ρ2) : E X (.Compare e1 [.Lt] [e2] pos) ρ (.d (.bool (decide (i < j)))) ρ2 := .of (pe_cmpR op_lt pe_w pe_w (nomark _)) (ev_op ha hb (rv_I0 fun _ => .bl _))
theorem e_le (ha : E X e1 ρ (.d (.int i)) ρ1) (hb : E X e2 ρ1 (.d (.int j)) ρ2) : E X (.Compare e1 [.LtE] [e2] pos) ρ (.d (.bool (decide (i ≤ j)))) ρ2 := .of (pe_cmpR op_le pe_w pe_w (nomark _)) (ev_op ha hb (rv_I0 fun _ => .bl _))
theorem e_gt (ha : E X e1 ρ (.d (.int i)) ρ1) (hb : E X e2 ρ1 (.d (.int j)) ρ2) : E X (.Compare e1 [.Gt] [e2] pos) ρ (.d (.bool (decide (j < i)))) ρ2 := .of (pe_cmpR op_gt pe_w pe_w (nomark _)) (ev_op ha hb (rv_I0 fun _ => .bl _))
theorem e_ge (ha : E X e1 ρ (.d (.int i)) ρ1) (hb : E X e2 ρ1 (.d (.int j)) ρ2) : E X (.Compare e1 [.GtE] [e2] pos) ρ (.d (.bool (decide (j ≤ i)))) ρ2 := .of (pe_cmpR op_ge pe_w pe_w (nomark _)) (ev_op ha hb (rv_I0 fun _ => .bl _))
theorem e_eqI (ha : E X e1 ρ (.d (.int i)) ρ1) (hb : E X e2 ρ1 (.d (.int j)) ρ2) : E X (.Compare e1 [.Eq] [e2] pos) ρ (.d (.bool (decide (i = j)))) ρ2 :=
  .of (pe_cmpR op_eq pe_w pe_w (nomark _)) (ev_op ha hb fun HF H x y Q hx hy _ q => by cases hx; cases hy; exact ⟨rfl, by rw [show decide (V.int i = V.int j) = decide (i = j) by simp]; exact q _ (.bl _)⟩)
theorem e_neI (ha : E X e1 ρ (.d (.int i)) ρ1) (hb : E X e2 ρ1 (.d (.int j)) ρ2) : E X (.Compare e1 [.NotEq] [e2] pos) ρ (.d (.bool (!decide (i = j)))) ρ2 :=
  .of (pe_cmpR op_ne pe_w pe_w (nomark _)) (ev_op ha hb fun HF H x y Q hx hy _ q => by cases hx; cases hy; exact ⟨rfl, by rw [show decide (V.int i = V.int j) = decide (i = j) by simp]; exact q _ (.bl _)⟩)
/-- data compared at any depth -/
theorem e_eqD {hr : X.A.units + 64 < cLine} (ha : EO X e1 ρ v ρ1 k1) (hb : EO X e2 ρ1 w ρ2 k2) (h1 : SeqAt.shaped v = true) (h2 : SeqAt.shaped w = true) (hk : Kp k1 ρ1 ρ2 := by first | exact trivial | exact rfl) : E X (.Compare e1 [.Eq] [e2] pos) ρ (.d (.bool (PyData.eqv v w))) ρ2 :=
  .of (pe_cmpR (op_eqD hr) pe_w pe_w (nomark _)) (ev_op2 ha hb hk fun HF H x y Q hx hy s q => ⟨v, w, hx.dp s, hy.dp s, h1, h2, q _ (.bl _)⟩)
theorem e_neD {hr : X.A.units + 64 < cLine} (ha : EO X e1 ρ v ρ1 k1) (hb : EO X e2 ρ1 w ρ2 k2) (h1 : SeqAt.shaped v = true) (h2 : SeqAt.shaped w = true) (hk : Kp k1 ρ1 ρ2 := by first | exact trivial | exact rfl) : E X (.Compare e1 [.NotEq] [e2] pos) ρ (.d (.bool (!PyData.eqv v w))) ρ2 :=
  .of (pe_cmpR (op_neD hr) pe_w pe_w (nomark _)) (ev_op2 ha hb hk fun HF H x y Q hx hy s q => ⟨v, w, hx.dp s, hy.dp s, h1, h2, q _ (.bl _)⟩)

/-! ### tests -/
theorem t_val (h : E X e ρ (.d (.bool b)) ρ1) (he : ∀ whole, isTrue e X.env whole = (do let v ← whole; standAt e.pos; holding [v] (truthy v)) := by intro _; rfl) : ET X e ρ b ρ1 :=
  .of (pt_val pe_w he) fun σ HF H S Q q => h σ HF H S _ fun x HF1 H1 S1 f1 r1 => by
    cases r1
    exact ⟨b, rfl, q HF1 H1 S1 f1⟩
theorem t_cmp {op : CmpOp} {r : R2} (ho : OpR X (compareOp op) r) (h : Ev X.K (tOp r (wE X e1) (wE X e2)) ρ (.d (.bool b)) ρ1) (hm : behindInMarks op e2 = false) : ET X (.Compare e1 [op] [e2] pos) ρ b ρ1 :=
  .of (pt_cmpR ho pe_w pe_w hm) fun σ HF H S Q q => h σ HF H S _ fun x HF1 H1 S1 f1 r1 => by
    cases r1
    exact ⟨b, rfl, q HF1 H1 S1 f1⟩
theorem t_lt (ha : E X e1 ρ (.d (.int i)) ρ1) (hb : E X e2 ρ1 (.d (.int j)) ρ2) : ET X (.Compare e1 [.Lt] [e2] pos) ρ (decide (i < j)) ρ2 := t_cmp op_lt (ev_op ha hb (rv_I0 fun _ => .bl _)) (nomark _)
theorem t_le (ha : E X e1 ρ (.d (.int i)) ρ1) (hb : E X e2 ρ1 (.d (.int j)) ρ2) : ET X (.Compare e1 [.LtE] [e2] pos) ρ (decide (i ≤ j)) ρ2 := t_cmp op_le (ev_op ha hb (rv_I0 fun _ => .bl _)) (nomark _)
theorem t_gt (ha : E X e1 ρ (.d (.int i)) ρ1) (hb : E X e2 ρ1 (.d (.int j)) ρ2) : ET X (.Compare e1 [.Gt] [e2] pos) ρ (decide (j < i)) ρ2 := t_cmp op_gt (ev_op ha hb (rv_I0 fun _ => .bl _)) (nomark _)
theorem t_ge (ha : E X e1 ρ (.d (.int i)) ρ1) (hb : E X e2 ρ1 (.d (.int j)) ρ2) : ET X (.Compare e1 [.GtE] [e2] pos) ρ (decide (j ≤ i)) ρ2 := t_cmp op_ge (ev_op ha hb (rv_I0 fun _ => .bl _)) (nomark _)
theorem t_eqI (ha : E X e1 ρ (.d (.int i)) ρ1) (hb : E X e2 ρ1 (.d (.int j)) ρ2) : ET X (.Compare e1 [.Eq] [e2] pos) ρ (decide (i = j)) ρ2 :=
  t_cmp op_eq (ev_op ha hb fun HF H x y Q hx hy _ q => by cases hx; cases hy; exact ⟨rfl, by rw [show decide (V.int i = V.int j) = decide (i = j) by simp]; exact q _ (.bl _)⟩) (nomark _)
theorem t_neI (ha : E X e1 ρ (.d (.int i)) ρ1) (hb : E X e2 ρ1 (.d (.int j)) ρ2) : ET X (.Compare e1 [.NotEq] [e2] pos) ρ (!decide (i = j)) ρ2 :=
  t_cmp op_ne (ev_op ha hb fun HF H x y Q hx hy _ q => by cases hx; cases hy; exact ⟨rfl, by rw [show decide (V.int i = V.int j) = decide (i = j) by simp]; exact q _ (.bl _)⟩) (nomark _)
theorem t_eqD {hr : X.A.units + 64 < cLine} (ha : EO X e1 ρ v ρ1 k1) (hb : EO X e2 ρ1 w ρ2 k2) (h1 : SeqAt.shaped v = true) (h2 : SeqAt.shaped w = true) (hk : Kp k1 ρ1 ρ2 := by first | exact trivial | exact rfl) : ET X (.Compare e1 [.Eq] [e2] pos) ρ (PyData.eqv v w) ρ2 :=
  t_cmp (op_eqD hr) (ev_op2 ha hb hk fun HF H x y Q hx hy s q => ⟨v, w, hx.dp s, hy.dp s, h1, h2, q _ (.bl _)⟩) (nomark _)
theorem t_neD {hr : X.A.units + 64 < cLine} (ha : EO X e1 ρ v ρ1 k1) (hb : EO X e2 ρ1 w ρ2 k2) (h1 : SeqAt.shaped v = true) (h2 : SeqAt.shaped w = true) (hk : Kp k1 ρ1 ρ2 := by first | exact trivial | exact rfl) : ET X (.Compare e1 [.NotEq] [e2] pos) ρ (!PyData.eqv v w) ρ2 :=
  t_cmp (op_neD hr) (ev_op2 ha hb hk fun HF H x y Q hx hy s q => ⟨v, w, hx.dp s, hy.dp s, h1, h2, q _ (.bl _)⟩) (nomark _)
theorem t_not (h : ET X e ρ b ρ1) : ET X (.UnaryOp .Not e pos) ρ (!b) ρ1 := .of (pt_not pt_w) fun σ HF H S Q q => h σ HF H S _ fun HF1 H1 S1 f1 => q HF1 H1 S1 f1
theorem t_w (h : EW X e ρ b ρ1) : ET X e ρ b ρ1 := .of (PW.pt pw_w) fun σ HF H S Q q => h σ HF H S Q q
/-- and, or: the later ones leave the slots as they are (or change them in the same way) -/
theorem w_and1 (h : ET X e ρ b ρ1) : EW X (.BoolOp .And [e] pos) ρ b ρ1 := fun σ HF H S Q q => ⟨_, pw_and1 pt_w, h σ HF H S Q q⟩
theorem w_or1 (h : ET X e ρ b ρ1) : EW X (.BoolOp .Or [e] pos) ρ b ρ1 := fun σ HF H S Q q => ⟨_, pw_or1 pt_w, h σ HF H S Q q⟩
variable {rest : List Expr} {c : Bool}
theorem w_and (h : ET X e ρ b ρ1) (h2 : b = true → EW X (.BoolOp .And (e1 :: rest) pos) ρ1 c ρ1) : EW X (.BoolOp .And (e :: e1 :: rest) pos) ρ (b && c) ρ1 := fun σ HF H S Q q => ⟨_, pw_and pt_w pw_w, h σ HF H S _ fun HF1 H1 S1 f1 => by
  cases b with
  | true => exact h2 rfl σ HF1 H1 S1 Q fun HF2 H2 S2 f2 => q HF2 H2 S2 (f1.trans f2)
  | false => exact q HF1 H1 S1 f1⟩
theorem w_or (h : ET X e ρ b ρ1) (h2 : b = false → EW X (.BoolOp .Or (e1 :: rest) pos) ρ1 c ρ1) : EW X (.BoolOp .Or (e :: e1 :: rest) pos) ρ (b || c) ρ1 := fun σ HF H S Q q => ⟨_, pw_or pt_w pw_w, h σ HF H S _ fun HF1 H1 S1 f1 => by
  cases b with
  | false => exact h2 rfl σ HF1 H1 S1 Q fun HF2 H2 S2 f2 => q HF2 H2 S2 (f1.trans f2)
  | true => exact q HF1 H1 S1 f1⟩
/-- .. as values -/
theorem e_one {op : BoolOp} (h : E X e ρ a ρ1) : E X (.BoolOp op [e] pos) ρ a ρ1 := .of (pe_one pe_w) h
theorem e_and (h : E X e ρ (.d (.bool b)) ρ1) (h2 : b = true → E X (.BoolOp .And (e1 :: rest) pos) ρ1 (.d (.bool c)) ρ1) : E X (.BoolOp .And (e :: e1 :: rest) pos) ρ (.d (.bool (b && c))) ρ1 := .of (pe_and pe_w pe_w) fun σ HF H S Q q => h σ HF H S _ fun x HF1 H1 S1 f1 r1 => by
  cases r1
  refine ⟨b, rfl, ?_⟩
  cases b with
  | true => exact h2 rfl σ HF1 H1 S1 Q fun y HF2 H2 S2 f2 r2 => q y HF2 H2 S2 (f1.trans f2) r2
  | false => exact q _ HF1 H1 S1 f1 (.bl false)
theorem e_or (h : E X e ρ (.d (.bool b)) ρ1) (h2 : b = false → E X (.BoolOp .Or (e1 :: rest) pos) ρ1 (.d (.bool c)) ρ1) : E X (.BoolOp .Or (e :: e1 :: rest) pos) ρ (.d (.bool (b || c))) ρ1 := .of (pe_or pe_w pe_w) fun σ HF H S Q q => h σ HF H S _ fun x HF1 H1 S1 f1 r1 => by
  cases r1
  refine ⟨b, rfl, ?_⟩
  cases b with
  | false => exact h2 rfl σ HF1 H1 S1 Q fun y HF2 H2 S2 f2 r2 => q y HF2 H2 S2 (f1.trans f2) r2
  | true => exact q _ HF1 H1 S1 f1 (.bl true)
theorem e_not (h : E X e ρ (.d (.bool b)) ρ1) : E X (.UnaryOp .Not e pos) ρ (.d (.bool (!b))) ρ1 := .of (pe_not pe_w) fun σ HF H S Q q => h σ HF H S _ fun x HF1 H1 S1 f1 r1 => by
  cases r1
  exact ⟨b, rfl, q _ HF1 H1 S1 f1 (.bl _)⟩
theorem e_if {t : Expr} (h : ET X t ρ b ρ1) (h1 : b = true → E X e1 ρ1 a ρ2) (h2 : b = false → E X e2 ρ1 a ρ2) : E X (.IfExp t e1 e2 pos) ρ a ρ2 := .of (pe_ifExp pt_w pe_w pe_w) fun σ HF H S Q q => h σ HF H S _ fun HF1 H1 S1 f1 => by
  have hfr : ∀ x HF2 H2, RRel X.K H1 HF2 H2 x a → RRel X.K H HF2 H2 x a := fun x HF2 H2 r => by
    cases ho : a.own with
    | true =>
      obtain ⟨p, o, q1, q2, q3⟩ := (rrel_own ho).mp r
      exact (rrel_own ho).mpr ⟨p, o, q1, f1.fresh q2, q3⟩
    | false => cases a <;> first | exact r | exact tw_fresh (fun p h => f1.fresh h) r | exact dl_fresh (fun p h => f1.fresh h) r | exact Nw.fresh _ (fun p h => f1.fresh h) r | cases ho
  cases b with
  | true => exact h1 rfl σ HF1 H1 S1 Q fun y HF2 H2 S2 f2 r2 => q y HF2 H2 S2 (f1.trans f2) (hfr _ _ _ r2)
  | false => exact h2 rfl σ HF1 H1 S1 Q fun y HF2 H2 S2 f2 r2 => q y HF2 H2 S2 (f1.trans f2) (hfr _ _ _ r2)

/-! ### displays -/
def EvD (K : PySem.W.Frag) (ta : TA) (ρ : Rho) (ds : List PyData) (ρ' : Rho) : Prop := ∀ σ HF H, Sl K ρ σ HF H → ∀ Q : List V → Hp → Prop,
  (∀ xs HF' H', Sl K ρ' σ HF' H' → Fw ρ ρ' σ HF H HF' H' → DpAll K HF' xs ds → Q xs H') → ta σ H Q
abbrev ED (X : Cx) (es : List Expr) (ρ : Rho) (ds : List PyData) (ρ' : Rho) : Prop := EvD X.K (wA X es) ρ ds ρ'
variable {es : List Expr} {ds : List PyData}
theorem d_nil : ED X [] ρ [] ρ := fun σ HF H S Q q => ⟨_, pa_nil, q [] HF H S (.refl ..) .nil⟩
theorem d_cons (h : E X e ρ (.d v) ρ1) (hr : ED X es ρ1 ds ρ2) (hs : starEach (e :: es) X.env = (false, eval e X.env) :: starEach es X.env := by rfl) : ED X (e :: es) ρ (v :: ds) ρ2 := fun σ HF H S Q q =>
  ⟨_, pa_cons pe_w pa_w hs, h σ HF H S _ fun x HF1 H1 S1 f1 r1 => hr σ HF1 H1 S1 _ fun xs HF2 H2 S2 f2 r2 => q _ HF2 H2 S2 (f1.trans f2) (.cons (dp_mono f2.hf r1) r2)⟩
theorem ed_len {K : PySem.W.Frag} {HF : Hp} {xs : List V} (h : DpAll K HF xs ds) (hz : ds.length ≤ 1000) : xs.length ≤ sizeLine := by
  rw [dpa_len h]
  exact Nat.le_of_lt (small1000 hz)
theorem e_tup {n : Nat} (h : ED X es ρ ds ρ1) (hz : ds.length ≤ 1000 := by exact Nat.le_of_ble_eq_true rfl) : E X (.Tuple es n pos) ρ (.d (.tuple ds)) ρ1 := .of (pe_tup pa_w) fun σ HF H S Q q => h σ HF H S _ fun xs HF1 H1 S1 f1 r1 => by
  refine ⟨ed_len r1 hz, fun p hp => ?_⟩
  obtain ⟨S2, f2⟩ := S1.allocD hp (.tup xs)
  exact q _ _ _ S2 (f1.trans f2) (.tup (.inl (.inl upd_same)) (dpa_mono f2.hf r1))
theorem e_lst (h : ED X es ρ ds ρ1) (hz : ds.length ≤ 1000 := by exact Nat.le_of_ble_eq_true rfl) : E X (.List es pos) ρ (.ml ds) ρ1 := .of (pe_lst pa_w) fun σ HF H S Q q => h σ HF H S _ fun xs HF1 H1 S1 f1 r1 => by
  refine ⟨ed_len r1 hz, fun p hp => ?_⟩
  obtain ⟨S2, f2⟩ := S1.allocO hp (.lst xs)
  exact q _ _ _ S2 (f1.trans f2) ⟨p, _, rfl, f1.fresh hp, S1.hfNone hp, upd_same, r1⟩
theorem e_dictK : E X (.Dict [] [] pos) ρ (.mk []) ρ := .of pe_dnewK fun σ HF H S Q q => fun p hp => by
  obtain ⟨S2, f2⟩ := S.allocO hp (.dK [])
  exact q _ _ _ S2 f2 ⟨p, _, rfl, hp, S.hfNone hp, upd_same, .nil⟩
theorem at_ok {P : Program} {w : World} {H : Hp} {h : Heap} {p : Addr} {o : Obj} (e : h.get? p = some o) : ObjOk P w H h p (AtO p o) := ⟨e, ⟨o, e⟩, fun _ _ e1 k => k _ e1⟩
theorem pe_dnewA : PE X (.Dict [] [] pos) (fun _ H Q => ∀ p o, H p = none → (p == sysModules) = false → TabOf o [] → Q (.ref p) (upd H p (AtO p o))) := ⟨fun pins s σ H Q I h =>
  wpAny_Dict_empty ⟨.ref s.heap.objs.size, _, I.laid (a := s.heap.objs.size) (o := AtO s.heap.objs.size { cls := .type "dict", data := .dict #[] }) (t' := s.toks) (fun _ _ q => Heap.get?_push_of_some _ q) (Nat.le_refl _) (at_ok (Heap.get?_push_size _ rfl)), rfl,
    h _ _ (I.hok.fresh (Nat.le_refl _)) (beq_eq_false_iff_ne.mpr (Ne.symm (Nat.ne_of_lt I.big))) ⟨⟨rfl, rfl, rfl⟩, fun _ z => (nomatch z), List.nodup_nil, X.w, #[], 0, rfl, rfl⟩⟩⟩
theorem e_dictT : E X (.Dict [] [] pos) ρ (.mt []) ρ := .of pe_dnewA fun σ HF H S Q q => fun p o hp hs ht => by
  obtain ⟨S2, f2⟩ := S.allocO hp (AtO p o)
  exact q _ _ _ S2 f2 ⟨p, _, rfl, hp, S.hfNone hp, upd_same, o, [], rfl, hs, ht, .nil⟩

/-! ### items -/
theorem dpa_atI {K : PySem.W.Frag} {HF : Hp} {ys : List V} {i : Int} {d : PyData} (h : DpAll K HF ys ds) (hi : atI ds i = some d) : ∃ y, atI ys i = some y ∧ Dp K HF y d := by
  unfold atI at hi ⊢
  rw [dpa_len h]
  cases hx : ixN ds.length i with
  | none => rw [hx] at hi; cases hi
  | some n =>
    rw [hx] at hi
    exact dpa_get h hi
theorem e_ixL (ha : EO X e1 ρ (.list ds) ρ1 k1) (hb : E X e2 ρ1 (.d (.int i)) ρ2) (hi : atI ds i = some v) (hp : PlainIx e2 := by exact fun _ _ => rfl) (hk : Kp k1 ρ1 ρ2 := by first | exact trivial | exact rfl) : E X (.Subscript e1 e2 pos) ρ (.d v) ρ2 :=
  .of (pe_ix ix_list pe_w pe_w hp) (ev_op2 ha hb.o hk fun HF H x y Q hx hy s q => by
    obtain ⟨p, ys, rfl, h1, h2⟩ := hx
    cases hy
    obtain ⟨y, g1, g2⟩ := dpa_atI h2 hi
    exact ⟨p, ys, i, y, rfl, rfl, h1, g1, q _ g2⟩)
theorem e_ixT (ha : E X e1 ρ (.d (.tuple ds)) ρ1) (hb : E X e2 ρ1 (.d (.int i)) ρ2) (hi : atI ds i = some v) (hp : PlainIx e2 := by exact fun _ _ => rfl) : E X (.Subscript e1 e2 pos) ρ (.d v) ρ2 :=
  .of (pe_ix ix_tup pe_w pe_w hp) (ev_op ha hb fun HF H x y Q hx hy s q => by
    cases hx with
    | tup h1 h2 =>
      cases hy
      obtain ⟨y, g1, g2⟩ := dpa_atI h2 hi
      exact ⟨_, _, i, y, rfl, rfl, same_t s h1, g1, q _ g2⟩)

/-! ### slices -/
def EvP (K : PySem.W.Frag) (t : TO) (ρ : Rho) (o : Option Int) (ρ' : Rho) : Prop := ∀ σ HF H, Sl K ρ σ HF H → ∀ Q : Option Int → Hp → Prop,
  (∀ HF' H', Sl K ρ' σ HF' H' → Fw ρ ρ' σ HF H HF' H' → Q o H') → t σ H Q
def wP (X : Cx) (e : Option Expr) : TO := fun σ H Q => ∃ t, PO X e t ∧ t σ H Q
theorem po_w {e : Option Expr} : PO X e (wP X e) := ⟨fun pins s σ H Q I ⟨_, h, q⟩ => h.run pins s σ H Q I q⟩
abbrev EP (X : Cx) (e : Option Expr) (ρ : Rho) (o : Option Int) (ρ' : Rho) : Prop := EvP X.K (wP X e) ρ o ρ'
theorem p_none : EP X none ρ none ρ := fun σ HF H S Q q => ⟨_, po_none, q HF H S (.refl ..)⟩
theorem p_some (h : E X e ρ (.d (.int i)) ρ1) : EP X (some e) ρ (some i) ρ1 := fun σ HF H S Q q => ⟨_, po_some pe_w, h σ HF H S _ fun x HF1 H1 S1 f1 r1 => by
  cases r1
  exact ⟨i, rfl, q HF1 H1 S1 f1⟩⟩
def cut {α : Type} (xs : List α) (lo hi : Option Int) : List α := (xs.drop (HT.sIx xs.length 0 lo)).take (HT.sIx xs.length xs.length hi - HT.sIx xs.length 0 lo)
theorem dpa_cut {K : PySem.W.Frag} {HF : Hp} {ys : List V} (h : DpAll K HF ys ds) (lo hi : Option Int) : DpAll K HF (cutV ys lo hi) (cut ds lo hi) := by
  unfold cutV cut
  rw [dpa_len h]
  exact dpa_take _ (dpa_drop _ h)
variable {lo hi : Option Expr} {l h : Option Int} {p2 : Pos} {ρ3 : Rho}
theorem e_slL (ha : EO X e ρ (.list ds) ρ1 k1) (hl : EP X lo ρ1 l ρ2) (hh : EP X hi ρ2 h ρ3) (hk : Kp k1 ρ1 ρ3 := by first | exact trivial | exact rfl) : E X (.Subscript e (.Slice lo hi none p2) pos) ρ (.ml (cut ds l h)) ρ3 :=
  .of (pe_slice sl_list pe_w po_w po_w) fun σ HF H S Q q => ha σ HF H S _ fun x HF1 H1 S1 f1 r1 => hl σ HF1 H1 S1 _ fun HF2 H2 S2 f2 => hh σ HF2 H2 S2 _ fun HF3 H3 S3 f3 => by
    obtain ⟨p, ys, rfl, h1, h2⟩ := r1 ρ3 HF3 H3 hk S3 (f2.trans f3)
    refine ⟨p, ys, rfl, h1, fun r hr => ?_⟩
    obtain ⟨S4, f4⟩ := S3.allocO hr (.lst (cutV ys l h))
    have f := (f1.trans (f2.trans f3))
    exact q _ _ _ S4 (f.trans f4) ⟨r, _, rfl, f.fresh hr, S3.hfNone hr, upd_same, dpa_cut h2 l h⟩
theorem cut_whole {α : Type} {xs : List α} {lo hi : Option Int} (h : HT.sIx xs.length 0 lo = 0 ∧ HT.sIx xs.length xs.length hi = xs.length) : cut xs lo hi = xs := by
  unfold cut
  rw [h.1, h.2]
  simp
theorem e_slT (ha : E X e ρ (.d (.tuple ds)) ρ1) (hl : EP X lo ρ1 l ρ2) (hh : EP X hi ρ2 h ρ3) : E X (.Subscript e (.Slice lo hi none p2) pos) ρ (.d (.tuple (cut ds l h))) ρ3 :=
  .of (pe_slice sl_tupA pe_w po_w po_w) fun σ HF H S Q q => ha σ HF H S _ fun x HF1 H1 S1 f1 r1 => hl σ HF1 H1 S1 _ fun HF2 H2 S2 f2 => hh σ HF2 H2 S2 _ fun HF3 H3 S3 f3 => by
    have r3 := dp_mono (f2.trans f3).hf r1
    have f := (f1.trans (f2.trans f3))
    cases r3 with
    | @tup a xs _ h1 h2 =>
      refine ⟨a, xs, rfl, same_t S3.sub h1, fun hw => ?_, fun hw r hr => ?_⟩
      · rw [dpa_len h2] at hw
        rw [cut_whole hw] at q
        exact q _ _ _ S3 f (.tup h1 h2)
      · obtain ⟨S4, f4⟩ := S3.allocD hr (.tup (cutV xs l h))
        exact q _ _ _ S4 (f.trans f4) (.tup (.inl (.inl upd_same)) (dpa_cut (dpa_mono f4.hf h2) l h))
end
end Th

set_option Elab.async false
set_option linter.all false
set_option maxRecDepth 100000
namespace Th
open PySem PySem.Spec PyProof.Rows L2

/-! ### statements: a base (the def's entry) and what is lent -/
structure Bs where
  HF0 : Hp
  H0 : Hp
  L : List (Nat × Addr)
structure Bn (B : Bs) (ρ : Rho) (σ : L2.St) (HF H : Hp) : Prop where
  hf : Same B.HF0 HF
  keep : ∀ b o, (∀ q ∈ B.L, q.2 ≠ b) → B.H0 b = some o → H b = some o
  new : ∀ b o, HF b = some o → B.HF0 b = some o ∨ B.H0 b = none
  pres : ∀ b o, B.H0 b = some o → ∃ o', H b = some o'
  mine : ∀ (i : Nat) (a : A) (p : Addr), ρ[i]? = some a → a.own = true → σ[i]? = some (some (V.ref p)) → (i, p) ∈ B.L ∨ B.H0 p = none
  lent : ∀ q ∈ B.L, σ[q.1]? = some (some (V.ref q.2))
section
variable {B : Bs} {ρ ρ' : Rho} {σ : L2.St} {HF H HF' H' : Hp}
theorem Bn.own (b : Bn B ρ σ HF H) {p : Addr} (h : OwnAt ρ σ p) : (∃ q ∈ B.L, q.2 = p) ∨ B.H0 p = none := by
  obtain ⟨i, a, h1, h2, h3⟩ := h
  rcases b.mine i a p h1 h2 h3 with z | z
  · exact .inl ⟨_, z, rfl⟩
  · exact .inr z
theorem Bn.fw (b : Bn B ρ σ HF H) (f : Fw ρ ρ' σ HF H HF' H') : Bn B ρ' σ HF' H' where
  hf := b.hf.trans f.hf
  keep := fun p o hn h => f.keep p o (b.keep p o hn h) fun z => by
    rcases b.own z with ⟨q, h1, h2⟩ | h1
    · exact hn q h1 h2
    · rw [h] at h1; cases h1
  new := fun p o h => by
    rcases f.new p o h with h | h
    · exact b.new p o h
    · cases q : B.H0 p with
      | none => exact .inr rfl
      | some u =>
        obtain ⟨o', e⟩ := b.pres p u q
        rw [h] at e; cases e
  pres := fun p o h => by
    obtain ⟨o', e⟩ := b.pres p o h
    exact f.pres p o' e
  mine := fun i a p h1 h2 h3 => by
    obtain ⟨a', g1, g2, _⟩ := f.sh.back h1
    exact b.mine i a' p g1 (by rw [← g2]; exact h2) h3
  lent := b.lent
theorem Bn.free (b : Bn B ρ σ HF H) {p : Addr} (h : H p = none) : B.H0 p = none := by
  cases q : B.H0 p with
  | none => rfl
  | some u =>
    obtain ⟨o', e⟩ := b.pres p u q
    rw [h] at e; cases e
end

structure Pst where
  nx : Rho → Prop
  rt : A → Rho → Prop
  bk : Rho → Prop := fun _ => False
  ct : Rho → Prop := fun _ => False
structure Ok (K : PySem.W.Frag) (B : Bs) (HF : Hp) (D : Ends) (P : Pst) : Prop where
  nx : ∀ ρ σ HF' H, P.nx ρ → Sl K ρ σ HF' H → Bn B ρ σ HF' H → Same HF HF' → D.nx σ H
  rt : ∀ a ρ σ HF' H x, P.rt a ρ → Sl K ρ σ HF' H → Bn B ρ σ HF' H → RRel K B.H0 HF' H x a → D.rt x H
  bk : ∀ ρ σ HF' H, P.bk ρ → Sl K ρ σ HF' H → Bn B ρ σ HF' H → Same HF HF' → D.bk σ H
  ct : ∀ ρ σ HF' H, P.ct ρ → Sl K ρ σ HF' H → Bn B ρ σ HF' H → Same HF HF' → D.ct σ H
theorem Ok.up {K : PySem.W.Frag} {B : Bs} {HF HF1 : Hp} {D : Ends} {P : Pst} (o : Ok K B HF D P) (s : Same HF HF1) : Ok K B HF1 D P :=
  ⟨fun ρ σ HF' H p S b e => o.nx ρ σ HF' H p S b (s.trans e), o.rt, fun ρ σ HF' H p S b e => o.bk ρ σ HF' H p S b (s.trans e), fun ρ σ HF' H p S b e => o.ct ρ σ HF' H p S b (s.trans e)⟩
def Ex (K : PySem.W.Frag) (B : Bs) (t : TS) (ρ : Rho) (P : Pst) : Prop := ∀ σ HF H, Sl K ρ σ HF H → Bn B ρ σ HF H → ∀ D, Ok K B HF D P → t D σ H
abbrev S (X : Cx) (B : Bs) (st : Stmt) (ρ : Rho) (P : Pst) : Prop := Ex X.K B (wS X st) ρ P
abbrev Ss (X : Cx) (B : Bs) (st : List Stmt) (ρ : Rho) (P : Pst) : Prop := Ex X.K B (wSs X st) ρ P

section
variable {X : Cx} {B : Bs} {P : Pst} {ρ ρ1 ρ2 ρ3 : Rho} {st : Stmt} {sts : List Stmt} {t : TS} {e e1 e2 : Expr} {pos : Pos} {a : A} {b : Bool} {v w : PyData}
theorem S.of (h : PS X st t) (h2 : Ex X.K B t ρ P) : S X B st ρ P := fun σ HF H Sl b D o => ⟨t, h, h2 σ HF H Sl b D o⟩
theorem ss_nil (h : P.nx ρ) : Ss X B [] ρ P := fun σ HF H Sl b D o => ⟨_, pss_nil, o.nx ρ σ HF H h Sl b (.refl _)⟩
theorem ss_cons (h : S X B st ρ ⟨fun ρ' => Ss X B sts ρ' P, P.rt, P.bk, P.ct⟩) : Ss X B (st :: sts) ρ P := fun σ HF H Sl b D o =>
  ⟨_, pss_cons ps_w pss_w, h σ HF H Sl b _ ⟨fun ρ' σ' HF' H' p S' b' e => p σ' HF' H' S' b' D (o.up e), o.rt, o.bk, o.ct⟩⟩
theorem ss_one (h : S X B st ρ P) : Ss X B [st] ρ P := fun σ HF H Sl b D o => ⟨_, pss_one ps_w, h σ HF H Sl b D o⟩
theorem s_pass (h : P.nx ρ) : S X B (.Pass pos) ρ P := .of ps_pass fun σ HF H Sl b D o => o.nx ρ σ HF H h Sl b (.refl _)
theorem s_break (h : P.bk ρ) : S X B (.Break pos) ρ P := .of ps_break fun σ HF H Sl b D o => o.bk ρ σ HF H h Sl b (.refl _)
theorem s_cont (h : P.ct ρ) : S X B (.Continue pos) ρ P := .of ps_continue fun σ HF H Sl b D o => o.ct ρ σ HF H h Sl b (.refl _)
theorem s_doc {x : Str} {j : Nat} {pos' : Pos} (h : P.nx ρ) : S X B (.Expr (.Constant (.str x) j pos) pos') ρ P := .of ps_doc fun σ HF H Sl b D o => o.nx ρ σ HF H h Sl b (.refl _)
theorem s_expr (he : E X e ρ a ρ1) (h : P.nx ρ1) (hs : swapsWith e none pos.line X.env = pure false := by rfl) : S X B (.Expr e pos) ρ P := .of (ps_expr pe_w hs) fun σ HF H Sl b D o =>
  he σ HF H Sl _ fun x HF1 H1 S1 f1 _ => o.nx ρ1 σ HF1 H1 h S1 (b.fw f1) f1.hf
theorem rrel_base {K : PySem.W.Frag} {σ : L2.St} {HF H HF' H' : Hp} {x : V} (b : Bn B ρ σ HF H) (r : RRel K H HF' H' x a) : RRel K B.H0 HF' H' x a := by
  cases ho : a.own with
  | true =>
    obtain ⟨p, o, q1, q2, q3⟩ := (rrel_own ho).mp r
    exact (rrel_own ho).mpr ⟨p, o, q1, b.free q2, q3⟩
  | false => cases a <;> first | exact r | exact tw_fresh (fun p h => b.free h) r | exact dl_fresh (fun p h => b.free h) r | exact Nw.fresh _ (fun p h => b.free h) r | cases ho
theorem s_ret (he : E X e ρ a ρ1) (h : P.rt a ρ1) : S X B (.Return (some e) pos) ρ P := .of (ps_ret pe_w) fun σ HF H Sl b D o =>
  he σ HF H Sl _ fun x HF1 H1 S1 f1 r1 => o.rt a ρ1 σ HF1 H1 x h S1 (b.fw f1) (rrel_base b r1)
theorem s_retN (h : P.rt (.d .none) ρ) : S X B (.Return none pos) ρ P := .of ps_retN fun σ HF H Sl b D o => o.rt _ ρ σ HF H _ h Sl b (show RRel X.K B.H0 HF H V.non (.d .none) from .non)
/-- an own object is handed back -/
theorem s_retO (i : Nat) {x : Str} (hi : ρ[i]? = some a) (ho : a.own = true) (hl : ∀ q ∈ B.L, q.1 ≠ i) (h : P.rt a ρ) (hN : X.N[i]? = some x := by rfl) (hv : Vis X.env.scope x := by first | exact Or.inl rfl | exact Or.inr (Or.inl rfl) | exact Or.inr (Or.inr rfl))
    (hd : (x == ("__debug__" : Str)) = false := by decide) (hcd : (x == ("__classdict__" : Str)) = false := by decide) {pos'} : S X B (.Return (some (.Name x pos')) pos) ρ P := .of (ps_ret (pe_var hN hv hd hcd)) fun σ HF H Sl b D o => by
  obtain ⟨p, u, e, h1, h2, h3⟩ := Sl.ownAt hi ho
  refine ⟨.ref p, e, o.rt a ρ σ HF H _ h Sl b ((rrel_own ho).mpr ⟨p, u, rfl, ?_, h1, h2, h3⟩)⟩
  rcases b.mine i a p hi ho e with z | z
  · exact (hl _ z rfl).elim
  · exact z
theorem s_if {c : Expr} {s1 s2 : List Stmt} (hc : ET X c ρ b ρ1) (h1 : b = true → Ss X B s1 ρ1 P) (h2 : b = false → Ss X B s2 ρ1 P) : S X B (.If c s1 s2 pos) ρ P := .of (ps_if pt_w pss_w pss_w) fun σ HF H Sl bb D o =>
  hc σ HF H Sl _ fun HF1 H1 S1 f1 => by
    cases b with
    | true => exact h1 rfl σ HF1 H1 S1 (bb.fw f1) D (o.up f1.hf)
    | false => exact h2 rfl σ HF1 H1 S1 (bb.fw f1) D (o.up f1.hf)

/-! ### a name is stored -/
theorem Sl.set {K : PySem.W.Frag} {σ : L2.St} {HF H Hb : Hp} {x : V} {i : Nat} (S1 : Sl K ρ σ HF H) (r : RRel K Hb HF H x a) (hfr : ∀ p, Hb p = none → ¬ OwnAt ρ σ p) : Sl K (ρ.set i a) (σ.set i (some x)) HF H := by
  refine ⟨by rw [List.length_set, List.length_set]; exact S1.len, S1.sub, fun j c h => ?_, fun j k c d p h1 h2 o1 o2 e1 e2 => ?_⟩
  · by_cases hj : i = j
    · subst hj
      have hi : i < ρ.length := by
        have := (List.getElem?_eq_some_iff.mp h).1
        rw [List.length_set] at this
        exact this
      rw [List.getElem?_set_self hi] at h
      cases h
      refine ⟨some x, by rw [List.getElem?_set_self (by rw [S1.len]; exact hi)], ?_⟩
      cases ho : a.own with
      | true =>
        obtain ⟨p, o, q1, q2, q3⟩ := (rrel_own ho).mp r
        exact (arel_own ho).mpr ⟨x, rfl, p, o, q1, q3⟩
      | false => cases a <;> first | exact ⟨x, rfl, r⟩ | exact congrArg some r | trivial | cases ho
    · rw [List.getElem?_set_ne hj] at h
      obtain ⟨s, e, q⟩ := S1.slot j c h
      exact ⟨s, by rw [List.getElem?_set_ne hj]; exact e, q⟩
  · have key : ∀ (m : Nat) (c : A), (ρ.set i a)[m]? = some c → c.own = true → (σ.set i (some x))[m]? = some (some (V.ref p)) → i ≠ m → OwnAt ρ σ p := fun m c g1 g2 g3 hm => by
      rw [List.getElem?_set_ne hm] at g1 g3
      exact ⟨m, c, g1, g2, g3⟩
    have self : ∀ (c : A), (ρ.set i a)[i]? = some c → c.own = true → (σ.set i (some x))[i]? = some (some (V.ref p)) → Hb p = none := fun c g1 g2 g3 => by
      have hi : i < ρ.length := by
        have := (List.getElem?_eq_some_iff.mp g1).1
        rw [List.length_set] at this
        exact this
      rw [List.getElem?_set_self hi] at g1
      rw [List.getElem?_set_self (by rw [S1.len]; exact hi)] at g3
      cases g1
      cases g3
      obtain ⟨p', o, q1, q2, q3⟩ := (rrel_own g2).mp r
      cases q1
      exact q2
    by_cases hj : i = j
    · subst hj
      by_cases hk : i = k
      · exact hk
      · exact (hfr p (self c h1 o1 e1) (key k d h2 o2 e2 hk)).elim
    · by_cases hk : i = k
      · subst hk
        exact (hfr p (self d h2 o2 e2) (key j c h1 o1 e1 hj)).elim
      · rw [List.getElem?_set_ne hj] at h1 e1
        rw [List.getElem?_set_ne hk] at h2 e2
        exact S1.apart j k c d p h1 h2 o1 o2 e1 e2
theorem Bn.set {K : PySem.W.Frag} {σ : L2.St} {HF H : Hp} {x : V} {i : Nat} (b1 : Bn B ρ σ HF H) (S1 : Sl K ρ σ HF H) (r : RRel K B.H0 HF H x a) (hl : ∀ q ∈ B.L, q.1 ≠ i) : Bn B (ρ.set i a) (σ.set i (some x)) HF H := by
  refine ⟨b1.hf, b1.keep, b1.new, b1.pres, fun j c p h1 h2 h3 => ?_, fun q hq => ?_⟩
  · by_cases hj : i = j
    · subst hj
      have hi : i < ρ.length := by
        have := (List.getElem?_eq_some_iff.mp h1).1
        rw [List.length_set] at this
        exact this
      rw [List.getElem?_set_self hi] at h1
      rw [List.getElem?_set_self (by rw [S1.len]; exact hi)] at h3
      cases h1
      cases h3
      obtain ⟨p', o, q1, q2, q3⟩ := (rrel_own h2).mp r
      cases q1
      exact .inr q2
    · rw [List.getElem?_set_ne hj] at h1 h3
      exact b1.mine j c p h1 h2 h3
  · rw [List.getElem?_set_ne (hl q hq).symm]
    exact b1.lent q hq
theorem s_set (i : Nat) {x : Str} {pos' : Pos} (he : E X e ρ a ρ1) (h : P.nx (ρ1.set i a)) (hl : ∀ q ∈ B.L, q.1 ≠ i) (hN : X.N.Nodup) (hi : X.N[i]? = some x := by rfl) (hx : Loc X.env.scope x := by first | exact Or.inl rfl | exact Or.inr rfl)
    (hs : swapsWith e (some (.Name x pos')) pos.line X.env = pure false := by rfl) (hf : X.fn x = true ∨ X.env.scope.names.lookup x = some .local := by first | exact .inl rfl | exact .inr rfl) : S X B (.Assign [.Name x pos'] e pos) ρ P :=
  .of (ps_set hN hi hx pe_w hs hf) fun σ HF H Sl b D o => he σ HF H Sl _ fun y HF1 H1 S1 f1 r1 =>
    o.nx _ _ HF1 H1 h (S1.set r1 fun p hp z => Sl.notOwn hp (f1.sh.own.mp z)) ((b.fw f1).set S1 (rrel_base b r1) hl) f1.hf

/-! ### targets -/
def Ga (K : PySem.W.Frag) (B : Bs) (g : TG) (v : PyData) (ρ ρ' : Rho) : Prop := ∀ x σ HF H, Sl K ρ σ HF H → Dp K HF x v → ∀ Q : L2.St → Hp → Prop, (∀ σ', Sl K ρ' σ' HF H → (Bn B ρ σ HF H → Bn B ρ' σ' HF H) → Q σ' H) → g x σ H Q
def wG (X : Cx) (tg : Expr) : TG := fun x σ H Q => ∃ g, PG X tg g ∧ g x σ H Q
theorem pg_w {tg : Expr} : PG X tg (wG X tg) := ⟨fun pins s σ H v u Q I r ⟨_, h, q⟩ => h.run pins s σ H v u Q I r q⟩
abbrev GT (X : Cx) (B : Bs) (tg : Expr) (v : PyData) (ρ ρ' : Rho) : Prop := Ga X.K B (wG X tg) v ρ ρ'
theorem g_name (i : Nat) {x : Str} (hl : ∀ q ∈ B.L, q.1 ≠ i) (hN : X.N.Nodup) (hi : X.N[i]? = some x := by rfl) (hx : Loc X.env.scope x := by first | exact Or.inl rfl | exact Or.inr rfl) (hf : X.fn x = true ∨ X.env.scope.names.lookup x = some .local := by first | exact .inl rfl | exact .inr rfl) :
    GT X B (.Name x pos) v ρ (ρ.set i (.d v)) := fun y σ HF H Sl r Q q => ⟨_, pg_name hN hi hx hf, by
  have r1 : ∀ Hb, RRel X.K Hb HF H y (.d v) := fun Hb => r
  refine q _ ?_ fun b => b.set Sl (r1 _) hl
  refine Sl.set (Hb := H) (r1 _) fun p hp z => Sl.notOwn hp z⟩
def Gs (K : PySem.W.Frag) (B : Bs) (g : TGs) (vs : List PyData) (ρ ρ' : Rho) : Prop := ∀ xs σ HF H, Sl K ρ σ HF H → DpAll K HF xs vs → ∀ Q : L2.St → Hp → Prop, (∀ σ', Sl K ρ' σ' HF H → (Bn B ρ σ HF H → Bn B ρ' σ' HF H) → Q σ' H) → g xs σ H Q
def wGs (X : Cx) (tg : List Expr) : TGs := fun x σ H Q => ∃ g, PGs X tg g ∧ g x σ H Q
theorem pgs_w {tg : List Expr} : PGs X tg (wGs X tg) := ⟨fun pins s σ H v u Q I r ⟨_, h, q⟩ => h.run pins s σ H v u Q I r q⟩
abbrev GTs (X : Cx) (B : Bs) (tg : List Expr) (vs : List PyData) (ρ ρ' : Rho) : Prop := Gs X.K B (wGs X tg) vs ρ ρ'
theorem gs_nil : GTs X B [] [] ρ ρ := fun xs σ HF H Sl r Q q => by
  cases r
  exact ⟨_, pgs_nil, rfl, q σ Sl fun b => b⟩
theorem gs_cons {tg : Expr} {tgs : List Expr} {vs : List PyData} (h1 : GT X B tg v ρ ρ1) (h2 : GTs X B tgs vs ρ1 ρ2)
    (hs : (assignEach (tg :: tgs) X.env).map (·.2) = assign tg X.env :: (assignEach tgs X.env).map (·.2) := by rfl) : GTs X B (tg :: tgs) (v :: vs) ρ ρ2 := fun xs σ HF H Sl r Q q => by
  cases r with
  | cons r rr =>
    refine ⟨_, pgs_cons pg_w pgs_w hs, _, _, rfl, h1 _ σ HF H Sl r _ fun σ1 S1 b1 => h2 _ σ1 HF H S1 rr Q fun σ2 S2 b2 => q σ2 S2 fun b => b2 (b1 b)⟩
theorem g_tup {es : List Expr} {k : Nat} {vs : List PyData} {n : Nat} (h : GTs X B es vs ρ ρ1) (hz : vs.length = n := by rfl) (hc : X.calm = true := by rfl) (hn : (assignEach es X.env).length = n := by rfl) (hst : (assignEach es X.env).findIdx? (·.1) = none := by rfl) :
    GT X B (.Tuple es k pos) (.tuple vs) ρ ρ1 := fun x σ HF H Sl r Q q => ⟨_, pg_tup hc pgs_w hn hst, by
  cases r with
  | tup h1 h2 => exact ⟨_, _, rfl, same_t Sl.sub h1, (dpa_len h2).trans hz, h _ σ HF H Sl h2 Q q⟩⟩
/-- a, b = e (a tuple) -/
theorem s_asgT {tg : Expr} (he : E X e ρ (.d v) ρ1) (hg : GT X B tg v ρ1 ρ2) (h : P.nx ρ2) (hs : swapsWithSole [tg] e pos.line X.env = pure false := by rfl) (hw : swappedStores [tg] e X.env = pure none := by rfl)
    (h1 : (assignEach [tg] X.env).map (·.2) = [assign tg X.env] := by rfl) : S X B (.Assign [tg] e pos) ρ P := .of (ps_asg pe_w pg_w hs hw h1) fun σ HF H Sl b D o => he σ HF H Sl _ fun y HF1 H1 S1 f1 r1 =>
  hg y σ HF1 H1 S1 r1 _ fun σ2 S2 b2 => o.nx _ _ HF1 H1 h S2 (b2 (b.fw f1)) f1.hf
/-- a, b = e1, e2 -/
theorem s_par (i j : Nat) {x y : Str} {px py pt : Pos} {kt k2 : Nat} {pt2 : Pos} (ha : ED X [e1, e2] ρ [v, w] ρ1) (h : P.nx ((ρ1.set i (.d v)).set j (.d w))) (hli : ∀ q ∈ B.L, q.1 ≠ i) (hlj : ∀ q ∈ B.L, q.1 ≠ j) (hN : X.N.Nodup) (hij : i ≠ j := by decide)
    (hc : X.calm = true := by rfl) (hi : X.N[i]? = some x := by rfl) (hj : X.N[j]? = some y := by rfl) (hx : X.env.scope.names.lookup x = some .local := by rfl) (hy : X.env.scope.names.lookup y = some .local := by rfl)
    (hw : swappedStores [.Tuple [.Name x px, .Name y py] kt pt] (.Tuple [e1, e2] k2 pt2) X.env = pure (some [x, y]) := by rfl)
    (hs : swapsWithSole [.Tuple [.Name x px, .Name y py] kt pt] (.Tuple [e1, e2] k2 pt2) pos.line X.env = pure false := by rfl) : S X B (.Assign [.Tuple [.Name x px, .Name y py] kt pt] (.Tuple [e1, e2] k2 pt2) pos) ρ P :=
  .of (ps_par hc hN hi hj hij hx hy pa_w hw hs) fun σ HF H Sl b D o => ha σ HF H Sl _ fun xs HF1 H1 S1 f1 r1 => by
    cases r1 with
    | cons r1 r2 =>
      cases r2 with
      | cons r2 r3 =>
        cases r3
        refine ⟨_, _, rfl, ?_⟩
        have q1 : ∀ Hb, RRel X.K Hb HF1 H1 _ (.d v) := fun Hb => r1
        have q2 : ∀ Hb, RRel X.K Hb HF1 H1 _ (.d w) := fun Hb => r2
        have b1 := b.fw f1
        have S2 := S1.set (i := i) (q1 H1) fun p hp z => S1.notOwn hp z
        have b2 := b1.set (i := i) S1 (q1 _) hli
        exact o.nx _ _ HF1 H1 h (S2.set (q2 H1) fun p hp z => S2.notOwn hp z) (b2.set S2 (q2 _) hlj) f1.hf

/-! ### less is known -/
inductive Le : Rho → Rho → Prop
  | nil : Le [] []
  | eq {a : A} {r r' : Rho} (h : Le r r') : Le (a :: r) (a :: r')
  | any {a : A} {r r' : Rho} (h : Le r r') : Le (a :: r) (.any :: r')
theorem Le.refl : ∀ ρ : Rho, Le ρ ρ
  | [] => .nil
  | _ :: r => .eq (Le.refl r)
theorem Le.len : ∀ {ρ ρ' : Rho}, Le ρ ρ' → ρ'.length = ρ.length
  | _, _, .nil => rfl
  | _, _, .eq h => congrArg (· + 1) h.len
  | _, _, .any h => congrArg (· + 1) h.len
theorem Le.get : ∀ {ρ ρ' : Rho} {i : Nat} {a : A}, Le ρ ρ' → ρ'[i]? = some a → (ρ[i]? = some a) ∨ (a = .any ∧ ∃ c, ρ[i]? = some c)
  | _, _, _, _, .nil, h => by simp at h
  | _, _, 0, _, .eq _, h => .inl h
  | _, _, 0, _, .any _, h => .inr ⟨(Option.some.inj h).symm, _, rfl⟩
  | _, _, i + 1, _, .eq t, h => Le.get (i := i) t h
  | _, _, i + 1, _, .any t, h => Le.get (i := i) t h
theorem Sl.le {K : PySem.W.Frag} {σ : L2.St} {HF H : Hp} (S1 : Sl K ρ σ HF H) (l : Le ρ ρ1) : Sl K ρ1 σ HF H := by
  refine ⟨S1.len.trans l.len.symm, S1.sub, fun i a h => ?_, fun i j a b p h1 h2 o1 o2 e1 e2 => ?_⟩
  · rcases l.get h with h | ⟨rfl, c, h⟩
    · exact S1.slot i a h
    · obtain ⟨s, e, _⟩ := S1.slot i c h
      exact ⟨s, e, trivial⟩
  · have g1 : ρ[i]? = some a := (l.get h1).elim id fun z => by rw [z.1] at o1; cases o1
    have g2 : ρ[j]? = some b := (l.get h2).elim id fun z => by rw [z.1] at o2; cases o2
    exact S1.apart i j a b p g1 g2 o1 o2 e1 e2
theorem Bn.le {σ : L2.St} {HF H : Hp} (b : Bn B ρ σ HF H) (l : Le ρ ρ1) : Bn B ρ1 σ HF H :=
  ⟨b.hf, b.keep, b.new, b.pres, fun i a p h o e => b.mine i a p ((l.get h).elim id fun z => by rw [z.1] at o; cases o) o e, b.lent⟩
theorem Ex.le {K : PySem.W.Frag} (h : Ex K B t ρ1 P) (l : Le ρ ρ1) : Ex K B t ρ P := fun σ HF H S1 b D o => h σ HF H (S1.le l) (b.le l) D o
/-- an own object becomes data -/
theorem Sl.frzAt {K : PySem.W.Frag} {σ : L2.St} {HF H : Hp} {i : Nat} {xs : List PyData} (S1 : Sl K ρ σ HF H) (b1 : Bn B ρ σ HF H) (hi : ρ[i]? = some (.ml xs)) (hl : ∀ q ∈ B.L, q.1 ≠ i) :
    ∃ HF', Sl K (ρ.set i (.d (.list xs))) σ HF' H ∧ Bn B (ρ.set i (.d (.list xs))) σ HF' H ∧ Same HF HF' := by
  obtain ⟨p, o, e, h1, h2, h3⟩ := S1.ownAt hi rfl
  cases o <;> first | exact h3.elim | skip
  rename_i ys
  have hb : B.H0 p = none := (b1.mine i _ p hi rfl e).elim (fun z => (hl _ z rfl).elim) id
  have hlen : i < ρ.length := (List.getElem?_eq_some_iff.mp hi).1
  have le : Sl K (ρ.set i .any) σ HF H := by
    refine ⟨by rw [List.length_set]; exact S1.len, S1.sub, fun j a h => ?_, fun j k a b q g1 g2 o1 o2 e1 e2 => ?_⟩
    · by_cases hj : i = j
      · subst hj
        rw [List.getElem?_set_self hlen] at h
        cases h
        exact ⟨_, e, trivial⟩
      · rw [List.getElem?_set_ne hj] at h
        exact S1.slot j a h
    · have f : ∀ (j : Nat) (a : A), (ρ.set i .any)[j]? = some a → a.own = true → ρ[j]? = some a := fun j a h o => by
        by_cases hj : i = j
        · subst hj
          rw [List.getElem?_set_self hlen] at h
          cases h
          cases o
        · rw [List.getElem?_set_ne hj] at h
          exact h
      exact S1.apart j k a b q (f j a g1 o1) (f k b g2 o2) o1 o2 e1 e2
  have nw : ¬ OwnAt (ρ.set i .any) σ p := by
    rintro ⟨j, a, g1, g2, g3⟩
    by_cases hj : i = j
    · subst hj
      rw [List.getElem?_set_self hlen] at g1
      cases g1
      cases g2
    · rw [List.getElem?_set_ne hj] at g1
      exact hj (S1.apart i j _ a p hi g1 rfl g2 e g3)
  have S2 := le.frz h2 h1 nw
  have own : ∀ (j : Nat) (a : A), (ρ.set i (.d (.list xs)))[j]? = some a → a.own = true → i ≠ j ∧ ρ[j]? = some a := fun j a h o => by
    by_cases hj : i = j
    · subst hj
      rw [List.getElem?_set_self hlen] at h
      cases h
      cases o
    · rw [List.getElem?_set_ne hj] at h
      exact ⟨hj, h⟩
  refine ⟨_, ⟨by rw [List.length_set]; exact S1.len, S2.sub, fun j a h => ?_, fun j k a b q g1 g2 o1 o2 e1 e2 => S1.apart j k a b q (own j a g1 o1).2 (own k b g2 o2).2 o1 o2 e1 e2⟩,
    ⟨b1.hf.trans (same_upd h1), b1.keep, fun c u h => ?_, b1.pres, fun j a q g o e' => b1.mine j a q (own j a g o).2 o e', b1.lent⟩, same_upd h1⟩
  · by_cases hj : i = j
    · subst hj
      rw [List.getElem?_set_self hlen] at h
      cases h
      exact ⟨_, e, .ref p, rfl, .lst (.inl (.inl upd_same)) (dpa_mono (same_upd h1) h3)⟩
    · rw [List.getElem?_set_ne hj] at h
      exact S2.slot j a (by rw [List.getElem?_set_ne hj]; exact h)
  · by_cases hc : c = p
    · subst hc
      exact .inr hb
    · rw [upd_ne hc] at h
      exact b1.new c u h
theorem Ex.frz {K : PySem.W.Frag} (i : Nat) {xs : List PyData} (hi : ρ[i]? = some (.ml xs)) (hl : ∀ q ∈ B.L, q.1 ≠ i) (h : Ex K B t (ρ.set i (.d (.list xs))) P) : Ex K B t ρ P := fun σ HF H S1 b D o => by
  obtain ⟨HF', S2, b2, s⟩ := S1.frzAt b hi hl
  exact h σ HF' H S2 b2 D (o.up s)

/-! ### loops -/
section
variable {tg iter : Expr} {body : List Stmt} {ds : List PyData}
def bodyP (P : Pst) (I : Rho → Prop) : Pst := ⟨I, P.rt, P.nx, I⟩
theorem ok_body {K : PySem.W.Frag} {HF : Hp} {D : Ends} {I : Rho → Prop} {N : L2.St → Hp → Prop} (o : Ok K B HF D P) (h : ∀ ρ σ HF' H, I ρ → Sl K ρ σ HF' H → Bn B ρ σ HF' H → Same HF HF' → N σ H) : Ok K B HF { D with nx := N, ct := N, bk := D.nx } (bodyP P I) :=
  ⟨h, o.rt, o.nx, h⟩
/-- over data: a list, a tuple -/
theorem s_forD (tup : Bool) (hi : E X iter ρ (.d (if tup then .tuple ds else .list ds)) ρ1) (I : Nat → Rho → Prop) (h0 : I 0 ρ1)
    (hb : ∀ i v ρ', ds[i]? = some v → I i ρ' → ∃ ρ2, GT X B tg v ρ' ρ2 ∧ Ss X B body ρ2 (bodyP P (I (i + 1)))) (hd : ∀ ρ', I ds.length ρ' → P.nx ρ')
    (hp : PassesOwn (model X.prog X.w) X.A X.env X.xe) (hc : X.calm = true := by rfl) (hs : ∀ x, foldedSetIterable iter X.env x = pure x := by intro _; rfl) : S X B (.For tg iter body [] pos) ρ P := by
  have wi : ∃ wi, PI X tg iter wi ∧ Ex X.K B (tFor wi (wG X tg) (wSs X body)) ρ P := by
    cases tup with
    | true =>
      refine ⟨_, pi_tup pe_w, fun σ HF H S1 b D o => hi σ HF H S1 _ fun x HF1 H1 S2 f1 r1 => ?_⟩
      cases (show Dp X.K HF1 x (.tuple ds) from r1) with
      | @tup p ys _ h1 h2 =>
        refine ⟨p, rfl, ⟨ys, same_t S2.sub h1⟩, for_tup (K := X.K) (a := p) (xs := ys) (fun i σ' H' => ∃ ρ' HF', I i ρ' ∧ Sl X.K ρ' σ' HF' H' ∧ Bn B ρ' σ' HF' H' ∧ Same HF1 HF') ⟨ρ1, HF1, h0, S2, b.fw f1, .refl _⟩ ?_ ?_ ?_⟩
        · rintro i σ' H' _ ⟨ρ', HF', _, S', _, s'⟩
          exact same_t S'.sub (same_t s' h1)
        · rintro i x σ' H' hx ⟨ρ', HF', hI, S', b', s'⟩
          obtain ⟨v, e, r⟩ := dpa_get' (dpa_mono s' h2) hx
          obtain ⟨ρ2, hg, hbd⟩ := hb i v ρ' e hI
          refine hg x σ' HF' H' S' r _ fun σ2 S3 b3 => hbd σ2 HF' H' S3 (b3 b') _ ?_
          exact ok_body ((o.up f1.hf).up s') fun ρ3 σ3 HF3 H3 i3 S4 b4 s4 => ⟨ρ3, HF3, i3, S4, b4, s'.trans s4⟩
        · rintro σ' H' ⟨ρ', HF', hI, S', b', s'⟩
          rw [dpa_len h2] at hI
          exact o.nx ρ' σ' HF' H' (hd ρ' hI) S' b' (f1.hf.trans s')
    | false =>
      refine ⟨_, pi_list pe_w, fun σ HF H S1 b D o => hi σ HF H S1 _ fun x HF1 H1 S2 f1 r1 => ?_⟩
      cases (show Dp X.K HF1 x (.list ds) from r1) with
      | @lst p ys _ h1 h2 =>
        refine ⟨p, rfl, ⟨ys, same_l S2.sub h1⟩, for_list (K := X.K) (a := p) (xs := ys) (fun i σ' H' => ∃ ρ' HF', I i ρ' ∧ Sl X.K ρ' σ' HF' H' ∧ Bn B ρ' σ' HF' H' ∧ Same HF1 HF') ⟨ρ1, HF1, h0, S2, b.fw f1, .refl _⟩ ?_ ?_ ?_⟩
        · rintro i σ' H' _ ⟨ρ', HF', _, S', _, s'⟩
          exact same_l S'.sub (same_l s' h1)
        · rintro i x σ' H' hx ⟨ρ', HF', hI, S', b', s'⟩
          obtain ⟨v, e, r⟩ := dpa_get' (dpa_mono s' h2) hx
          obtain ⟨ρ2, hg, hbd⟩ := hb i v ρ' e hI
          refine hg x σ' HF' H' S' r _ fun σ2 S3 b3 => hbd σ2 HF' H' S3 (b3 b') _ ?_
          exact ok_body ((o.up f1.hf).up s') fun ρ3 σ3 HF3 H3 i3 S4 b4 s4 => ⟨ρ3, HF3, i3, S4, b4, s'.trans s4⟩
        · rintro σ' H' ⟨ρ', HF', hI, S', b', s'⟩
          rw [dpa_len h2] at hI
          exact o.nx ρ' σ' HF' H' (hd ρ' hI) S' b' (f1.hf.trans s')
  obtain ⟨wi, h1, h2⟩ := wi
  exact .of (ps_for hp hc h1 pg_w pss_w hs) h2
theorem s_forL (hi : E X iter ρ (.d (.list ds)) ρ1) (I : Nat → Rho → Prop) (h0 : I 0 ρ1)
    (hb : ∀ i v ρ', ds[i]? = some v → I i ρ' → ∃ ρ2, GT X B tg v ρ' ρ2 ∧ Ss X B body ρ2 (bodyP P (I (i + 1)))) (hd : ∀ ρ', I ds.length ρ' → P.nx ρ')
    (hp : PassesOwn (model X.prog X.w) X.A X.env X.xe) (hc : X.calm = true := by rfl) (hs : ∀ x, foldedSetIterable iter X.env x = pure x := by intro _; rfl) : S X B (.For tg iter body [] pos) ρ P := s_forD false hi I h0 hb hd hp hc hs
theorem s_forT (hi : E X iter ρ (.d (.tuple ds)) ρ1) (I : Nat → Rho → Prop) (h0 : I 0 ρ1)
    (hb : ∀ i v ρ', ds[i]? = some v → I i ρ' → ∃ ρ2, GT X B tg v ρ' ρ2 ∧ Ss X B body ρ2 (bodyP P (I (i + 1)))) (hd : ∀ ρ', I ds.length ρ' → P.nx ρ')
    (hp : PassesOwn (model X.prog X.w) X.A X.env X.xe) (hc : X.calm = true := by rfl) (hs : ∀ x, foldedSetIterable iter X.env x = pure x := by intro _; rfl) : S X B (.For tg iter body [] pos) ρ P := s_forD true hi I h0 hb hd hp hc hs
/-- range(a), range(a, b) -/
theorem s_forR1 {px pc : Pos} {n : Int} (hi : E X e ρ (.d (.int n)) ρ1) (hn : n < 2 ^ 62) (hn0 : -(2 ^ 62) ≤ n) (I : Nat → Rho → Prop) (h0 : I 0 ρ1)
    (hb : ∀ (i : Nat) ρ', i < n.toNat → I i ρ' → ∃ ρ2, GT X B tg (.int i) ρ' ρ2 ∧ Ss X B body ρ2 (bodyP P (I (i + 1)))) (hd : ∀ ρ', I n.toNat ρ' → P.nx ρ')
    (hm : X.mg "range" = none) (hp : PassesOwn (model X.prog X.w) X.A X.env X.xe) (hg : Gl X "range" := by rfl) (hc : X.calm = true := by rfl) (hse : starEach [e] X.env = [(false, eval e X.env)] := by rfl) : S X B (.For tg (.Call (.Name "range" px) [e] [] pc) body [] pos) ρ P :=
  .of (ps_for hp hc (pi_range1 hg hm (pa_cons pe_w pa_nil hse) hse) pg_w pss_w) fun σ HF H S1 b D o => hi σ HF H S1 _ fun x HF1 H1 S2 f1 r1 => by
    cases r1
    refine ⟨n, rfl, hn0, hn, for_range (lo := 0) (n := n.toNat) (fun i σ' H' => ∃ ρ' HF', I i ρ' ∧ Sl X.K ρ' σ' HF' H' ∧ Bn B ρ' σ' HF' H' ∧ Same HF1 HF') ⟨ρ1, HF1, h0, S2, b.fw f1, .refl _⟩ ?_ ?_⟩
    · rintro i σ' H' hi ⟨ρ', HF', hI, S', b', s'⟩
      obtain ⟨ρ2, hg, hbd⟩ := hb i ρ' hi hI
      rw [show (0 : Int) + (i : Int) = (i : Int) by omega]
      refine hg _ σ' HF' H' S' (.int _) _ fun σ2 S3 b3 => hbd σ2 HF' H' S3 (b3 b') _ ?_
      exact ok_body ((o.up f1.hf).up s') fun ρ3 σ3 HF3 H3 i3 S4 b4 s4 => ⟨ρ3, HF3, i3, S4, b4, s'.trans s4⟩
    · rintro σ' H' ⟨ρ', HF', hI, S', b', s'⟩
      exact o.nx ρ' σ' HF' H' (hd ρ' hI) S' b' (f1.hf.trans s')
theorem s_forR2 {px pc : Pos} {n m : Int} (hi : E X e1 ρ (.d (.int m)) ρ1) (hi2 : E X e2 ρ1 (.d (.int n)) ρ2) (hn : -(2 ^ 62) ≤ m ∧ m < 2 ^ 62 ∧ -(2 ^ 62) ≤ n ∧ n < 2 ^ 62) (I : Nat → Rho → Prop) (h0 : I 0 ρ2)
    (hb : ∀ (i : Nat) ρ', i < (n - m).toNat → I i ρ' → ∃ ρ2, GT X B tg (.int (m + i)) ρ' ρ2 ∧ Ss X B body ρ2 (bodyP P (I (i + 1)))) (hd : ∀ ρ', I (n - m).toNat ρ' → P.nx ρ')
    (hm : X.mg "range" = none) (hp : PassesOwn (model X.prog X.w) X.A X.env X.xe) (hg : Gl X "range" := by rfl) (hc : X.calm = true := by rfl) (hse : starEach [e1, e2] X.env = [(false, eval e1 X.env), (false, eval e2 X.env)] := by rfl) (hse2 : starEach [e2] X.env = [(false, eval e2 X.env)] := by rfl) : S X B (.For tg (.Call (.Name "range" px) [e1, e2] [] pc) body [] pos) ρ P :=
  .of (ps_for hp hc (pi_range2 hg hm (pa_cons pe_w (pa_cons pe_w pa_nil hse2) (by rw [hse, hse2])) hse hse2) pg_w pss_w) fun σ HF H S1 b D o => hi σ HF H S1 _ fun x HF1 H1 S2 f1 r1 => hi2 σ HF1 H1 S2 _ fun x2 HF2 H2 S3 f2 r2 => by
    cases r1
    cases r2
    refine ⟨m, n, rfl, hn, for_range (lo := m) (n := (n - m).toNat) (fun i σ' H' => ∃ ρ' HF', I i ρ' ∧ Sl X.K ρ' σ' HF' H' ∧ Bn B ρ' σ' HF' H' ∧ Same HF2 HF') ⟨ρ2, HF2, h0, S3, b.fw (f1.trans f2), .refl _⟩ ?_ ?_⟩
    · rintro i σ' H' hi ⟨ρ', HF', hI, S', b', s'⟩
      obtain ⟨ρ2, hg, hbd⟩ := hb i ρ' hi hI
      refine hg _ σ' HF' H' S' (.int _) _ fun σ2 S3 b3 => hbd σ2 HF' H' S3 (b3 b') _ ?_
      exact ok_body ((o.up (f1.trans f2).hf).up s') fun ρ3 σ3 HF3 H3 i3 S4 b4 s4 => ⟨ρ3, HF3, i3, S4, b4, s'.trans s4⟩
    · rintro σ' H' ⟨ρ', HF', hI, S', b', s'⟩
      exact o.nx ρ' σ' HF' H' (hd ρ' hI) S' b' ((f1.trans f2).hf.trans s')
/-- while, by an invariant with its measure -/
theorem s_while {c : Expr} (I : Nat → Rho → Prop) (m0 : Nat) (h0 : I m0 ρ) (hs : ∀ m ρ', I m ρ' → ∃ b ρ1, ET X c ρ' b ρ1 ∧ (b = true → Ss X B body ρ1 (bodyP P fun ρ2 => ∃ m', m' < m ∧ I m' ρ2)) ∧ (b = false → P.nx ρ1))
    (hp : PassesOwn (model X.prog X.w) X.A X.env X.xe) : S X B (.While c body [] pos) ρ P := .of (ps_while hp pt_w pss_w) fun σ HF H S1 b D o => by
  refine ⟨fun m σ' H' => ∃ ρ' HF', I m ρ' ∧ Sl X.K ρ' σ' HF' H' ∧ Bn B ρ' σ' HF' H' ∧ Same HF HF', ⟨m0, ρ, HF, h0, S1, b, .refl _⟩, ?_⟩
  rintro m σ' H' ⟨ρ', HF', hI, S', b', s'⟩
  obtain ⟨bb, ρ1, hc, h1, h2⟩ := hs m ρ' hI
  refine hc σ' HF' H' S' _ fun HF1 H1 S2 f1 => ?_
  cases bb with
  | true =>
    rw [if_pos rfl]
    refine ⟨_, fun _ _ n => n, h1 rfl σ' HF1 H1 S2 (b'.fw f1) _ ?_⟩
    exact ok_body ((o.up s').up f1.hf) fun ρ3 σ3 HF3 H3 ⟨m', hm, i3⟩ S4 b4 s4 => ⟨m', hm, ρ3, HF3, i3, S4, b4, (s'.trans f1.hf).trans s4⟩
  | false =>
    rw [if_neg Bool.false_ne_true]
    exact o.nx ρ1 σ' HF1 H1 (h2 rfl) S2 (b'.fw f1) (s'.trans f1.hf)
end
end
end Th

set_option Elab.async false
set_option linter.all false
set_option maxRecDepth 100000
namespace Th
open PySem PySem.Spec PyProof.Rows L2

/-! ### a def's promise, by what its arguments hold -/
abbrev Fs := List A → A → List A → Prop
def spA (K : PySem.W.Frag) (F : Fs) : Sp := fun vs H Q _ => ∃ HF as r as', Sl K as (vs.map some) HF H ∧ F as r as' ∧ Shape as as' ∧
  ∀ x HF' H', Sl K as' (vs.map some) HF' H' → Fw as as' (vs.map some) HF H HF' H' → RRel K H HF' H' x r → Q x H'
/-- own slots with their addresses -/
def lentOf : Nat → List A → List V → List (Nat × Addr)
  | n, a :: as, .ref p :: vs => if a.own then (n, p) :: lentOf (n + 1) as vs else lentOf (n + 1) as vs
  | n, _ :: as, _ :: vs => lentOf (n + 1) as vs
  | _, _, _ => []
theorem lentOf_mem : ∀ {as : List A} {vs : List V} {n i : Nat} {p : Addr}, (i, p) ∈ lentOf n as vs ↔ ∃ j a, i = n + j ∧ as[j]? = some a ∧ a.own = true ∧ vs[j]? = some (V.ref p)
  | [], vs, n, i, p => by
    constructor
    · intro h; cases vs <;> cases h
    · rintro ⟨j, a, _, e, _⟩; simp at e
  | a :: as, [], n, i, p => by
    constructor
    · intro h; cases h
    · rintro ⟨j, a, _, _, _, e⟩; simp at e
  | a :: as, v :: vs, n, i, p => by
    have ih := @lentOf_mem as vs (n + 1) i p
    have step : (∃ j b, i = n + j ∧ (a :: as)[j]? = some b ∧ b.own = true ∧ (v :: vs)[j]? = some (V.ref p)) ↔ (i = n ∧ a.own = true ∧ v = V.ref p) ∨ (i, p) ∈ lentOf (n + 1) as vs := by
      rw [ih]
      constructor
      · rintro ⟨j, b, e1, e2, e3, e4⟩
        cases j with
        | zero =>
          simp at e2 e4
          subst e2
          exact .inl ⟨e1, e3, e4⟩
        | succ j => exact .inr ⟨j, b, by omega, by simpa using e2, e3, by simpa using e4⟩
      · rintro (⟨e1, e2, e3⟩ | ⟨j, b, e1, e2, e3, e4⟩)
        · exact ⟨0, a, by omega, rfl, e2, by simp [e3]⟩
        · exact ⟨j + 1, b, by omega, by simpa using e2, e3, by simpa using e4⟩
    rw [step]
    cases v with
    | ref q =>
      show (i, p) ∈ (if a.own then (n, q) :: lentOf (n + 1) as vs else lentOf (n + 1) as vs) ↔ _
      cases ho : a.own with
      | true =>
        rw [if_pos rfl, List.mem_cons]
        constructor
        · rintro (e | e)
          · injection e with e1 e2
            exact .inl ⟨e1, rfl, by rw [e2]⟩
          · exact .inr e
        · rintro (⟨e1, _, e2⟩ | e)
          · injection e2 with e2
            exact .inl (by rw [e1, e2])
          · exact .inr e
      | false =>
        rw [if_neg (by simp)]
        constructor
        · exact .inr
        · rintro (⟨_, e, _⟩ | e)
          · cases e
          · exact e
    | _ =>
      show (i, p) ∈ lentOf (n + 1) as vs ↔ _
      constructor
      · exact .inr
      · rintro (⟨_, _, e⟩ | e)
        · cases e
        · exact e
/-- what the end is to be -/
def PR (r : A) (as' : List A) : A → Rho → Prop := fun a ρ => a = r ∧ ∀ (i : Nat) (a' : A), as'[i]? = some a' → a'.own = true → ρ[i]? = some a'
def PF (r : A) (as' : List A) : Pst := ⟨PR r as' (.d .none), PR r as', fun _ => False, fun _ => False⟩
theorem pr_data {r : A} {as : List A} {ρ : Rho} (h : ∀ a ∈ as, a.own = false) : PR r as r ρ := ⟨rfl, fun i a e o => by
  have := h a (List.mem_of_getElem? e)
  rw [o] at this
  cases this⟩
section
variable {P : Program} {w : World} {K : PySem.W.Frag} {mg : Str → Option Value} {base : Heap}
theorem getElem?_app_rep {α : Type} {as : List α} {n i : Nat} {a c : α} (h : (as ++ List.replicate n c)[i]? = some a) : (as[i]? = some a) ∨ (as.length ≤ i ∧ a = c) := by
  by_cases hi : i < as.length
  · rw [List.getElem?_append_left hi] at h
    exact .inl h
  · rw [List.getElem?_append_right (by omega)] at h
    refine .inr ⟨by omega, ?_⟩
    have := List.mem_of_getElem? h
    exact (List.mem_replicate.mp this).2
theorem fn_ok {x qual : Str} {st : Stmt} {f : Addr} {fd : FuncData} {N ps : List Str} {k : Nat} {F : Fs} (G : Fun K x qual st f fd) (S0 : FnScope N ps (defScope st)) (hF : ∀ as r as', F as r as' → as.length = ps.length) (hn : ps.length ≤ N.length) (L : List Nat) (hL : ∀ as r as', F as r as' → ∀ (i : Nat) (a : A), as[i]? = some a → a.own = true → i ∈ L)
    (hbody : ∀ (cdv : Value) (A1 : Around) (outer : List Env) (s : Shared) (H : Hp) (E : XK) (B : Bs) (as : List A) (r : A) (as' : List A), Room k (A1.deeper (envOfC qual (defScope st) s.heap.objs.size f cdv)) → F as r as' → (∀ q ∈ B.L, q.1 ∈ L) →
      Ss (cxOf CX0 P w K mg base N qual (defScope st) f cdv A1 outer s H E).nox B (defBody st) (as ++ List.replicate (N.length - ps.length) .any) (PF r as')) : FnOk P w K mg base CX0 (k + 1) f fd ps (spA K F) := by
  have len : ∀ vs H Q E, spA K F vs H Q E → vs.length = ps.length := fun vs H Q E ⟨HF, as, r, as', S1, h, _⟩ => by
    have := S1.len
    rw [List.length_map] at this
    exact this.trans (hF _ _ _ h)
  refine G.ok S0 len fun cdv A1 outer s H vs Q E hr hsp => ?_
  have hlen := len vs H Q E hsp
  obtain ⟨HF, as, r, as', S1, hf, hsh, q⟩ := hsp
  have hal := hF _ _ _ hf
  let B : Bs := ⟨HF, H, lentOf 0 as vs⟩
  have vmap : ∀ {i : Nat} {v : V}, (vs.map some)[i]? = some (some v) ↔ vs[i]? = some v := fun {i v} => by
    rw [List.getElem?_map]
    cases vs[i]? <;> simp
  have hB : ∀ z ∈ B.L, z.1 ∈ L := fun z hz => by
    obtain ⟨j, a, e1, e2, e3, _⟩ := lentOf_mem.mp (show (z.1, z.2) ∈ lentOf 0 as vs from hz)
    rw [show z.1 = j by omega]
    exact hL _ _ _ hf j a e2 e3
  have Sl0 : Sl K (as ++ List.replicate (N.length - ps.length) .any) (L2.start N vs) HF H := by
    refine ⟨?_, S1.sub, fun i a h => ?_, fun i j a b p h1 h2 o1 o2 e1 e2 => ?_⟩
    · unfold L2.start
      rw [List.length_append, List.length_append, List.length_map, List.length_replicate, List.length_replicate, hlen, hal]
    · unfold L2.start
      rcases getElem?_app_rep h with h | ⟨hi, rfl⟩
      · obtain ⟨u, e, z⟩ := S1.slot i a h
        refine ⟨u, ?_, z⟩
        rw [List.getElem?_append_left (List.getElem?_eq_some_iff.mp e).1]
        exact e
      · have hlt := (List.getElem?_eq_some_iff.mp h).1
        rw [List.length_append, List.length_replicate] at hlt
        refine ⟨none, ?_, trivial⟩
        rw [List.getElem?_append_right (by rw [List.length_map]; omega), List.getElem?_replicate, if_pos (by rw [List.length_map]; omega)]
    · have back : ∀ (i : Nat) (a : A), (as ++ List.replicate (N.length - ps.length) A.any)[i]? = some a → a.own = true → (L2.start N vs)[i]? = some (some (V.ref p)) → as[i]? = some a ∧ (vs.map some)[i]? = some (some (V.ref p)) := fun i a h o e => by
        rcases getElem?_app_rep h with h | ⟨_, rfl⟩
        · refine ⟨h, ?_⟩
          unfold L2.start at e
          rw [List.getElem?_append_left (by rw [List.length_map]; have := (List.getElem?_eq_some_iff.mp h).1; omega)] at e
          exact e
        · cases o
      obtain ⟨g1, g2⟩ := back i a h1 o1 e1
      obtain ⟨g3, g4⟩ := back j b h2 o2 e2
      exact S1.apart i j a b p g1 g3 o1 o2 g2 g4
  have Bn0 : Bn B (as ++ List.replicate (N.length - ps.length) .any) (L2.start N vs) HF H := by
    refine ⟨.refl _, fun b o _ h => h, fun b o h => .inl h, fun b o h => ⟨o, h⟩, fun i a p h o e => ?_, fun z hz => ?_⟩
    · rcases getElem?_app_rep h with h | ⟨_, rfl⟩
      · unfold L2.start at e
        rw [List.getElem?_append_left (by rw [List.length_map]; have := (List.getElem?_eq_some_iff.mp h).1; omega)] at e
        exact .inl (lentOf_mem.mpr ⟨i, a, by omega, h, o, vmap.mp e⟩)
      · cases o
    · obtain ⟨j, a, e1, e2, e3, e4⟩ := lentOf_mem.mp (show (z.1, z.2) ∈ lentOf 0 as vs from hz)
      unfold L2.start
      rw [show z.1 = j by omega, List.getElem?_append_left (by rw [List.length_map]; exact (List.getElem?_eq_some_iff.mp e4).1)]
      exact vmap.mpr e4
  refine ⟨_, pss_w, hbody cdv A1 outer s H E B as r as' hr hf hB _ HF H Sl0 Bn0 _ ?_⟩
  have fin : ∀ a ρ σ HF' H' x, PR r as' a ρ → Sl K ρ σ HF' H' → Bn B ρ σ HF' H' → RRel K B.H0 HF' H' x a → Q x H' := fun a ρ σ HF' H' x pr S2 b2 rr => by
    obtain ⟨rfl, hro⟩ := pr
    have onlyL : ∀ b, OwnAt as (vs.map some) b ↔ ∃ z ∈ B.L, z.2 = b := fun b => by
      constructor
      · rintro ⟨i, c, h1, h2, h3⟩
        exact ⟨(i, b), lentOf_mem.mpr ⟨i, c, by omega, h1, h2, vmap.mp h3⟩, rfl⟩
      · rintro ⟨z, hz, rfl⟩
        obtain ⟨j, c, e1, e2, e3, e4⟩ := lentOf_mem.mp (show (z.1, z.2) ∈ lentOf 0 as vs from hz)
        exact ⟨j, c, e2, e3, vmap.mpr e4⟩
    refine q x HF' H' ⟨?_, S2.sub, fun i c h => ?_, fun i j c d p h1 h2 o1 o2 e1 e2 => ?_⟩ ⟨hsh, b2.hf, fun b o h n => b2.keep b o (fun z hz e => n ((onlyL b).mpr ⟨z, hz, e⟩)) h, b2.new, b2.pres⟩ rr
    · rw [S1.len, hsh.1]
    · obtain ⟨c0, g1, g2, g3⟩ := hsh.back h
      obtain ⟨u, e, z⟩ := S1.slot i c0 g1
      refine ⟨u, e, ?_⟩
      cases ho : c.own with
      | true =>
        obtain ⟨v, rfl, p, o, rfl, _⟩ := (arel_own (g2 ▸ ho)).mp z
        have hm : (i, p) ∈ B.L := lentOf_mem.mpr ⟨i, c0, by omega, g1, g2 ▸ ho, vmap.mp e⟩
        obtain ⟨p2, o2, e2, k1, k2, k3⟩ := S2.ownAt (hro i c h ho) ho
        rw [b2.lent _ hm] at e2
        cases e2
        exact (arel_own ho).mpr ⟨_, rfl, p, o2, rfl, k1, k2, k3⟩
      | false =>
        have := g3 (by rw [← g2]; exact ho)
        subst this
        exact arel_mono z b2.hf fun _ _ _ _ _ o => by rw [ho] at o; cases o
    · obtain ⟨c0, g1, g2, _⟩ := hsh.back h1
      obtain ⟨d0, k1, k2, _⟩ := hsh.back h2
      exact S1.apart i j c0 d0 p g1 k1 (by rw [← g2]; exact o1) (by rw [← k2]; exact o2) e1 e2
  exact ⟨fun ρ σ HF' H' p S2 b2 _ => fin _ ρ σ HF' H' .non p S2 b2 .non, fun a ρ σ HF' H' x p S2 b2 rr => fin a ρ σ HF' H' x p S2 b2 rr, fun _ _ _ _ p => p.elim, fun _ _ _ _ p => p.elim⟩
end

/-! ### a call -/
def toA (ρ : Rho) : Arg → A
  | .dat v => .d v
  | .lent i => ρ.getD i .any
def back : List Arg → List A → Rho → Rho
  | .lent i :: l, a :: as, ρ => back l as (ρ.set i a)
  | _ :: l, _ :: as, ρ => back l as ρ
  | _, _, ρ => ρ
def lents : List Arg → List Nat
  | .lent i :: l => i :: lents l
  | _ :: l => lents l
  | [] => []
abbrev EA (X : Cx) (es : List Expr) (ρ : Rho) (l : List Arg) (ρ' : Rho) : Prop := EvA X.K (wA X es) ρ l ρ'
section
variable {X : Cx} {B : Bs} {P : Pst} {ρ ρ1 ρ2 ρ3 : Rho} {e e1 e2 : Expr} {es : List Expr} {pos : Pos} {a : A} {b : Bool} {u v w z : PyData} {ds : List PyData} {l : List Arg} {k1 : Option Nat}
theorem a_nil : EA X [] ρ [] ρ := fun σ HF H S Q q => ⟨_, pa_nil, ea_nil σ HF H S Q q⟩
theorem a_dat (h : E X e ρ (.d v) ρ1) (hr : EA X es ρ1 l ρ2) (hs : starEach (e :: es) X.env = (false, eval e X.env) :: starEach es X.env := by rfl) : EA X (e :: es) ρ (.dat v :: l) ρ2 := fun σ HF H S Q q => ⟨_, pa_cons pe_w pa_w hs, ea_cons h hr σ HF H S Q q⟩
theorem a_lent (i : Nat) {x : Str} (h : ρ[i]? = some a) (ho : a.own = true) (hr : EA X es ρ l ρ2) (hN : X.N[i]? = some x := by rfl) (hv : Vis X.env.scope x := by first | exact Or.inl rfl | exact Or.inr (Or.inl rfl) | exact Or.inr (Or.inr rfl))
    (hd : (x == ("__debug__" : Str)) = false := by decide) (hcd : (x == ("__classdict__" : Str)) = false := by decide) (hs : starEach (.Name x pos :: es) X.env = (false, eval (.Name x pos) X.env) :: starEach es X.env := by rfl) : EA X (.Name x pos :: es) ρ (.lent i :: l) ρ2 :=
  fun σ HF H S Q q => ⟨_, pa_cons (pe_var hN hv hd hcd) pa_w hs, ea_lent h ho hr σ HF H S Q q⟩

theorem back_get : ∀ {l : List Arg} {as : List A} {ρ : Rho} {j : Nat} {c : A}, (lents l).Nodup → l.length = as.length → (back l as ρ)[j]? = some c →
    (j ∉ lents l ∧ ρ[j]? = some c) ∨ (∃ m : Nat, l[m]? = some (.lent j) ∧ as[m]? = some c ∧ j < ρ.length)
  | [], [], ρ, j, c, _, _, h => .inl ⟨by simp [lents], h⟩
  | [], _ :: _, _, _, _, _, hl, _ => by simp at hl
  | _ :: _, [], _, _, _, _, hl, _ => by simp at hl
  | .dat v :: l, a :: as, ρ, j, c, nd, hl, h => by
    rcases back_get (l := l) (as := as) (ρ := ρ) nd (by simpa using hl) h with h | ⟨m, h1, h2, h3⟩
    · exact .inl h
    · exact .inr ⟨m + 1, by simpa using h1, by simpa using h2, h3⟩
  | .lent i :: l, a :: as, ρ, j, c, nd, hl, h => by
    have nd' := List.nodup_cons.mp nd
    rcases back_get (l := l) (as := as) (ρ := ρ.set i a) nd'.2 (by simpa using hl) h with ⟨h1, h2⟩ | ⟨m, h1, h2, h3⟩
    · by_cases hj : i = j
      · subst hj
        have hlt := (List.getElem?_eq_some_iff.mp h2).1
        rw [List.length_set] at hlt
        rw [List.getElem?_set_self hlt] at h2
        exact .inr ⟨0, rfl, h2, hlt⟩
      · rw [List.getElem?_set_ne hj] at h2
        exact .inl ⟨fun z => (List.mem_cons.mp z).elim (fun e => hj e.symm) h1, h2⟩
    · rw [List.length_set] at h3
      exact .inr ⟨m + 1, by simpa using h1, by simpa using h2, h3⟩
theorem back_len : ∀ {l : List Arg} {as : List A} {ρ : Rho}, (back l as ρ).length = ρ.length
  | [], as, ρ => by unfold back; rfl
  | .dat v :: l, [], ρ => by unfold back; rfl
  | .lent v :: l, [], ρ => by unfold back; rfl
  | .dat v :: l, a :: as, ρ => by unfold back; exact back_len
  | .lent i :: l, a :: as, ρ => by unfold back; rw [back_len, List.length_set]
theorem lents_mem : ∀ {l : List Arg} {j : Nat}, j ∈ lents l ↔ ∃ m : Nat, l[m]? = some (Arg.lent j)
  | [], j => by simp [lents]
  | .dat v :: l, j => by
    have ih := @lents_mem l j
    show j ∈ lents l ↔ _
    rw [ih]
    constructor
    · rintro ⟨m, h⟩
      exact ⟨m + 1, by simpa using h⟩
    · rintro ⟨m, h⟩
      cases m with
      | zero => simp at h
      | succ m => exact ⟨m, by simpa using h⟩
  | .lent i :: l, j => by
    have ih := @lents_mem l j
    show j ∈ i :: lents l ↔ _
    rw [List.mem_cons, ih]
    constructor
    · rintro (rfl | ⟨m, h⟩)
      · exact ⟨0, rfl⟩
      · exact ⟨m + 1, by simpa using h⟩
    · rintro ⟨m, h⟩
      cases m with
      | zero => simp at h; exact .inl h.symm
      | succ m => exact .inr ⟨m, by simpa using h⟩
theorem paired_get? {α β : Type} {G : α → β → Prop} : ∀ {l₁ : List α} {l₂ : List β}, Paired G l₁ l₂ → ∀ {i : Nat} {a : α} {b : β}, l₁[i]? = some a → l₂[i]? = some b → G a b
  | _, _, .nil, _, _, _, h, _ => by simp at h
  | _, _, .cons r _, 0, _, _, h1, h2 => by simp at h1 h2; subst h1; subst h2; exact r
  | _, _, .cons _ t, i + 1, _, _, h1, h2 => paired_get? t (i := i) (by simpa using h1) (by simpa using h2)
theorem lents_nd {l : List Arg} (nd : (lents l).Nodup) : ∀ {m n j : Nat}, l[m]? = some (Arg.lent j) → l[n]? = some (Arg.lent j) → m = n := by
  induction l with
  | nil => intro m n j h; simp at h
  | cons c l ih =>
    intro m n j h1 h2
    cases c with
    | dat v =>
      cases m with
      | zero => simp at h1
      | succ m =>
        cases n with
        | zero => simp at h2
        | succ n => exact congrArg (· + 1) (ih nd (by simpa using h1) (by simpa using h2))
    | lent i =>
      have nd' := List.nodup_cons.mp nd
      cases m with
      | zero =>
        cases n with
        | zero => rfl
        | succ n =>
          simp at h1
          subst h1
          exact (nd'.1 (lents_mem.mpr ⟨n, by simpa using h2⟩)).elim
      | succ m =>
        cases n with
        | zero =>
          simp at h2
          subst h2
          exact (nd'.1 (lents_mem.mpr ⟨m, by simpa using h1⟩)).elim
        | succ n => exact congrArg (· + 1) (ih nd'.2 (by simpa using h1) (by simpa using h2))
/-- the slots around a call -/
theorem args_in {K : PySem.W.Frag} {σ : L2.St} {HF H : Hp} {vs : List V} (S1 : Sl K ρ σ HF H) (nd : (lents l).Nodup) (r : Paired (ArgR K ρ σ HF) vs l) : Sl K (l.map (toA ρ)) (vs.map some) HF H := by
  have hl : vs.length = l.length := Paired.length r
  have vmap : ∀ {i : Nat} {v : V}, (vs.map some)[i]? = some (some v) ↔ vs[i]? = some v := fun {i v} => by
    rw [List.getElem?_map]
    cases vs[i]? <;> simp
  refine ⟨by rw [List.length_map, List.length_map]; exact hl, S1.sub, fun i a h => ?_, fun i j a b p h1 h2 o1 o2 e1 e2 => ?_⟩
  · rw [List.getElem?_map] at h
    cases hc : l[i]? with
    | none => rw [hc] at h; cases h
    | some c =>
      rw [hc] at h
      have h : toA ρ c = a := Option.some.inj h
      have hi : i < vs.length := by rw [hl]; exact (List.getElem?_eq_some_iff.mp hc).1
      have hv := List.getElem?_eq_getElem hi
      have g := paired_get? r hv hc
      refine ⟨_, vmap.mpr hv, ?_⟩
      cases c with
      | dat v => subst h; exact ⟨_, rfl, g⟩
      | lent j =>
        obtain ⟨e, a', e2, ho⟩ := (show σ[j]? = some (some vs[i]) ∧ ∃ a, ρ[j]? = some a ∧ a.own = true from g)
        have : a' = a := by
          have : ρ.getD j .any = a := h
          rw [List.getD_eq_getElem?_getD, e2] at this
          exact this
        subst this
        obtain ⟨s, e3, z⟩ := S1.slot j a' e2
        rw [e] at e3
        cases e3
        exact z
  · have bk : ∀ (i : Nat) (a : A), (l.map (toA ρ))[i]? = some a → a.own = true → (vs.map some)[i]? = some (some (V.ref p)) → ∃ j : Nat, l[i]? = some (Arg.lent j) ∧ σ[j]? = some (some (V.ref p)) ∧ ρ[j]? = some a := fun i a h o e => by
      rw [List.getElem?_map] at h
      cases hc : l[i]? with
      | none => rw [hc] at h; cases h
      | some c =>
        rw [hc] at h
        have h : toA ρ c = a := Option.some.inj h
        cases c with
        | dat v => subst h; cases o
        | lent j =>
          obtain ⟨e1, a', e2, ho⟩ := (show σ[j]? = some (some (V.ref p)) ∧ ∃ a, ρ[j]? = some a ∧ a.own = true from paired_get? r (vmap.mp e) hc)
          have : a' = a := by
            have : ρ.getD j .any = a := h
            rw [List.getD_eq_getElem?_getD, e2] at this
            exact this
          subst this
          exact ⟨j, rfl, e1, e2⟩
    obtain ⟨m, g1, g2, g3⟩ := bk i a h1 o1 e1
    obtain ⟨n, k1, k2, k3⟩ := bk j b h2 o2 e2
    have := S1.apart m n a b p g3 k3 o1 o2 g2 k2
    subst this
    exact lents_nd nd g1 k1
theorem args_out {K : PySem.W.Frag} {σ : L2.St} {HF H HF' H' : Hp} {vs : List V} {as' : List A} (S1 : Sl K ρ σ HF H) (nd : (lents l).Nodup) (r : Paired (ArgR K ρ σ HF) vs l) (S2 : Sl K as' (vs.map some) HF' H') (f : Fw (l.map (toA ρ)) as' (vs.map some) HF H HF' H') :
    Sl K (back l as' ρ) σ HF' H' ∧ Fw ρ (back l as' ρ) σ HF H HF' H' := by
  have hl : vs.length = l.length := Paired.length r
  have hla : l.length = as'.length := by have := f.sh.1; rw [List.length_map] at this; exact this.symm
  have vmap : ∀ {i : Nat} {v : V}, (vs.map some)[i]? = some (some v) ↔ vs[i]? = some v := fun {i v} => by
    rw [List.getElem?_map]
    cases vs[i]? <;> simp
  -- a lent place
  have lent : ∀ (m j : Nat) (c : A), l[m]? = some (Arg.lent j) → as'[m]? = some c → ∃ v a, vs[m]? = some v ∧ σ[j]? = some (some v) ∧ ρ[j]? = some a ∧ a.own = true ∧ c.own = true := fun m j c h1 h2 => by
    have hi : m < vs.length := by rw [hl]; exact (List.getElem?_eq_some_iff.mp h1).1
    have hv := List.getElem?_eq_getElem hi
    obtain ⟨e, a, e2, ho⟩ := paired_get? r hv h1
    obtain ⟨c0, g1, g2, _⟩ := f.sh.back h2
    rw [List.getElem?_map, h1] at g1
    have : ρ.getD j .any = c0 := Option.some.inj g1
    rw [List.getD_eq_getElem?_getD, e2] at this
    have this : a = c0 := this
    subst this
    exact ⟨_, a, hv, e, e2, ho, g2.trans ho⟩
  have ownIn : ∀ p, OwnAt (l.map (toA ρ)) (vs.map some) p → ∃ j, j ∈ lents l ∧ σ[j]? = some (some (V.ref p)) ∧ ∃ a, ρ[j]? = some a ∧ a.own = true := by
    rintro p ⟨i, a, h1, h2, h3⟩
    rw [List.getElem?_map] at h1
    cases hc : l[i]? with
    | none => rw [hc] at h1; cases h1
    | some c =>
      rw [hc] at h1
      have h1 : toA ρ c = a := Option.some.inj h1
      cases c with
      | dat v => subst h1; cases h2
      | lent j =>
        obtain ⟨e, a', e2, ho⟩ := paired_get? r (vmap.mp h3) hc
        exact ⟨j, lents_mem.mpr ⟨i, hc⟩, e, a', e2, ho⟩
  have keep : ∀ b o, H b = some o → ¬ OwnAt ρ σ b → H' b = some o := fun b o h n => f.keep b o h fun z => by
    obtain ⟨j, _, h2, a, h3, h4⟩ := ownIn b z
    exact n ⟨j, a, h3, h4, h2⟩
  have shp : Shape ρ (back l as' ρ) := by
    refine ⟨back_len, fun i a h => ?_⟩
    have hi : i < (back l as' ρ).length := by rw [back_len]; exact (List.getElem?_eq_some_iff.mp h).1
    have e := List.getElem?_eq_getElem hi
    refine ⟨_, e, ?_⟩
    rcases back_get nd hla e with ⟨_, h2⟩ | ⟨m, h2, h3, _⟩
    · rw [h] at h2
      rw [← Option.some.inj h2]
      exact ⟨rfl, fun _ => rfl⟩
    · obtain ⟨v, a2, _, _, g3, g4, g5⟩ := lent m i _ h2 h3
      rw [h] at g3
      cases g3
      exact ⟨g5.trans g4.symm, fun z => by rw [g4] at z; cases z⟩
  refine ⟨⟨by rw [back_len]; exact S1.len, S2.sub, fun j c h => ?_, fun i j c d p h1 h2 o1 o2 e1 e2 => ?_⟩, ⟨shp, f.hf, keep, f.new, f.pres⟩⟩
  · rcases back_get nd hla h with ⟨hn, h2⟩ | ⟨m, h2, h3, _⟩
    · obtain ⟨s, e, z⟩ := S1.slot j c h2
      refine ⟨s, e, arel_mono z f.hf fun p o e1 g1 g2 ho => ?_⟩
      have no : ¬ OwnAt (l.map (toA ρ)) (vs.map some) p := fun z => by
        obtain ⟨i, k1, k2, a, k3, k4⟩ := ownIn p z
        have := S1.apart i j a c p k3 h2 k4 ho k2 (by rw [e, e1])
        subst this
        exact hn k1
      exact ⟨f.hfn g1 g2, f.keep p o g2 no⟩
    · obtain ⟨v, a2, g1, g2, g3, g4, g5⟩ := lent m j c h2 h3
      obtain ⟨s, e, z⟩ := S2.slot m c h3
      rw [vmap.mpr g1] at e
      cases e
      exact ⟨_, g2, z⟩
  · obtain ⟨c0, g1, g2, _⟩ := shp.back h1
    obtain ⟨d0, k1, k2, _⟩ := shp.back h2
    exact S1.apart i j c0 d0 p g1 k1 (by rw [← g2]; exact o1) (by rw [← k2]; exact o2) e1 e2
theorem rrel_fresh {K : PySem.W.Frag} {H H1 HF' H' : Hp} {x : V} (h : ∀ p, H1 p = none → H p = none) (r : RRel K H1 HF' H' x a) : RRel K H HF' H' x a := by
  cases ho : a.own with
  | true =>
    obtain ⟨p, o, q1, q2, q3⟩ := (rrel_own ho).mp r
    exact (rrel_own ho).mpr ⟨p, o, q1, h p q2, q3⟩
  | false => cases a <;> first | exact r | exact tw_fresh h r | exact dl_fresh h r | exact Nw.fresh _ h r | cases ho
theorem e_call {Fx : Fs} {k : Nat} {f : Addr} {fd : FuncData} {ps : List Str} {x : Str} {p : Pos} {r : A} {as' : List A} (G : FnOk X.prog X.w X.K X.mg X.base CX0 k f fd ps (spA X.K Fx)) (hr : Room k X.A) (hm : X.mg x = some (.ref f)) (hk : PySem.W.keepIn X.K (.ref f) = true) (hb : Binds X.K fd ps [])
    (ha : EA X (e :: es) ρ l ρ1) (hF : Fx (l.map (toA ρ1)) r as') (hsh : Shape (l.map (toA ρ1)) as') (nd : (lents l).Nodup) (hx : ∀ v s, (fun _ _ => False) v s → X.xe v s) (hg : Gl X x := by rfl) (hdb : (x == ("__debug__" : Str)) = false := by decide) (he : starEach (e :: es) X.env = (false, eval e X.env) :: starEach es X.env := by rfl) (hpl : (backTo pos (starEach es X.env)).any (·.1) = false := by rfl) :
    E X (.Call (.Name x p) (e :: es) [] pos) ρ r (back l as' ρ1) :=
  .of (pe_call (E := fun _ _ _ => False) G hr hg hm hk hb .nil (fun _ _ _ _ _ _ _ h => h.elim) pa_w hdb he hpl) fun σ HF H S Q q => ha σ HF H S _ fun vs HF1 H1 S1 f1 r1 => by
    rw [List.append_nil]
    refine ⟨HF1, _, r, as', args_in S1 nd r1, hF, hsh, fun y HF2 H2 S2 f2 rr => ?_⟩
    obtain ⟨S3, f3⟩ := args_out S1 nd r1 S2 f2
    exact q y HF2 H2 S3 (f1.trans f3) (rrel_fresh (fun p h => f1.fresh h) rr)
/-- pure: data in -/
def pure_ (F : List PyData → A → Prop) : Fs := fun as r as' => ∃ ds, as = ds.map A.d ∧ as' = as ∧ F ds r
theorem dat_args {K : PySem.W.Frag} {σ : L2.St} {HF : Hp} : ∀ {xs : List V} {ds : List PyData}, DpAll K HF xs ds → Paired (ArgR K ρ σ HF) xs (ds.map Arg.dat)
  | _, _, .nil => .nil
  | _, _, .cons h t => .cons h (dat_args t)
theorem EvD.args {K : PySem.W.Frag} {ta : TA} (h : EvD K ta ρ ds ρ1) : EvA K ta ρ (ds.map Arg.dat) ρ1 := fun σ HF H S Q q => h σ HF H S Q fun xs HF' H' S' f r => q xs HF' H' S' f (dat_args r)
end
end Th

set_option Elab.async false
set_option linter.all false
set_option maxRecDepth 100000
namespace Th
open PySem PySem.Spec PyProof.Rows L2

/-! ### what is walked -/
/-- what a turn yields: data that stands, or a new tuple -/
def Yld (K : PySem.W.Frag) (HF H : Hp) (x : V) (H2 : Hp) (v : PyData) : Prop :=
  (H2 = H ∧ Dp K HF x v) ∨ ∃ T ys vs, H T = none ∧ H2 = upd H T (.tup ys) ∧ x = .ref T ∧ v = .tuple vs ∧ DpAll K HF ys vs
structure SrcAt (K : PySem.W.Frag) (J : It) (ds : List PyData) (HF H : Hp) : Prop where
  go : ∀ i, i < ds.length → J.go i H
  stop : J.stop ds.length H
  yld : ∀ i x H2, i < ds.length → J.yld i H x H2 → ∃ v, ds[i]? = some v ∧ Yld K HF H x H2 v
def Src (X : Cx) (tg iter : Expr) (ρ : Rho) (ds : List PyData) (ρ1 : Rho) (k : Option Nat) : Prop := ∃ wi, PI X tg iter wi ∧ ∀ σ HF H, Sl X.K ρ σ HF H → ∀ R : It → Hp → Prop,
  (∀ J HF1 H1, Sl X.K ρ1 σ HF1 H1 → Fw ρ ρ1 σ HF H HF1 H1 → (∀ σ2 ρ2 HF2 H2, (∀ j, k = some j → σ2[j]? = σ[j]?) → Kp k ρ1 ρ2 → Sl X.K ρ2 σ2 HF2 H2 → Same HF1 HF2 → SrcAt X.K J ds HF2 H2) → R J H1) → wi σ H R
section
variable {X : Cx} {B : Bs} {P : Pst} {ρ ρ1 ρ2 ρ3 : Rho} {tg iter e e1 e2 : Expr} {es : List Expr} {pos : Pos} {a : A} {b : Bool} {u v w z : PyData} {ds : List PyData} {k : Option Nat}
theorem srcAt_l {K : PySem.W.Frag} {HF H : Hp} {p : Addr} {ys : List V} (s : Same HF H) (h1 : SqL K H p ys) (h2 : DpAll K HF ys ds) : SrcAt K (Itl K p) ds HF H := by
  refine ⟨fun i hi => ?_, ⟨ys, h1, by rw [dpa_len h2]; exact Nat.le_refl _⟩, fun i x H2 hi ⟨e, y⟩ => ?_⟩
  · obtain ⟨y, g, _⟩ := dpa_get h2 (List.getElem?_eq_getElem hi)
    exact ⟨ys, y, h1, g⟩
  · obtain ⟨v, g1, g2⟩ := dpa_get' h2 (y ys h1)
    exact ⟨v, g1, .inl ⟨e, g2⟩⟩
theorem srcAt_t {K : PySem.W.Frag} {HF H : Hp} {p : Addr} {ys : List V} (s : Same HF H) (h1 : SqT K H p ys) (h2 : DpAll K HF ys ds) : SrcAt K (Itt K p) ds HF H := by
  refine ⟨fun i hi => ?_, ⟨ys, h1, by rw [dpa_len h2]; exact Nat.le_refl _⟩, fun i x H2 hi ⟨e, y⟩ => ?_⟩
  · obtain ⟨y, g, _⟩ := dpa_get h2 (List.getElem?_eq_getElem hi)
    exact ⟨ys, y, h1, g⟩
  · obtain ⟨v, g1, g2⟩ := dpa_get' h2 (y ys h1)
    exact ⟨v, g1, .inl ⟨e, g2⟩⟩
theorem src_l (h : E X iter ρ (.d (.list ds)) ρ1) : Src X tg iter ρ ds ρ1 none := ⟨_, pi_list pe_w, fun σ HF H S1 R q => h σ HF H S1 _ fun x HF1 H1 S2 f1 r1 => by
  cases (show Dp X.K HF1 x (.list ds) from r1) with
  | @lst p ys _ h1 h2 => exact ⟨p, rfl, ⟨ys, same_l S2.sub h1⟩, q _ HF1 H1 S2 f1 fun σ2 ρ2 HF2 H2 _ _ S3 s3 => srcAt_l S3.sub (same_l S3.sub (same_l s3 h1)) (dpa_mono s3 h2)⟩⟩
theorem src_t (h : E X iter ρ (.d (.tuple ds)) ρ1) : Src X tg iter ρ ds ρ1 none := ⟨_, pi_tup pe_w, fun σ HF H S1 R q => h σ HF H S1 _ fun x HF1 H1 S2 f1 r1 => by
  cases (show Dp X.K HF1 x (.tuple ds) from r1) with
  | @tup p ys _ h1 h2 => exact ⟨p, rfl, ⟨ys, same_t S2.sub h1⟩, q _ HF1 H1 S2 f1 fun σ2 ρ2 HF2 H2 _ _ S3 s3 => srcAt_t S3.sub (same_t S3.sub (same_t s3 h1)) (dpa_mono s3 h2)⟩⟩
/-- over an own list in a slot -/
theorem src_o (i : Nat) {x : Str} (h : ρ[i]? = some (.ml ds)) (hN : X.N[i]? = some x := by rfl) (hv : Vis X.env.scope x := by first | exact Or.inl rfl | exact Or.inr (Or.inl rfl) | exact Or.inr (Or.inr rfl))
    (hd : (x == ("__debug__" : Str)) = false := by decide) (hcd : (x == ("__classdict__" : Str)) = false := by decide) : Src X tg (.Name x pos) ρ ds ρ (some i) := ⟨_, pi_list (pe_var hN hv hd hcd), fun σ HF H S1 R q => by
  obtain ⟨p, o, e, h1, h2, h3⟩ := S1.ownAt h rfl
  cases o <;> first | exact h3.elim | skip
  refine ⟨.ref p, e, p, rfl, ⟨_, .inl (.inl h2)⟩, q _ HF H S1 (.refl ..) fun σ2 ρ2 HF2 H2 hs hk S3 _ => ?_⟩
  obtain ⟨p', o', e', g1, g2, g3⟩ := S3.ownAt ((show ρ2[i]? = ρ[i]? from hk).trans h) rfl
  rw [hs i rfl, e] at e'
  cases e'
  cases o' <;> first | exact g3.elim | skip
  exact srcAt_l S3.sub (.inl (.inl g2)) g3⟩
def rangeD (lo : Int) (n : Nat) : List PyData := (List.range n).map fun i => .int (lo + (i : Nat))
theorem rangeD_len (lo : Int) (n : Nat) : (rangeD lo n).length = n := by unfold rangeD; simp
theorem rangeD_get {lo : Int} {n i : Nat} {v : PyData} (h : (rangeD lo n)[i]? = some v) : i < n ∧ v = .int (lo + (i : Nat)) := by
  have hi : i < n := by
    have := (List.getElem?_eq_some_iff.mp h).1
    rwa [rangeD_len] at this
  unfold rangeD at h
  rw [List.getElem?_map, List.getElem?_range hi] at h
  exact ⟨hi, (Option.some.inj h).symm⟩
theorem srcAt_r {K : PySem.W.Frag} {HF H : Hp} (lo : Int) (n : Nat) : SrcAt K (Itr lo n) (rangeD lo n) HF H := by
  refine ⟨fun i hi => by rw [rangeD_len] at hi; exact hi, by rw [rangeD_len]; exact Nat.le_refl _, fun i x H2 hi ⟨e, y⟩ => ?_⟩
  rw [rangeD_len] at hi
  refine ⟨.int (lo + i), ?_, .inl ⟨e, by rw [y]; exact .int _⟩⟩
  unfold rangeD
  rw [List.getElem?_map, List.getElem?_range hi]
  rfl
theorem src_r1 {px pc : Pos} {n : Int} (h : E X e ρ (.d (.int n)) ρ1) (hm : X.mg "range" = none) (hn : -(2 ^ 62) ≤ n ∧ n < 2 ^ 62) (hg : Gl X "range" := by rfl) (hse : starEach [e] X.env = [(false, eval e X.env)] := by rfl) :
    Src X tg (.Call (.Name "range" px) [e] [] pc) ρ (rangeD 0 n.toNat) ρ1 none := ⟨_, pi_range1 hg hm (pa_cons pe_w pa_nil hse) hse, fun σ HF H S1 R q => h σ HF H S1 _ fun x HF1 H1 S2 f1 r1 => by
  cases r1
  exact ⟨n, rfl, hn.1, hn.2, q _ HF1 H1 S2 f1 fun σ2 ρ2 HF2 H2 _ _ _ _ => srcAt_r 0 _⟩⟩
theorem src_r2 {px pc : Pos} {n m : Int} (h : E X e1 ρ (.d (.int m)) ρ1) (h2 : E X e2 ρ1 (.d (.int n)) ρ2) (hm : X.mg "range" = none) (hn : -(2 ^ 62) ≤ m ∧ m < 2 ^ 62 ∧ -(2 ^ 62) ≤ n ∧ n < 2 ^ 62) (hg : Gl X "range" := by rfl)
    (hse : starEach [e1, e2] X.env = [(false, eval e1 X.env), (false, eval e2 X.env)] := by rfl) (hse2 : starEach [e2] X.env = [(false, eval e2 X.env)] := by rfl) :
    Src X tg (.Call (.Name "range" px) [e1, e2] [] pc) ρ (rangeD m (n - m).toNat) ρ2 none := ⟨_, pi_range2 hg hm (pa_cons pe_w (pa_cons pe_w pa_nil hse2) (by rw [hse, hse2])) hse hse2, fun σ HF H S1 R q => h σ HF H S1 _ fun x HF1 H1 S2 f1 r1 => h2 σ HF1 H1 S2 _ fun y HF2 H2 S3 f2 r2 => by
  cases r1
  cases r2
  exact ⟨m, n, rfl, hn, q _ HF2 H2 S3 (f1.trans f2) fun σ2 ρ2 HF2 H2 _ _ _ _ => srcAt_r m _⟩⟩

/-- what a turn yields stands as data -/
theorem yld_d {K : PySem.W.Frag} {σ : L2.St} {HF H H2 : Hp} {x : V} (S1 : Sl K ρ σ HF H) (y : Yld K HF H x H2 v) : ∃ HF2, Sl K ρ σ HF2 H2 ∧ Fw ρ ρ σ HF H HF2 H2 ∧ Dp K HF2 x v := by
  rcases y with ⟨rfl, h⟩ | ⟨T, ys, vs, h1, rfl, rfl, rfl, h2⟩
  · exact ⟨HF, S1, .refl .., h⟩
  · obtain ⟨S2, f2⟩ := S1.allocD h1 (.tup ys)
    exact ⟨_, S2, f2, .tup (.inl (.inl upd_same)) (dpa_mono f2.hf h2)⟩

/-! ### for -/
theorem s_for {body : List Stmt} (hi : Src X tg iter ρ ds ρ1 none) (I : Nat → Rho → Prop) (h0 : I 0 ρ1)
    (hb : ∀ i v ρ', ds[i]? = some v → I i ρ' → ∃ ρ2, GT X B tg v ρ' ρ2 ∧ Ss X B body ρ2 (bodyP P (I (i + 1)))) (hd : ∀ ρ', I ds.length ρ' → P.nx ρ')
    (hp : PassesOwn (model X.prog X.w) X.A X.env X.xe) (hc : X.calm = true := by rfl) (hs : ∀ x, foldedSetIterable iter X.env x = pure x := by intro _; rfl) : S X B (.For tg iter body [] pos) ρ P := by
  obtain ⟨wi, h1, h2⟩ := hi
  refine .of (ps_for hp hc h1 pg_w pss_w hs) fun σ HF H S1 b D o => h2 σ HF H S1 _ fun J HF1 H1 S2 f1 src => ?_
  refine ⟨fun i m σ' H' => m = ds.length - i ∧ i ≤ ds.length ∧ ∃ ρ' HF', I i ρ' ∧ Sl X.K ρ' σ' HF' H' ∧ Bn B ρ' σ' HF' H' ∧ Same HF1 HF', ⟨ds.length, by simp, Nat.zero_le _, ρ1, HF1, h0, S2, b.fw f1, .refl _⟩, ?_⟩
  rintro i m σ' H' ⟨rfl, hle, ρ', HF', hI, S', b', s'⟩
  have sr := src σ' ρ' HF' H' (fun _ z => nomatch z) trivial S' s'
  by_cases hlt : i < ds.length
  · refine .inr ⟨sr.go i hlt, fun σ3 H3 => i + 1 ≤ ds.length ∧ ∃ ρ3 HF3, I (i + 1) ρ3 ∧ Sl X.K ρ3 σ3 HF3 H3 ∧ Bn B ρ3 σ3 HF3 H3 ∧ Same HF1 HF3, fun σ3 H3 n3 => ⟨ds.length - (i + 1), by omega, rfl, n3.1, n3.2⟩, fun x H2 y => ?_⟩
    obtain ⟨v, e, y⟩ := sr.yld i x H2 hlt y
    obtain ⟨HF2, S2', f2, r2⟩ := yld_d S' y
    obtain ⟨ρ2, hg, hbd⟩ := hb i v ρ' e hI
    refine hg x σ' HF2 H2 S2' r2 _ fun σ2 S3 b3 => hbd σ2 HF2 H2 S3 (b3 (b'.fw f2)) _ ?_
    exact ok_body ((o.up f1.hf).up (s'.trans f2.hf)) fun ρ3 σ3 HF3 H3 i3 S4 b4 s4 => ⟨hlt, ρ3, HF3, i3, S4, b4, (s'.trans f2.hf).trans s4⟩
  · have e : i = ds.length := by omega
    subst e
    exact .inl ⟨sr.stop, o.nx ρ' σ' HF' H' (hd ρ' hI) S' b' (f1.hf.trans s')⟩

/-! ### a list comprehension -/
def wipeR (ρ : Rho) : List Nat → Rho
  | [] => ρ
  | v :: vs => (wipeR ρ vs).set v .any
theorem wipeR_len (ρ : Rho) : ∀ vs : List Nat, (wipeR ρ vs).length = ρ.length
  | [] => rfl
  | v :: vs => by unfold wipeR; rw [List.length_set, wipeR_len ρ vs]
theorem wipeR_get {ρ : Rho} {i : Nat} {a : A} : ∀ {vs : List Nat}, (wipeR ρ vs)[i]? = some a → (i ∉ vs ∧ ρ[i]? = some a) ∨ (i ∈ vs ∧ a = .any ∧ i < ρ.length)
  | [], h => .inl ⟨by simp, h⟩
  | v :: vs, h => by
    unfold wipeR at h
    by_cases hi : v = i
    · subst hi
      have hl := (List.getElem?_eq_some_iff.mp h).1
      rw [List.length_set] at hl
      rw [List.getElem?_set_self hl] at h
      rw [wipeR_len] at hl
      exact .inr ⟨List.mem_cons_self, (Option.some.inj h).symm, hl⟩
    · rw [List.getElem?_set_ne hi] at h
      rcases wipeR_get h with ⟨h1, h2⟩ | ⟨h1, h2⟩
      · exact .inl ⟨fun z => (List.mem_cons.mp z).elim (fun e => hi e.symm) h1, h2⟩
      · exact .inr ⟨List.mem_cons_of_mem _ h1, h2⟩
theorem wipeR_off {ρ : Rho} {i : Nat} : ∀ {vs : List Nat}, i ∉ vs → (wipeR ρ vs)[i]? = ρ[i]?
  | [], _ => rfl
  | v :: vs, h => by
    unfold wipeR
    rw [List.getElem?_set_ne fun e => h (by rw [e]; exact List.mem_cons_self)]
    exact wipeR_off fun z => h (List.mem_cons_of_mem _ z)
theorem wipe_off {σ : L2.St} {i : Nat} : ∀ {vs : List Nat}, i ∉ vs → (wipe σ vs)[i]? = σ[i]?
  | [], _ => rfl
  | v :: vs, h => by
    unfold wipe
    rw [List.getElem?_set_ne fun e => h (by rw [e]; exact List.mem_cons_self)]
    exact wipe_off fun z => h (List.mem_cons_of_mem _ z)
theorem wipe_on {σ : L2.St} {i : Nat} : ∀ {vs : List Nat}, i ∈ vs → i < σ.length → (wipe σ vs)[i]? = some none
  | [], h, _ => nomatch h
  | v :: vs, h, hl => by
    unfold wipe
    by_cases e : v = i
    · subst e
      rw [List.getElem?_set_self (by rw [wipe_length]; exact hl)]
    · rw [List.getElem?_set_ne e]
      exact wipe_on ((List.mem_cons.mp h).resolve_left fun z => e z.symm) hl
theorem wipe_set {σ : L2.St} {i : Nat} {x : Option V} : ∀ {vs : List Nat}, i ∈ vs → wipe (σ.set i x) vs = wipe σ vs := fun {vs} h => by
  apply List.ext_getElem?
  intro j
  by_cases hj : j ∈ vs
  · by_cases hl : j < σ.length
    · rw [wipe_on hj hl, wipe_on hj (by rw [List.length_set]; exact hl)]
    · rw [List.getElem?_eq_none (by rw [wipe_length, List.length_set]; omega), List.getElem?_eq_none (by rw [wipe_length]; omega)]
  · rw [wipe_off hj, wipe_off hj, List.getElem?_set_ne fun e => hj (by rw [← e]; exact h)]
theorem Sl.wipe {K : PySem.W.Frag} {σ : L2.St} {HF H : Hp} (S1 : Sl K ρ σ HF H) (vs : List Nat) : Sl K (wipeR ρ vs) (L2.wipe σ vs) HF H := by
  refine ⟨by rw [wipe_length, wipeR_len]; exact S1.len, S1.sub, fun i a h => ?_, fun i j a b p h1 h2 o1 o2 e1 e2 => ?_⟩
  · rcases wipeR_get h with ⟨h1, h2⟩ | ⟨h1, rfl, h3⟩
    · obtain ⟨s, e, z⟩ := S1.slot i a h2
      exact ⟨s, by rw [wipe_off h1]; exact e, z⟩
    · exact ⟨none, wipe_on h1 (by rw [S1.len]; exact h3), trivial⟩
  · rcases wipeR_get h1 with ⟨g1, g2⟩ | ⟨_, rfl, _⟩
    · rcases wipeR_get h2 with ⟨k1, k2⟩ | ⟨_, rfl, _⟩
      · rw [wipe_off g1] at e1
        rw [wipe_off k1] at e2
        exact S1.apart i j a b p g2 k2 o1 o2 e1 e2
      · cases o2
    · cases o1
/-- the targets of a comprehension: only its own slots are stored, by data -/
def Gc (K : PySem.W.Frag) (vs : List Nat) (g : TG) (v : PyData) (ρ ρ' : Rho) : Prop := (∀ i, i ∉ vs → ρ'[i]? = ρ[i]?) ∧ ρ'.length = ρ.length ∧ (∀ i a, i ∈ vs → ρ[i]? = some a → a.own = false) ∧ (∀ i a, i ∈ vs → ρ'[i]? = some a → a.own = false) ∧
  ∀ x σ HF H, Sl K ρ σ HF H → Dp K HF x v → ∀ Q : L2.St → Hp → Prop, (∀ σ', Sl K ρ' σ' HF H → L2.wipe σ' vs = L2.wipe σ vs → (∀ i, i ∉ vs → σ'[i]? = σ[i]?) → Q σ' H) → g x σ H Q
abbrev GC (X : Cx) (vs : List Nat) (tg : Expr) (v : PyData) (ρ ρ' : Rho) : Prop := Gc X.K vs (wG X tg) v ρ ρ'
theorem gc_name {vs : List Nat} (i : Nat) {x : Str} (ha : ∀ a, ρ[i]? = some a → a.own = false) (hv : ∀ j a, j ∈ vs → ρ[j]? = some a → a.own = false) (hm : i ∈ vs) (hN : X.N.Nodup) (hi : X.N[i]? = some x := by rfl) (hx : Loc X.env.scope x := by first | exact Or.inl rfl | exact Or.inr rfl) (hf : X.fn x = true ∨ X.env.scope.names.lookup x = some .local := by first | exact .inl rfl | exact .inr rfl) :
    GC X vs (.Name x pos) v ρ (ρ.set i (.d v)) := by
  refine ⟨fun j hj => List.getElem?_set_ne fun e => hj (by rw [← e]; exact hm), by rw [List.length_set], hv, fun j a hj e => ?_, fun y σ HF H Sl1 r Q q => ⟨_, pg_name hN hi hx hf, ?_⟩⟩
  · by_cases e2 : i = j
    · subst e2
      have hl := (List.getElem?_eq_some_iff.mp e).1
      rw [List.length_set] at hl
      rw [List.getElem?_set_self hl] at e
      rw [← Option.some.inj e]
      rfl
    · rw [List.getElem?_set_ne e2] at e
      exact hv j a hj e
  · have r1 : RRel X.K H HF H y (.d v) := r
    exact q _ (Sl.set (Hb := H) Sl1 r1 fun p hp z => Sl.notOwn Sl1 hp z) (wipe_set hm) fun j hj => List.getElem?_set_ne fun e => hj (by rw [← e]; exact hm)
def Gcs (K : PySem.W.Frag) (vs : List Nat) (g : TGs) (ws : List PyData) (ρ ρ' : Rho) : Prop := (∀ i, i ∉ vs → ρ'[i]? = ρ[i]?) ∧ ρ'.length = ρ.length ∧ (∀ i a, i ∈ vs → ρ[i]? = some a → a.own = false) ∧ (∀ i a, i ∈ vs → ρ'[i]? = some a → a.own = false) ∧
  ∀ xs σ HF H, Sl K ρ σ HF H → DpAll K HF xs ws → ∀ Q : L2.St → Hp → Prop, (∀ σ', Sl K ρ' σ' HF H → L2.wipe σ' vs = L2.wipe σ vs → (∀ i, i ∉ vs → σ'[i]? = σ[i]?) → Q σ' H) → g xs σ H Q
abbrev GCs (X : Cx) (vs : List Nat) (tgs : List Expr) (ws : List PyData) (ρ ρ' : Rho) : Prop := Gcs X.K vs (wGs X tgs) ws ρ ρ'
theorem gcs_nil {vs : List Nat} (hv : ∀ j a, j ∈ vs → ρ[j]? = some a → a.own = false) : GCs X vs [] [] ρ ρ := ⟨fun _ _ => rfl, rfl, hv, hv, fun xs σ HF H Sl1 r Q q => by
  cases r
  exact ⟨_, pgs_nil, rfl, q σ Sl1 rfl fun _ _ => rfl⟩⟩
theorem gcs_cons {vs : List Nat} {tgs : List Expr} {ws : List PyData} (h1 : GC X vs tg v ρ ρ1) (h2 : GCs X vs tgs ws ρ1 ρ2)
    (hs : (assignEach (tg :: tgs) X.env).map (·.2) = assign tg X.env :: (assignEach tgs X.env).map (·.2) := by rfl) : GCs X vs (tg :: tgs) (v :: ws) ρ ρ2 := by
  obtain ⟨a1, a2, a3, a4, a5⟩ := h1
  obtain ⟨b1, b2, b3, b4, b5⟩ := h2
  refine ⟨fun i hi => (b1 i hi).trans (a1 i hi), b2.trans a2, a3, b4, fun xs σ HF H Sl1 r Q q => ?_⟩
  cases r with
  | cons r rr =>
    exact ⟨_, pgs_cons pg_w pgs_w hs, _, _, rfl, a5 _ σ HF H Sl1 r _ fun σ1 S1 w1 o1 => b5 _ σ1 HF H S1 rr Q fun σ2 S2 w2 o2 => q σ2 S2 (w2.trans w1) fun i hi => (o2 i hi).trans (o1 i hi)⟩
theorem gc_tup {vs : List Nat} {k : Nat} {ws : List PyData} {n : Nat} (h : GCs X vs es ws ρ ρ1) (hz : ws.length = n := by rfl) (hc : X.calm = true := by rfl) (hn : (assignEach es X.env).length = n := by rfl) (hst : (assignEach es X.env).findIdx? (·.1) = none := by rfl) :
    GC X vs (.Tuple es k pos) (.tuple ws) ρ ρ1 := by
  obtain ⟨a1, a2, a3, a4, a5⟩ := h
  refine ⟨a1, a2, a3, a4, fun x σ HF H Sl1 r Q q => ⟨_, pg_tup hc pgs_w hn hst, ?_⟩⟩
  cases r with
  | tup h1 h2 => exact ⟨_, _, rfl, same_t Sl1.sub h1, (dpa_len h2).trans hz, a5 _ σ HF H Sl1 h2 Q q⟩
def wTs (X : Cx) (ifs : List Expr) : TT := fun σ H Q => ∃ t, PTs X ifs t ∧ t σ H Q
theorem pts_w {ifs : List Expr} : PTs X ifs (wTs X ifs) := ⟨fun pins s σ H Q I ⟨_, h, q⟩ => h.run pins s σ H Q I q⟩
abbrev EI (X : Cx) (ifs : List Expr) (ρ : Rho) (b : Bool) (ρ' : Rho) : Prop := EvT X.K (wTs X ifs) ρ b ρ'
theorem i_nil : EI X [] ρ true ρ := fun σ HF H S Q q => ⟨_, pts_nil, q HF H S (.refl ..)⟩
theorem i_one (h : ET X e ρ b ρ1) : EI X [e] ρ b ρ1 := fun σ HF H S Q q => ⟨_, pts_one pt_w, h σ HF H S Q q⟩
/-- the comprehension's own slots as they were, all else as it is behind the turns -/
def Unw (vs : List Nat) (ρ1 ρ' ρo : Rho) : Prop := ρo.length = ρ1.length ∧ (∀ i, i ∉ vs → ρo[i]? = ρ'[i]?) ∧ ∀ i, i ∈ vs → ρo[i]? = ρ1[i]? ∧ ∀ a, ρ1[i]? = some a → a.own = false
theorem unw_id {vs : List Nat} (h : ∀ i a, i ∈ vs → ρ1[i]? = some a → a.own = false) : Unw vs ρ1 (wipeR ρ1 vs) ρ1 := ⟨rfl, fun i hi => (wipeR_off hi).symm, fun i hi => ⟨rfl, fun a e => h i a hi e⟩⟩
/-- a list comprehension: its reading, also as one that is set to a name on its line -/
def ELc (X : Cx) (e : Expr) (ρ : Rho) (a : A) (ρ' : Rho) : Prop := ∀ σ HF H, Sl X.K ρ σ HF H → ∀ Q : VK, (∀ x HF' H', Sl X.K ρ' σ HF' H' → Fw ρ ρ' σ HF H HF' H' → RRel X.K H HF' H' x a → Q x H') →
  ∃ te : TE, PE X e te ∧ (∀ {i : Nat} {y : Str} {py spos : Pos}, X.N[i]? = some y → X.env.scope.names.lookup y = some .local → swapsWith e (some (.Name y py)) spos.line X.env = pure true → PS X (.Assign [.Name y py] e spos) (tAsg te (gName i))) ∧ te σ H Q
theorem e_el {X : Cx} {e : Expr} {ρ ρ' : Rho} {a : A} (h : ELc X e ρ a ρ') : E X e ρ a ρ' := fun σ HF H S1 Q q => by
  obtain ⟨te, h1, _, h2⟩ := h σ HF H S1 Q q
  exact ⟨te, h1, h2⟩
theorem s_setLc (i : Nat) {X : Cx} {B : Bs} {P : Pst} {e : Expr} {ρ ρ1 : Rho} {a : A} {x : Str} {pos pos' : Pos} (he : ELc X e ρ a ρ1) (h : P.nx (ρ1.set i a)) (hl : ∀ q ∈ B.L, q.1 ≠ i) (hi : X.N[i]? = some x := by rfl) (hx : X.env.scope.names.lookup x = some .local := by rfl)
    (hs : swapsWith e (some (.Name x pos')) pos.line X.env = pure true := by first | rfl | exact sw_true rfl rfl rfl (by decide +kernel)) : S X B (.Assign [.Name x pos'] e pos) ρ P := fun σ HF H Sl1 b D o => by
  obtain ⟨te, _, h1, h2⟩ := he σ HF H Sl1 (fun y H1 => gName i y σ H1 D.nx) (fun y HF1 H1 S1 f1 r1 => o.nx _ _ HF1 H1 h (S1.set r1 fun p hp z => Sl1.notOwn hp (f1.sh.own.mp z)) ((b.fw f1).set S1 (rrel_base b r1) hl) f1.hf)
  exact ⟨_, h1 hi hx hs, h2⟩
theorem el_lc {scope : Scope} {own : List (Str × Nat)} {elt : Expr} {ifs : List Expr} {out : List PyData} {ρo : Rho} {D0 : Rho}
    (ht : Src X tg iter ρ ds ρ1 k) (ok : BlkOk X.N X.env.scope scope own) (hN : X.N.Nodup)
    (I : Nat → Rho → List PyData → Prop) (h0 : I 0 (wipeR ρ1 (own.map (·.2))) []) (hk : ∀ i ρ' acc, I i ρ' acc → Kp k ρ1 ρ' ∧ (∀ j, k = some j → j ∉ own.map (·.2)))
    (hb : ∀ i v ρ' acc, ds[i]? = some v → I i ρ' acc → ∃ ρ2 b ρ3, (∀ (s : Shared) (H : Hp) (C : Addr) (cl : List (Str × Addr)) (fp : List Addr), GC (X.blk s H scope (compEnvC scope cl C X.env) fp) (own.map (·.2)) tg v ρ' ρ2) ∧
      (∀ (s : Shared) (H : Hp) (C : Addr) (cl : List (Str × Addr)) (fp : List Addr), EI (X.blk s H scope (compEnvC scope cl C X.env) fp) ifs ρ2 b ρ3) ∧
      (b = true → ∃ w ρ4, (∀ (s : Shared) (H : Hp) (C : Addr) (cl : List (Str × Addr)) (fp : List Addr), E (X.blk s H scope (compEnvC scope cl C X.env) fp) elt ρ3 (.d w) ρ4) ∧ I (i + 1) (wipeR ρ4 (own.map (·.2))) (acc ++ [w])) ∧ (b = false → I (i + 1) (wipeR ρ3 (own.map (·.2))) acc))
    (hd : ∀ ρ' acc, I ds.length ρ' acc → acc = out ∧ Unw (own.map (·.2)) ρ1 ρ' ρo) (hz : ds.length < sizeLine) (hz2 : ∀ i ρ' acc, I i ρ' acc → acc.length ≤ i)
    (hc : X.calm = true := by rfl) (hs : ∀ x, foldedSetIterable iter X.env x = pure x := by intro _; rfl) : ELc X (.ListComp elt [⟨tg, iter, ifs, 0⟩] scope pos) ρ (.ml out) ρo := by
  obtain ⟨wi, h1, h2⟩ := ht
  -- the readings, the same for every block
  let uG : TG := fun x σ H Q => ∀ (s : Shared) (H0 : Hp) (C : Addr) (cl : List (Str × Addr)) (fp : List Addr), wG (X.blk s H0 scope (compEnvC scope cl C X.env) fp) tg x σ H Q
  let uT : TT := fun σ H Q => ∀ (s : Shared) (H0 : Hp) (C : Addr) (cl : List (Str × Addr)) (fp : List Addr), wTs (X.blk s H0 scope (compEnvC scope cl C X.env) fp) ifs σ H Q
  let uE : TE := fun σ H Q => ∀ (s : Shared) (H0 : Hp) (C : Addr) (cl : List (Str × Addr)) (fp : List Addr), wE (X.blk s H0 scope (compEnvC scope cl C X.env) fp) elt σ H Q
  intro σ HF H S1 Q q
  refine ⟨_, pe_lc (g := uG) (tt := uT) (te := uE) hc hN h1 ok (fun s H0 C cl fp => ⟨fun pins s1 σ H v u Q I r h => pg_w.run pins s1 σ H v u Q I r (h s H0 C cl fp)⟩)
    (fun s H0 C cl fp => ⟨fun pins s1 σ H Q I h => pts_w.run pins s1 σ H Q I (h s H0 C cl fp)⟩) (fun s H0 C cl fp => ⟨fun pins s1 σ H Q I h => pe_w.run pins s1 σ H Q I (h s H0 C cl fp)⟩) hs,
    fun hy hyl hsw => ps_setLc (g := uG) (tt := uT) (te := uE) hc hN hy hyl hsw h1 ok (fun s H0 C cl fp => ⟨fun pins s1 σ H v u Q I r h => pg_w.run pins s1 σ H v u Q I r (h s H0 C cl fp)⟩)
    (fun s H0 C cl fp => ⟨fun pins s1 σ H Q I h => pts_w.run pins s1 σ H Q I (h s H0 C cl fp)⟩) (fun s H0 C cl fp => ⟨fun pins s1 σ H Q I h => pe_w.run pins s1 σ H Q I (h s H0 C cl fp)⟩) hs, ?_⟩
  refine h2 σ HF H S1 _ fun J HF1 H1 S2 f1 src => fun D hD => ?_
  have hDf := S2.hfNone hD
  generalize hvs : own.map (·.2) = vs at *
  have S2w := S2.wipe vs
  -- a turn's state
  let St : Nat → Hp → Prop := fun i H' => ∃ ρ' acc HF' ys, I i ρ' acc ∧ Sl X.K ρ' (L2.wipe σ vs) HF' H' ∧ Fw (wipeR ρ1 vs) ρ' (L2.wipe σ vs) HF1 H1 HF' H' ∧ HF' D = none ∧ H' D = some (.lst ys) ∧ DpAll X.K HF' ys acc
  refine ⟨fun i m H' => m = ds.length - i ∧ i ≤ ds.length ∧ St i H', ⟨ds.length, by simp, Nat.zero_le _, _, _, HF1, [], h0, ?_, ?_, hDf, upd_same, .nil⟩, ?_⟩
  · exact (S2w.allocO hD _).1
  · exact (S2w.allocO hD _).2
  rintro i m H' ⟨rfl, hle, ρ', acc, HF', ys, hI, S', f', d1, d2, d3⟩
  have kk := hk i ρ' acc hI
  have sr := src (L2.wipe σ vs) ρ' HF' H' (fun j e => wipe_off (kk.2 j e)) kk.1 S' f'.hf
  by_cases hlt : i < ds.length
  · refine .inr ⟨sr.go i hlt, fun H3 => i + 1 ≤ ds.length ∧ St (i + 1) H3, fun H3 n3 => ⟨ds.length - (i + 1), by omega, rfl, n3.1, n3.2⟩, fun x H2 y => ?_⟩
    obtain ⟨v, e, y⟩ := sr.yld i x H2 hlt y
    obtain ⟨HFy, Sy, fy, ry⟩ := yld_d S' y
    obtain ⟨ρ2, b, ρ3, hg, ht, hyes, hno⟩ := hb i v ρ' acc e hI
    have hD2 : H2 D = some (.lst ys) := fy.keep D _ d2 fun z => by
      have : OwnAt (wipeR ρ1 vs) (L2.wipe σ vs) D := f'.sh.own.mp z
      obtain ⟨_, o, e⟩ := S2w.ownAt' this
      rw [hD] at e
      cases e
    have notD : ¬ OwnAt ρ' (L2.wipe σ vs) D := fun z => by
      obtain ⟨_, o, e⟩ := S2w.ownAt' (f'.sh.own.mp z)
      rw [hD] at e
      cases e
    intro s0 H0 C0 cl0 fp0
    have gall := fun s H C cl fp => hg s H C cl fp
    have g0 := hg s0 H0 C0 cl0 fp0
    obtain ⟨g1, g2, g3, g4, g5⟩ := g0
    refine g5 x (L2.wipe σ vs) HFy H2 Sy ry _ fun σ2 S3 w3 o3 => ?_
    have w3' : L2.wipe σ2 vs = L2.wipe σ vs := by
      rw [w3]
      apply List.ext_getElem?
      intro j
      by_cases hj : j ∈ vs
      · by_cases hl : j < σ.length
        · rw [wipe_on hj (by rw [wipe_length]; exact hl), wipe_on hj hl]
        · rw [List.getElem?_eq_none (by rw [wipe_length, wipe_length]; omega), List.getElem?_eq_none (by rw [wipe_length]; omega)]
      · rw [wipe_off hj]
    refine ⟨w3', ?_⟩
    -- own places are the same ones
    have own23 : ∀ c, OwnAt ρ2 σ2 c ↔ OwnAt ρ' (L2.wipe σ vs) c := fun c => by
      constructor
      · rintro ⟨j, a, k1, k2, k3⟩
        by_cases hj : j ∈ vs
        · have := g4 j a hj k1
          rw [k2] at this
          cases this
        · exact ⟨j, a, by rw [← g1 j hj]; exact k1, k2, by rw [← o3 j hj]; exact k3⟩
      · rintro ⟨j, a, k1, k2, k3⟩
        by_cases hj : j ∈ vs
        · have := g3 j a hj k1
          rw [k2] at this
          cases this
        · exact ⟨j, a, by rw [g1 j hj]; exact k1, k2, by rw [o3 j hj]; exact k3⟩
    -- from the block's slots back to the wiped ones
    have backW : ∀ ρ4 HF4 H4, Sl X.K ρ4 σ2 HF4 H4 → Fw ρ2 ρ4 σ2 HFy H2 HF4 H4 → Sl X.K (wipeR ρ4 vs) (L2.wipe σ vs) HF4 H4 ∧ Fw (wipeR ρ1 vs) (wipeR ρ4 vs) (L2.wipe σ vs) HF1 H1 HF4 H4 := fun ρ4 HF4 H4 S4 f4 => by
      have S5 := S4.wipe vs
      rw [w3'] at S5
      refine ⟨S5, (f'.trans fy).trans ⟨⟨?_, fun j a h => ?_⟩, f4.hf, fun c o h n => f4.keep c o h fun z => n ((own23 c).mp z), f4.new, f4.pres⟩⟩
      · rw [wipeR_len, f4.sh.1, g2]
      · by_cases hj : j ∈ vs
        · have hl : j < ρ4.length := by rw [f4.sh.1, g2]; exact (List.getElem?_eq_some_iff.mp h).1
          have hl2 : j < (wipeR ρ4 vs).length := by rw [wipeR_len]; exact hl
          have e4 := List.getElem?_eq_getElem hl2
          rcases wipeR_get e4 with ⟨z, _⟩ | ⟨_, z, _⟩
          · exact (z hj).elim
          · -- the slot was wiped already
            have h5 : (wipeR ρ1 vs)[j]? = some .any := by
              have hl3 : j < (wipeR ρ1 vs).length := by rw [← f'.sh.1]; exact (List.getElem?_eq_some_iff.mp h).1
              have e5 := List.getElem?_eq_getElem hl3
              rcases wipeR_get e5 with ⟨z, _⟩ | ⟨_, z, _⟩
              · exact (z hj).elim
              · rw [e5, z]
            obtain ⟨a5, k1, k2, k3⟩ := f'.sh.2 j _ h5
            rw [h] at k1
            cases k1
            have k3 := k3 rfl
            subst k3
            exact ⟨.any, by rw [e4, z], rfl, fun _ => rfl⟩
        · obtain ⟨a4, k1, k2, k3⟩ := f4.sh.2 j a (by rw [g1 j hj]; exact h)
          exact ⟨a4, by rw [wipeR_off hj]; exact k1, k2, k3⟩
    have notD2 : ¬ OwnAt ρ2 σ2 D := fun z => notD ((own23 D).mp z)
    intro s1 H01 C1 cl1 fp1
    refine ht s1 H01 C1 cl1 fp1 σ2 HFy H2 S3 _ fun HF4 H4 S4 f4 => ?_
    have k1 : H4 D = some (.lst ys) := f4.keep D _ hD2 notD2
    have k2 : HF4 D = none := f4.hfn (fy.hfn d1 d2) hD2
    cases b with
    | true =>
      rw [if_pos rfl]
      obtain ⟨w, ρ4, he, hI4⟩ := hyes rfl
      intro s2 H02 C2 cl2 fp2
      refine he s2 H02 C2 cl2 fp2 σ2 HF4 H4 S4 _ fun y5 HF5 H5 S5 f5 r5 => ?_
      have f45 := f4.trans f5
      have notD4 : ¬ OwnAt ρ3 σ2 D := fun z => notD2 (f4.sh.own.mp z)
      have m1 : H5 D = some (.lst ys) := f5.keep D _ k1 notD4
      have m2 : HF5 D = none := f5.hfn k2 k1
      have hys : ys.length ≤ i := by
        have := dpa_len d3
        have h2 := hz2 i ρ' acc hI
        omega
      obtain ⟨S6, f6⟩ := backW ρ4 HF5 H5 S5 f45
      refine ⟨ys, m1, by omega, hlt, _, _, HF5, ys ++ [y5], hI4, ?_, ?_, m2, upd_same, dpa_app (dpa_mono (fy.hf.trans f45.hf) d3) (.cons r5 .nil)⟩
      · refine ⟨S6.len, fun c u e => ?_, fun j a h => ?_, S6.apart⟩
        · rw [upd_ne fun z => by rw [z, m2] at e; cases e]
          exact S6.sub c u e
        · obtain ⟨s, e, z⟩ := S6.slot j a h
          refine ⟨s, e, arel_mono z (.refl _) fun p o e1 h1 h2 ho => ⟨h1, ?_⟩⟩
          rw [upd_ne]
          · exact h2
          · intro z2
            exact notD2 (f45.sh.own.mp (by
              by_cases hj : j ∈ vs
              · rcases wipeR_get h with ⟨z3, _⟩ | ⟨_, z3, _⟩
                · exact (z3 hj).elim
                · rw [z3] at ho; cases ho
              · rcases wipeR_get h with ⟨_, z3⟩ | ⟨z3, _⟩
                · exact ⟨j, a, z3, ho, by rw [o3 j hj, e, e1, z2]⟩
                · exact (hj z3).elim))
      · refine ⟨f6.sh, f6.hf, fun c o h n => ?_, f6.new, fun c o h => ?_⟩
        · have := f6.keep c o h n
          rw [upd_ne fun z => by rw [z, hD] at h; cases h]
          exact this
        · obtain ⟨o', e⟩ := f6.pres c o h
          by_cases hcD : c = D
          · subst hcD
            exact ⟨_, upd_same⟩
          · exact ⟨o', by rw [upd_ne hcD]; exact e⟩
    | false =>
      rw [if_neg Bool.false_ne_true]
      obtain ⟨S6, f6⟩ := backW ρ3 HF4 H4 S4 f4
      exact ⟨hlt, _, _, HF4, ys, hno rfl, S6, f6, k2, k1, dpa_mono (fy.hf.trans f4.hf) d3⟩
  · have e : i = ds.length := by omega
    subst e
    obtain ⟨rfl, u1, u2, u3⟩ := hd ρ' acc hI
    refine .inl ⟨sr.stop, ?_⟩
    -- the slots as they were
    have ownO : ∀ c, OwnAt ρ' (L2.wipe σ vs) c ↔ OwnAt ρ1 σ c := fun c => by
      rw [f'.sh.own]
      constructor
      · rintro ⟨j, a, k1, k2, k3⟩
        rcases wipeR_get k1 with ⟨z1, z2⟩ | ⟨_, rfl, _⟩
        · exact ⟨j, a, z2, k2, by rw [← wipe_off z1]; exact k3⟩
        · cases k2
      · rintro ⟨j, a, k1, k2, k3⟩
        by_cases hj : j ∈ vs
        · have := (u3 j hj).2 a k1
          rw [k2] at this
          cases this
        · exact ⟨j, a, by rw [wipeR_off hj]; exact k1, k2, by rw [wipe_off hj]; exact k3⟩
    have fo : Fw ρ1 ρo σ HF1 H1 HF' H' := by
      refine ⟨⟨u1, fun j a h => ?_⟩, f'.hf, fun c o h n => f'.keep c o h fun z => n ((ownO c).mp (f'.sh.own.mpr z)), f'.new, f'.pres⟩
      by_cases hj : j ∈ vs
      · exact ⟨a, by rw [(u3 j hj).1]; exact h, rfl, fun _ => rfl⟩
      · obtain ⟨a', k1, k2, k3⟩ := f'.sh.2 j a (by rw [wipeR_off hj]; exact h)
        exact ⟨a', by rw [u2 j hj]; exact k1, k2, k3⟩
    have So : Sl X.K ρo σ HF' H' := by
      refine ⟨by rw [u1]; exact S2.len, S'.sub, fun j a h => ?_, fun i j a b p h1 h2 o1 o2 e1 e2 => ?_⟩
      · by_cases hj : j ∈ vs
        · rw [(u3 j hj).1] at h
          obtain ⟨s, e, z⟩ := S2.slot j a h
          have no := (u3 j hj).2 a h
          exact ⟨s, e, arel_mono z f'.hf fun _ _ _ _ _ ho => by rw [no] at ho; cases ho⟩
        · rw [u2 j hj] at h
          obtain ⟨s, e, z⟩ := S'.slot j a h
          exact ⟨s, by rw [← wipe_off hj]; exact e, z⟩
      · have off : ∀ (j : Nat) (a : A), ρo[j]? = some a → a.own = true → j ∉ vs := fun j a h o hj => by
          rw [(u3 j hj).1] at h
          have := (u3 j hj).2 a h
          rw [o] at this
          cases this
        have n1 := off i a h1 o1
        have n2 := off j b h2 o2
        rw [u2 i n1] at h1
        rw [u2 j n2] at h2
        exact S'.apart i j a b p h1 h2 o1 o2 (by rw [wipe_off n1]; exact e1) (by rw [wipe_off n2]; exact e2)
    exact q _ HF' H' So (f1.trans fo) ⟨D, _, rfl, f1.fresh hD, d1, d2, d3⟩
theorem ev_lc {scope : Scope} {own : List (Str × Nat)} {elt : Expr} {ifs : List Expr} {out : List PyData} {ρo : Rho} {D0 : Rho}
    (ht : Src X tg iter ρ ds ρ1 k) (ok : BlkOk X.N X.env.scope scope own) (hN : X.N.Nodup)
    (I : Nat → Rho → List PyData → Prop) (h0 : I 0 (wipeR ρ1 (own.map (·.2))) []) (hk : ∀ i ρ' acc, I i ρ' acc → Kp k ρ1 ρ' ∧ (∀ j, k = some j → j ∉ own.map (·.2)))
    (hb : ∀ i v ρ' acc, ds[i]? = some v → I i ρ' acc → ∃ ρ2 b ρ3, (∀ (s : Shared) (H : Hp) (C : Addr) (cl : List (Str × Addr)) (fp : List Addr), GC (X.blk s H scope (compEnvC scope cl C X.env) fp) (own.map (·.2)) tg v ρ' ρ2) ∧
      (∀ (s : Shared) (H : Hp) (C : Addr) (cl : List (Str × Addr)) (fp : List Addr), EI (X.blk s H scope (compEnvC scope cl C X.env) fp) ifs ρ2 b ρ3) ∧
      (b = true → ∃ w ρ4, (∀ (s : Shared) (H : Hp) (C : Addr) (cl : List (Str × Addr)) (fp : List Addr), E (X.blk s H scope (compEnvC scope cl C X.env) fp) elt ρ3 (.d w) ρ4) ∧ I (i + 1) (wipeR ρ4 (own.map (·.2))) (acc ++ [w])) ∧ (b = false → I (i + 1) (wipeR ρ3 (own.map (·.2))) acc))
    (hd : ∀ ρ' acc, I ds.length ρ' acc → acc = out ∧ Unw (own.map (·.2)) ρ1 ρ' ρo) (hz : ds.length < sizeLine) (hz2 : ∀ i ρ' acc, I i ρ' acc → acc.length ≤ i)
    (hc : X.calm = true := by rfl) (hs : ∀ x, foldedSetIterable iter X.env x = pure x := by intro _; rfl) : E X (.ListComp elt [⟨tg, iter, ifs, 0⟩] scope pos) ρ (.ml out) ρo := e_el (el_lc (D0 := D0) ht ok hN I h0 hk hb hd hz hz2 hc hs)
/-- the plain one: the slots stay, an item's value hangs on the item -/
theorem e_lc {scope : Scope} (own : List (Str × Nat)) {elt : Expr} {ifs : List Expr} (p : PyData → Bool) (g : PyData → PyData)
    (ht : Src X tg iter ρ ds ρ1 k) (hN : X.N.Nodup) (hz : ds.length < sizeLine)
    (hb : ∀ (i : Nat) (v : PyData), ds[i]? = some v → ∃ ρ2 : Rho, (∀ (s : Shared) (H : Hp) (C : Addr) (cl : List (Str × Addr)) (fp : List Addr), GC (X.blk s H scope (compEnvC scope cl C X.env) fp) (own.map (·.2)) tg v (wipeR ρ1 (own.map (·.2))) ρ2) ∧
      (∀ (s : Shared) (H : Hp) (C : Addr) (cl : List (Str × Addr)) (fp : List Addr), EI (X.blk s H scope (compEnvC scope cl C X.env) fp) ifs ρ2 (p v) ρ2) ∧
      (p v = true → ∀ (s : Shared) (H : Hp) (C : Addr) (cl : List (Str × Addr)) (fp : List Addr), E (X.blk s H scope (compEnvC scope cl C X.env) fp) elt ρ2 (.d (g v)) ρ2) ∧ wipeR ρ2 (own.map (·.2)) = wipeR ρ1 (own.map (·.2)))
    (hv : ∀ (i : Nat) (a : A), i ∈ own.map (·.2) → ρ1[i]? = some a → a.own = false) (hkk : ∀ j, k = some j → j ∉ own.map (·.2)) (ok : BlkOk X.N X.env.scope scope own)
    (hc : X.calm = true := by rfl) (hs : ∀ x, foldedSetIterable iter X.env x = pure x := by intro _; rfl) : E X (.ListComp elt [⟨tg, iter, ifs, 0⟩] scope pos) ρ (.ml ((ds.filter p).map g)) ρ1 := by
  refine ev_lc (out := (ds.filter p).map g) (D0 := []) ht ok hN (fun i ρ' acc => ρ' = wipeR ρ1 (own.map (·.2)) ∧ acc = ((ds.take i).filter p).map g) ⟨rfl, rfl⟩ (fun i ρ' acc ⟨e, _⟩ => ⟨?_, hkk⟩) (fun i v ρ' acc hi ⟨e1, e2⟩ => ?_) (fun ρ' acc ⟨e1, e2⟩ => ?_) hz (fun i ρ' acc ⟨_, e⟩ => ?_) hc hs
  · subst e
    cases k with
    | none => trivial
    | some j => exact wipeR_off (hkk j rfl)
  · subst e1
    obtain ⟨ρ2, h1, h2, h3, h4⟩ := hb i v hi
    have tk : ds.take (i + 1) = ds.take i ++ [v] := by rw [List.take_add_one, hi]; rfl
    refine ⟨ρ2, p v, ρ2, h1, h2, fun z => ⟨g v, ρ2, h3 z, h4, ?_⟩, fun z => ⟨h4, ?_⟩⟩
    · rw [e2, tk, List.filter_append, List.map_append]
      simp [z]
    · rw [e2, tk, List.filter_append, List.map_append]
      simp [z]
  · subst e1
    rw [List.take_length] at e2
    exact ⟨e2, unw_id hv⟩
  · rw [e, List.length_map]
    refine Nat.le_trans (List.length_filter_le _ _) ?_
    rw [List.length_take]
    exact Nat.min_le_left _ _
end
end Th

set_option Elab.async false
set_option linter.all false
set_option maxRecDepth 100000
namespace Th
open PySem PySem.Spec PyProof.Rows L2

/-! ### own objects change -/
section
variable {K : PySem.W.Frag} {ρ : Rho} {σ : L2.St} {HF H : Hp} {a a' : A} {i : Nat} {p : Addr} {o o' : HO}
theorem Sl.put (S1 : Sl K ρ σ HF H) (hi : ρ[i]? = some a) (ho : a.own = true) (hs : σ[i]? = some (some (V.ref p))) (hr : HRel K HF p o' a') : Sl K (ρ.set i a') σ HF (upd H p o') ∧ Fw ρ (ρ.set i a') σ HF H HF (upd H p o') := by
  have hlen : i < ρ.length := (List.getElem?_eq_some_iff.mp hi).1
  obtain ⟨p2, o2, e, h1, h2, h3⟩ := S1.ownAt hi ho
  rw [hs] at e
  cases e
  have ho' := hrel_own hr
  refine ⟨⟨by rw [List.length_set]; exact S1.len, fun b u hb => ?_, fun j c h => ?_, fun j k c d q g1 g2 o1 o2 e1 e2 => ?_⟩, ⟨⟨by rw [List.length_set], fun j c h => ?_⟩, .refl _, fun b u hb n => ?_, fun b u h => .inl h, fun b u h => ?_⟩⟩
  · rw [upd_ne fun z => by rw [z, h1] at hb; cases hb]
    exact S1.sub b u hb
  · by_cases hj : i = j
    · subst hj
      rw [List.getElem?_set_self hlen] at h
      cases h
      exact ⟨_, hs, (arel_own ho').mpr ⟨_, rfl, p, o', rfl, h1, upd_same, hr⟩⟩
    · rw [List.getElem?_set_ne hj] at h
      obtain ⟨s, e, q⟩ := S1.slot j c h
      refine ⟨s, e, arel_mono q (.refl _) fun b u e1 k1 k2 oc => ⟨k1, ?_⟩⟩
      rw [upd_ne fun z => hj (S1.apart i j a c p hi h ho oc hs (by rw [e, e1, z]))]
      exact k2
  · have f : ∀ (j : Nat) (c : A), (ρ.set i a')[j]? = some c → c.own = true → ∃ c', ρ[j]? = some c' ∧ c'.own = true := fun j c h oc => by
      by_cases hj : i = j
      · subst hj
        exact ⟨a, hi, ho⟩
      · rw [List.getElem?_set_ne hj] at h
        exact ⟨c, h, oc⟩
    obtain ⟨c', k1, k2⟩ := f j c g1 o1
    obtain ⟨d', k3, k4⟩ := f k d g2 o2
    exact S1.apart j k c' d' q k1 k3 k2 k4 e1 e2
  · by_cases hj : i = j
    · subst hj
      rw [hi] at h
      cases h
      exact ⟨a', List.getElem?_set_self hlen, ho'.trans ho.symm, fun z => by rw [ho] at z; cases z⟩
    · exact ⟨c, by rw [List.getElem?_set_ne hj]; exact h, rfl, fun _ => rfl⟩
  · rw [upd_ne fun z => n ⟨i, a, hi, ho, by rw [hs, z]⟩]
    exact hb
  · by_cases hb : b = p
    · subst hb
      exact ⟨_, upd_same⟩
    · exact ⟨u, by rw [upd_ne hb]; exact h⟩
end

/-! ### dicts as lists of pairs -/
section
variable {κ : Type} [DecidableEq κ]
def getK (kvs : List (κ × PyData)) (k : κ) : Option PyData := (kvs.find? fun kv => decide (kv.1 = k)).map (·.2)
def setK (kvs : List (κ × PyData)) (k : κ) (v : PyData) : List (κ × PyData) :=
  if (kvs.any fun kv => decide (kv.1 = k)) = true then kvs.map (fun kv => if kv.1 = k then (kv.1, v) else kv) else kvs ++ [(k, v)]
def delK (kvs : List (κ × PyData)) (k : κ) : List (κ × PyData) := kvs.filter fun kv => decide (kv.1 ≠ k)
variable {K : PySem.W.Frag} {HF : Hp}
theorem dpkv_len : ∀ {l : List (κ × V)} {m : List (κ × PyData)}, DpKV K HF l m → l.length = m.length
  | _, _, .nil => rfl
  | _, _, .cons _ t => congrArg (· + 1) (dpkv_len t)
theorem dpkv_keys : ∀ {l : List (κ × V)} {m : List (κ × PyData)}, DpKV K HF l m → l.map (·.1) = m.map (·.1)
  | _, _, .nil => rfl
  | _, _, .cons h t => by rw [List.map_cons, List.map_cons, dpkv_keys t, h.1]
theorem dpkv_val : ∀ {l : List (κ × V)} {m : List (κ × PyData)} (k : κ), DpKV K HF l m → (valV l k = none ∧ getK m k = none) ∨ ∃ v d, valV l k = some v ∧ getK m k = some d ∧ Dp K HF v d
  | _, _, k, .nil => .inl ⟨rfl, rfl⟩
  | p :: l, q :: m, k, .cons h t => by
    by_cases e : p.1 = k
    · refine .inr ⟨p.2, q.2, valV_pos e, ?_, h.2⟩
      unfold getK
      rw [List.find?_cons]
      have : decide (q.1 = k) = true := decide_eq_true (by rw [← h.1]; exact e)
      simp [this]
    · have e2 : getK (q :: m) k = getK m k := by
        unfold getK
        rw [List.find?_cons]
        have : decide (q.1 = k) = false := decide_eq_false (by rw [← h.1]; exact e)
        simp [this]
      rw [valV_neg e, e2]
      exact dpkv_val k t
theorem dpkv_any : ∀ {l : List (κ × V)} {m : List (κ × PyData)} (k : κ), DpKV K HF l m → (l.any fun kv => decide (kv.1 = k)) = (m.any fun kv => decide (kv.1 = k))
  | _, _, k, .nil => rfl
  | p :: l, q :: m, k, .cons h t => by rw [List.any_cons, List.any_cons, dpkv_any k t, h.1]
theorem dpkv_app : ∀ {l l' : List (κ × V)} {m m' : List (κ × PyData)}, DpKV K HF l m → DpKV K HF l' m' → DpKV K HF (l ++ l') (m ++ m')
  | _, _, _, _, .nil, h => h
  | _, _, _, _, .cons a t, h => .cons a (dpkv_app t h)
theorem dpkv_map {k : κ} {v : V} {d : PyData} (hv : Dp K HF v d) : ∀ {l : List (κ × V)} {m : List (κ × PyData)}, DpKV K HF l m → DpKV K HF (l.map fun kv => if kv.1 = k then (kv.1, v) else kv) (m.map fun kv => if kv.1 = k then (kv.1, d) else kv)
  | _, _, .nil => .nil
  | p :: l, q :: m, .cons h t => by
    refine .cons ?_ (dpkv_map hv t)
    dsimp only
    by_cases e : p.1 = k
    · rw [if_pos e, if_pos (by rw [← h.1]; exact e)]
      exact ⟨h.1, hv⟩
    · rw [if_neg e, if_neg (by rw [← h.1]; exact e)]
      exact h
theorem dpkv_put {l : List (κ × V)} {m : List (κ × PyData)} {k : κ} {v : V} {d : PyData} (h : DpKV K HF l m) (hv : Dp K HF v d) : DpKV K HF (putK l k v) (setK m k d) := by
  unfold putK setK
  rw [dpkv_any k h]
  split
  · exact dpkv_map hv h
  · exact dpkv_app h (.cons ⟨rfl, hv⟩ .nil)
theorem dpkv_drop (k : κ) : ∀ {l : List (κ × V)} {m : List (κ × PyData)}, DpKV K HF l m → DpKV K HF (dropK l k) (delK m k)
  | _, _, .nil => .nil
  | p :: l, q :: m, .cons h t => by
    unfold dropK delK
    rw [List.filter_cons, List.filter_cons, h.1]
    split
    · exact .cons h (dpkv_drop k t)
    · exact dpkv_drop k t
end
def kD : Key → PyData
  | .inl i => .int i
  | .inr x => .str x
theorem dp_key {K : PySem.W.Frag} {HF : Hp} {k : Key} {x : V} (h : Dp K HF x (kD k)) : x = kV k := by
  cases k <;> cases h <;> rfl

section
variable {X : Cx} {B : Bs} {P : Pst} {ρ ρ1 ρ2 ρ3 : Rho} {e e1 e2 : Expr} {es : List Expr} {pos pos' : Pos} {a : A} {b : Bool} {u v w z d : PyData} {ds xs : List PyData} {k : Option Nat} {kvs : List (Key × PyData)} {y : Key} {x : Str} {ta tb te : TE}

/-! ### dicts in a slot -/
theorem e_dget (i : Nat) (he : E X e ρ (.d (kD y)) ρ1) (hi0 : ∃ k0, ρ[i]? = some (.mk k0)) (hi : ρ1[i]? = some (.mk kvs)) (hg : getK kvs y = some d) (hu : X.A.units + 1 < cLine) (hs : NoSl e := by exact fun _ _ => rfl) (hN : X.N[i]? = some x := by rfl)
    (hv : Vis X.env.scope x := by first | exact Or.inl rfl | exact Or.inr (Or.inl rfl) | exact Or.inr (Or.inr rfl)) (hd : (x == ("__debug__" : Str)) = false := by decide) (hcd : (x == ("__classdict__" : Str)) = false := by decide) :
    E X (.Subscript (.Name x pos') e pos) ρ (.d d) ρ1 := .of (pe_dget hu (pe_var hN hv hd hcd) pe_w hs) fun σ HF H S1 Q q => by
  obtain ⟨k0, hk0⟩ := hi0
  obtain ⟨p, o, e0, _⟩ := S1.ownAt hk0 rfl
  refine ⟨.ref p, e0, he σ HF H S1 _ fun x1 HF1 H1 S2 f1 r1 => ?_⟩
  obtain ⟨p2, o2, e3, h1, h2, h3⟩ := S2.ownAt hi rfl
  rw [e0] at e3
  cases e3
  cases o2 <;> first | exact h3.elim | skip
  rename_i kws
  rcases dpkv_val y h3 with ⟨_, g⟩ | ⟨v1, d1, g1, g2, g3⟩
  · rw [hg] at g; cases g
  · rw [hg] at g2
    cases g2
    have hx := dp_key r1
    subst hx
    refine ⟨p, v1, rfl, ?_, q _ HF1 H1 S2 f1 g3⟩
    rw [← g1]
    exact .k h2
theorem e_dget2 (i : Nat) {apos : Pos} (he : E X e1 ρ (.d (kD y)) ρ1) (he2 : E X e2 ρ1 (.d w) ρ2) (hi0 : ∃ k0, ρ[i]? = some (.mk k0)) (hi : ρ2[i]? = some (.mk kvs)) (hu : X.A.units + 1 < cLine) (m : M2 X (.Name x pos') "get" apos e1 e2 pos := by exact ⟨rfl, rfl, rfl, rfl⟩) (hN : X.N[i]? = some x := by rfl)
    (hv : Vis X.env.scope x := by first | exact Or.inl rfl | exact Or.inr (Or.inl rfl) | exact Or.inr (Or.inr rfl)) (hd : (x == ("__debug__" : Str)) = false := by decide) (hcd : (x == ("__classdict__" : Str)) = false := by decide) :
    E X (.Call (.Attribute (.Name x pos') "get" apos) [e1, e2] [] pos) ρ (.d ((getK kvs y).getD w)) ρ2 := .of (pe_dget2 hu (pe_var hN hv hd hcd) pe_w pe_w m) fun σ HF H S1 Q q => by
  obtain ⟨k0, hk0⟩ := hi0
  obtain ⟨p, o, e0, _, k2, k3⟩ := S1.ownAt hk0 rfl
  cases o <;> first | exact k3.elim | skip
  refine ⟨.ref p, e0, p, rfl, .inl ⟨_, .inl k2⟩, he σ HF H S1 _ fun x1 HF1 H1 S2 f1 r1 => he2 σ HF1 H1 S2 _ fun x2 HF2 H2 S3 f2 r2 => ?_⟩
  obtain ⟨p2, o2, e3, h1, h2, h3⟩ := S3.ownAt hi rfl
  rw [e0] at e3
  cases e3
  cases o2 <;> first | exact h3.elim | skip
  have hx := dp_key r1
  subst hx
  refine ⟨_, .k h2, ?_⟩
  rcases dpkv_val y h3 with ⟨g1, g2⟩ | ⟨v1, d1, g1, g2, g3⟩
  · rw [g1]
    rw [g2] at q
    exact q _ HF2 H2 S3 (f1.trans f2) r2
  · rw [g1]
    rw [g2] at q
    exact q _ HF2 H2 S3 (f1.trans f2) g3
theorem e_din (i : Nat) (he : E X e ρ (.d (kD y)) ρ1) (hi : ρ1[i]? = some (.mk kvs)) (hu : X.A.units + 1 < cLine) (hN : X.N[i]? = some x := by rfl)
    (hv : Vis X.env.scope x := by first | exact Or.inl rfl | exact Or.inr (Or.inl rfl) | exact Or.inr (Or.inr rfl)) (hd : (x == ("__debug__" : Str)) = false := by decide) (hcd : (x == ("__classdict__" : Str)) = false := by decide)
    (hb : behindInMarks .In (.Name x pos') = false := by rfl) : E X (.Compare e [.In] [.Name x pos'] pos) ρ (.d (.bool (getK kvs y).isSome)) ρ1 := .of (pe_cmp (pc_din hu pe_w (pe_var hN hv hd hcd)) hb) fun σ HF H S1 Q q => he σ HF H S1 _ fun x1 HF1 H1 S2 f1 r1 => by
  obtain ⟨p2, o2, e3, h1, h2, h3⟩ := S2.ownAt hi rfl
  cases o2 <;> first | exact h3.elim | skip
  have hx := dp_key r1
  subst hx
  refine ⟨.ref p2, e3, p2, _, rfl, .k h2, ?_⟩
  rcases dpkv_val y h3 with ⟨g1, g2⟩ | ⟨v1, d1, g1, g2, g3⟩
  · rw [g1]; rw [g2] at q
    exact q _ HF1 H1 S2 f1 (.bl _)
  · rw [g1]; rw [g2] at q
    exact q _ HF1 H1 S2 f1 (.bl _)
theorem e_dnin (i : Nat) (he : E X e ρ (.d (kD y)) ρ1) (hi : ρ1[i]? = some (.mk kvs)) (hu : X.A.units + 1 < cLine) (hN : X.N[i]? = some x := by rfl)
    (hv : Vis X.env.scope x := by first | exact Or.inl rfl | exact Or.inr (Or.inl rfl) | exact Or.inr (Or.inr rfl)) (hd : (x == ("__debug__" : Str)) = false := by decide) (hcd : (x == ("__classdict__" : Str)) = false := by decide)
    (hb : behindInMarks .NotIn (.Name x pos') = false := by rfl) : E X (.Compare e [.NotIn] [.Name x pos'] pos) ρ (.d (.bool (!(getK kvs y).isSome))) ρ1 := .of (pe_cmp (pc_dnotin hu pe_w (pe_var hN hv hd hcd)) hb) fun σ HF H S1 Q q => he σ HF H S1 _ fun x1 HF1 H1 S2 f1 r1 => by
  obtain ⟨p2, o2, e3, h1, h2, h3⟩ := S2.ownAt hi rfl
  cases o2 <;> first | exact h3.elim | skip
  have hx := dp_key r1
  subst hx
  refine ⟨.ref p2, e3, p2, _, rfl, .k h2, ?_⟩
  rcases dpkv_val y h3 with ⟨g1, g2⟩ | ⟨v1, d1, g1, g2, g3⟩
  · rw [g1]; rw [g2] at q
    exact q _ HF1 H1 S2 f1 (.bl _)
  · rw [g1]; rw [g2] at q
    exact q _ HF1 H1 S2 f1 (.bl _)
theorem s_dput (i : Nat) {ev : Expr} {p0 : Pos} (hv : E X ev ρ (.d v) ρ1) (hk : E X e ρ1 (.d (kD y)) ρ2) (hi0 : ∃ k0, ρ1[i]? = some (.mk k0)) (hi : ρ2[i]? = some (.mk kvs)) (hz : kvs.length < 100000) (h : P.nx (ρ2.set i (.mk (setK kvs y v)))) (hu : X.A.units + 1 < cLine)
    (hs : swapsWith ev (some (.Subscript (.Name x p0) e pos')) pos.line X.env = pure false := by rfl) (hN : X.N[i]? = some x := by rfl)
    (hvs : Vis X.env.scope x := by first | exact Or.inl rfl | exact Or.inr (Or.inl rfl) | exact Or.inr (Or.inr rfl)) (hd : (x == ("__debug__" : Str)) = false := by decide) (hcd : (x == ("__classdict__" : Str)) = false := by decide) :
    S X B (.Assign [.Subscript (.Name x p0) e pos'] ev pos) ρ P := .of (ps_dput hu (pe_var hN hvs hd hcd) pe_w pe_w hs) fun σ HF H S1 bn D o => hv σ HF H S1 _ fun x1 HF1 H1 S2 f1 r1 => by
  obtain ⟨k0, hk0⟩ := hi0
  obtain ⟨p, o0, e0, _⟩ := S2.ownAt hk0 rfl
  refine ⟨.ref p, e0, hk σ HF1 H1 S2 _ fun x2 HF2 H2 S3 f2 r2 => ?_⟩
  obtain ⟨p2, o2, e3, h1, h2, h3⟩ := S3.ownAt hi rfl
  rw [e0] at e3
  cases e3
  cases o2 <;> first | exact h3.elim | skip
  have hx := dp_key r2
  subst hx
  have hl := dpkv_len h3
  obtain ⟨S4, f4⟩ := S3.put hi rfl e0 (o' := .dK (putK _ y x1)) (a' := .mk (setK kvs y v)) (dpkv_put h3 (dp_mono f2.hf r1))
  have f := (f1.trans f2).trans f4
  exact ⟨p, _, rfl, .k h2 (Nat.lt_of_lt_of_le (by rw [hl]; exact hz) (by decide)), o.nx _ _ _ _ h S4 (bn.fw f) f.hf⟩
theorem e_dlen (i : Nat) {pn : Pos} (hi : ρ[i]? = some (.mk kvs)) (hm : X.mg "len" = none) (hg : Gl X "len" := by rfl) (hN : X.N[i]? = some x := by rfl) (hv : Vis X.env.scope x := by first | exact Or.inl rfl | exact Or.inr (Or.inl rfl) | exact Or.inr (Or.inr rfl)) (hd : (x == ("__debug__" : Str)) = false := by decide) (hcd : (x == ("__classdict__" : Str)) = false := by decide)
    (he : starEach [.Name x pos'] X.env = (false, eval (.Name x pos') X.env) :: starEach [] X.env := by rfl) : E X (.Call (.Name "len" pn) [.Name x pos'] [] pos) ρ (.d (.int kvs.length)) ρ :=
  .of (pe_callB call_lenD hg hm PySem.boot_len (pa_cons (pe_var hN hv hd hcd) pa_nil he) (he := he)) fun σ HF H S1 Q q => by
    obtain ⟨p2, o2, e3, h1, h2, h3⟩ := S1.ownAt hi rfl
    cases o2 <;> first | exact h3.elim | skip
    refine ⟨.ref p2, e3, p2, _, rfl, h2, ?_⟩
    rw [dpkv_len h3]
    exact q _ HF H S1 (.refl ..) (.int _)
/-- sorted(d), its keys ints -/
def isort (ns : List Int) : List Int := ns.mergeSort (fun a b => decide (a ≤ b))
theorem isort_perm (ns : List Int) : (isort ns).Perm ns := List.mergeSort_perm _ _
theorem isort_pw (ns : List Int) : (isort ns).Pairwise (· ≤ ·) := by
  have h := List.pairwise_mergeSort (le := fun (a b : Int) => decide (a ≤ b)) (fun a b c h1 h2 => by simp at *; omega) (fun a b => by simp; omega) ns
  exact h.imp fun h => by simpa using h
theorem isort_eq {ns ms : List Int} (hp : ms.Perm ns) (hs : ms.Pairwise (· ≤ ·)) : ms = isort ns := PySem.W.ksm_same (hp.trans (isort_perm ns).symm) hs (isort_pw ns)
theorem dpa_ints {K : PySem.W.Frag} {HF : Hp} : ∀ (ns : List Int), DpAll K HF (ns.map V.int) (ns.map PyData.int)
  | [] => .nil
  | n :: ns => .cons (.int n) (dpa_ints ns)
theorem ints_dpa {K : PySem.W.Frag} {HF : Hp} : ∀ {ns : List Int} {ys : List V}, DpAll K HF ys (ns.map PyData.int) → ys = ns.map V.int
  | [], _, .nil => rfl
  | n :: ns, _, .cons h t => by
    cases h
    rw [List.map_cons, ints_dpa t]
theorem e_dsorted (i : Nat) {pn : Pos} {ks : List Int} (hi : ρ[i]? = some (.mk kvs)) (hks : kvs.map (·.1) = ks.map Sum.inl) (hz : ks.length < 64) (hm : X.mg "sorted" = none) (hg : Gl X "sorted" := by rfl) (hc : X.calm = true := by rfl) (hN : X.N[i]? = some x := by rfl)
    (hv : Vis X.env.scope x := by first | exact Or.inl rfl | exact Or.inr (Or.inl rfl) | exact Or.inr (Or.inr rfl)) (hd : (x == ("__debug__" : Str)) = false := by decide) (hcd : (x == ("__classdict__" : Str)) = false := by decide)
    (he : starEach [.Name x pos'] X.env = (false, eval (.Name x pos') X.env) :: starEach [] X.env := by rfl) : E X (.Call (.Name "sorted" pn) [.Name x pos'] [] pos) ρ (.ml ((isort ks).map .int)) ρ :=
  .of (pe_callB (call_sortedDI hc) hg hm (by decide +kernel) (pa_cons (pe_var hN hv hd hcd) pa_nil he) (he := he)) fun σ HF H S1 Q q => by
    obtain ⟨p2, o2, e3, h1, h2, h3⟩ := S1.ownAt hi rfl
    cases o2 <;> first | exact h3.elim | skip
    refine ⟨.ref p2, e3, p2, _, ks, rfl, .inl h2, (dpkv_keys h3).trans hks, hz, fun ys p hp hs hn => ?_⟩
    obtain ⟨S2, f2⟩ := S1.allocO hn (.lst (ys.map V.int))
    rw [← isort_eq hp hs] at q
    exact q _ _ _ S2 f2 ⟨p, _, rfl, hn, S1.hfNone hn, upd_same, dpa_ints ys⟩

/-! ### own lists change -/
theorem e_app (i : Nat) {apos : Pos} (he : E X e ρ (.d v) ρ1) (hi0 : ∃ x0, ρ[i]? = some (.ml x0)) (hi : ρ1[i]? = some (.ml xs)) (hz : xs.length < 100000) (hN : X.N[i]? = some x := by rfl)
    (hv : Vis X.env.scope x := by first | exact Or.inl rfl | exact Or.inr (Or.inl rfl) | exact Or.inr (Or.inr rfl)) (hd : (x == ("__debug__" : Str)) = false := by decide) (hcd : (x == ("__classdict__" : Str)) = false := by decide)
    (hbase : attributeBase (.Name x pos') "append" X.env (eval (.Name x pos') X.env) = eval (.Name x pos') X.env := by rfl)
    (hfew : ((backTo pos (starEach [e] X.env)).all (fun x => !x.1) && (backToKw pos (keywordEach [] X.env)).all (fun x => x.1.isSome) && decide (([e] : List Expr).length + ([] : List Keyword).length + (if ([] : List Keyword).isEmpty then 0 else 1) < 30)) = true := by rfl)
    (hline : (apos.endLine == pos.line) = true := by rfl) (hs : starEach [e] X.env = (false, eval e X.env) :: starEach [] X.env := by rfl) :
    E X (.Call (.Attribute (.Name x pos') "append" apos) [e] [] pos) ρ (.d .none) (ρ1.set i (.ml (xs ++ [v]))) :=
  .of (pe_bm PySem.F.plainAttrs_list PySem.F.slot_list_append PySem.F.type_list_append mt_append (pe_var hN hv hd hcd) (pa_cons pe_w pa_nil hs) hbase hfew hline hs) fun σ HF H S1 Q q => by
    obtain ⟨k0, hk0⟩ := hi0
    obtain ⟨p, o0, e0, _, k2, k3⟩ := S1.ownAt hk0 rfl
    cases o0 <;> first | exact k3.elim | skip
    refine ⟨.ref p, e0, .inl ⟨rfl, _, .inl (.inl k2)⟩, he σ HF H S1 _ fun x1 HF1 H1 S2 f1 r1 => ?_⟩
    obtain ⟨p2, o2, e3, h1, h2, h3⟩ := S2.ownAt hi rfl
    rw [e0] at e3
    cases e3
    cases o2 <;> first | exact h3.elim | skip
    rename_i ys
    have hl := dpa_len h3
    obtain ⟨S4, f4⟩ := S2.put hi rfl e0 (o' := .lst (ys ++ [x1])) (a' := .ml (xs ++ [v])) (dpa_app h3 (.cons r1 .nil))
    exact ⟨p, ys, x1, rfl, rfl, h2, Nat.lt_of_lt_of_le (by rw [hl]; exact hz) (by decide), q _ _ _ S4 (f1.trans f4) .non⟩
theorem ixN_map {α β : Type} {xs : List α} {ys : List β} (h : xs.length = ys.length) (i : Int) : ixN xs.length i = ixN ys.length i := by rw [h]
/-- xs[k] = e -/
theorem s_setL (i : Nat) {ev : Expr} {p0 : Pos} {n : Int} {j : Nat} (hv : E X ev ρ (.d v) ρ1) (hk : E X e ρ1 (.d (.int n)) ρ2) (hi0 : ∃ k0, ρ1[i]? = some (.ml k0)) (hi : ρ2[i]? = some (.ml xs)) (hj : ixN xs.length n = some j) (h : P.nx (ρ2.set i (.ml (xs.set j v))))
    (hN : X.N[i]? = some x := by rfl) (hvs : Vis X.env.scope x := by first | exact Or.inl rfl | exact Or.inr (Or.inl rfl) | exact Or.inr (Or.inr rfl)) (hd : (x == ("__debug__" : Str)) = false := by decide) (hcd : (x == ("__classdict__" : Str)) = false := by decide)
    (ha : ∀ v, assign (.Subscript (.Name x p0) e pos') X.env v = (do
      let ov ← holding [v] (eval (.Name x p0) X.env)
      let iv ← holding [v, ov] (eval e X.env)
      standAt pos'
      holding [v, ov, iv] (setItem ov iv v)
      release [v, ov, iv] []) := by intro _; rfl)
    (hs : swapsWithSole [.Subscript (.Name x p0) e pos'] ev pos.line X.env = pure false := by rfl) (hw : swappedStores [.Subscript (.Name x p0) e pos'] ev X.env = pure none := by rfl)
    (h1 : (assignEach [.Subscript (.Name x p0) e pos'] X.env).map (·.2) = [assign (.Subscript (.Name x p0) e pos') X.env] := by rfl) :
    S X B (.Assign [.Subscript (.Name x p0) e pos'] ev pos) ρ P := .of (ps_asg pe_w (pg_sub (pe_var hN hvs hd hcd) pe_w set_list ha) hs hw h1) fun σ HF H S1 bn D o => hv σ HF H S1 _ fun x1 HF1 H1 S2 f1 r1 => by
  obtain ⟨k0, hk0⟩ := hi0
  obtain ⟨p, o0, e0, _⟩ := S2.ownAt hk0 rfl
  refine ⟨.ref p, e0, hk σ HF1 H1 S2 _ fun x2 HF2 H2 S3 f2 r2 => ?_⟩
  obtain ⟨p2, o2, e3, h1, h2, h3⟩ := S3.ownAt hi rfl
  rw [e0] at e3
  cases e3
  cases o2 <;> first | exact h3.elim | skip
  rename_i ys
  cases r2
  have hl := dpa_len h3
  obtain ⟨S4, f4⟩ := S3.put hi rfl e0 (o' := .lst (ys.set j x1)) (a' := .ml (xs.set j v)) (dpa_set h3 (dp_mono f2.hf r1))
  have f := (f1.trans f2).trans f4
  exact ⟨p, ys, n, j, rfl, rfl, h2, by rw [hl]; exact hj, o.nx _ _ _ _ h S4 (bn.fw f) f.hf⟩
/-- xs[k] op= e, whole numbers -/
theorem get_list : PGet X (rIxL X.K) := by
  intro pins s σ H o i ov iv Q I ro ri h
  obtain ⟨p, xs, i, z, rfl, rfl, hq, he, q⟩ := h
  cases ro
  obtain ⟨t, rfl⟩ := ri
  obtain ⟨its, r, pl, hz⟩ := I.list hq
  obtain ⟨j, h1, h2, h3, h4, h5⟩ := atI_get he
  obtain ⟨w, ew, rw'⟩ := r.get h2
  have hl := r.length
  have hn := line63
  have fin : L2.EP X pins σ Q w s := ⟨z, H, I, rw', q⟩
  by_cases h0 : 0 ≤ i
  · have hj : i.toNat = j := by
      rw [seqIndex_of h0 h5] at h1
      exact Option.some.inj h1
    exact wpAny_getItem_list pl.isList h0 (by omega) (by rw [hj]; simpa using ew) fin
  · have hj : (i + (its.toArray.size : Int)).toNat = j := by
      rw [seqIndex_neg (by omega) h4] at h1
      rw [List.size_toArray, ← hl]
      exact Option.some.inj h1
    exact wpAny_getItem_list_neg pl.isList (by omega) (by rw [List.size_toArray] <;> omega) (by omega) (by rw [hj]; simpa using ew) fin
theorem s_augL (i : Nat) {ev : Expr} {op : Operator} {g : Int → Int → Int} {p0 : Pos} {n m m2 : Int} {j : Nat} (ho : PIp X op (ipI g)) (hk : E X e ρ (.d (.int n)) ρ1) (hv : E X ev ρ1 (.d (.int m2)) ρ2) (hi0 : ∃ k0, ρ[i]? = some (.ml k0)) (hi1 : ρ1[i]? = some (.ml xs)) (hi : ρ2[i]? = some (.ml xs)) (hj : ixN xs.length n = some j) (hx : xs[j]? = some (.int m)) (h : P.nx (ρ2.set i (.ml (xs.set j (.int (g m m2))))))
    (hN : X.N[i]? = some x := by rfl) (hvs : Vis X.env.scope x := by first | exact Or.inl rfl | exact Or.inr (Or.inl rfl) | exact Or.inr (Or.inr rfl)) (hd : (x == ("__debug__" : Str)) = false := by decide) (hcd : (x == ("__classdict__" : Str)) = false := by decide)
    (ha : ∀ ov iv new, augStore e ov iv new = (do holding [new, ov, iv] (setItem ov iv new); release [new, ov, iv] []; pure .next) := by intros; rfl) :
    S X B (.AugAssign (.Subscript (.Name x p0) e pos') op ev pos) ρ P := .of (ps_augS (pe_var hN hvs hd hcd) pe_w get_list pe_w ho set_list ha) fun σ HF H S1 bn D o => by
  obtain ⟨k0, hk0⟩ := hi0
  obtain ⟨p, o0, e0, _⟩ := S1.ownAt hk0 rfl
  refine ⟨.ref p, e0, hk σ HF H S1 _ fun x1 HF1 H1 S2 f1 r1 => ?_⟩
  cases r1
  obtain ⟨p1, o1, e1, g1, g2, g3⟩ := S2.ownAt hi1 rfl
  rw [e0] at e1
  cases e1
  cases o1 <;> first | exact g3.elim | skip
  rename_i ys
  have hl := dpa_len g3
  obtain ⟨y, ey, ry⟩ := dpa_get g3 hx
  cases ry
  refine ⟨p, ys, n, .int m, rfl, rfl, .inl (.inl g2), ?_, hv σ HF1 H1 S2 _ fun x2 HF2 H2 S3 f2 r2 => ?_⟩
  · unfold atI
    rw [hl, hj]
    exact ey
  cases r2
  obtain ⟨p2, o2, e3, h1, h2, h3⟩ := S3.ownAt hi rfl
  rw [e0] at e3
  cases e3
  cases o2 <;> first | exact h3.elim | skip
  rename_i ys2
  have hl2 := dpa_len h3
  obtain ⟨S4, f4⟩ := S3.put hi rfl e0 (o' := .lst (ys2.set j (.int (g m m2)))) (a' := .ml (xs.set j (.int (g m m2)))) (dpa_set h3 (.int _))
  have f := (f1.trans f2).trans f4
  exact ⟨m, m2, rfl, rfl, p, ys2, n, j, rfl, rfl, h2, by rw [hl2]; exact hj, o.nx _ _ _ _ h S4 (bn.fw f) f.hf⟩
/-- name op= e -/
theorem s_aug (i : Nat) {op : Operator} {g : Int → Int → Int} {m m2 : Int} (ho : PIp X op (ipI g)) (hi0 : ρ[i]? = some (.d (.int m))) (he : E X e ρ (.d (.int m2)) ρ1) (h : P.nx (ρ1.set i (.d (.int (g m m2))))) (hl : ∀ q ∈ B.L, q.1 ≠ i) (hN : X.N.Nodup) (hi : X.N[i]? = some x := by rfl) (hx : Loc X.env.scope x := by first | exact Or.inl rfl | exact Or.inr rfl) (hf : X.fn x = true ∨ X.env.scope.names.lookup x = some .local := by first | exact .inl rfl | exact .inr rfl) :
    S X B (.AugAssign (.Name x pos') op e pos) ρ P := .of (ps_aug hN hi hx pe_w ho hf) fun σ HF H S1 bn D o => by
  obtain ⟨y, e0, r0⟩ := S1.at hi0
  cases r0
  refine ⟨_, e0, he σ HF H S1 _ fun x1 HF1 H1 S2 f1 r1 => ?_⟩
  cases r1
  refine ⟨m, m2, rfl, rfl, ?_⟩
  have q1 : ∀ Hb, RRel X.K Hb HF1 H1 (V.int (g m m2)) (.d (.int (g m m2))) := fun Hb => Dp.int _
  exact o.nx _ _ HF1 H1 h (S2.set (q1 H1) fun p hp z => S2.notOwn hp z) ((bn.fw f1).set S2 (q1 _) hl) f1.hf

/-! ### built-ins by name -/
theorem ev_cb {K : PySem.W.Frag} {r : List V → Hp → VK → Prop} (ha : Op K ta ρ v ρ1 k) (hr : ∀ HF H x Q, ORel K HF H x v → Same HF H → (∀ y, Dp K HF y z → Q y H) → r [x] H Q) : Ev K (tCB r (tCons ta tNil)) ρ (.d z) ρ1 := fun σ HF H S1 Q q =>
  ha σ HF H S1 _ fun x HF1 H1 S2 f1 r1 => hr HF1 H1 x Q (r1 ρ1 HF1 H1 .refl S2 (.refl ..)) S2.sub fun y hy => q y HF1 H1 S2 f1 hy
theorem ev_cbN {K : PySem.W.Frag} {r : List V → Hp → VK → Prop} (ha : Op K ta ρ v ρ1 k) (hr : ∀ HF H x Q, ORel K HF H x v → Same HF H → (∀ p o, H p = none → HRel K HF p o a → Q (.ref p) (upd H p o)) → r [x] H Q) : Ev K (tCB r (tCons ta tNil)) ρ a ρ1 := fun σ HF H S1 Q q =>
  ha σ HF H S1 _ fun x HF1 H1 S2 f1 r1 => hr HF1 H1 x Q (r1 ρ1 HF1 H1 .refl S2 (.refl ..)) S2.sub fun p o hp ho => by
    obtain ⟨S3, f3⟩ := S2.allocO hp o
    exact q _ HF1 _ S3 (f1.trans f3) ((rrel_own (hrel_own ho)).mpr ⟨p, o, rfl, f1.fresh hp, S2.hfNone hp, upd_same, ho⟩)
theorem ev_cbT {K : PySem.W.Frag} {r : List V → Hp → VK → Prop} (ha : Op K ta ρ v ρ1 k) (hr : ∀ HF H x Q, ORel K HF H x v → Same HF H → (∀ y, Dp K HF y (.tuple ds) → Q y H) → (∀ p ys, H p = none → DpAll K HF ys ds → Q (.ref p) (upd H p (.tup ys))) → r [x] H Q) : Ev K (tCB r (tCons ta tNil)) ρ (.d (.tuple ds)) ρ1 := fun σ HF H S1 Q q =>
  ha σ HF H S1 _ fun x HF1 H1 S2 f1 r1 => hr HF1 H1 x Q (r1 ρ1 HF1 H1 .refl S2 (.refl ..)) S2.sub (fun y hy => q y HF1 H1 S2 f1 hy) fun p ys hp ho => by
    obtain ⟨S3, f3⟩ := S2.allocD hp (.tup ys)
    exact q _ _ _ S3 (f1.trans f3) (.tup (.inl (.inl upd_same)) (dpa_mono f3.hf ho))
variable {pn : Pos} {i j : Int}
section
variable (he : starEach [e] X.env = (false, eval e X.env) :: starEach [] X.env := by rfl)
theorem e_lenL (h : EO X e ρ (.list ds) ρ1 k) (hm : X.mg "len" = none) (hg : Gl X "len" := by rfl) (he : starEach [e] X.env = (false, eval e X.env) :: starEach [] X.env := by rfl) : E X (.Call (.Name "len" pn) [e] [] pos) ρ (.d (.int ds.length)) ρ1 :=
  .of (pe_callB call_len_seq hg hm PySem.boot_len (pa_cons pe_w pa_nil he) (he := he)) (ev_cb h fun HF H x Q r s q => by
    obtain ⟨p, ys, rfl, h1, h2⟩ := r
    exact ⟨p, ys, rfl, .inl h1, by rw [dpa_len h2]; exact q _ (.int _)⟩)
theorem e_lenT (h : E X e ρ (.d (.tuple ds)) ρ1) (hm : X.mg "len" = none) (hg : Gl X "len" := by rfl) (he : starEach [e] X.env = (false, eval e X.env) :: starEach [] X.env := by rfl) : E X (.Call (.Name "len" pn) [e] [] pos) ρ (.d (.int ds.length)) ρ1 :=
  .of (pe_callB call_len_seq hg hm PySem.boot_len (pa_cons pe_w pa_nil he) (he := he)) (ev_cb h.o fun HF H x Q r s q => by
    cases (show Dp X.K HF x (.tuple ds) from r) with
    | tup h1 h2 => exact ⟨_, _, rfl, .inr (same_t s h1), by rw [dpa_len h2]; exact q _ (.int _)⟩)
theorem e_tupL (h : EO X e ρ (.list ds) ρ1 k) (hm : X.mg "tuple" = none) (hg : Gl X "tuple" := by rfl) (he : starEach [e] X.env = (false, eval e X.env) :: starEach [] X.env := by rfl) : E X (.Call (.Name "tuple" pn) [e] [] pos) ρ (.d (.tuple ds)) ρ1 :=
  .of (pe_callTy call_tuple_of hg hm (by decide +kernel) (pa_cons pe_w pa_nil he) (he := he)) (ev_cbT h fun HF H x Q r s _ q => by
    obtain ⟨p, ys, rfl, h1, h2⟩ := r
    exact ⟨p, ys, rfl, .inl ⟨h1, fun l hl => q l ys hl h2⟩⟩)
theorem e_tupT (h : E X e ρ (.d (.tuple ds)) ρ1) (hm : X.mg "tuple" = none) (hg : Gl X "tuple" := by rfl) (he : starEach [e] X.env = (false, eval e X.env) :: starEach [] X.env := by rfl) : E X (.Call (.Name "tuple" pn) [e] [] pos) ρ (.d (.tuple ds)) ρ1 :=
  .of (pe_callTy call_tuple_of hg hm (by decide +kernel) (pa_cons pe_w pa_nil he) (he := he)) (ev_cbT h.o fun HF H x Q r s q _ => by
    have r : Dp X.K HF x (.tuple ds) := r
    cases r with
    | tup h1 h2 => exact ⟨_, _, rfl, .inr ⟨same_t s h1, q _ (.tup h1 h2)⟩⟩)
theorem e_lstL (h : EO X e ρ (.list ds) ρ1 k) (hm : X.mg "list" = none) (hg : Gl X "list" := by rfl) (he : starEach [e] X.env = (false, eval e X.env) :: starEach [] X.env := by rfl) : E X (.Call (.Name "list" pn) [e] [] pos) ρ (.ml ds) ρ1 :=
  .of (pe_callTy call_list_of hg hm (by decide +kernel) (pa_cons pe_w pa_nil he) (he := he)) (ev_cbN h fun HF H x Q r s q => by
    obtain ⟨p, ys, rfl, h1, h2⟩ := r
    exact ⟨p, ys, rfl, .inl h1, fun l hl => q l (.lst ys) hl h2⟩)
theorem e_lstT (h : E X e ρ (.d (.tuple ds)) ρ1) (hm : X.mg "list" = none) (hg : Gl X "list" := by rfl) (he : starEach [e] X.env = (false, eval e X.env) :: starEach [] X.env := by rfl) : E X (.Call (.Name "list" pn) [e] [] pos) ρ (.ml ds) ρ1 :=
  .of (pe_callTy call_list_of hg hm (by decide +kernel) (pa_cons pe_w pa_nil he) (he := he)) (ev_cbN h.o fun HF H x Q r s q => by
    cases (show Dp X.K HF x (.tuple ds) from r) with
    | tup h1 h2 => exact ⟨_, _, rfl, .inr (same_t s h1), fun l hl => q l (.lst _) hl h2⟩)
theorem e_sum {ns : List Int} (h : EO X e ρ (.list (ns.map .int)) ρ1 k) (hm : X.mg "sum" = none) (hg : Gl X "sum" := by rfl) (hc : X.calm = true := by rfl) (he : starEach [e] X.env = (false, eval e X.env) :: starEach [] X.env := by rfl) : E X (.Call (.Name "sum" pn) [e] [] pos) ρ (.d (.int ns.sum)) ρ1 :=
  .of (pe_callB (cr_sum hc) hg hm (by decide +kernel) (pa_cons pe_w pa_nil he) (he := he)) (ev_cb h fun HF H x Q r s q => by
    obtain ⟨p, ys, rfl, h1, h2⟩ := r
    have := ints_dpa h2
    subst this
    exact ⟨p, ns, rfl, h1, q _ (.int _)⟩)
theorem e_sorted {ns : List Int} (h : EO X e ρ (.list (ns.map .int)) ρ1 k) (hm : X.mg "sorted" = none) (hg : Gl X "sorted" := by rfl) (he : starEach [e] X.env = (false, eval e X.env) :: starEach [] X.env := by rfl) : E X (.Call (.Name "sorted" pn) [e] [] pos) ρ (.ml ((isort ns).map .int)) ρ1 :=
  .of (pe_callB cr_sortedI hg hm (by decide +kernel) (pa_cons pe_w pa_nil he) (he := he)) (ev_cbN h fun HF H x Q r s q => by
    obtain ⟨p, ys, rfl, h1, h2⟩ := r
    have := ints_dpa h2
    subst this
    refine ⟨p, ns, rfl, h1, fun ys l hp hs hl => ?_⟩
    rw [← isort_eq hp hs] at q
    exact q l (.lst _) hl (dpa_ints ys))
theorem e_abs (h : E X e ρ (.d (.int i)) ρ1) (hm : X.mg "abs" = none) (hg : Gl X "abs" := by rfl) (he : starEach [e] X.env = (false, eval e X.env) :: starEach [] X.env := by rfl) : E X (.Call (.Name "abs" pn) [e] [] pos) ρ (.d (.int (i.natAbs : Int))) ρ1 :=
  .of (pe_callB call_abs hg hm (by decide +kernel) (pa_cons pe_w pa_nil he) (he := he)) (ev_cb h.o fun HF H x Q r s q => by
    cases (show Dp X.K HF x (.int i) from r)
    exact ⟨i, rfl, by rw [show (if i < 0 then -i else i) = (i.natAbs : Int) by split <;> omega]; exact q _ (.int _)⟩)
theorem e_intI (h : E X e ρ (.d (.int i)) ρ1) (hm : X.mg "int" = none) (hg : Gl X "int" := by rfl) (he : starEach [e] X.env = (false, eval e X.env) :: starEach [] X.env := by rfl) : E X (.Call (.Name "int" pn) [e] [] pos) ρ (.d (.int i)) ρ1 :=
  .of (pe_callTy call_int1 hg hm (by decide +kernel) (pa_cons pe_w pa_nil he) (he := he)) (ev_cb h.o fun HF H x Q r s q => by
    cases (show Dp X.K HF x (.int i) from r)
    exact .inl ⟨i, rfl, q _ (.int _)⟩)
theorem e_intB {c : Bool} (h : E X e ρ (.d (.bool c)) ρ1) (hm : X.mg "int" = none) (hg : Gl X "int" := by rfl) (he : starEach [e] X.env = (false, eval e X.env) :: starEach [] X.env := by rfl) : E X (.Call (.Name "int" pn) [e] [] pos) ρ (.d (.int (if c then 1 else 0))) ρ1 :=
  .of (pe_callTy call_int1 hg hm (by decide +kernel) (pa_cons pe_w pa_nil he) (he := he)) (ev_cb h.o fun HF H x Q r s q => by
    cases (show Dp X.K HF x (.bool c) from r)
    exact .inr ⟨c, rfl, q _ (.int _)⟩)
def tyD : PyData → String
  | .none => "NoneType"
  | .bool _ => "bool"
  | .int _ => "int"
  | .str _ => "str"
  | .list _ => "list"
  | .tuple _ => "tuple"
  | .dict _ => "dict"
theorem tyX_of {K : PySem.W.Frag} {HF H : Hp} {x : V} (s : Same HF H) (r : ORel K HF H x v) : TyX K H x (.type (tyD v)) := by
  have hl : ∀ {p ys}, SqL K H p ys → TyX K H (.ref p) (.type "list") := fun {p ys} h => by
    rcases h with (h | ⟨o, h⟩) | ⟨o, _, _, h1, h2, _⟩
    · exact .base (.lst h)
    · exact .base (.frz h)
    · exact .kList h1 h2
  have ht : ∀ {p ys}, SqT K H p ys → TyX K H (.ref p) (.type "tuple") := fun {p ys} h => by
    rcases h with (h | ⟨o, h⟩) | ⟨o, _, _, h1, h2, _⟩
    · exact .base (.tup h)
    · exact .fTuple h
    · exact .kTuple h1 h2
  cases v with
  | list xs => obtain ⟨p, ys, rfl, h1, _⟩ := r; exact hl h1
  | none => cases (show Dp K HF x .none from r); exact .base .non
  | bool b => cases (show Dp K HF x (.bool b) from r); exact .base (.bl b)
  | int b => cases (show Dp K HF x (.int b) from r); exact .base (.int b)
  | str b => cases (show Dp K HF x (.str b) from r); exact .base (.str b)
  | tuple b => cases (show Dp K HF x (.tuple b) from r) with | tup h1 h2 => exact ht (same_t s h1)
  | dict b => cases (show Dp K HF x (.dict b) from r)
theorem e_isi {T : String} {tn : Str} {pt : Pos} (h : EO X e ρ v ρ1 k) (hk : kitB (tyD v) T = some b) (ht : bootBuiltins tn = some (.type T)) (hm : X.mg "isinstance" = none) (hmt : X.mg tn = none) (hg : Gl X "isinstance" := by rfl) (hgt : Gl X tn := by rfl) (hn : tn ≠ "__name__" := by decide) (hd : (tn == ("__debug__" : Str)) = false := by decide)
    (he : starEach [e, .Name tn pt] X.env = (false, eval e X.env) :: starEach [.Name tn pt] X.env := by rfl) (he2 : starEach [.Name tn pt] X.env = (false, eval (.Name tn pt) X.env) :: starEach [] X.env := by rfl) (hpl : (backTo pos (starEach [.Name tn pt] X.env)).any (·.1) = false := by rfl) : E X (.Call (.Name "isinstance" pn) [e, .Name tn pt] [] pos) ρ (.d (.bool b)) ρ1 :=
  .of (pe_callB call_isi hg hm (by decide +kernel) (pa_cons pe_w (pa_cons (pe_bltn (v := .ty T) hgt hmt ht rfl hn hd) pa_nil he2) he) (by decide) (by decide) he hpl) fun σ HF H S1 Q q => h σ HF H S1 _ fun x HF1 H1 S2 f1 r1 =>
    ⟨x, .ty T, _, _, b, rfl, .ty T, tyX_of S2.sub (r1 ρ1 HF1 H1 .refl S2 (.refl ..)), kit_ty hk, q _ HF1 H1 S2 f1 (.bl b)⟩
end
theorem op_catP {K : PySem.W.Frag} : True := trivial
/-- xs + ys of lists one has made oneself -/
def PlainL (X : Cx) (e : Expr) (ρ : Rho) (ds : List PyData) (ρ1 : Rho) (k : Option Nat) : Prop := ∀ σ HF H, Sl X.K ρ σ HF H → ∀ Q : VK,
  (∀ x HF' H', Sl X.K ρ1 σ HF' H' → Fw ρ ρ1 σ HF H HF' H' → (∀ ρ2 HF2 H2, Kp k ρ1 ρ2 → Sl X.K ρ2 σ HF2 H2 → Fw ρ1 ρ2 σ HF' H' HF2 H2 → ∃ p ys, x = .ref p ∧ H2 p = some (.lst ys) ∧ DpAll X.K HF2 ys ds) → Q x H') → wE X e σ H Q
theorem E.pl (h : E X e ρ (.ml ds) ρ1) : PlainL X e ρ ds ρ1 none := fun σ HF H S1 Q q => h σ HF H S1 Q fun x HF1 H1 S2 f1 r1 => by
  obtain ⟨p, o, rfl, h0, h1, h2, h3⟩ := r1
  refine q _ HF1 H1 S2 f1 fun ρ2 HF2 H2 _ S3 f2 => ?_
  cases o <;> first | exact h3.elim | skip
  exact ⟨p, _, rfl, f2.keep p _ h2 fun z => S1.notOwn h0 (f1.sh.own.mp z), dpa_mono f2.hf h3⟩
theorem pl_slot (i : Nat) (h : ρ[i]? = some (.ml ds)) (hN : X.N[i]? = some x := by rfl) (hv : Vis X.env.scope x := by first | exact Or.inl rfl | exact Or.inr (Or.inl rfl) | exact Or.inr (Or.inr rfl))
    (hd : (x == ("__debug__" : Str)) = false := by decide) (hcd : (x == ("__classdict__" : Str)) = false := by decide) : PlainL X (.Name x pos) ρ ds ρ (some i) := fun σ HF H S1 Q q => ⟨_, pe_var hN hv hd hcd, by
  obtain ⟨p, o, e, _⟩ := S1.ownAt h rfl
  refine ⟨.ref p, e, q _ HF H S1 (.refl ..) fun ρ2 HF2 H2 hk S2 f2 => ?_⟩
  obtain ⟨p2, o2, e2, h1, h2, h3⟩ := S2.ownAt ((show ρ2[i]? = ρ[i]? from hk).trans h) rfl
  rw [e] at e2
  cases e2
  cases o2 <;> first | exact h3.elim | skip
  exact ⟨p, _, rfl, h2, h3⟩⟩
theorem e_cat {es1 es2 : List PyData} {k1 k2 : Option Nat} (ha : PlainL X e1 ρ es1 ρ1 k1) (hb : PlainL X e2 ρ1 es2 ρ2 k2) (hz : es1.length + es2.length ≤ 100000) (hk : Kp k1 ρ1 ρ2 := by first | exact trivial | exact rfl) : E X (.BinOp e1 .Add e2 pos) ρ (.ml (es1 ++ es2)) ρ2 :=
  .of (pe_op op_cat pe_w pe_w) fun σ HF H S1 Q q => ha σ HF H S1 _ fun x HF1 H1 S2 f1 r1 => hb σ HF1 H1 S2 _ fun y HF2 H2 S3 f2 r2 => by
    obtain ⟨p, ys, rfl, g1, g2⟩ := r1 ρ2 HF2 H2 hk S3 f2
    obtain ⟨p', ys', rfl, g1', g2'⟩ := r2 ρ2 HF2 H2 .refl S3 (.refl ..)
    have l1 := dpa_len g2
    have l2 := dpa_len g2'
    refine ⟨p, p', ys, ys', rfl, rfl, g1, g1', Nat.le_trans (by omega) (show 100000 ≤ sizeLine by decide), fun r hr => ?_⟩
    obtain ⟨S4, f4⟩ := S3.allocO hr (.lst (ys ++ ys'))
    have f := f1.trans f2
    exact q _ _ _ S4 (f.trans f4) ⟨r, _, rfl, f.fresh hr, S3.hfNone hr, upd_same, dpa_app g2 g2'⟩
end
end Th

set_option Elab.async false
set_option linter.all false
set_option maxRecDepth 100000
namespace Th
open PySem PySem.Spec PyProof.Rows L2

theorem nl {B : Bs} {L : List Nat} {i : Nat} (hB : ∀ q ∈ B.L, q.1 ∈ L) (h : i ∉ L := by decide) : ∀ q ∈ B.L, q.1 ≠ i := fun q hq e => h (e ▸ hB q hq)
theorem Le.e {a b : A} {r r' : Rho} (h : a = b) (t : Le r r') : Le (a :: r) (b :: r') := h ▸ .eq t
theorem Le.dd {v w : PyData} {r r' : Rho} (h : v = w) (t : Le r r') : Le (.d v :: r) (.d w :: r') := h ▸ .eq t
theorem Le.ll {v w : List PyData} {r r' : Rho} (h : v = w) (t : Le r r') : Le (.ml v :: r) (.ml w :: r') := h ▸ .eq t
theorem Le.kk {v w : List (Key × PyData)} {r r' : Rho} (h : v = w) (t : Le r r') : Le (.mk v :: r) (.mk w :: r') := h ▸ .eq t
theorem Le.trans {a b c : Rho} (h : Le a b) (g : Le b c) : Le a c := by
  induction g generalizing a with
  | nil => exact h
  | eq g ih =>
    cases h with
    | eq h => exact .eq (ih h)
    | any h => exact .any (ih h)
  | any g ih =>
    cases h with
    | eq h => exact .any (ih h)
    | any h => exact .any (ih h)
section
variable {X : Cx} {B : Bs} {P : Pst} {ρ ρ1 ρ2 ρ3 : Rho} {tg iter e e1 e2 : Expr} {es : List Expr} {pos : Pos} {ds : List PyData} {t : TS}
theorem Ex.leP {K : PySem.W.Frag} {I I' : Rho → Prop} (h : Ex K B t ρ (bodyP P I)) (hi : ∀ ρ, I ρ → ∃ ρ', Le ρ ρ' ∧ I' ρ') : Ex K B t ρ (bodyP P I') := fun σ HF H S b D o => h σ HF H S b D
  ⟨fun ρ σ HF' H i S b s => by
    obtain ⟨ρ', l, i'⟩ := hi ρ i
    exact o.nx ρ' σ HF' H i' (S.le l) (b.le l) s, o.rt, o.bk, fun ρ σ HF' H i S b s => by
    obtain ⟨ρ', l, i'⟩ := hi ρ i
    exact o.ct ρ' σ HF' H i' (S.le l) (b.le l) s⟩
theorem Ex.toLe {K : PySem.W.Frag} (h : Ex K B t ρ1 P) (l : Le ρ ρ1) : Ex K B t ρ P := h.le l
/-- a for whose slots are told turn by turn -/
theorem s_forR {body : List Stmt} (hi : Src X tg iter ρ ds ρ1 none) (R : Nat → Rho) (h0 : Le ρ1 (R 0)) (hb : ∀ i v, ds[i]? = some v → ∃ ρ2, GT X B tg v (R i) ρ2 ∧ Ss X B body ρ2 (bodyP P fun ρ => Le ρ (R (i + 1)))) (hd : ∀ ρ', Le ρ' (R ds.length) → P.nx ρ')
    (hp : PassesOwn (model X.prog X.w) X.A X.env X.xe := by exact PassesOwn.never) (hc : X.calm = true := by rfl) (hs : ∀ x, foldedSetIterable iter X.env x = pure x := by intro _; rfl) : S X B (.For tg iter body [] pos) ρ P := by
  refine s_for hi (fun i ρ => Le ρ (R i)) h0 (fun i v ρ' hv hI => ?_) hd hp hc hs
  obtain ⟨ρ2, g, h⟩ := hb i v hv
  refine ⟨_, (show GT X B tg v ρ' ρ2 from fun x σ HF H S1 r Q q => g x σ HF H (S1.le hI) r Q fun σ' S' b' => q σ' S' fun b => b' (b.le hI)), h⟩
/-- a for that folds -/
theorem s_forF {body : List Stmt} {α T : Type} {xs : List α} (enc : α → PyData) (hi : Src X tg iter ρ (xs.map enc) ρ1 none) (t0 : T) (step : T → α → T) (emb : T → Rho) (J : T → Nat → Prop) (hJ : J t0 0) (h0 : Le ρ1 (emb t0))
    (hb : ∀ t (i : Nat) x, xs[i]? = some x → J t i → J (step t x) (i + 1) ∧ ∃ ρ2, GT X B tg (enc x) (emb t) ρ2 ∧ Ss X B body ρ2 (bodyP P fun ρ => Le ρ (emb (step t x)))) (hd : ∀ ρ', J (xs.foldl step t0) xs.length → Le ρ' (emb (xs.foldl step t0)) → P.nx ρ')
    (hp : PassesOwn (model X.prog X.w) X.A X.env X.xe := by exact PassesOwn.never) (hc : X.calm = true := by rfl) (hs : ∀ x, foldedSetIterable iter X.env x = pure x := by intro _; rfl) : S X B (.For tg iter body [] pos) ρ P := by
  have hJall : ∀ i, i ≤ xs.length → J ((xs.take i).foldl step t0) i := fun i => by
    induction i with
    | zero => intro _; exact hJ
    | succ i ih =>
      intro hi
      have e := List.getElem?_eq_getElem (show i < xs.length by omega)
      rw [List.take_add_one, e, List.foldl_append]
      exact (hb _ i _ e (ih (by omega))).1
  refine s_forR hi (fun i => emb ((xs.take i).foldl step t0)) h0 (fun i v hv => ?_) (fun ρ' l => ?_) hp hc hs
  · rw [List.getElem?_map] at hv
    cases q : xs[i]? with
    | none => rw [q] at hv; cases hv
    | some x =>
      rw [q] at hv
      cases hv
      have hlt := (List.getElem?_eq_some_iff.mp q).1
      obtain ⟨_, ρ2, g, h⟩ := hb _ i x q (hJall i (by omega))
      refine ⟨ρ2, g, ?_⟩
      have e2 : (xs.take (i + 1)).foldl step t0 = step ((xs.take i).foldl step t0) x := by rw [List.take_add_one, q, List.foldl_append]; rfl
      rw [e2]
      exact h
  · rw [List.length_map, List.take_length] at l
    exact hd ρ' (by have := hJall xs.length (Nat.le_refl _); rwa [List.take_length] at this) l
/-- a while by a state -/
theorem s_whileR {c : Expr} {body : List Stmt} {T : Type} (emb : T → Rho) (μ : T → Nat) (J : T → Prop) (t0 : T) (hJ : J t0) (h0 : Le ρ (emb t0)) (hs : ∀ t, J t → ∃ b ρ1, ET X c (emb t) b ρ1 ∧ (b = true → Ss X B body ρ1 (bodyP P fun ρ2 => ∃ t', J t' ∧ μ t' < μ t ∧ Le ρ2 (emb t'))) ∧ (b = false → ∀ ρ', Le ρ' ρ1 → P.nx ρ'))
    (hp : PassesOwn (model X.prog X.w) X.A X.env X.xe := by exact PassesOwn.never) : S X B (.While c body [] pos) ρ P := by
  refine s_while (fun m ρ => ∃ t, J t ∧ μ t = m ∧ ρ = emb t) (μ t0) ⟨t0, hJ, rfl, rfl⟩ ?_ hp |> fun h => Ex.toLe h h0
  rintro m ρ' ⟨t, hj, rfl, rfl⟩
  obtain ⟨b, ρ1, h1, h2, h3⟩ := hs t hj
  refine ⟨b, ρ1, h1, fun hb => (h2 hb).leP fun ρ ⟨t', j', m', l⟩ => ⟨emb t', l, μ t', m', t', j', rfl, rfl⟩, fun hb => h3 hb ρ1 (.refl _)⟩
end
theorem map_get {α β : Type} {f : α → β} {xs : List α} {i : Nat} {y : β} (h : (xs.map f)[i]? = some y) : ∃ x, xs[i]? = some x ∧ y = f x := by
  rw [List.getElem?_map] at h
  cases q : xs[i]? with
  | none => rw [q] at h; cases h
  | some x => rw [q] at h; exact ⟨x, rfl, (Option.some.inj h).symm⟩
theorem getD_of {xs : List Int} {i : Nat} (h : i < xs.length) : xs[i]? = some (xs.getD i 0) := by
  rw [List.getD_eq_getElem?_getD, List.getElem?_eq_getElem h]
  rfl
theorem ints_at {xs : List Int} {i : Nat} (h : i < xs.length) : (xs.map PyData.int)[i]? = some (.int (xs.getD i 0)) := by
  rw [List.getElem?_map, getD_of h]
  rfl
theorem ints_set (xs : List Int) (i : Nat) (v : Int) : (xs.map PyData.int).set i (.int v) = (xs.set i v).map PyData.int := by rw [List.map_set]

/-! dicts from ints -/
section
variable {α : Type} (f : α → PyData)
def getI (m : List (Int × α)) (k : Int) : Option α := (m.find? fun kv => decide (kv.1 = k)).map (·.2)
def setI (m : List (Int × α)) (k : Int) (v : α) : List (Int × α) := if (m.any fun kv => decide (kv.1 = k)) = true then m.map (fun kv => if kv.1 = k then (kv.1, v) else kv) else m ++ [(k, v)]
def delI (m : List (Int × α)) (k : Int) : List (Int × α) := m.filter fun kv => decide (kv.1 ≠ k)
def encD (m : List (Int × α)) : List (Key × PyData) := m.map fun p => (Sum.inl p.1, f p.2)
theorem getK_enc (m : List (Int × α)) (k : Int) : getK (encD f m) (Sum.inl k) = (getI m k).map f := by
  unfold getK getI encD
  induction m with
  | nil => rfl
  | cons p m ih =>
    rw [List.map_cons, List.find?_cons, List.find?_cons]
    by_cases e : p.1 = k
    · simp [e]
    · have h1 : decide ((Sum.inl p.1 : Key) = Sum.inl k) = false := by simp [e]
      have h2 : decide (p.1 = k) = false := by simp [e]
      simp only [h1, h2]
      exact ih
theorem any_enc (m : List (Int × α)) (k : Int) : ((encD f m).any fun kv => decide (kv.1 = (Sum.inl k : Key))) = (m.any fun kv => decide (kv.1 = k)) := by
  unfold encD
  induction m with
  | nil => rfl
  | cons p m ih =>
    rw [List.map_cons, List.any_cons, List.any_cons, ih]
    congr 1
    simp
theorem setK_enc (m : List (Int × α)) (k : Int) (v : α) : setK (encD f m) (Sum.inl k) (f v) = encD f (setI m k v) := by
  unfold setK setI
  rw [any_enc]
  split
  · unfold encD
    rw [List.map_map, List.map_map]
    apply List.map_congr_left
    intro p _
    simp only [Function.comp]
    by_cases e : p.1 = k
    · simp [e]
    · simp [e]
  · unfold encD
    rw [List.map_append]
    rfl
theorem delK_enc (m : List (Int × α)) (k : Int) : delK (encD f m) (Sum.inl k) = encD f (delI m k) := by
  unfold delK delI encD
  rw [List.filter_map]
  congr 1
  apply List.filter_congr
  intro p _
  simp
theorem keys_enc (m : List (Int × α)) : (encD f m).map (·.1) = (m.map (·.1)).map Sum.inl := by
  unfold encD
  rw [List.map_map, List.map_map]
  rfl
theorem len_enc (m : List (Int × α)) : (encD f m).length = m.length := by unfold encD; rw [List.length_map]
variable {f}
theorem setI_len (m : List (Int × α)) (k : Int) (v : α) : (setI m k v).length ≤ m.length + 1 := by
  unfold setI
  split
  · rw [List.length_map]; omega
  · rw [List.length_append]; simp
theorem getI_some {m : List (Int × α)} {k : Int} (h : k ∈ m.map (·.1)) : ∃ v, getI m k = some v := by
  unfold getI
  induction m with
  | nil => cases h
  | cons p m ih =>
    rw [List.find?_cons]
    by_cases e : p.1 = k
    · exact ⟨p.2, by simp [e]⟩
    · have h2 : decide (p.1 = k) = false := by simp [e]
      rw [h2]
      rw [List.map_cons, List.mem_cons] at h
      exact ih (h.resolve_left fun z => e z.symm)
theorem getI_mem {m : List (Int × α)} {k : Int} {v : α} (h : getI m k = some v) : (k, v) ∈ m := by
  unfold getI at h
  cases q : m.find? fun kv => decide (kv.1 = k) with
  | none => rw [q] at h; cases h
  | some p =>
    rw [q] at h
    have h1 := List.mem_of_find?_eq_some q
    have h2 := List.find?_some q
    simp at h2
    have h3 : p.2 = v := Option.some.inj h
    rw [← h2, ← h3]
    exact h1
end
/-- items by place -/
theorem atI_nat' {α : Type} {xs : List α} {i : Int} (h0 : 0 ≤ i) : atI xs i = xs[i.toNat]? := by
  unfold atI ixN
  rw [if_pos h0]
  by_cases h : i < xs.length
  · rw [if_pos h]; rfl
  · rw [if_neg h]
    exact (List.getElem?_eq_none (by omega)).symm
theorem ixN_nat {n : Nat} {i : Int} (h0 : 0 ≤ i) (h : i < n) : ixN n i = some i.toNat := by
  unfold ixN
  rw [if_pos h0, if_pos h]
theorem take_cut {α : Type} (xs : List α) (k : Nat) : cut xs none (some (k : Int)) = xs.take k := by
  unfold cut
  rw [HT.sIx_none, HT.sIx_nat]
  simp
theorem drop_cut {α : Type} (xs : List α) (k : Nat) : cut xs (some (k : Int)) none = xs.drop k := by
  unfold cut
  rw [HT.sIx_none, HT.sIx_nat]
  by_cases h : k ≤ xs.length
  · rw [Nat.min_eq_left h]
    exact List.take_of_length_le (by simp)
  · rw [Nat.min_eq_right (by omega)]
    simp
    omega
theorem cut_mid {α : Type} (xs : List α) (a b : Nat) : cut xs (some (a : Int)) (some (b : Int)) = (xs.take b).drop a := by
  unfold cut
  rw [HT.sIx_nat, HT.sIx_nat]
  apply List.ext_getElem?
  intro i
  rw [List.getElem?_drop, List.getElem?_take, List.getElem?_take, List.getElem?_drop]
  by_cases h : a ≤ xs.length
  · rw [Nat.min_eq_left h]
    by_cases h2 : b ≤ xs.length
    · rw [Nat.min_eq_left h2]
      by_cases h3 : i < b - a
      · rw [if_pos h3, if_pos (by omega)]
      · rw [if_neg h3, if_neg (by omega)]
    · rw [Nat.min_eq_right (show xs.length ≤ b by omega)]
      by_cases h3 : i < xs.length - a
      · rw [if_pos h3, if_pos (by omega)]
      · rw [if_neg h3]
        split
        · exact (List.getElem?_eq_none (by omega)).symm
        · rfl
  · rw [Nat.min_eq_right (show xs.length ≤ a by omega)]
    rw [List.getElem?_eq_none (show xs.length ≤ xs.length + i by omega), List.getElem?_eq_none (show xs.length ≤ a + i by omega)]
    split <;> split <;> rfl
end Th

set_option Elab.async false
set_option linter.all false
set_option maxRecDepth 100000
namespace Th
open PySem PySem.Spec PyProof.Rows L2

/-! data that can be compared -/
def Fit (n : Nat) (d : PyData) : Prop := d.canLay0 = true ∧ d.depth ≤ n
theorem Fit.shaped {n : Nat} {d : PyData} (h : Fit n d) (hn : n ≤ 64 := by decide) : SeqAt.shaped d = true := by
  unfold SeqAt.shaped
  rw [h.1, decide_eq_true (Nat.le_trans h.2 hn)]
  rfl
theorem fit_int {n : Nat} (i : Int) : Fit n (.int i) := ⟨rfl, Nat.zero_le _⟩
theorem fit_bool {n : Nat} (i : Bool) : Fit n (.bool i) := ⟨rfl, Nat.zero_le _⟩
theorem fit_none {n : Nat} : Fit n .none := ⟨rfl, Nat.zero_le _⟩
theorem fit_str {n : Nat} {x : Str} (h : PyData.strOk x = true) : Fit n (.str x) := ⟨h, Nat.zero_le _⟩
theorem fitAll {n : Nat} : ∀ {xs : List PyData}, (∀ x ∈ xs, Fit n x) → PyData.canLayAll0 xs = true ∧ PyData.depthAll xs ≤ n
  | [], _ => ⟨rfl, Nat.zero_le _⟩
  | x :: xs, h => by
    have h1 := h x List.mem_cons_self
    have h2 := fitAll (xs := xs) fun y hy => h y (List.mem_cons_of_mem _ hy)
    refine ⟨?_, ?_⟩
    · unfold PyData.canLayAll0
      rw [h1.1, h2.1]
      rfl
    · unfold PyData.depthAll
      exact Nat.max_le.mpr ⟨h1.2, h2.2⟩
theorem fit_list {n : Nat} {xs : List PyData} (h : ∀ x ∈ xs, Fit n x) : Fit (n + 1) (.list xs) := by
  have := fitAll h
  refine ⟨?_, ?_⟩
  · unfold PyData.canLay0; exact this.1
  · unfold PyData.depth; omega
theorem fit_tuple {n : Nat} {xs : List PyData} (h : ∀ x ∈ xs, Fit n x) : Fit (n + 1) (.tuple xs) := by
  have := fitAll h
  refine ⟨?_, ?_⟩
  · unfold PyData.canLay0; exact this.1
  · unfold PyData.depth; omega
theorem fit_mono {n m : Nat} {d : PyData} (h : Fit n d) (hm : n ≤ m) : Fit m d := ⟨h.1, Nat.le_trans h.2 hm⟩
theorem fit_lm {n : Nat} {α : Type} {f : α → PyData} {xs : List α} (h : ∀ x ∈ xs, Fit n (f x)) : Fit (n + 1) (.list (xs.map f)) := fit_list fun y hy => by
  obtain ⟨x, hx, rfl⟩ := List.mem_map.mp hy
  exact h x hx
theorem fit_tm {n : Nat} {α : Type} {f : α → PyData} {xs : List α} (h : ∀ x ∈ xs, Fit n (f x)) : Fit (n + 1) (.tuple (xs.map f)) := fit_tuple fun y hy => by
  obtain ⟨x, hx, rfl⟩ := List.mem_map.mp hy
  exact h x hx
theorem fit_t2 {n : Nat} {a b : PyData} (h1 : Fit n a) (h2 : Fit n b) : Fit (n + 1) (.tuple [a, b]) := fit_tuple fun y hy => by
  rcases List.mem_cons.mp hy with rfl | hy
  · exact h1
  · rcases List.mem_cons.mp hy with rfl | hy
    · exact h2
    · cases hy
/-- == tells the same as = -/
def EqE {α : Type} [DecidableEq α] (f : α → PyData) : Prop := ∀ a b, PyData.eqv (f a) (f b) = decide (a = b)
theorem eqE_int : EqE PyData.int := fun a b => by
  unfold PyData.eqv
  by_cases h : a = b <;> simp [h]
theorem eqE_str : EqE PyData.str := fun a b => by
  unfold PyData.eqv
  by_cases h : a = b <;> simp [h]
theorem eqE_all {α : Type} [DecidableEq α] {f : α → PyData} (h : EqE f) : ∀ xs ys : List α, PyData.eqvAll (xs.map f) (ys.map f) = decide (xs = ys)
  | [], [] => rfl
  | [], _ :: _ => rfl
  | _ :: _, [] => rfl
  | x :: xs, y :: ys => by
    rw [List.map_cons, List.map_cons]
    unfold PyData.eqvAll
    rw [h x y, eqE_all h xs ys]
    by_cases e : x = y <;> by_cases e2 : xs = ys <;> simp [e, e2]
theorem eqE_list {α : Type} [DecidableEq α] {f : α → PyData} (h : EqE f) : EqE fun xs : List α => PyData.list (xs.map f) := fun xs ys => by
  show PyData.eqv (.list _) (.list _) = _
  unfold PyData.eqv
  exact eqE_all h xs ys
theorem eqE_tuple {α : Type} [DecidableEq α] {f : α → PyData} (h : EqE f) : EqE fun xs : List α => PyData.tuple (xs.map f) := fun xs ys => by
  show PyData.eqv (.tuple _) (.tuple _) = _
  unfold PyData.eqv
  exact eqE_all h xs ys
theorem eqE_pair {α β : Type} [DecidableEq α] [DecidableEq β] {f : α → PyData} {g : β → PyData} (h1 : EqE f) (h2 : EqE g) : EqE fun p : α × β => PyData.tuple [f p.1, g p.2] := fun p q => by
  obtain ⟨a, b⟩ := p
  obtain ⟨c, d⟩ := q
  show PyData.eqv (.tuple _) (.tuple _) = _
  unfold PyData.eqv PyData.eqvAll PyData.eqvAll PyData.eqvAll
  simp only [h1 a c, h2 b d]
  by_cases e : a = c <;> by_cases e2 : b = d <;> simp [e, e2]
theorem eqE_triple {α β γ : Type} [DecidableEq α] [DecidableEq β] [DecidableEq γ] {f : α → PyData} {g : β → PyData} {k : γ → PyData} (h1 : EqE f) (h2 : EqE g) (h3 : EqE k) : EqE fun p : α × β × γ => PyData.tuple [f p.1, g p.2.1, k p.2.2] := fun p q => by
  obtain ⟨a, b, x⟩ := p
  obtain ⟨c, d, y⟩ := q
  show PyData.eqv (.tuple _) (.tuple _) = _
  unfold PyData.eqv PyData.eqvAll PyData.eqvAll PyData.eqvAll PyData.eqvAll
  simp only [h1 a c, h2 b d, h3 x y]
  by_cases e : a = c <;> by_cases e2 : b = d <;> by_cases e3 : x = y <;> simp [e, e2, e3]

/-! items of written lists -/
theorem at_ints {xs : List Int} {i : Int} (h0 : 0 ≤ i) (h : i < xs.length) : atI (xs.map PyData.int) i = some (.int (xs.getD i.toNat 0)) := by
  rw [atI_nat' h0]
  exact ints_at (by omega)
theorem at_i2 {a b i : Int} (h0 : 0 ≤ i) (h : i < 2) : atI [PyData.int a, .int b] i = some (.int ([a, b].getD i.toNat 0)) := at_ints (xs := [a, b]) h0 h
theorem at_i3 {a b c i : Int} (h0 : 0 ≤ i) (h : i < 3) : atI [PyData.int a, .int b, .int c] i = some (.int ([a, b, c].getD i.toNat 0)) := at_ints (xs := [a, b, c]) h0 h
theorem at_i4 {a b c d i : Int} (h0 : 0 ≤ i) (h : i < 4) : atI [PyData.int a, .int b, .int c, .int d] i = some (.int ([a, b, c, d].getD i.toNat 0)) := at_ints (xs := [a, b, c, d]) h0 h
theorem at_get {xs : List PyData} {i : Int} {v : PyData} (h0 : 0 ≤ i) (h : xs[i.toNat]? = some v) : atI xs i = some v := (atI_nat' h0).trans h
theorem emod_lo {a b : Int} (h : 0 < b := by decide) : 0 ≤ a % b := Int.emod_nonneg _ (by omega)
theorem emod_hi {a b : Int} (h : 0 < b := by decide) : a % b < b := Int.emod_lt_of_pos _ h

/-! isinstance -/
inductive Ty where
  | bool | int | str | list | tuple | dict
def Ty.nm : Ty → String
  | .bool => "bool"
  | .int => "int"
  | .str => "str"
  | .list => "list"
  | .tuple => "tuple"
  | .dict => "dict"
def isi : PyData → Ty → Bool
  | .bool _, .bool => true
  | .bool _, .int => true
  | .int _, .int => true
  | .str _, .str => true
  | .list _, .list => true
  | .tuple _, .tuple => true
  | .dict _, .dict => true
  | _, _ => false
theorem kit_isi (v : PyData) (T : Ty) : kitB (tyD v) T.nm = some (isi v T) := by
  have h : ∀ s ∈ ["NoneType", "bool", "int", "str", "list", "tuple", "dict"], ∀ t ∈ ["bool", "int", "str", "list", "tuple", "dict"], kitB s t = some (s == t || (s == "bool" && t == "int")) := by decide +kernel
  have hv : tyD v ∈ ["NoneType", "bool", "int", "str", "list", "tuple", "dict"] := by cases v <;> simp [tyD]
  have hT : T.nm ∈ ["bool", "int", "str", "list", "tuple", "dict"] := by cases T <;> simp [Ty.nm]
  rw [h _ hv _ hT]
  cases v <;> cases T <;> rfl
theorem boot_ty (T : Ty) : bootBuiltins (Str.ofString T.nm) = some (.type T.nm) := by
  cases T <;> decide +kernel
/-! slots that hold no own object -/
def noOwn (ρ : Rho) (vs : List Nat) : Bool := vs.all fun i => match ρ[i]? with
  | some a => !a.own
  | none => true
theorem no_own {ρ : Rho} {vs : List Nat} (h : noOwn ρ vs = true) : ∀ (j : Nat) (a : A), j ∈ vs → ρ[j]? = some a → a.own = false := fun j a hj e => by
  unfold noOwn at h
  have := List.all_eq_true.mp h j hj
  rw [e] at this
  simpa using this
section
variable {X : Cx} {B : Bs} {P : Pst} {ρ ρ1 ρ2 ρ3 : Rho} {tg iter e e1 e2 : Expr} {es : List Expr} {pos : Pos} {ds : List PyData} {k : Option Nat} {i j : Int}
theorem e_mulS (ha : E X e1 ρ (.d (.int i)) ρ1) (hb : E X e2 ρ1 (.d (.int j)) ρ2) (hc : CMul i j) : E X (.BinOp e1 .Mult e2 pos) ρ (.d (.int (i * j))) ρ2 := .of (pe_op op_mul pe_w pe_w) (ev_op ha hb (rv_I hc fun _ => .int _))
theorem e_is (T : Ty) {v : PyData} {pt pn : Pos} (h : EO X e ρ v ρ1 k) (hm : X.mg "isinstance" = none) (hmt : X.mg (Str.ofString T.nm) = none) (hg : Gl X "isinstance" := by rfl) (hgt : Gl X (Str.ofString T.nm) := by rfl) (hn : (Str.ofString T.nm) ≠ "__name__" := by decide) (hd : ((Str.ofString T.nm) == ("__debug__" : Str)) = false := by decide)
    (he : starEach [e, .Name (Str.ofString T.nm) pt] X.env = (false, eval e X.env) :: starEach [.Name (Str.ofString T.nm) pt] X.env := by rfl) (he2 : starEach [.Name (Str.ofString T.nm) pt] X.env = (false, eval (.Name (Str.ofString T.nm) pt) X.env) :: starEach [] X.env := by rfl) (hpl : (backTo pos (starEach [.Name (Str.ofString T.nm) pt] X.env)).any (·.1) = false := by rfl) : E X (.Call (.Name "isinstance" pn) [e, .Name (Str.ofString T.nm) pt] [] pos) ρ (.d (.bool (isi v T))) ρ1 :=
  e_isi (T := T.nm) h (kit_isi v T) (boot_ty T) hm hmt hg hgt hn hd he he2 hpl
/-- a comprehension over typed items -/
theorem e_lcF {α : Type} {xs : List α} {scope : Scope} (own : List (Str × Nat)) {elt : Expr} {ifs : List Expr} (enc : α → PyData) (p : α → Bool) (g : α → PyData)
    (ht : Src X tg iter ρ (xs.map enc) ρ1 k) (hN : X.N.Nodup) (hz : xs.length < 100000)
    (hb : ∀ (i : Nat) (x : α), xs[i]? = some x → ∃ ρ2 : Rho, (∀ (s : Shared) (H : Hp) (C : Addr) (cl : List (Str × Addr)) (fp : List Addr), GC (X.blk s H scope (compEnvC scope cl C X.env) fp) (own.map (·.2)) tg (enc x) (wipeR ρ1 (own.map (·.2))) ρ2) ∧
      (∀ (s : Shared) (H : Hp) (C : Addr) (cl : List (Str × Addr)) (fp : List Addr), EI (X.blk s H scope (compEnvC scope cl C X.env) fp) ifs ρ2 (p x) ρ2) ∧
      (p x = true → ∀ (s : Shared) (H : Hp) (C : Addr) (cl : List (Str × Addr)) (fp : List Addr), E (X.blk s H scope (compEnvC scope cl C X.env) fp) elt ρ2 (.d (g x)) ρ2) ∧ wipeR ρ2 (own.map (·.2)) = wipeR ρ1 (own.map (·.2)))
    (hv : noOwn ρ1 (own.map (·.2)) = true) (hkk : ∀ j, k = some j → j ∉ own.map (·.2)) (ok : BlkOk X.N X.env.scope scope own)
    (hc : X.calm = true := by rfl) (hs : ∀ x, foldedSetIterable iter X.env x = pure x := by intro _; rfl) : E X (.ListComp elt [⟨tg, iter, ifs, 0⟩] scope pos) ρ (.ml ((xs.filter p).map g)) ρ1 := by
  refine ev_lc (out := (xs.filter p).map g) (D0 := []) ht ok hN (fun i ρ' acc => ρ' = wipeR ρ1 (own.map (·.2)) ∧ acc = ((xs.take i).filter p).map g) ⟨rfl, rfl⟩ (fun i ρ' acc ⟨e, _⟩ => ⟨?_, hkk⟩) (fun i v ρ' acc hi ⟨e1, e2⟩ => ?_) (fun ρ' acc ⟨e1, e2⟩ => ?_) (by rw [List.length_map]; exact Nat.lt_of_lt_of_le hz (by decide)) (fun i ρ' acc ⟨_, e⟩ => ?_) hc hs
  · subst e
    cases k with
    | none => trivial
    | some j => exact wipeR_off (hkk j rfl)
  · subst e1
    obtain ⟨x, hx, rfl⟩ := map_get hi
    obtain ⟨ρ2, h1, h2, h3, h4⟩ := hb i x hx
    have tk : xs.take (i + 1) = xs.take i ++ [x] := by rw [List.take_add_one, hx]; rfl
    refine ⟨ρ2, p x, ρ2, h1, h2, fun z => ⟨g x, ρ2, h3 z, h4, ?_⟩, fun z => ⟨h4, ?_⟩⟩
    · rw [e2, tk, List.filter_append, List.map_append]
      simp [z]
    · rw [e2, tk, List.filter_append, List.map_append]
      simp [z]
  · subst e1
    rw [List.length_map, List.take_length] at e2
    exact ⟨e2, unw_id (no_own hv)⟩
  · rw [e, List.length_map]
    refine Nat.le_trans (List.length_filter_le _ _) ?_
    rw [List.length_take]
    exact Nat.min_le_left _ _
/-- .. without a test -/
theorem e_lcM {α : Type} {xs : List α} {scope : Scope} (own : List (Str × Nat)) {elt : Expr} (enc : α → PyData) (g : α → PyData)
    (ht : Src X tg iter ρ (xs.map enc) ρ1 k) (hN : X.N.Nodup) (hz : xs.length < 100000)
    (hb : ∀ (i : Nat) (x : α), xs[i]? = some x → ∃ ρ2 : Rho, (∀ (s : Shared) (H : Hp) (C : Addr) (cl : List (Str × Addr)) (fp : List Addr), GC (X.blk s H scope (compEnvC scope cl C X.env) fp) (own.map (·.2)) tg (enc x) (wipeR ρ1 (own.map (·.2))) ρ2) ∧
      (∀ (s : Shared) (H : Hp) (C : Addr) (cl : List (Str × Addr)) (fp : List Addr), E (X.blk s H scope (compEnvC scope cl C X.env) fp) elt ρ2 (.d (g x)) ρ2) ∧ wipeR ρ2 (own.map (·.2)) = wipeR ρ1 (own.map (·.2)))
    (hv : noOwn ρ1 (own.map (·.2)) = true) (hkk : ∀ j, k = some j → j ∉ own.map (·.2)) (ok : BlkOk X.N X.env.scope scope own)
    (hc : X.calm = true := by rfl) (hs : ∀ x, foldedSetIterable iter X.env x = pure x := by intro _; rfl) : E X (.ListComp elt [⟨tg, iter, [], 0⟩] scope pos) ρ (.ml (xs.map g)) ρ1 := by
  have h := e_lcF (pos := pos) (elt := elt) (ifs := []) own enc (fun _ => true) g ht hN hz (fun i x hx => by
    obtain ⟨ρ2, h1, h2, h3⟩ := hb i x hx
    exact ⟨ρ2, h1, fun s H C cl fp => i_nil, fun _ => h2, h3⟩) hv hkk ok hc hs
  rwa [List.filter_eq_self.mpr fun _ _ => rfl] at h
theorem gcn {vs : List Nat} (i : Nat) {x : Str} {v : PyData} (hv : noOwn ρ vs = true) (hm : i ∈ vs) (hN : X.N.Nodup) (hi : X.N[i]? = some x := by rfl) (hx : Loc X.env.scope x := by first | exact Or.inl rfl | exact Or.inr rfl) (hf : X.fn x = true ∨ X.env.scope.names.lookup x = some .local := by first | exact .inl rfl | exact .inr rfl) :
    GC X vs (.Name x pos) v ρ (ρ.set i (.d v)) := gc_name i (fun a h => no_own hv i a hm h) (no_own hv) hm hN hi hx hf
theorem gcsn {vs : List Nat} (hv : noOwn ρ vs = true) : GCs X vs [] [] ρ ρ := gcs_nil (no_own hv)
end
end Th

set_option Elab.async false
set_option linter.all false
set_option maxRecDepth 100000
namespace Th
open PySem PySem.Spec PyProof.Rows L2

theorem own_map {ds : List PyData} : ∀ a ∈ ds.map A.d, a.own = false := fun a h => by
  obtain ⟨d, _, rfl⟩ := List.mem_map.mp h
  rfl
theorem pr_pure {r : A} {ds : List PyData} {ρ : Rho} : PR r (ds.map A.d) r ρ := pr_data own_map
theorem pr_is {r a : A} {ds : List PyData} {ρ : Rho} (h : a = r) : PR r (ds.map A.d) a ρ := h ▸ pr_pure
section
variable {P : Program} {w : World} {K : PySem.W.Frag} {mg : Str → Option Value} {base : Heap}
/-- a def that takes data and changes nothing -/
theorem fn_pure {x qual : Str} {st : Stmt} {f : Addr} {fd : FuncData} {N ps : List Str} {k : Nat} {F : List PyData → A → Prop} (G : Fun K x qual st f fd) (S0 : FnScope N ps (defScope st)) (hn : ps.length ≤ N.length) (hF : ∀ ds r, F ds r → ds.length = ps.length)
    (hbody : ∀ (cdv : Value) (A1 : Around) (outer : List Env) (s : Shared) (H : Hp) (W : XK) (B : Bs) (ds : List PyData) (r : A), Room k (A1.deeper (envOfC qual (defScope st) s.heap.objs.size f cdv)) → F ds r → (∀ q ∈ B.L, q.1 ∈ ([] : List Nat)) →
      Ss (cxOf CX0 P w K mg base N qual (defScope st) f cdv A1 outer s H W).nox B (defBody st) (ds.map A.d ++ List.replicate (N.length - ps.length) .any) (PF r (ds.map A.d))) : FnOk P w K mg base CX0 (k + 1) f fd ps (spA K (pure_ F)) :=
  fn_ok G S0 (fun as r as' ⟨ds, e, _, h⟩ => by rw [e, List.length_map]; exact hF ds r h) hn [] (fun as r as' ⟨ds, e, _, h⟩ i a e2 o => by
    rw [e] at e2
    have := own_map a (List.mem_of_getElem? e2)
    rw [o] at this
    cases this) fun cdv A1 outer s H W B as r as' hr ⟨ds, e1, e2, h⟩ hB => by
    subst e1
    subst e2
    exact hbody cdv A1 outer s H W B ds r hr h hB
end
section
variable {X : Cx} {B : Bs} {P : Pst} {ρ ρ1 ρ2 ρ3 : Rho} {tg iter e e1 e2 : Expr} {es : List Expr} {pos : Pos} {ds es1 es2 : List PyData} {k : Option Nat} {i j : Int} {b : Bool} {v w : PyData}
theorem toA_dat (ρ : Rho) : ∀ ds : List PyData, (ds.map Arg.dat).map (toA ρ) = ds.map A.d
  | [] => rfl
  | d :: ds => congrArg (A.d d :: ·) (toA_dat ρ ds)
theorem back_dat (ρ : Rho) : ∀ ds : List PyData, back (ds.map Arg.dat) (ds.map A.d) ρ = ρ
  | [] => by simp [back]
  | d :: ds => back_dat ρ ds
theorem lents_dat : ∀ ds : List PyData, lents (ds.map Arg.dat) = []
  | [] => rfl
  | d :: ds => lents_dat ds
theorem e_callP {F : List PyData → A → Prop} {n : Nat} {f : Addr} {fd : FuncData} {ps : List Str} {x : Str} {p : Pos} {r : A} (G : FnOk X.prog X.w X.K X.mg X.base CX0 n f fd ps (spA X.K (pure_ F))) (hr : Room n X.A) (hm : X.mg x = some (.ref f)) (hk : PySem.W.keepIn X.K (.ref f) = true) (hb : Binds X.K fd ps [])
    (ha : ED X (e :: es) ρ ds ρ1) (hF : F ds r) (hg : Gl X x := by rfl) (hdb : (x == ("__debug__" : Str)) = false := by decide) (he : starEach (e :: es) X.env = (false, eval e X.env) :: starEach es X.env := by rfl) (hpl : (backTo pos (starEach es X.env)).any (·.1) = false := by rfl) :
    E X (.Call (.Name x p) (e :: es) [] pos) ρ r ρ1 := by
  have h := e_call (r := r) (as' := ds.map A.d) (pos := pos) (p := p) G hr hm hk hb ha.args ⟨ds, toA_dat _ ds, (toA_dat _ ds).symm, hF⟩ (by rw [toA_dat]; exact .refl _) (by rw [lents_dat]; exact List.nodup_nil) (fun _ _ z => z.elim) hg hdb he hpl
  rwa [back_dat] at h
/-- an if whose ways meet -/
theorem s_ifR (ρm : Rho) {c : Expr} {s1 s2 : List Stmt} (hc : ET X c ρ b ρ1) (h1 : b = true → Ss X B s1 ρ1 ⟨fun ρ' => Le ρ' ρm, P.rt, P.bk, P.ct⟩) (h2 : b = false → Ss X B s2 ρ1 ⟨fun ρ' => Le ρ' ρm, P.rt, P.bk, P.ct⟩) (hd : ∀ ρ', Le ρ' ρm → P.nx ρ') : S X B (.If c s1 s2 pos) ρ P := by
  have key : ∀ {s : List Stmt}, Ss X B s ρ1 ⟨fun ρ' => Le ρ' ρm, P.rt, P.bk, P.ct⟩ → Ss X B s ρ1 P := fun h σ HF H S1 bn D o => h σ HF H S1 bn D ⟨fun ρ' σ' HF' H' l S' b' s => o.nx ρ' σ' HF' H' (hd ρ' l) S' b' s, o.rt, o.bk, o.ct⟩
  exact s_if hc (fun h => key (h1 h)) fun h => key (h2 h)
/-- the same for a block: what follows is read once -/
theorem E.toA (h : E X e ρ (.ml ds) ρ1) (q : ds = es1) : E X e ρ (.ml es1) ρ1 := q ▸ h
theorem e_min2 {pn : Pos} (ha : ED X [e1, e2] ρ [.int i, .int j] ρ1) (hm : X.mg "min" = none) (hg : Gl X "min" := by rfl) (hc : X.calm = true := by rfl) (he : starEach [e1, e2] X.env = (false, eval e1 X.env) :: starEach [e2] X.env := by rfl) (hpl : (backTo pos (starEach [e2] X.env)).any (·.1) = false := by rfl) :
    E X (.Call (.Name "min" pn) [e1, e2] [] pos) ρ (.d (.int (min i j))) ρ1 := .of (pe_callB (call_min2 hc) hg hm (by decide +kernel) pa_w (by decide) (by decide) he hpl) fun σ HF H S1 Q q => ha σ HF H S1 _ fun xs HF1 H1 S2 f1 r1 => by
  cases r1 with
  | cons r1 r2 =>
    cases r2 with
    | cons r2 r3 =>
      cases r3; cases r1; cases r2
      exact ⟨i, j, rfl, by rw [show (if j < i then j else i) = min i j by split <;> omega]; exact q _ HF1 H1 S2 f1 (.int _)⟩
theorem e_max2 {pn : Pos} (ha : ED X [e1, e2] ρ [.int i, .int j] ρ1) (hm : X.mg "max" = none) (hg : Gl X "max" := by rfl) (hc : X.calm = true := by rfl) (he : starEach [e1, e2] X.env = (false, eval e1 X.env) :: starEach [e2] X.env := by rfl) (hpl : (backTo pos (starEach [e2] X.env)).any (·.1) = false := by rfl) :
    E X (.Call (.Name "max" pn) [e1, e2] [] pos) ρ (.d (.int (max i j))) ρ1 := .of (pe_callB (call_max2 hc) hg hm (by decide +kernel) pa_w (by decide) (by decide) he hpl) fun σ HF H S1 Q q => ha σ HF H S1 _ fun xs HF1 H1 S2 f1 r1 => by
  cases r1 with
  | cons r1 r2 =>
    cases r2 with
    | cons r2 r3 =>
      cases r3; cases r1; cases r2
      exact ⟨i, j, rfl, by rw [show (if j > i then j else i) = max i j by split <;> omega]; exact q _ HF1 H1 S2 f1 (.int _)⟩
theorem e_modN (ha : E X e1 ρ (.d (.int i)) ρ1) (hb : E X e2 ρ1 (.d (.int j)) ρ2) (hc : j ≠ 0) : E X (.BinOp e1 .Mod e2 pos) ρ (.d (.int (i.fmod j))) ρ2 := .of (pe_op op_modN pe_w pe_w) (ev_op ha hb (rv_I (C := fun _ j => j ≠ 0) hc fun _ => .int _))
theorem e_divN (ha : E X e1 ρ (.d (.int i)) ρ1) (hb : E X e2 ρ1 (.d (.int j)) ρ2) (hc : CDivN i j) : E X (.BinOp e1 .FloorDiv e2 pos) ρ (.d (.int (i.fdiv j))) ρ2 := .of (pe_op op_fdivN pe_w pe_w) (ev_op ha hb (rv_I hc fun _ => .int _))
/-- t + u of tuples -/
theorem e_catT (ha : E X e1 ρ (.d (.tuple es1)) ρ1) (hb : E X e2 ρ1 (.d (.tuple es2)) ρ2) (hz : es1.length + es2.length ≤ 100000) : E X (.BinOp e1 .Add e2 pos) ρ (.d (.tuple (es1 ++ es2))) ρ2 :=
  .of (pe_op op_catA pe_w pe_w) fun σ HF H S1 Q q => ha σ HF H S1 _ fun x HF1 H1 S2 f1 r1 => hb σ HF1 H1 S2 _ fun y HF2 H2 S3 f2 r2 => by
    have r1' := dp_mono f2.hf r1
    have f := f1.trans f2
    cases r1' with
    | @tup a xs _ h1 h2 =>
      cases r2 with
      | @tup b ys _ g1 g2 =>
        have l1 := dpa_len h2
        have l2 := dpa_len g2
        refine ⟨a, b, xs, ys, rfl, rfl, same_t S3.sub h1, same_t S3.sub g1, Nat.le_trans (by omega) (show 100000 ≤ sizeLine by decide), fun e => ?_, fun _ e => ?_, fun _ _ p hp => ?_⟩
        · subst e
          cases h2
          exact q _ HF2 H2 S3 f (.tup g1 g2)
        · subst e
          cases g2
          rw [List.append_nil] at q
          exact q _ HF2 H2 S3 f (.tup h1 h2)
        · obtain ⟨S4, f4⟩ := S3.allocD hp (.tup (xs ++ ys))
          exact q _ _ _ S4 (f.trans f4) (.tup (.inl (.inl upd_same)) (dpa_mono f4.hf (dpa_app h2 g2)))
end
/-- the script -/
theorem law_in {K : PySem.W.Frag} {F : List PyData → A → Prop} {H : Hp} {a : Addr} {ms : List Int} (hF : ∃ ns : List Int, ns.length ≤ 63 ∧ ms = ns ∧ [PyData.list (ms.map .int)] = [PyData.list (ns.map .int)] ∧ (A.d (.bool true)) = .d (.bool true)) (hS : SqL K H a (ms.map V.int)) {E : XK}
    (hf : F [.list (ms.map .int)] (.d (.bool true)) := by assumption) : spA K (pure_ F) [.ref a] H (fun v _ => v = .bl true) E := by
  refine ⟨H, [.d (.list (ms.map .int))], .d (.bool true), [.d (.list (ms.map .int))], ⟨rfl, .refl _, fun i a h => ?_, fun i j a b p h1 h2 o1 o2 e1 e2 => ?_⟩, ⟨_, rfl, rfl, hf⟩, .refl _, fun x HF' H' _ _ r => ?_⟩
  · have hi : i = 0 := by
      have := (List.getElem?_eq_some_iff.mp h).1
      simp at this
      exact this
    subst hi
    cases h
    exact ⟨_, rfl, _, rfl, .lst hS (dpa_ints ms)⟩
  · have := List.mem_of_getElem? h1
    rw [List.mem_singleton] at this
    subst this
    cases o1
  · cases (show Dp K HF' x (.bool true) from r)
    rfl
/-- every law: a script of at most 63 ints, and True -/
def lawF : List PyData → A → Prop := fun ds r => ∃ ns : List Int, ns.length ≤ 63 ∧ ds = [.list (ns.map .int)] ∧ r = .d (.bool true)
theorem law_go {K : PySem.W.Frag} {H : Hp} {a : Addr} {ns : List Int} (hl : ns.length ≤ 63) (hS : SqL K H a (ns.map V.int)) {E : XK} : spA K (pure_ lawF) [.ref a] H (fun v _ => v = .bl true) E :=
  law_in ⟨ns, hl, rfl, rfl, rfl⟩ hS ⟨ns, hl, rfl, rfl⟩
end Th

set_option Elab.async false
set_option linter.all false
set_option maxRecDepth 100000
namespace Th
open PySem PySem.Spec PyProof.Rows L2

/-! own lists handed over to be read -/
mutual
def noL : PyData → Bool
  | .list _ => false
  | .tuple xs => noLs xs
  | .dict _ => false
  | _ => true
def noLs : List PyData → Bool
  | [] => true
  | x :: xs => noL x && noLs xs
end
def noA : A → Bool
  | .d v => noL v
  | .ml xs => noLs xs
  | .tw l => l.all fun z => match z with | .inl zs => noLs zs | .inr v => noL v
  | _ => false
section
variable {K : PySem.W.Frag} {HF HF2 : Hp}
mutual
theorem dp_noL (h : ∀ b o, HF b = some o → (∀ ys, o ≠ .lst ys) → HF2 b = some o) : ∀ {v : V} {d : PyData}, noL d = true → Dp K HF v d → Dp K HF2 v d
  | _, _, _, .non => .non
  | _, _, _, .bl b => .bl b
  | _, _, _, .int i => .int i
  | _, _, _, .str x => .str x
  | _, _, e, .lst _ _ => by cases e
  | _, _, e, .tup a b => by
    refine .tup ?_ (dpa_noL h (by unfold noL at e; exact e) b)
    rcases a with (a | ⟨o, a⟩) | a
    · exact .inl (.inl (h _ _ a fun _ z => nomatch z))
    · exact .inl (.inr ⟨o, h _ _ a fun _ z => nomatch z⟩)
    · exact .inr a
theorem dpa_noL (h : ∀ b o, HF b = some o → (∀ ys, o ≠ .lst ys) → HF2 b = some o) : ∀ {vs : List V} {ds : List PyData}, noLs ds = true → DpAll K HF vs ds → DpAll K HF2 vs ds
  | _, _, _, .nil => .nil
  | _, _, e, .cons a b => by
    unfold noLs at e
    rw [Bool.and_eq_true] at e
    exact .cons (dp_noL h e.1 a) (dpa_noL h e.2 b)
end
end
inductive Pk : List A → List PyData → Prop
  | nil : Pk [] []
  | d {v : PyData} {as : List A} {ds : List PyData} (h : Pk as ds) : Pk (.d v :: as) (v :: ds)
  | ml {xs : List PyData} {as : List A} {ds : List PyData} (h : Pk as ds) : Pk (.ml xs :: as) (.list xs :: ds)
theorem Pk.len : ∀ {as : List A} {ds : List PyData}, Pk as ds → as.length = ds.length
  | _, _, .nil => rfl
  | _, _, .d h => congrArg (· + 1) h.len
  | _, _, .ml h => congrArg (· + 1) h.len
theorem Pk.get : ∀ {as : List A} {ds : List PyData} {i : Nat} {d : PyData}, Pk as ds → ds[i]? = some d → as[i]? = some (.d d) ∨ ∃ xs, as[i]? = some (.ml xs) ∧ d = .list xs
  | _, _, _, _, .nil, h => by simp at h
  | _, _, 0, _, .d _, h => .inl (by simp at h; subst h; rfl)
  | _, _, 0, _, .ml _, h => .inr ⟨_, rfl, by simp at h; exact h.symm⟩
  | _, _, i + 1, _, .d t, h => Pk.get (i := i) t (by simpa using h)
  | _, _, i + 1, _, .ml t, h => Pk.get (i := i) t (by simpa using h)
theorem Pk.own : ∀ {as : List A} {ds : List PyData} {i : Nat} {a : A}, Pk as ds → as[i]? = some a → a.own = true → ∃ xs, a = .ml xs ∧ ds[i]? = some (.list xs)
  | _, _, _, _, .nil, h, _ => by simp at h
  | _, _, 0, _, .d _, h, o => by simp at h; subst h; cases o
  | _, _, 0, _, .ml _, h, o => by simp at h; subst h; exact ⟨_, rfl, rfl⟩
  | _, _, i + 1, _, .d t, h, o => Pk.own (i := i) t (by simpa using h) o
  | _, _, i + 1, _, .ml t, h, o => Pk.own (i := i) t (by simpa using h) o
def peek (F : List PyData → A → Prop) : Fs := fun as r as' => ∃ ds, as' = as ∧ Pk as ds ∧ F ds r ∧ noA r = true
open Classical in
theorem peek_pure {K : PySem.W.Frag} {F : List PyData → A → Prop} (vs : List V) (H : Hp) (Q : VK) (E : XK) (h : spA K (peek F) vs H Q E) : spA K (pure_ F) vs H Q E := by
  obtain ⟨HF, as0, r, as, S1, ⟨ds, rfl, pk, hF, hn⟩, hsh, q⟩ := h
  let O : Addr → Prop := fun b => OwnAt as (vs.map some) b
  let HF1 : Hp := fun b => if O b then H b else HF b
  have hs1 : Same HF HF1 := fun b o e => by
    show (if O b then H b else HF b) = some o
    split
    · exact S1.sub b o e
    · exact e
  have olst : ∀ b, O b → ∃ ys, H b = some (.lst ys) := fun b ⟨i, a, h1, h2, h3⟩ => by
    obtain ⟨xs, rfl, _⟩ := pk.own h1 h2
    obtain ⟨p, o, e, _, g2, g3⟩ := S1.ownAt h1 h2
    rw [h3] at e
    cases e
    cases o <;> first | exact g3.elim | skip
    exact ⟨_, g2⟩
  have onone : ∀ b, O b → HF b = none := fun b z => (S1.ownAt' (show OwnAt as (vs.map some) b from z)).1
  have Sp : Sl K (ds.map A.d) (vs.map some) HF1 H := by
    refine ⟨by rw [S1.len, List.length_map]; exact pk.len, fun b o e => ?_, fun i a h => ?_, fun i j a b p h1 _ o1 _ _ _ => ?_⟩
    · have e : (if O b then H b else HF b) = some o := e
      split at e
      · exact e
      · exact S1.sub b o e
    · rw [List.getElem?_map] at h
      cases hd : ds[i]? with
      | none => rw [hd] at h; cases h
      | some d =>
        rw [hd] at h
        cases h
        rcases pk.get hd with h1 | ⟨xs, h1, rfl⟩
        · obtain ⟨s, e, x, rfl, g⟩ := S1.slot i _ h1
          exact ⟨_, e, x, rfl, dp_mono hs1 g⟩
        · obtain ⟨p, o, e, g1, g2, g3⟩ := S1.ownAt h1 rfl
          cases o <;> first | exact g3.elim | skip
          rename_i ys
          refine ⟨_, e, .ref p, rfl, .lst (.inl (.inl ?_)) (dpa_mono hs1 g3)⟩
          show (if O p then H p else HF p) = _
          rw [if_pos (show O p from ⟨i, .ml xs, h1, rfl, e⟩)]
          exact g2
    · have := own_map a (List.mem_of_getElem? h1)
      rw [o1] at this
      cases this
  refine ⟨HF1, ds.map A.d, r, ds.map A.d, Sp, ⟨ds, rfl, rfl, hF⟩, .refl _, fun x HF' H' S2 f2 rr => ?_⟩
  let HF2 : Hp := fun b => if O b then none else HF' b
  have noO : ∀ b, ¬ OwnAt (ds.map A.d) (vs.map some) b := fun b ⟨i, a, h1, h2, _⟩ => by
    have := own_map a (List.mem_of_getElem? h1)
    rw [h2] at this
    cases this
  have keepH : ∀ b o, H b = some o → H' b = some o := fun b o e => f2.keep b o e (noO b)
  have ho' : ∀ b, O b → ∃ ys, HF' b = some (.lst ys) := fun b z => by
    obtain ⟨ys, e⟩ := olst b z
    refine ⟨ys, f2.hf b _ ?_⟩
    show (if O b then H b else HF b) = _
    rw [if_pos z]
    exact e
  have lift : ∀ b o, HF' b = some o → (∀ ys, o ≠ .lst ys) → HF2 b = some o := fun b o e n => by
    show (if O b then none else HF' b) = some o
    rw [if_neg]
    · exact e
    · intro z
      obtain ⟨ys, e2⟩ := ho' b z
      rw [e2] at e
      exact n ys (Option.some.inj e).symm
  have hs2 : Same HF HF2 := fun b o e => by
    show (if O b then none else HF' b) = some o
    rw [if_neg fun z => by rw [onone b z] at e; cases e]
    exact f2.hf b o (hs1 b o e)
  refine q x HF2 H' ⟨S1.len, fun b o e => ?_, fun i a h => ?_, S1.apart⟩ ⟨.refl _, hs2, fun b o e _ => keepH b o e, fun b o e => ?_, fun b o e => ⟨o, keepH b o e⟩⟩ ?_
  · have e : (if O b then none else HF' b) = some o := e
    split at e
    · cases e
    · exact S2.sub b o e
  · obtain ⟨s, e, z⟩ := S1.slot i a h
    refine ⟨s, e, arel_mono z hs2 fun p o e1 g1 g2 oa => ⟨?_, keepH p o g2⟩⟩
    show (if O p then none else HF' p) = none
    rw [if_pos (show O p from ⟨i, a, h, oa, by rw [e, e1]⟩)]
  · have e : (if O b then none else HF' b) = some o := e
    split at e
    · cases e
    · rename_i hb
      rcases f2.new b o e with z | z
      · left
        have z : (if O b then H b else HF b) = some o := z
        rw [if_neg hb] at z
        exact z
      · exact .inr z
  · cases r with
    | d v => exact dp_noL lift hn rr
    | ml xs =>
      obtain ⟨p, o, e1, e2, e3, e4, e5⟩ := rr
      cases o <;> first | exact e5.elim | skip
      refine ⟨p, _, e1, e2, ?_, e4, dpa_noL lift hn e5⟩
      show (if O p then none else HF' p) = none
      split
      · rfl
      · exact e3
    | mk _ => cases hn
    | mt _ => cases hn
    | fk _ => cases hn
    | ft _ => cases hn
    | gn _ => cases hn
    | go _ => cases hn
    | any => cases hn
    | pin _ => cases hn
    | dl _ => cases hn
    | nw _ => cases hn
    | rk _ => cases hn
    | tw l =>
      have nn : ∀ b, HF' b = none → HF2 b = none := fun b e => by
        show (if O b then none else HF' b) = none
        split
        · rfl
        · exact e
      obtain ⟨t, ys, e1, e2, e3, e4, e5⟩ := rr
      have key : ∀ {ys : List V} {l : List (List PyData ⊕ PyData)}, Paired (TwR K H HF' H') ys l → (∀ z ∈ l, (match z with | .inl zs => noLs zs | .inr v => noL v) = true) → Paired (TwR K H HF2 H') ys l := fun {ys l} hp => by
        induction hp with
        | nil => intro _; exact .nil
        | @cons y a ys l z _ ih =>
          intro hall
          refine .cons ?_ (ih fun b hb => hall b (List.mem_cons_of_mem _ hb))
          have h0 := hall a List.mem_cons_self
          cases a with
          | inl zs => obtain ⟨q, us, g1, g2, g3, g4, g5⟩ := z; exact ⟨q, us, g1, g2, nn q g3, g4, dpa_noL lift h0 g5⟩
          | inr v => exact dp_noL lift h0 z
      exact ⟨t, ys, e1, e2, nn t e3, e4, key e5 (List.all_eq_true.mp hn)⟩
theorem fn_peek {P : Program} {w : World} {K : PySem.W.Frag} {mg : Str → Option Value} {base : Heap} {CX : CXT} {k : Nat} {f : Addr} {fd : FuncData} {ps : List Str} {F : List PyData → A → Prop} (G : FnOk P w K mg base CX k f fd ps (spA K (pure_ F))) : FnOk P w K mg base CX k f fd ps (spA K (peek F)) := G.imp peek_pure
theorem noLs_ints : ∀ ns : List Int, noLs (ns.map .int) = true
  | [] => rfl
  | _ :: ns => noLs_ints ns
section
variable {X : Cx} {B : Bs} {P : Pst} {ρ ρ1 ρ2 ρ3 : Rho} {e e1 e2 : Expr} {es : List Expr} {pos : Pos} {ds : List PyData} {k : Option Nat}
/-- xs[::-1] -/
theorem e_revL {j : Nat} {p1 p2 p3 : Pos} (h : EO X e ρ (.list ds) ρ1 k) : E X (.Subscript e (.Slice none none (some (.UnaryOp .USub (.Constant (.int 1) j p1) p2)) p3) pos) ρ (.ml ds.reverse) ρ1 := .of (pe_revL pe_w) fun σ HF H S1 Q q => h σ HF H S1 _ fun x HF1 H1 S2 f1 r1 => by
  obtain ⟨p, ys, rfl, h1, h2⟩ := r1 ρ1 HF1 H1 .refl S2 (.refl ..)
  refine ⟨p, ys, rfl, h1, fun r hr => ?_⟩
  obtain ⟨S4, f4⟩ := S2.allocO hr (.lst ys.reverse)
  exact q _ _ _ S4 (f1.trans f4) ⟨r, _, rfl, f1.fresh hr, S2.hfNone hr, upd_same, dpa_rev h2⟩
/-- a call that reads own lists -/
theorem e_peek {F : List PyData → A → Prop} {n : Nat} {f : Addr} {fd : FuncData} {ps : List Str} {x : Str} {p : Pos} {r : A} {l : List Arg} (G : FnOk X.prog X.w X.K X.mg X.base CX0 n f fd ps (spA X.K (pure_ F))) (hr : Room n X.A) (hm : X.mg x = some (.ref f)) (hk : PySem.W.keepIn X.K (.ref f) = true) (hb : Binds X.K fd ps [])
    (ha : EA X (e :: es) ρ l ρ1) (pk : Pk (l.map (toA ρ1)) ds) (hF : F ds r) (hn : noA r = true) (nd : (lents l).Nodup) (hg : Gl X x := by rfl) (hdb : (x == ("__debug__" : Str)) = false := by decide) (he : starEach (e :: es) X.env = (false, eval e X.env) :: starEach es X.env := by rfl) (hpl : (backTo pos (starEach es X.env)).any (·.1) = false := by rfl) :
    E X (.Call (.Name x p) (e :: es) [] pos) ρ r (back l (l.map (toA ρ1)) ρ1) :=
  e_call (fn_peek G) hr hm hk hb ha ⟨ds, rfl, pk, hF, hn⟩ (.refl _) nd (fun _ _ z => z.elim) hg hdb he hpl
end
theorem cut_dropLast {α : Type} (xs : List α) : cut xs none (some (-1)) = xs.dropLast := by
  have h : HT.sIx xs.length xs.length (some (-1)) = xs.length - 1 := by
    unfold HT.sIx
    simp
    omega
  unfold cut
  rw [h, HT.sIx_none, List.dropLast_eq_take]
  simp
end Th

set_option Elab.async false
set_option linter.all false
set_option maxRecDepth 100000
namespace Th
open PySem PySem.Spec PyProof.Rows L2

/-! dicts are frozen -/
section
variable {X : Cx}
theorem pe_frz {e : Expr} {te : TE} (h : PE X e te) : PE X e (fun σ H Q => te σ H fun x H1 => ∃ d u, x = .ref d ∧ H1 d = some u ∧ Mut (some u) ∧ ∀ od, Q x (upd H1 d (.frz od u))) := by
  refine ⟨fun pins s σ H Q I hw => ?_⟩
  refine thn (h.run pins s σ H _ I hw) fun v s1 ⟨x, H1, I1, r1, d, u, e1, hd, mu, q⟩ => ?_
  obtain ⟨od, I2⟩ := I1.lock hd mu
  exact ⟨x, _, I2, r1, q od⟩
theorem pss_frz {st : List Stmt} {t : TS} (h : PSs X st t) : PSs X st (fun D σ H => ∃ d u, H d = some u ∧ Mut (some u) ∧ ∀ od, t D σ (upd H d (.frz od u))) := by
  refine ⟨fun pins s σ H D I hw => ?_⟩
  obtain ⟨d, u, hd, mu, q⟩ := hw
  obtain ⟨od, I2⟩ := I.lock hd mu
  exact h.run pins s σ _ D I2 (q od)
end
section
variable {K : PySem.W.Frag} {ρ : Rho} {σ : L2.St} {HF H : Hp} {p : Addr} {o : HO}
/-- an object in no slot is locked for good -/
theorem Sl.lockN (S : Sl K ρ σ HF H) (hp : H p = some o) (hn : HF p = none) (hw : ¬ OwnAt ρ σ p) (u : HO) : Sl K ρ σ (upd HF p u) (upd H p u) := by
  refine ⟨S.len, fun b v e => ?_, fun i a h => ?_, S.apart⟩
  · by_cases hb : b = p
    · subst hb
      rw [upd_same] at e ⊢
      exact e
    · rw [upd_ne hb] at e ⊢
      exact S.sub b v e
  · obtain ⟨s, e, q⟩ := S.slot i a h
    refine ⟨s, e, arel_mono q (same_upd hn) fun b v e1 h1 h2 ho => ?_⟩
    have hb : b ≠ p := fun z => hw ⟨i, a, h, ho, by rw [← z, e, e1]⟩
    rw [upd_ne hb, upd_ne hb]
    exact ⟨h1, h2⟩
end
section
variable {X : Cx} {B : Bs} {P : Pst} {ρ ρ1 ρ2 ρ3 : Rho} {tg iter e e1 e2 : Expr} {es : List Expr} {pos pos' : Pos} {ds xs : List PyData} {k : Option Nat} {i j : Int} {b : Bool} {v w d : PyData} {a : A} {kvs : List (Key × PyData)} {kts : List (NestedKey × PyData)} {y : Key} {x : Str}
theorem e_frzK (h : E X e ρ (.mk kvs) ρ1) : E X e ρ (.fk kvs) ρ1 := .of (pe_frz pe_w) fun σ HF H S1 Q q => h σ HF H S1 _ fun x HF1 H1 S2 f1 r1 => by
  obtain ⟨p, o, rfl, h0, h1, h2, h3⟩ := r1
  have nw : ¬ OwnAt ρ1 σ p := fun z => S1.notOwn h0 (f1.sh.own.mp z)
  cases o <;> first | exact h3.elim | skip
  rename_i kws
  refine ⟨p, _, rfl, h2, trivial, fun od => q _ (upd HF1 p (.frz od (.dK kws))) _ (S2.lockN h2 h1 nw _) ⟨f1.sh, f1.hf.trans (same_upd h1), fun b u e n => ?_, fun b u e => ?_, fun b u e => ?_⟩ ⟨p, kws, od, rfl, upd_same, dpkv_mono (same_upd h1) h3⟩⟩
  · rw [upd_ne fun z => by rw [z, h0] at e; cases e]
    exact f1.keep b u e n
  · by_cases hb : b = p
    · subst hb
      exact .inr h0
    · rw [upd_ne hb] at e
      exact f1.new b u e
  · by_cases hb : b = p
    · subst hb
      exact ⟨_, upd_same⟩
    · rw [upd_ne hb]
      exact f1.pres b u e
theorem e_frzT (h : E X e ρ (.mt kts) ρ1) : E X e ρ (.ft kts) ρ1 := fun σ HF H S1 Q q => h σ HF H S1 _ fun x HF1 H1 S2 f1 r1 => by
  obtain ⟨p, o, rfl, h0, h1, h2, h3⟩ := r1
  have nw : ¬ OwnAt ρ1 σ p := fun z => S1.notOwn h0 (f1.sh.own.mp z)
  cases o <;> first | exact h3.elim | skip
  refine q _ (upd HF1 p (.ext _)) H1 (S2.frz h2 h1 nw) ⟨f1.sh, f1.hf.trans (same_upd h1), f1.keep, fun b u e => ?_, f1.pres⟩ ⟨p, _, rfl, upd_same, trel_mono (same_upd h1) h3⟩
  by_cases hb : b = p
  · subst hb
    exact .inr h0
  · rw [upd_ne hb] at e
    exact f1.new b u e
/-- an own dict in a slot becomes one that stays -/
theorem ss_frzK (i : Nat) {sts : List Stmt} (hi : ρ[i]? = some (.mk kvs)) (hl : ∀ q ∈ B.L, q.1 ≠ i) (h : Ss X B sts (ρ.set i (.fk kvs)) P) : Ss X B sts ρ P := fun σ HF H S1 b1 D o => by
  obtain ⟨p, u, e, h1, h2, h3⟩ := S1.ownAt hi rfl
  cases u <;> first | exact h3.elim | skip
  rename_i kws
  have hb : B.H0 p = none := (b1.mine i _ p hi rfl e).elim (fun z => (hl _ z rfl).elim) id
  have hlen : i < ρ.length := (List.getElem?_eq_some_iff.mp hi).1
  refine ⟨_, pss_frz pss_w, p, _, h2, trivial, fun od => ?_⟩
  have own : ∀ (j : Nat) (a : A), (ρ.set i (.fk kvs))[j]? = some a → a.own = true → i ≠ j ∧ ρ[j]? = some a := fun j a h o => by
    by_cases hj : i = j
    · subst hj
      rw [List.getElem?_set_self hlen] at h
      cases h
      cases o
    · rw [List.getElem?_set_ne hj] at h
      exact ⟨hj, h⟩
  have apart' : ∀ (j : Nat) (a : A) (q : Addr), i ≠ j → ρ[j]? = some a → a.own = true → σ[j]? = some (some (V.ref q)) → q ≠ p := fun j a q hj h oa e' z => hj (S1.apart i j _ a p hi h rfl oa e (by rw [e', z]))
  have S2 : Sl X.K (ρ.set i (.fk kvs)) σ (upd HF p (.frz od (.dK kws))) (upd H p (.frz od (.dK kws))) := by
    refine ⟨by rw [List.length_set]; exact S1.len, fun b v e => ?_, fun j a h => ?_, fun j k a b q g1 g2 o1 o2 e1 e2 => S1.apart j k a b q (own j a g1 o1).2 (own k b g2 o2).2 o1 o2 e1 e2⟩
    · by_cases hb : b = p
      · subst hb
        rw [upd_same] at e ⊢
        exact e
      · rw [upd_ne hb] at e ⊢
        exact S1.sub b v e
    · by_cases hj : i = j
      · subst hj
        rw [List.getElem?_set_self hlen] at h
        cases h
        exact ⟨_, e, _, rfl, p, kws, od, rfl, upd_same, dpkv_mono (same_upd h1) h3⟩
      · rw [List.getElem?_set_ne hj] at h
        obtain ⟨s, e', q⟩ := S1.slot j a h
        refine ⟨s, e', arel_mono q (same_upd h1) fun b v e1 g1 g2 oa => ?_⟩
        have hb := apart' j a b hj h oa (by rw [e', e1])
        rw [upd_ne hb, upd_ne hb]
        exact ⟨g1, g2⟩
  refine h σ _ _ S2 ⟨b1.hf.trans (same_upd h1), fun b v hn e => ?_, fun b v e => ?_, fun b v e => ?_, fun j a q g oa e' => b1.mine j a q (own j a g oa).2 oa e', b1.lent⟩ D (o.up (same_upd h1))
  · rw [upd_ne fun z => by rw [z, hb] at e; cases e]
    exact b1.keep b v hn e
  · by_cases hc : b = p
    · subst hc
      exact .inr hb
    · rw [upd_ne hc] at e
      exact b1.new b v e
  · by_cases hc : b = p
    · subst hc
      exact ⟨_, upd_same⟩
    · rw [upd_ne hc]
      exact b1.pres b v e
/-- a slot that holds what stays -/
theorem e_varF (i : Nat) (h : ρ[i]? = some (.fk kvs)) (hN : X.N[i]? = some x := by rfl) (hv : Vis X.env.scope x := by first | exact Or.inl rfl | exact Or.inr (Or.inl rfl) | exact Or.inr (Or.inr rfl))
    (hd : (x == ("__debug__" : Str)) = false := by decide) (hcd : (x == ("__classdict__" : Str)) = false := by decide) : E X (.Name x pos) ρ (.fk kvs) ρ := .of (pe_var hN hv hd hcd) fun σ HF H S1 Q q => by
  obtain ⟨s, e, y, rfl, r⟩ := S1.slot i _ h
  exact ⟨y, e, q y HF H S1 (.refl ..) r⟩
theorem e_varFt (i : Nat) (h : ρ[i]? = some (.ft kts)) (hN : X.N[i]? = some x := by rfl) (hv : Vis X.env.scope x := by first | exact Or.inl rfl | exact Or.inr (Or.inl rfl) | exact Or.inr (Or.inr rfl))
    (hd : (x == ("__debug__" : Str)) = false := by decide) (hcd : (x == ("__classdict__" : Str)) = false := by decide) : E X (.Name x pos) ρ (.ft kts) ρ := .of (pe_var hN hv hd hcd) fun σ HF H S1 Q q => by
  obtain ⟨s, e, y, rfl, r⟩ := S1.slot i _ h
  exact ⟨y, e, q y HF H S1 (.refl ..) r⟩
theorem fk_get {K : PySem.W.Frag} {HF H : Hp} {z : V} (s : Same HF H) (r : FkRel K HF z kvs) (y : Key) : ∃ p o, z = .ref p ∧ DGet H p (kV y) o ∧ ((o = none ∧ getK kvs y = none) ∨ ∃ v1 d1, o = some v1 ∧ getK kvs y = some d1 ∧ Dp K HF v1 d1) := by
  obtain ⟨p, kws, od, rfl, h1, h2⟩ := r
  refine ⟨p, valV kws y, rfl, .inl ⟨kws, y, .inr ⟨od, s _ _ h1⟩, rfl, rfl⟩, ?_⟩
  rcases dpkv_val y h2 with ⟨g1, g2⟩ | ⟨v1, d1, g1, g2, g3⟩
  · exact .inl ⟨g1, g2⟩
  · exact .inr ⟨v1, d1, g1, g2, g3⟩
/-- d[k] of such a one -/
theorem e_dgetF (hd : E X e1 ρ (.fk kvs) ρ1) (he : E X e2 ρ1 (.d (kD y)) ρ2) (hg : getK kvs y = some d) (hu : X.A.units + 1 < cLine) (hs : NoSl e2 := by exact fun _ _ => rfl) : E X (.Subscript e1 e2 pos) ρ (.d d) ρ2 := .of (pe_dget hu pe_w pe_w hs) fun σ HF H S1 Q q => hd σ HF H S1 _ fun z HF1 H1 S2 f1 r1 => he σ HF1 H1 S2 _ fun x2 HF2 H2 S3 f2 r2 => by
  have hx := dp_key r2
  subst hx
  obtain ⟨p, o, rfl, g1, g2⟩ := fk_get S3.sub (fk_mono f2.hf r1) y
  rcases g2 with ⟨_, g⟩ | ⟨v1, d1, rfl, g, g3⟩
  · rw [hg] at g; cases g
  · rw [hg] at g
    cases g
    exact ⟨p, v1, rfl, g1, q _ HF2 H2 S3 (f1.trans f2) g3⟩
theorem e_dinF (he : E X e1 ρ (.d (kD y)) ρ1) (hd : E X e2 ρ1 (.fk kvs) ρ2) (hu : X.A.units + 1 < cLine) (hb : behindInMarks .In e2 = false := by rfl) : E X (.Compare e1 [.In] [e2] pos) ρ (.d (.bool (getK kvs y).isSome)) ρ2 := .of (pe_cmp (pc_din hu pe_w pe_w) hb) fun σ HF H S1 Q q => he σ HF H S1 _ fun z HF1 H1 S2 f1 r1 => hd σ HF1 H1 S2 _ fun x2 HF2 H2 S3 f2 r2 => by
  have hx := dp_key r1
  subst hx
  obtain ⟨p, o, rfl, g1, g2⟩ := fk_get S3.sub r2 y
  refine ⟨p, o, rfl, g1, ?_⟩
  rcases g2 with ⟨rfl, g⟩ | ⟨v1, d1, rfl, g, g3⟩
  · rw [g] at q; exact q _ HF2 H2 S3 (f1.trans f2) (.bl _)
  · rw [g] at q; exact q _ HF2 H2 S3 (f1.trans f2) (.bl _)
theorem e_dget2F {apos : Pos} {e3 : Expr} (hd : E X e1 ρ (.fk kvs) ρ1) (he : E X e2 ρ1 (.d (kD y)) ρ2) (he3 : E X e3 ρ2 (.d w) ρ3) (hu : X.A.units + 1 < cLine) (m : M2 X e1 "get" apos e2 e3 pos := by exact ⟨rfl, rfl, rfl, rfl⟩) : E X (.Call (.Attribute e1 "get" apos) [e2, e3] [] pos) ρ (.d ((getK kvs y).getD w)) ρ3 := .of (pe_dget2 hu pe_w pe_w pe_w m) fun σ HF H S1 Q q => hd σ HF H S1 _ fun z HF1 H1 S2 f1 r1 => by
  obtain ⟨p, kws, od, rfl, h1, h2⟩ := id r1
  refine ⟨p, rfl, .inl ⟨kws, .inr ⟨od, S2.sub _ _ h1⟩⟩, he σ HF1 H1 S2 _ fun x2 HF2 H2 S3 f2 r2 => he3 σ HF2 H2 S3 _ fun x3 HF3 H3 S4 f3 r3 => ?_⟩
  have hx := dp_key r2
  subst hx
  obtain ⟨p', o, e', g1, g2⟩ := fk_get S4.sub (fk_mono (f2.hf.trans f3.hf) r1) y
  cases e'
  refine ⟨o, g1, ?_⟩
  rcases g2 with ⟨rfl, g⟩ | ⟨v1, d1, rfl, g, g3⟩
  · rw [g] at q; exact q _ HF3 H3 S4 ((f1.trans f2).trans f3) r3
  · rw [g] at q; exact q _ HF3 H3 S4 ((f1.trans f2).trans f3) g3
/-- walked: keys, items, values -/
theorem dpkv_get : ∀ {κ : Type} {K : PySem.W.Frag} {HF : Hp} {l : List (κ × V)} {m : List (κ × PyData)} {i : Nat} {k : κ} {v : V}, DpKV K HF l m → l[i]? = some (k, v) → ∃ d, m[i]? = some (k, d) ∧ Dp K HF v d
  | _, _, _, _, _, _, _, _, .nil, h => by simp at h
  | _, _, _, _, _, 0, _, _, .cons (a := p) (b := q) r _, h => by
    simp at h
    subst h
    exact ⟨q.2, by rw [List.getElem?_cons_zero]; exact congrArg some (Prod.ext r.1.symm rfl), r.2⟩
  | _, _, _, _, _, i + 1, _, _, .cons _ t, h => by
    obtain ⟨d, h1, h2⟩ := dpkv_get (i := i) t (by simpa using h)
    exact ⟨d, by simpa using h1, h2⟩
theorem dp_kD {K : PySem.W.Frag} {HF : Hp} (k : Key) : Dp K HF (kV k) (kD k) := by cases k; exact .int _; exact .str _
theorem src_keys (h : E X iter ρ (.fk kvs) ρ1) : Src X tg iter ρ (kvs.map fun kv => kD kv.1) ρ1 none := ⟨_, pi_keys pe_w, fun σ HF H S1 R q => h σ HF H S1 _ fun x HF1 H1 S2 f1 r1 => by
  obtain ⟨p, kws, od, rfl, h1, h2⟩ := r1
  refine ⟨p, od, rfl, .inl ⟨kws, S2.sub _ _ h1, q _ HF1 H1 S2 f1 fun σ2 ρ2 HF2 H2 _ _ S3 s3 => ⟨fun i hi => ⟨S3.sub _ _ (s3 _ _ h1), ?_⟩, ⟨S3.sub _ _ (s3 _ _ h1), ?_⟩, fun i x H3 hi ⟨e, k, v, e2, e3⟩ => ?_⟩⟩⟩
  · rw [List.length_map] at hi
    rw [dpkv_len h2]
    exact hi
  · rw [List.length_map, dpkv_len h2]
    exact Nat.le_refl _
  · obtain ⟨d, g1, _⟩ := dpkv_get h2 e2
    refine ⟨kD k, by rw [List.getElem?_map, g1]; rfl, .inl ⟨e, by rw [e3]; exact dp_kD k⟩⟩⟩
theorem src_items {apos cpos : Pos} {elts : List Expr} {kk : Nat} {tpos : Pos} (h : E X e ρ (.fk kvs) ρ1) (hbase : attributeBase e "items" X.env (eval e X.env) = eval e X.env := by rfl) (hline : (apos.endLine == cpos.line) = true := by rfl) :
    Src X (.Tuple elts kk tpos) (.Call (.Attribute e "items" apos) [] [] cpos) ρ (kvs.map fun kv => .tuple [kD kv.1, kv.2]) ρ1 none := ⟨_, pi_items pe_w hbase hline, fun σ HF H S1 R q => h σ HF H S1 _ fun x HF1 H1 S2 f1 r1 => by
  obtain ⟨p, kws, od, rfl, h1, h2⟩ := r1
  refine ⟨p, od, kws, rfl, S2.sub _ _ h1, q _ HF1 H1 S2 f1 fun σ2 ρ2 HF2 H2 _ _ S3 s3 => ⟨fun i hi => ⟨S3.sub _ _ (s3 _ _ h1), ?_⟩, ⟨S3.sub _ _ (s3 _ _ h1), ?_⟩, fun i x H3 hi ⟨T, k, v, e2, e3, e4, e5⟩ => ?_⟩⟩
  · rw [List.length_map] at hi
    rw [dpkv_len h2]
    exact hi
  · rw [List.length_map, dpkv_len h2]
    exact Nat.le_refl _
  · obtain ⟨d, g1, g2⟩ := dpkv_get h2 e2
    exact ⟨.tuple [kD k, d], by rw [List.getElem?_map, g1]; rfl, .inr ⟨T, _, _, e4, e5, e3, rfl, .cons (dp_kD k) (.cons (dp_mono s3 g2) .nil)⟩⟩⟩
theorem src_values {apos cpos : Pos} (h : E X e ρ (.fk kvs) ρ1) (hbase : attributeBase e "values" X.env (eval e X.env) = eval e X.env := by rfl) (hline : (apos.endLine == cpos.line) = true := by rfl) :
    Src X tg (.Call (.Attribute e "values" apos) [] [] cpos) ρ (kvs.map fun kv => kv.2) ρ1 none := ⟨_, pi_values pe_w hbase hline, fun σ HF H S1 R q => h σ HF H S1 _ fun x HF1 H1 S2 f1 r1 => by
  obtain ⟨p, kws, od, rfl, h1, h2⟩ := r1
  refine ⟨p, od, kws, rfl, S2.sub _ _ h1, q _ HF1 H1 S2 f1 fun σ2 ρ2 HF2 H2 _ _ S3 s3 => ⟨fun i hi => ⟨S3.sub _ _ (s3 _ _ h1), ?_⟩, ⟨S3.sub _ _ (s3 _ _ h1), ?_⟩, fun i x H3 hi ⟨e, k, e2⟩ => ?_⟩⟩
  · rw [List.length_map] at hi
    rw [dpkv_len h2]
    exact hi
  · rw [List.length_map, dpkv_len h2]
    exact Nat.le_refl _
  · obtain ⟨d, g1, g2⟩ := dpkv_get h2 e2
    exact ⟨d, by rw [List.getElem?_map, g1]; rfl, .inl ⟨e, dp_mono s3 g2⟩⟩⟩

/-! a dict of one written entry; lists repeated, extended -/
theorem e_disp1 (hk : E X e1 ρ (.d (kD y)) ρ1) (hv : E X e2 ρ1 (.d v) ρ2) : E X (.Dict [some e1] [e2] pos) ρ (.mk [(y, v)]) ρ2 := .of (pe_disp (pps_cons pe_w pe_w pps_nil) rfl rfl (fun z => by cases z) (show 1 ≤ 15 by decide)) fun σ HF H S1 Q q => fun p hp => by
  obtain ⟨S0, f0⟩ := S1.allocO hp (.dK [])
  refine hk σ HF _ S0 _ fun x HF1 H1 S2 f1 r1 => hv σ HF1 H1 S2 _ fun z HF2 H2 S3 f2 r2 => ?_
  have hx := dp_key r1
  subst hx
  have f12 := f1.trans f2
  have nw : ¬ OwnAt ρ σ p := fun z => S1.notOwn hp z
  have hpn : HF p = none := S1.hfNone hp
  have e2 : H2 p = some (.dK []) := f12.keep p _ upd_same nw
  have e3 : HF2 p = none := f12.hfn hpn upd_same
  show H2 p = some (.dK []) ∧ _
  refine ⟨e2, [(y, z)], rfl, (show 1 ≤ 15 by decide), ?_⟩
  have nw2 : ¬ OwnAt ρ2 σ p := fun w => nw (f12.sh.own.mp w)
  refine q _ HF2 _ ⟨S3.len, fun b u e => ?_, fun i a h => ?_, S3.apart⟩ ⟨f12.sh, f12.hf, fun b u e n => ?_, fun b u e => ?_, fun b u e => ?_⟩ ⟨p, _, rfl, hp, e3, upd_same, ?_⟩
  · rw [upd_ne fun w => by rw [w, e3] at e; cases e]
    exact S3.sub b u e
  · obtain ⟨s, e, g⟩ := S3.slot i a h
    refine ⟨s, e, arel_mono g (.refl _) fun b u e1 h1 h2 ho => ⟨h1, ?_⟩⟩
    rw [upd_ne fun w => nw2 ⟨i, a, h, ho, by rw [e, e1, w]⟩]
    exact h2
  · have hb : b ≠ p := fun w => by rw [w, hp] at e; cases e
    rw [upd_ne hb]
    exact f12.keep b u (by rw [upd_ne hb]; exact e) n
  · rcases f12.new b u e with w | w
    · exact .inl w
    · by_cases hb : b = p
      · subst hb
        exact .inr hp
      · rw [upd_ne hb] at w
        exact .inr w
  · by_cases hb : b = p
    · subst hb
      exact ⟨_, upd_same⟩
    · rw [upd_ne hb]
      exact f12.pres b u (by rw [upd_ne hb]; exact e)
  · exact .cons ⟨rfl, r2⟩ .nil
theorem dpa_rep {K : PySem.W.Frag} {HF : Hp} {ys : List V} (h : DpAll K HF ys ds) : ∀ n : Nat, DpAll K HF (List.replicate n ys).flatten (List.replicate n ds).flatten
  | 0 => .nil
  | n + 1 => by
    rw [List.replicate_succ, List.replicate_succ, List.flatten_cons, List.flatten_cons]
    exact dpa_app h (dpa_rep h n)
theorem e_rep (ha : PlainL X e1 ρ ds ρ1 k) (hb : E X e2 ρ1 (.d (.int i)) ρ2) (h0 : -100000 ≤ i ∧ i ≤ 100000) (hz : ds.length * i.toNat ≤ 100000) (hk : Kp k ρ1 ρ2 := by first | exact trivial | exact rfl) : E X (.BinOp e1 .Mult e2 pos) ρ (.ml (List.replicate i.toNat ds).flatten) ρ2 :=
  .of (pe_op op_rep pe_w pe_w) fun σ HF H S1 Q q => ha σ HF H S1 _ fun x HF1 H1 S2 f1 r1 => hb σ HF1 H1 S2 _ fun z HF2 H2 S3 f2 r2 => by
    obtain ⟨p, ys, rfl, g1, g2⟩ := r1 ρ2 HF2 H2 hk S3 f2
    cases r2
    have l1 := dpa_len g2
    refine ⟨p, i, ys, rfl, rfl, g1, by omega, by omega, Nat.le_trans (by rw [l1]; exact hz) (show 100000 ≤ sizeLine by decide), fun r hr => ?_⟩
    obtain ⟨S4, f4⟩ := S3.allocO hr (.lst (List.replicate i.toNat ys).flatten)
    have f := f1.trans f2
    exact q _ _ _ S4 (f.trans f4) ⟨r, _, rfl, f.fresh hr, S3.hfNone hr, upd_same, dpa_rep g2 _⟩
theorem e_ext (i : Nat) {apos : Pos} (he : E X e ρ (.ml ds) ρ1) (hi0 : ∃ x0, ρ[i]? = some (.ml x0)) (hi : ρ1[i]? = some (.ml xs)) (hz : xs.length + ds.length ≤ 100000) (hN : X.N[i]? = some x := by rfl)
    (hv : Vis X.env.scope x := by first | exact Or.inl rfl | exact Or.inr (Or.inl rfl) | exact Or.inr (Or.inr rfl)) (hd : (x == ("__debug__" : Str)) = false := by decide) (hcd : (x == ("__classdict__" : Str)) = false := by decide)
    (hbase : attributeBase (.Name x pos') "extend" X.env (eval (.Name x pos') X.env) = eval (.Name x pos') X.env := by rfl)
    (hfew : ((backTo pos (starEach [e] X.env)).all (fun x => !x.1) && (backToKw pos (keywordEach [] X.env)).all (fun x => x.1.isSome) && decide (([e] : List Expr).length + ([] : List Keyword).length + (if ([] : List Keyword).isEmpty then 0 else 1) < 30)) = true := by rfl)
    (hline : (apos.endLine == pos.line) = true := by rfl) (hs : starEach [e] X.env = (false, eval e X.env) :: starEach [] X.env := by rfl) :
    E X (.Call (.Attribute (.Name x pos') "extend" apos) [e] [] pos) ρ (.d .none) (ρ1.set i (.ml (xs ++ ds))) :=
  .of (pe_bm PySem.F.plainAttrs_list PySem.F.slot_list_extend PySem.F.type_list_extend mt_extend (pe_var hN hv hd hcd) (pa_cons pe_w pa_nil hs) hbase hfew hline hs) fun σ HF H S1 Q q => by
    obtain ⟨k0, hk0⟩ := hi0
    obtain ⟨p, o0, e0, _, k2, k3⟩ := S1.ownAt hk0 rfl
    cases o0 <;> first | exact k3.elim | skip
    refine ⟨.ref p, e0, .inl ⟨rfl, _, .inl (.inl k2)⟩, he σ HF H S1 _ fun x1 HF1 H1 S2 f1 r1 => ?_⟩
    obtain ⟨p2, o2, e3, h1, h2, h3⟩ := S2.ownAt hi rfl
    rw [e0] at e3
    cases e3
    cases o2 <;> first | exact h3.elim | skip
    rename_i ys
    obtain ⟨r, o, rfl, g0, g1, g2, g3⟩ := r1
    cases o <;> first | exact g3.elim | skip
    rename_i zs
    have hl := dpa_len h3
    have hl2 := dpa_len g3
    obtain ⟨S4, f4⟩ := S2.put hi rfl e0 (o' := .lst (ys ++ zs)) (a' := .ml (xs ++ ds)) (dpa_app h3 g3)
    exact ⟨p, r, ys, zs, rfl, rfl, h2, g2, Nat.le_trans (by omega) (show 100000 ≤ sizeLine by decide), q _ _ _ S4 (f1.trans f4) .non⟩
/-- a comprehension that carries a state along -/
theorem e_lcS {α T : Type} {xs : List α} {scope : Scope} (own : List (Str × Nat)) {elt : Expr} (enc : α → PyData) (t0 : T) (step : T → α → T) (g : T → α → PyData) (emb : T → Rho) (J : T → Nat → Prop) (hJ : J t0 0)
    (ht : Src X tg iter ρ (xs.map enc) (emb t0) none) (hN : X.N.Nodup) (hz : xs.length < 100000)
    (hb : ∀ t (i : Nat) (x : α), xs[i]? = some x → J t i → J (step t x) (i + 1) ∧ ∃ ρ2 ρ4 : Rho, (∀ (s : Shared) (H : Hp) (C : Addr) (cl : List (Str × Addr)) (fp : List Addr), GC (X.blk s H scope (compEnvC scope cl C X.env) fp) (own.map (·.2)) tg (enc x) (wipeR (emb t) (own.map (·.2))) ρ2) ∧
      (∀ (s : Shared) (H : Hp) (C : Addr) (cl : List (Str × Addr)) (fp : List Addr), E (X.blk s H scope (compEnvC scope cl C X.env) fp) elt ρ2 (.d (g t x)) ρ4) ∧ wipeR ρ4 (own.map (·.2)) = wipeR (emb (step t x)) (own.map (·.2)))
    (hv : ∀ t, noOwn (emb t) (own.map (·.2)) = true) (hem : ∀ t t', (emb t).length = (emb t').length ∧ ∀ i, i ∈ own.map (·.2) → (emb t)[i]? = (emb t')[i]?) (ok : BlkOk X.N X.env.scope scope own)
    (hc : X.calm = true := by rfl) (hs : ∀ x, foldedSetIterable iter X.env x = pure x := by intro _; rfl) :
    E X (.ListComp elt [⟨tg, iter, [], 0⟩] scope pos) ρ (.ml ((xs.foldl (fun (p : T × List PyData) x => (step p.1 x, p.2 ++ [g p.1 x])) (t0, [])).2)) (emb (xs.foldl step t0)) := by
  have hfst : ∀ (ys : List α) (t : T) (acc : List PyData), (ys.foldl (fun (p : T × List PyData) x => (step p.1 x, p.2 ++ [g p.1 x])) (t, acc)).1 = ys.foldl step t := fun ys => by
    induction ys with
    | nil => intro t acc; rfl
    | cons y ys ih => intro t acc; rw [List.foldl_cons, List.foldl_cons]; exact ih _ _
  have hlen : ∀ (ys : List α) (t : T) (acc : List PyData), (ys.foldl (fun (p : T × List PyData) x => (step p.1 x, p.2 ++ [g p.1 x])) (t, acc)).2.length = acc.length + ys.length := fun ys => by
    induction ys with
    | nil => intro t acc; rfl
    | cons y ys ih => intro t acc; rw [List.foldl_cons, ih]; simp; omega
  have hJall : ∀ i, i ≤ xs.length → J ((xs.take i).foldl step t0) i := fun i => by
    induction i with
    | zero => intro _; exact hJ
    | succ i ih =>
      intro hi
      have e := List.getElem?_eq_getElem (show i < xs.length by omega)
      rw [List.take_add_one, e, List.foldl_append]
      exact (hb _ i _ e (ih (by omega))).1
  refine ev_lc (D0 := []) (k := none) ht ok hN (fun i ρ' acc => ρ' = wipeR (emb ((xs.take i).foldl step t0)) (own.map (·.2)) ∧ acc = ((xs.take i).foldl (fun (p : T × List PyData) x => (step p.1 x, p.2 ++ [g p.1 x])) (t0, [])).2) ⟨rfl, rfl⟩ (fun _ _ _ _ => ⟨trivial, fun _ z => nomatch z⟩) (fun i v ρ' acc hi ⟨e1, e2⟩ => ?_) (fun ρ' acc ⟨e1, e2⟩ => ?_) (by rw [List.length_map]; exact Nat.lt_of_lt_of_le hz (by decide)) (fun i ρ' acc ⟨_, e⟩ => ?_) hc hs
  · subst e1
    obtain ⟨x, hx, rfl⟩ := map_get hi
    have hlt := (List.getElem?_eq_some_iff.mp hx).1
    obtain ⟨_, ρ2, ρ4, h1, h2, h3⟩ := hb _ i x hx (hJall i (by omega))
    have tk : xs.take (i + 1) = xs.take i ++ [x] := by rw [List.take_add_one, hx]; rfl
    refine ⟨ρ2, true, ρ2, h1, fun s H C cl fp => i_nil, fun _ => ⟨_, ρ4, h2, ?_, ?_⟩, fun z => nomatch z⟩
    · rw [h3, tk, List.foldl_append]
      rfl
    · rw [e2, tk, List.foldl_append]
      show _ = _ ++ [g _ x]
      rw [hfst]
  · subst e1
    rw [List.length_map, List.take_length] at *
    refine ⟨e2, (hem _ _).1, fun i hi => (wipeR_off hi).symm, fun i hi => ⟨(hem _ _).2 i hi, fun a e => no_own (hv t0) i a hi e⟩⟩
  · rw [e, hlen]
    simp
    exact Nat.min_le_left _ _
end
end Th

set_option Elab.async false
set_option linter.all false
set_option maxRecDepth 100000
namespace Th
open PySem PySem.Spec PyProof.Rows L2

/-! sorted(d), int keys, any number of them -/
section
variable {X : Cx}
theorem call_sortedDA (hcalm : X.calm = true) : CallR X (.builtin "sorted") (fun xs H Q => ∃ (a : Addr) (kvs : List (Key × V)) (ks : List Int), xs = [.ref a] ∧ Rd H a (.dK kvs) ∧ kvs.map (·.1) = ks.map Sum.inl ∧
    ∀ (ys : List Int) (p : Addr), ys.Perm ks → ys.Pairwise (· ≤ ·) → H p = none → Q (.ref p) (upd H p (.lst (ys.map V.int)))) := by
  intro pins s σ H xs us Q I r q
  obtain ⟨a, kvs, ks, ex, hd, hks, q⟩ := q
  subst ex
  obtain ⟨u, eu, rx⟩ := vals1 r
  subst eu
  cases rx
  obtain ⟨z, lo, vs, rel, dd⟩ := dk_rd I.hok hd
  obtain ⟨ep, hat⟩ := dd.dictAt
  have hkeys : vs.map (·.1) = ks.map Sum.inl := rel.keys.symm.trans hks
  have hl : vs.length = ks.length := by
    have e := congrArg List.length hkeys
    rwa [List.length_map, List.length_map] at e
  have h16 : vs.length ≤ sizeLine := by
    have e := congrArg List.length rel.keys
    rw [List.length_map, List.length_map] at e
    omega
  refine Calls.call_function_entry PyProof.Rows.kind_sorted PyProof.Rows.plain_sorted PyProof.Rows.entry_sorted (PyProof.Rows.args_sorted1 _) ?_
  unfold Builtin.«sorted»
  refine wpAny_bind (m := checkCount "sorted" 1 1 _) (wpAny_pure ?_)
  refine wpAny_bind (PySem.W.kdu_collect (A := X.A.in1) (PySem.W.kdl_dict (knd := mixKind X.prog X.w) (kvs := vs) (ep := ep) lo) (I.ok.hd hcalm) hat h16 fun h' tk acc hk hacc => ?_)
  have hal : acc.toList.length = ks.length := by rw [Array.length_toList, hacc.1, hl]
  have hS : IntsAre acc.toList ks := ints_each hal fun j v e => by
    obtain ⟨k, x, e1, e2⟩ := hacc.2 j v (by rw [← Array.getElem?_toList]; exact e)
    have e3 : (vs.map (·.1))[j]? = some k := by rw [List.getElem?_map, e1]; rfl
    rw [hkeys, List.getElem?_map] at e3
    cases e4 : ks[j]? with
    | none => rw [e4] at e3; cases e3
    | some y =>
      rw [e4] at e3
      have e5 : Sum.inl y = k := Option.some.inj e3
      subst e5
      rcases keyIs_shape (show keyIs (Sum.inl y) v = true from e2) with ⟨i, t, ek, ev⟩ | ⟨z, t, ek, ev⟩
      · cases ek
        exact ⟨y, t, rfl, ev⟩
      · cases ek
  have I1 : Inv X pins σ H { s with heap := h', toks := tk } := I.kept hk
  have hz : acc.toList.length ≤ sizeLine := by omega
  refine wpAny_bind (wpAny_newList ?_ hz)
  have hoL : (h'.push (seqObj "list" acc.toList.toArray 0)).get? h'.objs.size = some (seqObj "list" acc.toList.toArray 0) := Heap.get?_push_size _ rfl
  show wpAny _ _ _ _ _ { s with heap := h'.push (seqObj "list" acc.toList.toArray 0), toks := tk }
  refine wpAny_bind (wpAny_holding (wpAny_call_entry PyProof.Rows.slot_list_sort ⟨_, hoL, rfl⟩ PyProof.Rows.entry_list_sort
    (SrtO.list_sort_ord (s := { s with heap := h'.push (seqObj "list" acc.toList.toArray 0), toks := tk }) SrtO.swo_int hoL hz (fun h2 => SrtO.ints_sortable hS h2) fun out h1 h2 => ⟨_, rfl, ?_⟩) (PyProof.Rows.args_list_sort _)))
  obtain ⟨g1, g2, g3⟩ := SrtO.ints_out hS h1 h2
  obtain ⟨e', he'⟩ := PyProof.Rows.sortedHeap_at (vs := acc.toList) (out := out.toArray) hoL
  have hlen : ((out.map SrtO.iv).map V.int).length ≤ sizeLine := by
    rw [List.length_map, g2.length_eq]
    omega
  refine wpAny_pure ⟨_, rfl, .ref h'.objs.size, upd H h'.objs.size (.lst ((out.map SrtO.iv).map V.int)), I1.laid (t' := tk) (fun b u e => ?_) (Nat.le_refl _)
    (show ObjOk X.prog X.w _ _ _ (.lst ((out.map SrtO.iv).map V.int)) from ⟨hlen, out, e', vals_of_ints g1, he'⟩), rfl, q _ _ g2 g3 (I1.hok.fresh (Nat.le_refl _))⟩
  have hb : b < h'.objs.size := Heap.lt_size e
  rw [PyProof.Rows.sortedHeap_old (Nat.ne_of_lt hb) (by rw [size_push']; exact Nat.lt_succ_of_lt hb)]
  exact Heap.get?_push_of_some _ e
end
section
variable {X : Cx} {ρ ρ1 : Rho} {e : Expr} {es : List Expr} {pos pos' : Pos} {kvs : List (Key × PyData)} {x : Str}
theorem e_dsortA (i : Nat) {pn : Pos} {ks : List Int} (hi : ρ[i]? = some (.mk kvs)) (hks : kvs.map (·.1) = ks.map Sum.inl) (hm : X.mg "sorted" = none) (hg : Gl X "sorted" := by rfl) (hc : X.calm = true := by rfl) (hN : X.N[i]? = some x := by rfl)
    (hv : Vis X.env.scope x := by first | exact Or.inl rfl | exact Or.inr (Or.inl rfl) | exact Or.inr (Or.inr rfl)) (hd : (x == ("__debug__" : Str)) = false := by decide) (hcd : (x == ("__classdict__" : Str)) = false := by decide)
    (he : starEach [.Name x pos'] X.env = (false, eval (.Name x pos') X.env) :: starEach [] X.env := by rfl) : E X (.Call (.Name "sorted" pn) [.Name x pos'] [] pos) ρ (.ml ((isort ks).map .int)) ρ :=
  .of (pe_callB (call_sortedDA hc) hg hm (by decide +kernel) (pa_cons (pe_var hN hv hd hcd) pa_nil he) (he := he)) fun σ HF H S1 Q q => by
    obtain ⟨p2, o2, e3, h1, h2, h3⟩ := S1.ownAt hi rfl
    cases o2 <;> first | exact h3.elim | skip
    refine ⟨.ref p2, e3, p2, _, ks, rfl, .inl h2, (dpkv_keys h3).trans hks, fun ys p hp hs hn => ?_⟩
    obtain ⟨S2, f2⟩ := S1.allocO hn (.lst (ys.map V.int))
    rw [← isort_eq hp hs] at q
    exact q _ _ _ S2 f2 ⟨p, _, rfl, hn, S1.hfNone hn, upd_same, dpa_ints ys⟩

/-! sum of a tuple -/
theorem cr_sumT (hc : X.calm = true) : CallR X (.builtin "sum") (fun vs H Q => ∃ (a : Addr) (ns : List Int), vs = [V.ref a] ∧ SqT X.K H a (ns.map V.int) ∧ Q (.int ns.sum) H) := by
  intro pins s σ H vs us Q I r h
  obtain ⟨a, ns, rfl, hs, q⟩ := h
  obtain ⟨its, rv, hl, _⟩ := I.tuple hs
  rw [Vals.ref1 r]
  obtain ⟨xs, e⟩ := rv.ints.allInts.items
  have hn : numsOf (intItems xs).toList = ns := by rw [← e]; exact rv.ints.numsOf
  rw [nums_intItems] at hn
  rw [e] at hl
  have hlt : a < s.heap.objs.size := by obtain ⟨_, e, _⟩ := hl; exact Heap.lt_size e
  have hT : s.heap.IsTuple a (intItems xs) := hl
  refine PySem.call_sum_walkG (PySem.wpAny_pyIter_tuple hT ?_)
  refine ⟨_, _, _, _, _, _, numAt xs, rfl, PySem.Walks.tuple (A := X.A.in1) (I.ok.hd hc) _ a (Nat.ne_of_lt hlt) (intItems xs), ⟨⟨_, Heap.get?_push_size _ rfl, rfl, rfl⟩, ?_⟩, fun b hb => ?_, fun _ _ => intItems_at, fun h' tk t' hk => ?_⟩
  · obtain ⟨o, e1, e2⟩ := hT
    exact ⟨o, Heap.get?_push_of_some _ e1, e2⟩
  · show b < (s.heap.push _).objs.size
    rw [Heap.size_push]
    rcases List.mem_cons.mp hb with rfl | hb
    · exact Nat.lt_succ_self _
    · rcases List.mem_cons.mp hb with rfl | hb
      · exact Nat.lt_succ_of_lt hlt
      · cases hb
  · have hk2 : ∀ b o, s.heap.get? b = some o → h'.get? b = some o := fun b o e => by
      refine hk b o (fun hm => ?_) (Heap.get?_push_of_some _ e)
      exact absurd (Heap.lt_size e) ((List.mem_singleton.mp hm) ▸ Nat.lt_irrefl _)
    refine ⟨.int ns.sum, H, I.kept hk2, ⟨t', ?_⟩, q⟩
    rw [preSum_eq, List.take_of_length_le (by simp [intItems]), hn]
theorem e_sumT {pn : Pos} {ns : List Int} (h : E X e ρ (.d (.tuple (ns.map .int))) ρ1) (hm : X.mg "sum" = none) (hg : Gl X "sum" := by rfl) (hc : X.calm = true := by rfl) (he : starEach [e] X.env = (false, eval e X.env) :: starEach [] X.env := by rfl) : E X (.Call (.Name "sum" pn) [e] [] pos) ρ (.d (.int ns.sum)) ρ1 :=
  .of (pe_callB (cr_sumT hc) hg hm (by decide +kernel) (pa_cons pe_w pa_nil he) (he := he)) (ev_cb h.o fun HF H x Q r s q => by
    have r : Dp X.K HF x (.tuple (ns.map .int)) := r
    cases r with
    | tup h1 h2 =>
      have := ints_dpa h2
      subst this
      exact ⟨_, ns, rfl, same_t s h1, q _ (.int _)⟩)

/-! constants of the module -/
def KD (K : PySem.W.Frag) (u : Value) (d : PyData) : Prop := ∃ x, RelV x u ∧ ∀ HF, Dp K HF x d
inductive KDs (K : PySem.W.Frag) : List Value → List PyData → Prop
  | nil : KDs K [] []
  | cons {u : Value} {us : List Value} {d : PyData} {ds : List PyData} (h : KD K u d) (t : KDs K us ds) : KDs K (u :: us) (d :: ds)
theorem KDs.vals {K : PySem.W.Frag} : ∀ {us : List Value} {ds : List PyData}, KDs K us ds → ∃ xs, Vals xs us ∧ ∀ HF, DpAll K HF xs ds
  | _, _, .nil => ⟨[], .nil, fun _ => .nil⟩
  | _, _, .cons ⟨x, r, h⟩ t => by
    obtain ⟨xs, rs, hs⟩ := t.vals
    exact ⟨x :: xs, .cons r rs, fun HF => .cons (h HF) (hs HF)⟩
theorem kd_int {K : PySem.W.Frag} {i : Int} {t : Tok} : KD K (.int i t) (.int i) := ⟨.int i, ⟨t, rfl⟩, fun _ => .int i⟩
theorem kd_str {K : PySem.W.Frag} {i : Str} {t : Tok} : KD K (.str i t) (.str i) := ⟨.str i, ⟨t, rfl⟩, fun _ => .str i⟩
theorem kd_tup {K : PySem.W.Frag} {a : Addr} {od : Option Addr} {its : Array Value} {n : Nat} {sl : Array (Option Value)} {ds : List PyData} (hl : K.lookup a = some ⟨.type "tuple", od, .seq its n, sl⟩) (h : KDs K its.toList ds) (hz : ds.length < 1000) : KD K (.ref a) (.tuple ds) := by
  obtain ⟨xs, rs, hs⟩ := h.vals
  refine ⟨.ref a, rfl, fun HF => .tup (.inr ⟨_, its, n, hl, rfl, rfl, ?_, rs⟩) (hs HF)⟩
  have e1 : xs.length = its.size := rs.length.trans Array.length_toList
  rw [← e1, dpa_len (hs HF)]
  exact Nat.le_trans (Nat.le_of_lt hz) (show 1000 ≤ sizeLine by decide)
def GCst (K : PySem.W.Frag) (mg : Str → Option Value) (n : Str) (d : PyData) : Prop := ∃ u, mg n = some u ∧ KD K u d
theorem e_glob {d : PyData} (h : GCst X.K X.mg x d) (hg : Gl X x := by rfl) (hd : (x == ("__debug__" : Str)) = false := by decide) : E X (.Name x pos) ρ (.d d) ρ := by
  obtain ⟨u, hm, y, r, h⟩ := h
  exact .of (pe_glob hg hm r hd) (ev_c h)
end
end Th

set_option Elab.async false
set_option linter.all false
set_option maxRecDepth 100000
namespace Th
open PySem PySem.Spec PyProof.Rows L2

/-! ### drawing from a cell -/
def tkU (s : Int × Int) : Int := (s.1 * 48271 + 7919 * (s.2 + 1) * (s.2 + 1) + 11) % 2147483629
def tkW (s : Int × Int) : Int := (tkU s * tkU s + 69621 * (s.2 + 1) + 7) % 2147483587
def tkV (s : Int × Int) (b : Int) : Int := if 10 ^ 18 < s.1 then (s.1 - 10 ^ 18) % b else tkW s / 5 % b
def tkC (s : Int × Int) (b : Int) : Int := if 10 ^ 18 < s.1 then 10 ^ 18 + (s.1 - 10 ^ 18) / b else s.1
def tkS (s : Int × Int) (b : Int) : Int × Int := (tkC s b, s.2 + 1)
theorem tkS_n (s : Int × Int) (b : Int) : (tkS s b).2 = s.2 + 1 := rfl
theorem tkV_lo {s : Int × Int} {b : Int} (h : 0 < b) : 0 ≤ tkV s b := by
  unfold tkV
  split
  · exact emod_lo h
  · exact emod_lo h
theorem tkV_hi {s : Int × Int} {b : Int} (h : 0 < b) : tkV s b < b := by
  unfold tkV
  split
  · exact emod_hi h
  · exact emod_hi h
abbrev rowA (s : Int × Int) : A := .ml [.int s.1, .int s.2]
def fTake : Fs := fun as r as' => ∃ (s : Int × Int) (b : Int), (0 ≤ s.2 ∧ s.2 ≤ 1000000) ∧ (0 < b ∧ b.natAbs < 2 ^ 250) ∧ as = [rowA s, .d (.int b)] ∧ r = .d (.int (tkV s b)) ∧ as' = [rowA (tkS s b), .d (.int b)]
theorem tkU_lo (s : Int × Int) : 0 ≤ tkU s := emod_lo (by decide)
theorem tkU_hi (s : Int × Int) : tkU s < 2147483629 := emod_hi (by decide)

/-! ### dicts by whole numbers -/
section
variable {α : Type} {m : List (Int × α)} {k q : Int} {v : α}
theorem getI_nil : getI ([] : List (Int × α)) k = none := rfl
theorem getI_cons {p : Int × α} : getI (p :: m) k = if p.1 = k then some p.2 else getI m k := by
  unfold getI
  rw [List.find?_cons]
  by_cases h : p.1 = k
  · rw [if_pos h, show decide (p.1 = k) = true from decide_eq_true h]
    rfl
  · rw [if_neg h, show decide (p.1 = k) = false from decide_eq_false h]
theorem getI_none (h : k ∉ m.map (·.1)) : getI m k = none := by
  induction m with
  | nil => rfl
  | cons p m ih =>
    rw [getI_cons, if_neg fun z => h (by rw [List.map_cons, ← z]; exact List.mem_cons_self), ih fun z => h (by rw [List.map_cons]; exact List.mem_cons_of_mem _ z)]
theorem getI_app {l : List (Int × α)} : getI (m ++ l) k = (getI m k).or (getI l k) := by
  induction m with
  | nil => rfl
  | cons p m ih =>
    rw [List.cons_append, getI_cons, getI_cons]
    split
    · rfl
    · exact ih
theorem any_iff : (m.any fun kv => decide (kv.1 = k)) = true ↔ k ∈ m.map (·.1) := by
  rw [List.any_eq_true, List.mem_map]
  constructor
  · rintro ⟨x, h, e⟩
    exact ⟨x, h, of_decide_eq_true e⟩
  · rintro ⟨x, h, e⟩
    exact ⟨x, h, decide_eq_true e⟩
theorem getI_map : ∀ (m : List (Int × α)), k ∈ m.map (·.1) → getI (m.map fun kv => if kv.1 = k then (kv.1, v) else kv) k = some v
  | [], h => nomatch h
  | p :: m, h => by
    rw [List.map_cons, getI_cons]
    by_cases g : p.1 = k
    · rw [if_pos g]
      dsimp only
      rw [if_pos g]
    · rw [if_neg g, if_neg g]
      refine getI_map m ?_
      rw [List.map_cons] at h
      rcases List.mem_cons.mp h with z | z
      · exact absurd z.symm g
      · exact z
theorem getI_map2 (e : k ≠ q) : ∀ (m : List (Int × α)), getI (m.map fun kv => if kv.1 = k then (kv.1, v) else kv) q = getI m q
  | [] => rfl
  | p :: m => by
    rw [List.map_cons, getI_cons, getI_cons, getI_map2 e m]
    by_cases g : p.1 = k
    · rw [if_pos g]
      dsimp only
      rw [if_neg (by rw [g]; exact e), if_neg (by rw [g]; exact e)]
    · rw [if_neg g]
theorem getI_set : getI (setI m k v) q = if k = q then some v else getI m q := by
  unfold setI
  split
  · rename_i h
    have h := any_iff.mp h
    by_cases e : k = q
    · subst e
      rw [if_pos rfl, getI_map m h]
    · rw [if_neg e, getI_map2 e m]
  · rename_i h
    have h : k ∉ m.map (·.1) := fun z => h (any_iff.mpr z)
    rw [getI_app]
    by_cases e : k = q
    · subst e
      rw [if_pos rfl, getI_none h, getI_cons, if_pos rfl]
      rfl
    · rw [if_neg e, getI_cons, if_neg e, getI_nil]
      cases getI m q <;> rfl
theorem keys_set : (setI m k v).map (·.1) = if k ∈ m.map (·.1) then m.map (·.1) else m.map (·.1) ++ [k] := by
  unfold setI
  by_cases h : k ∈ m.map (·.1)
  · rw [if_pos (any_iff.mpr h), if_pos h, List.map_map]
    refine List.map_congr_left fun p _ => ?_
    show (if p.1 = k then (p.1, v) else p).1 = p.1
    split <;> rfl
  · rw [if_neg fun z => h (any_iff.mp z), if_neg h, List.map_append]
    rfl
theorem nodup_set (h : (m.map (·.1)).Nodup) : ((setI m k v).map (·.1)).Nodup := by
  rw [keys_set]
  split
  · exact h
  · rename_i g
    rw [List.nodup_append]
    refine ⟨h, List.nodup_cons.mpr ⟨List.not_mem_nil, List.nodup_nil⟩, fun a ha b hb z => ?_⟩
    rw [List.mem_singleton] at hb
    exact g (by rw [← hb, ← z]; exact ha)
theorem mem_keys_set : q ∈ (setI m k v).map (·.1) ↔ q = k ∨ q ∈ m.map (·.1) := by
  rw [keys_set]
  split
  · rename_i g
    exact ⟨.inr, fun z => z.elim (fun e => e ▸ g) id⟩
  · rw [List.mem_append, List.mem_singleton]
    exact Or.comm
end
/-! ### polynomials: lists of terms -/
abbrev Tm := Int × Int
def cf : List Tm → Int → Int
  | [], _ => 0
  | t :: ts, p => (if t.1 = p then t.2 else 0) + cf ts p
def Can (ts : List Tm) : Prop := (ts.map (·.1)).Pairwise (· < ·) ∧ ∀ t ∈ ts, t.2 ≠ 0
theorem cf_app (a b : List Tm) (p : Int) : cf (a ++ b) p = cf a p + cf b p := by
  induction a with
  | nil => rw [List.nil_append, cf]; omega
  | cons t a ih => rw [List.cons_append, cf, cf, ih]; omega
theorem cf_off {a : List Tm} {p : Int} (h : p ∉ a.map (·.1)) : cf a p = 0 := by
  induction a with
  | nil => rfl
  | cons t a ih =>
    rw [List.map_cons, List.mem_cons, not_or] at h
    rw [cf, if_neg fun z => h.1 z.symm, ih h.2]
    rfl
theorem cf_mem {a : List Tm} (hn : (a.map (·.1)).Nodup) {t : Tm} (h : t ∈ a) : cf a t.1 = t.2 := by
  induction a with
  | nil => cases h
  | cons u a ih =>
    rw [List.map_cons, List.nodup_cons] at hn
    rw [cf]
    rcases List.mem_cons.mp h with e | h
    · subst e
      rw [if_pos rfl, cf_off hn.1]
      omega
    · have hm : t.1 ∈ a.map (·.1) := List.mem_map_of_mem h
      rw [if_neg (fun z => hn.1 (by rw [z]; exact hm)), ih hn.2 h]
      omega
theorem pw_nodup {xs : List Int} (h : xs.Pairwise (· < ·)) : xs.Nodup := h.imp fun h => by omega
theorem Can.nodup {a : List Tm} (h : Can a) : (a.map (·.1)).Nodup := pw_nodup h.1
theorem can_ext : ∀ {a b : List Tm}, Can a → Can b → (∀ p, cf a p = cf b p) → a = b
  | [], [], _, _, _ => rfl
  | [], y :: b, _, hb, h => by
    have := h y.1
    rw [cf_mem hb.nodup List.mem_cons_self] at this
    exact absurd this.symm (hb.2 y List.mem_cons_self)
  | x :: a, [], ha, _, h => by
    have := h x.1
    rw [cf_mem ha.nodup List.mem_cons_self] at this
    exact absurd this (ha.2 x List.mem_cons_self)
  | x :: a, y :: b, ha, hb, h => by
    have ha1 := List.pairwise_cons.mp (show (x.1 :: a.map (·.1)).Pairwise (· < ·) from ha.1)
    have hb1 := List.pairwise_cons.mp (show (y.1 :: b.map (·.1)).Pairwise (· < ·) from hb.1)
    have e1 := h x.1
    have e2 := h y.1
    rw [cf_mem ha.nodup List.mem_cons_self] at e1
    rw [cf_mem hb.nodup List.mem_cons_self] at e2
    have hx : x.1 = y.1 := by
      rcases Int.lt_trichotomy x.1 y.1 with g | g | g
      · rw [cf_off] at e1
        · exact absurd e1 (ha.2 x List.mem_cons_self)
        · rw [List.map_cons, List.mem_cons]
          rintro (z | z)
          · omega
          · have := hb1.1 _ z; omega
      · exact g
      · rw [cf_off] at e2
        · exact absurd e2.symm (hb.2 y List.mem_cons_self)
        · rw [List.map_cons, List.mem_cons]
          rintro (z | z)
          · omega
          · have := ha1.1 _ z; omega
    have hxy : x = y := by
      rw [hx, cf_mem hb.nodup List.mem_cons_self] at e1
      exact Prod.ext hx e1
    subst hxy
    refine congrArg _ (can_ext ⟨ha1.2, fun t ht => ha.2 t (List.mem_cons_of_mem _ ht)⟩ ⟨hb1.2, fun t ht => hb.2 t (List.mem_cons_of_mem _ ht)⟩ fun p => ?_)
    have := h p
    rw [cf, cf] at this
    omega
/-- the terms of a dict, in order -/
abbrev keysI (d : List Tm) : List Int := d.map (·.1)
def valI (d : List Tm) (p : Int) : Int := (getI d p).getD 0
def canD (d : List Tm) : List Tm := ((isort (d.map (·.1))).filter fun p => !decide (valI d p = 0)).map fun p => (p, valI d p)
theorem isort_lt {ns : List Int} (h : ns.Nodup) : (isort ns).Pairwise (· < ·) := by
  have h2 : (isort ns).Nodup := (isort_perm ns).nodup_iff.mpr h
  exact ((isort_pw ns).and h2).imp fun ⟨a, b⟩ => by omega
theorem canD_keys (d : List Tm) : (canD d).map (·.1) = (isort (d.map (·.1))).filter fun p => !decide (valI d p = 0) := by
  unfold canD
  rw [List.map_map]
  exact List.map_id _
theorem canD_can {d : List Tm} (h : (d.map (·.1)).Nodup) : Can (canD d) := by
  refine ⟨?_, fun t ht => ?_⟩
  · rw [canD_keys]
    exact (isort_lt h).filter _
  · unfold canD at ht
    obtain ⟨p, hp, rfl⟩ := List.mem_map.mp ht
    have := (List.mem_filter.mp hp).2
    simpa using this
theorem canD_cf {d : List Tm} (h : (d.map (·.1)).Nodup) (p : Int) : cf (canD d) p = valI d p := by
  by_cases hp : p ∈ (canD d).map (·.1)
  · obtain ⟨t, ht, rfl⟩ := List.mem_map.mp hp
    rw [cf_mem (canD_can h).nodup ht]
    unfold canD at ht
    obtain ⟨q, _, rfl⟩ := List.mem_map.mp ht
    rfl
  · rw [cf_off hp]
    rw [canD_keys, List.mem_filter] at hp
    by_cases hz : valI d p = 0
    · exact hz.symm
    · have : p ∉ d.map (·.1) := fun z => hp ⟨(isort_perm _).mem_iff.mpr z, by simpa using hz⟩
      exact (show valI d p = 0 by unfold valI; rw [getI_none this]; rfl).symm
theorem canD_pow {d : List Tm} {t : Tm} (h : t ∈ canD d) : t.1 ∈ d.map (·.1) := by
  have : t.1 ∈ (canD d).map (·.1) := List.mem_map_of_mem h
  rw [canD_keys, List.mem_filter] at this
  exact (isort_perm _).mem_iff.mp this.1
theorem canD_len (d : List Tm) : (canD d).length ≤ d.length := by
  have e : (canD d).length = ((canD d).map (·.1)).length := (List.length_map _).symm
  rw [e, canD_keys]
  refine Nat.le_trans (List.length_filter_le _ _) ?_
  rw [(isort_perm _).length_eq, List.length_map]
  exact Nat.le_refl _
theorem valI_set {d : List Tm} {k q n : Int} : valI (setI d k n) q = if k = q then n else valI d q := by
  unfold valI
  rw [getI_set]
  split <;> rfl
/-- a number put in -/
def addI (d : List Tm) (t : Tm) : List Tm := setI d t.1 (valI d t.1 + t.2)
def gatD (ts : List Tm) : List Tm := ts.foldl addI []
theorem addI_val (d : List Tm) (t : Tm) (p : Int) : valI (addI d t) p = valI d p + (if t.1 = p then t.2 else 0) := by
  unfold addI
  rw [valI_set]
  split
  · rename_i h; rw [h]
  · omega
theorem addI_nodup {d : List Tm} {t : Tm} (h : (d.map (·.1)).Nodup) : ((addI d t).map (·.1)).Nodup := nodup_set h
theorem addI_len (d : List Tm) (t : Tm) : (addI d t).length ≤ d.length + 1 := setI_len _ _ _
theorem fold_val (ts : List Tm) : ∀ (d : List Tm) (p : Int), valI (ts.foldl addI d) p = valI d p + cf ts p := by
  induction ts with
  | nil => intro d p; show _ = _ + 0; rw [Int.add_zero]; rfl
  | cons t ts ih =>
    intro d p
    rw [List.foldl_cons, ih, addI_val, cf]
    omega
theorem fold_nodup (ts : List Tm) : ∀ {d : List Tm}, (d.map (·.1)).Nodup → ((ts.foldl addI d).map (·.1)).Nodup := by
  induction ts with
  | nil => intro d h; exact h
  | cons t ts ih => intro d h; exact ih (addI_nodup h)
theorem fold_keys (ts : List Tm) : ∀ {d : List Tm} {p : Int}, p ∈ (ts.foldl addI d).map (·.1) ↔ p ∈ d.map (·.1) ∨ p ∈ ts.map (·.1) := by
  induction ts with
  | nil => intro d p; simp
  | cons t ts ih =>
    intro d p
    rw [List.foldl_cons, ih, List.map_cons, List.mem_cons]
    unfold addI
    rw [mem_keys_set]
    constructor
    · rintro ((h | h) | h)
      · exact .inr (.inl h)
      · exact .inl h
      · exact .inr (.inr h)
    · rintro (h | h | h)
      · exact .inl (.inr h)
      · exact .inl (.inl h)
      · exact .inr h
theorem gatD_val (ts : List Tm) (p : Int) : valI (gatD ts) p = cf ts p := by
  unfold gatD
  rw [fold_val]
  show 0 + _ = _
  omega
theorem gatD_nodup (ts : List Tm) : ((gatD ts).map (·.1)).Nodup := fold_nodup ts List.nodup_nil
theorem gatD_keys {ts : List Tm} {p : Int} : p ∈ (gatD ts).map (·.1) ↔ p ∈ ts.map (·.1) := by
  unfold gatD
  rw [fold_keys]
  simp
theorem fold_len (ts : List Tm) : ∀ (d : List Tm), (ts.foldl addI d).length ≤ d.length + ts.length := by
  induction ts with
  | nil => intro d; exact Nat.le_refl _
  | cons t ts ih =>
    intro d
    have h1 := ih (addI d t)
    have h2 := addI_len d t
    rw [List.foldl_cons, List.length_cons]
    omega
def gat (ts : List Tm) : List Tm := canD (gatD ts)
theorem gat_can (ts : List Tm) : Can (gat ts) := canD_can (gatD_nodup ts)
theorem gat_cf (ts : List Tm) (p : Int) : cf (gat ts) p = cf ts p := by
  unfold gat
  rw [canD_cf (gatD_nodup ts), gatD_val]
theorem gat_pow {ts : List Tm} {t : Tm} (h : t ∈ gat ts) : t.1 ∈ ts.map (·.1) := gatD_keys.mp (canD_pow h)
theorem gat_len (ts : List Tm) : (gat ts).length ≤ ts.length := by
  refine Nat.le_trans (canD_len _) ?_
  have := fold_len ts []
  unfold gatD
  simpa using this
theorem gat_val {ts : List Tm} {t : Tm} (h : t ∈ gat ts) : t.2 = cf ts t.1 := by rw [← gat_cf, cf_mem (gat_can ts).nodup h]
theorem gat_is {ts a : List Tm} (ha : Can a) (h : ∀ p, cf ts p = cf a p) : gat ts = a := can_ext (gat_can ts) ha fun p => (gat_cf ts p).trans (h p)
theorem gat_id {a : List Tm} (ha : Can a) : gat a = a := gat_is ha fun _ => rfl
theorem gat_congr {a b : List Tm} (h : ∀ p, cf a p = cf b p) : gat a = gat b := gat_is (gat_can b) fun p => (h p).trans (gat_cf b p).symm

/-! products -/
def liftT (k : Int) (a : List Tm) : List Tm := a.map fun t => (t.1 + k, t.2)
def rowT (t : Tm) (b : List Tm) : List Tm := b.map fun u => (t.1 + u.1, t.2 * u.2)
def prodT (a b : List Tm) : List Tm := (a.map fun t => rowT t b).flatten
theorem prodT_cons (t : Tm) (a b : List Tm) : prodT (t :: a) b = rowT t b ++ prodT a b := by
  unfold prodT
  rw [List.map_cons, List.flatten_cons]
theorem prodT_len (a b : List Tm) : (prodT a b).length = a.length * b.length := by
  induction a with
  | nil => rw [List.length_nil, Nat.zero_mul]; rfl
  | cons t a ih =>
    rw [prodT_cons, List.length_append, ih, List.length_cons, Nat.succ_mul]
    unfold rowT
    rw [List.length_map]
    omega
theorem cf_row (t : Tm) (b : List Tm) (p : Int) : cf (rowT t b) p = t.2 * cf b (p - t.1) := by
  induction b with
  | nil => show 0 = t.2 * 0; rw [Int.mul_zero]
  | cons u b ih =>
    show (if t.1 + u.1 = p then t.2 * u.2 else 0) + cf (rowT t b) p = _
    rw [cf, Int.mul_add, ih]
    by_cases h : t.1 + u.1 = p
    · rw [if_pos h, if_pos (by omega)]
    · rw [if_neg h, if_neg (by omega), Int.mul_zero]
theorem cf_prod_cons (t : Tm) (a b : List Tm) (p : Int) : cf (prodT (t :: a) b) p = t.2 * cf b (p - t.1) + cf (prodT a b) p := by rw [prodT_cons, cf_app, cf_row]
theorem cf_lift (k : Int) (a : List Tm) (p : Int) : cf (liftT k a) p = cf a (p - k) := by
  induction a with
  | nil => rfl
  | cons t a ih =>
    show (if t.1 + k = p then t.2 else 0) + cf (liftT k a) p = _
    rw [cf, ih]
    by_cases h : t.1 + k = p
    · rw [if_pos h, if_pos (by omega)]
    · rw [if_neg h, if_neg (by omega)]
theorem lift_can {k : Int} {a : List Tm} (h : Can a) : Can (liftT k a) := by
  refine ⟨?_, fun t ht => ?_⟩
  · unfold liftT
    rw [List.map_map, List.pairwise_map]
    exact (List.pairwise_map.mp h.1).imp fun {a b} (h : a.1 < b.1) => (show a.1 + k < b.1 + k by omega)
  · obtain ⟨u, hu, rfl⟩ := List.mem_map.mp ht
    exact h.2 u hu
/-- how many terms lie between two powers -/
theorem pw_len : ∀ {xs : List Int} {lo hi : Int}, xs.Pairwise (· < ·) → (∀ x ∈ xs, lo ≤ x ∧ x ≤ hi) → (xs.length : Int) ≤ max 0 (hi - lo + 1)
  | [], _, _, _, _ => by simp; omega
  | x :: xs, lo, hi, h, hb => by
    have h1 := List.pairwise_cons.mp h
    have h2 := hb x List.mem_cons_self
    have := pw_len (lo := x + 1) (hi := hi) h1.2 fun y hy => ⟨h1.1 y hy, (hb y (List.mem_cons_of_mem _ hy)).2⟩
    rw [List.length_cons]
    omega
theorem nodup_len {xs : List Int} {lo hi : Int} (h : xs.Nodup) (hb : ∀ x ∈ xs, lo ≤ x ∧ x ≤ hi) : (xs.length : Int) ≤ max 0 (hi - lo + 1) := by
  rw [← (isort_perm xs).length_eq]
  exact pw_len (isort_lt h) fun x hx => hb x ((isort_perm xs).mem_iff.mp hx)
/-! as data -/
abbrev encT (t : Tm) : PyData := .tuple [.int t.1, .int t.2]
abbrev encP (ts : List Tm) : PyData := .tuple (ts.map encT)
theorem eqE_T : EqE encT := eqE_pair eqE_int eqE_int
theorem eqE_P : EqE encP := eqE_tuple eqE_T
theorem fit_T {n : Nat} (t : Tm) : Fit (n + 1) (encT t) := fit_t2 (fit_int _) (fit_int _)
theorem fit_P {n : Nat} (a : List Tm) : Fit (n + 2) (encP a) := fit_tm fun t _ => fit_T t
abbrev encDI (d : List Tm) : List (Key × PyData) := encD PyData.int d
theorem getK_val (d : List Tm) (p : Int) : (getK (encDI d) (Sum.inl p)).getD (.int 0) = .int (valI d p) := by
  rw [getK_enc]
  unfold valI
  cases getI d p <;> rfl
theorem getK_in {d : List Tm} {p : Int} (h : p ∈ d.map (·.1)) : getK (encDI d) (Sum.inl p) = some (.int (valI d p)) := by
  obtain ⟨v, e⟩ := getI_some h
  rw [getK_enc]
  unfold valI
  rw [e]
  rfl
theorem encDI_set (d : List Tm) (p n : Int) : setK (encDI d) (Sum.inl p) (.int n) = encDI (setI d p n) := setK_enc (f := PyData.int) d p n
theorem encDI_keys (d : List Tm) : (encDI d).map (·.1) = (keysI d).map Sum.inl := keys_enc (f := PyData.int) d
end Th
namespace Th
open PySem PySem.Spec PyProof.Rows L2
/-- a def that changes its first argument -/
theorem pr_1 {r a x : A} {ds : List PyData} {ρ : Rho} (h : a = r) (h2 : ρ[0]? = some x) : PR r (x :: ds.map A.d) a ρ := ⟨h, fun i a' e o => by
  cases i with
  | zero => rw [List.getElem?_cons_zero] at e; cases e; exact h2
  | succ i =>
    rw [List.getElem?_cons_succ] at e
    have := own_map a' (List.mem_of_getElem? e)
    rw [o] at this
    cases this⟩
theorem own_1 {x : A} {ds : List PyData} {i : Nat} {a : A} (e : (x :: ds.map A.d)[i]? = some a) (o : a.own = true) : i ∈ [0] := by
  cases i with
  | zero => exact List.mem_singleton.mpr rfl
  | succ i =>
    rw [List.getElem?_cons_succ] at e
    have := own_map a (List.mem_of_getElem? e)
    rw [o] at this
    cases this
end Th
namespace Th
open PySem PySem.Spec PyProof.Rows L2
def fGathered : List PyData → A → Prop := fun ds r => ∃ (tup : Bool) (ts : List Tm), ts.length < 100000 ∧ ds = [if tup then encP ts else .list (ts.map encT)] ∧ r = .d (encP (gat ts))
def fTimes : List PyData → A → Prop := fun ds r => ∃ a b : List Tm, a.length * b.length < 100000 ∧ a.length < 100000 ∧ b.length < 100000 ∧ (∀ t ∈ a, ∀ u ∈ b, CMulW t.2 u.2) ∧ ds = [encP a, encP b] ∧ r = .d (encP (gat (prodT a b)))
def fLifted : List PyData → A → Prop := fun ds r => ∃ (a : List Tm) (k : Int), a.length < 100000 ∧ ds = [encP a, .int k] ∧ r = .d (encP (liftT k a))
def fTold : List PyData → A → Prop := fun ds r => ∃ a : List Tm, ds = [encP a] ∧ r = .d (.bool true)
def fPolyD : Fs := fun as r as' => ∃ d : List Tm, d.length < 100000 ∧ as = [.mk (encDI d)] ∧ r = .d (encP (canD d)) ∧ as' = as
theorem prodT_take {a b : List Tm} {i : Nat} {t : Tm} (h : a[i]? = some t) : prodT (a.take (i + 1)) b = prodT (a.take i) b ++ rowT t b := by
  unfold prodT
  rw [List.take_add_one, h, List.map_append, List.flatten_append]
  simp
end Th
namespace Th
open PySem PySem.Spec PyProof.Rows L2
theorem shape_1 {x y : A} {l : List A} (hx : x.own = true := by rfl) (hy : y.own = true := by rfl) : Shape (x :: l) (y :: l) := ⟨rfl, fun i a e => by
  cases i with
  | zero => rw [List.getElem?_cons_zero] at e; cases e; exact ⟨y, rfl, by rw [hx, hy], fun z => by rw [hx] at z; cases z⟩
  | succ i => exact ⟨a, e, rfl, fun _ => rfl⟩⟩
theorem e_take (i : Nat) {X : Cx} {ρ ρ1 : Rho} {k : Nat} {f : Addr} {fd : FuncData} {ps : List Str} {x y : Str} {p py pos : Pos} {eb : Expr} {s : Int × Int} {b : Int} (G : FnOk X.prog X.w X.K X.mg X.base CX0 k f fd ps (spA X.K fTake)) (hr : Room k X.A) (hm : X.mg x = some (.ref f)) (hk : PySem.W.keepIn X.K (.ref f) = true) (hb : Binds X.K fd ps [])
    (he : E X eb ρ (.d (.int b)) ρ1) (hi0 : ∃ a, ρ[i]? = some a ∧ a.own = true) (hi : ρ1[i]? = some (rowA s)) (hs : 0 ≤ s.2 ∧ s.2 ≤ 1000000 := by (refine ⟨?_, ?_⟩ <;> (try simp only [tkS_n]) <;> omega)) (h0 : 0 < b ∧ b.natAbs < 2 ^ 250 := by exact ⟨by decide, by decide⟩) (hN : X.N[i]? = some y := by rfl) (hv : Vis X.env.scope y := by first | exact Or.inl rfl | exact Or.inr (Or.inl rfl) | exact Or.inr (Or.inr rfl))
    (hd : (y == ("__debug__" : Str)) = false := by decide) (hcd : (y == ("__classdict__" : Str)) = false := by decide) (hs2 : starEach (.Name y py :: [eb]) X.env = (false, eval (.Name y py) X.env) :: starEach [eb] X.env := by rfl) (hs3 : starEach (eb :: []) X.env = (false, eval eb X.env) :: starEach [] X.env := by rfl) (hg : Gl X x := by rfl) (hdb : (x == ("__debug__" : Str)) = false := by decide) (hpl : (backTo pos (starEach [eb] X.env)).any (·.1) = false := by rfl) :
    E X (.Call (.Name x p) [.Name y py, eb] [] pos) ρ (.d (.int (tkV s b))) (ρ1.set i (rowA (tkS s b))) := by
  obtain ⟨a, h1, h2⟩ := hi0
  have e : ρ1.getD i .any = rowA s := by rw [List.getD_eq_getElem?_getD, hi]; rfl
  have h := e_call (r := .d (.int (tkV s b))) (as' := [rowA (tkS s b), .d (.int b)]) (pos := pos) (p := p) G hr hm hk hb (a_lent (pos := py) i h1 h2 (a_dat he a_nil hs3) hN hv hd hcd hs2) ⟨s, b, hs, h0, by simp only [List.map_cons, List.map_nil, toA, e], rfl, rfl⟩ (by simp only [List.map_cons, List.map_nil, toA, e]; exact shape_1) (by simp [lents]) (fun _ _ z => z.elim) hg hdb hs2 hpl
  exact h
theorem src_keysI {X : Cx} {ρ ρ1 : Rho} {tg iter : Expr} {d : List Tm} (h : E X iter ρ (.fk (encDI d)) ρ1) : Src X tg iter ρ (d.map fun t => .int t.1) ρ1 none := by
  have g := src_keys (tg := tg) h
  have : (encDI d).map (fun kv => kD kv.1) = d.map fun t => PyData.int t.1 := by
    unfold encDI encD
    rw [List.map_map]
    rfl
  rwa [this] at g
end Th
namespace Th
open PySem PySem.Spec PyProof.Rows L2
/-! draws: one of two; rows of them -/
def pick2 (s : Int × Int) (a b c : Int) : Int := if decide (tkV (tkS (tkS s a) b) c = 1) = true then tkV (tkS s a) b else tkV s a
theorem at_b2 {a b : PyData} {c : Bool} : atI [a, b] (if c = true then 1 else 0) = some (if c = true then b else a) := by cases c <;> rfl
theorem at_b2i {a b : Int} {c : Bool} : atI [PyData.int a, .int b] (if c = true then 1 else 0) = some (.int (if c = true then b else a)) := by cases c <;> rfl
theorem pick2_bd {s : Int × Int} {a b c m : Int} (ha : 0 < a) (hb : 0 < b) (h1 : a ≤ m) (h2 : b ≤ m) : 0 ≤ pick2 s a b c ∧ pick2 s a b c < m := by
  unfold pick2
  have := tkV_lo (s := s) ha
  have := tkV_hi (s := s) ha
  have := tkV_lo (s := tkS s a) hb
  have := tkV_hi (s := tkS s a) hb
  split <;> omega
def drawL (b : Int) : Nat → Int × Int → List Int
  | 0, _ => []
  | n + 1, s => tkV s b :: drawL b n (tkS s b)
theorem drawL_len (b : Int) : ∀ (n : Nat) (s : Int × Int), (drawL b n s).length = n
  | 0, _ => rfl
  | n + 1, s => congrArg (· + 1) (drawL_len b n _)
theorem drawL_bd {b : Int} (hb : 0 < b) : ∀ (n : Nat) (s : Int × Int), ∀ x ∈ drawL b n s, 0 ≤ x ∧ x < b
  | 0, _, x, h => nomatch h
  | n + 1, s, x, h => by
    rcases List.mem_cons.mp h with rfl | h
    · exact ⟨tkV_lo hb, tkV_hi hb⟩
    · exact drawL_bd hb n _ x h
theorem fold_draw {α : Type} (b : Int) : ∀ (xs : List α) (t : Int × Int) (acc : List PyData), (xs.foldl (fun (p : (Int × Int) × List PyData) (_ : α) => (tkS p.1 b, p.2 ++ [PyData.int (tkV p.1 b)])) (t, acc)).2 = acc ++ (drawL b xs.length t).map .int
  | [], t, acc => by show acc = acc ++ []; rw [List.append_nil]
  | x :: xs, t, acc => by
    rw [List.foldl_cons, fold_draw b xs]
    show (acc ++ [_]) ++ _ = acc ++ (_ :: _)
    rw [List.append_assoc]
    rfl
theorem fold_drawS {α : Type} (b : Int) : ∀ (xs : List α) (t : Int × Int), (xs.foldl (fun (p : Int × Int) (_ : α) => tkS p b) t).2 = t.2 + xs.length
  | [], t => by show t.2 = t.2 + 0; omega
  | x :: xs, t => by
    rw [List.foldl_cons, fold_drawS b xs, tkS_n, List.length_cons]
    omega
theorem rep_one {α : Type} (x : α) : ∀ n : Nat, (List.replicate n [x]).flatten = List.replicate n x
  | 0 => rfl
  | n + 1 => by rw [List.replicate_succ, List.flatten_cons, rep_one x n]; rfl
end Th
namespace Th
open PySem PySem.Spec PyProof.Rows L2
abbrev encN (i : Nat) : PyData := .int (i : Int)
theorem src_rN {X : Cx} {ρ ρ1 : Rho} {tg e : Expr} {px pc : Pos} {n : Nat} (h : E X e ρ (.d (.int n)) ρ1) (hm : X.mg "range" = none) (hn : n < 2 ^ 62) (hg : Gl X "range" := by rfl) (hse : starEach [e] X.env = [(false, eval e X.env)] := by rfl) :
    Src X tg (.Call (.Name "range" px) [e] [] pc) ρ ((List.range n).map encN) ρ1 none := by
  have g := src_r1 (tg := tg) (px := px) (pc := pc) h hm ⟨by omega, by omega⟩ hg hse
  have : rangeD 0 (n : Int).toNat = (List.range n).map encN := by
    unfold rangeD
    rw [Int.toNat_natCast]
    refine List.map_congr_left fun i _ => ?_
    rw [Int.zero_add]
  rwa [this] at g
theorem range_get {n i x : Nat} (h : (List.range n)[i]? = some x) : i < n ∧ x = i := by
  have := (List.getElem?_eq_some_iff.mp h)
  obtain ⟨h1, h2⟩ := this
  rw [List.length_range] at h1
  rw [List.getElem_range] at h2
  exact ⟨h1, h2.symm⟩
end Th
namespace Th
open PySem PySem.Spec PyProof.Rows L2
section
variable {X : Cx} {B : Bs} {P : Pst} {ρ ρ1 ρ2 ρ3 : Rho} {tg iter e e1 e2 : Expr} {es : List Expr} {pos pos' : Pos} {ds : List PyData} {k : Option Nat}
theorem l_lcF {α : Type} {xs : List α} {scope : Scope} (own : List (Str × Nat)) {elt : Expr} {ifs : List Expr} (enc : α → PyData) (p : α → Bool) (g : α → PyData)
    (ht : Src X tg iter ρ (xs.map enc) ρ1 k) (hN : X.N.Nodup) (hz : xs.length < 100000)
    (hb : ∀ (i : Nat) (x : α), xs[i]? = some x → ∃ ρ2 : Rho, (∀ (s : Shared) (H : Hp) (C : Addr) (cl : List (Str × Addr)) (fp : List Addr), GC (X.blk s H scope (compEnvC scope cl C X.env) fp) (own.map (·.2)) tg (enc x) (wipeR ρ1 (own.map (·.2))) ρ2) ∧
      (∀ (s : Shared) (H : Hp) (C : Addr) (cl : List (Str × Addr)) (fp : List Addr), EI (X.blk s H scope (compEnvC scope cl C X.env) fp) ifs ρ2 (p x) ρ2) ∧
      (p x = true → ∀ (s : Shared) (H : Hp) (C : Addr) (cl : List (Str × Addr)) (fp : List Addr), E (X.blk s H scope (compEnvC scope cl C X.env) fp) elt ρ2 (.d (g x)) ρ2) ∧ wipeR ρ2 (own.map (·.2)) = wipeR ρ1 (own.map (·.2)))
    (hv : noOwn ρ1 (own.map (·.2)) = true) (hkk : ∀ j, k = some j → j ∉ own.map (·.2)) (ok : BlkOk X.N X.env.scope scope own)
    (hc : X.calm = true := by rfl) (hs : ∀ x, foldedSetIterable iter X.env x = pure x := by intro _; rfl) : ELc X (.ListComp elt [⟨tg, iter, ifs, 0⟩] scope pos) ρ (.ml ((xs.filter p).map g)) ρ1 := by
  refine el_lc (out := (xs.filter p).map g) (D0 := []) ht ok hN (fun i ρ' acc => ρ' = wipeR ρ1 (own.map (·.2)) ∧ acc = ((xs.take i).filter p).map g) ⟨rfl, rfl⟩ (fun i ρ' acc ⟨e, _⟩ => ⟨?_, hkk⟩) (fun i v ρ' acc hi ⟨e1, e2⟩ => ?_) (fun ρ' acc ⟨e1, e2⟩ => ?_) (by rw [List.length_map]; exact Nat.lt_of_lt_of_le hz (by decide)) (fun i ρ' acc ⟨_, e⟩ => ?_) hc hs
  · subst e
    cases k with
    | none => trivial
    | some j => exact wipeR_off (hkk j rfl)
  · subst e1
    obtain ⟨x, hx, rfl⟩ := map_get hi
    obtain ⟨ρ2, h1, h2, h3, h4⟩ := hb i x hx
    have tk : xs.take (i + 1) = xs.take i ++ [x] := by rw [List.take_add_one, hx]; rfl
    refine ⟨ρ2, p x, ρ2, h1, h2, fun z => ⟨g x, ρ2, h3 z, h4, ?_⟩, fun z => ⟨h4, ?_⟩⟩
    · rw [e2, tk, List.filter_append, List.map_append]
      simp [z]
    · rw [e2, tk, List.filter_append, List.map_append]
      simp [z]
  · subst e1
    rw [List.length_map, List.take_length] at e2
    exact ⟨e2, unw_id (no_own hv)⟩
  · rw [e, List.length_map]
    refine Nat.le_trans (List.length_filter_le _ _) ?_
    rw [List.length_take]
    exact Nat.min_le_left _ _
theorem l_lcM {α : Type} {xs : List α} {scope : Scope} (own : List (Str × Nat)) {elt : Expr} (enc : α → PyData) (g : α → PyData)
    (ht : Src X tg iter ρ (xs.map enc) ρ1 k) (hN : X.N.Nodup) (hz : xs.length < 100000)
    (hb : ∀ (i : Nat) (x : α), xs[i]? = some x → ∃ ρ2 : Rho, (∀ (s : Shared) (H : Hp) (C : Addr) (cl : List (Str × Addr)) (fp : List Addr), GC (X.blk s H scope (compEnvC scope cl C X.env) fp) (own.map (·.2)) tg (enc x) (wipeR ρ1 (own.map (·.2))) ρ2) ∧
      (∀ (s : Shared) (H : Hp) (C : Addr) (cl : List (Str × Addr)) (fp : List Addr), E (X.blk s H scope (compEnvC scope cl C X.env) fp) elt ρ2 (.d (g x)) ρ2) ∧ wipeR ρ2 (own.map (·.2)) = wipeR ρ1 (own.map (·.2)))
    (hv : noOwn ρ1 (own.map (·.2)) = true) (hkk : ∀ j, k = some j → j ∉ own.map (·.2)) (ok : BlkOk X.N X.env.scope scope own)
    (hc : X.calm = true := by rfl) (hs : ∀ x, foldedSetIterable iter X.env x = pure x := by intro _; rfl) : ELc X (.ListComp elt [⟨tg, iter, [], 0⟩] scope pos) ρ (.ml (xs.map g)) ρ1 := by
  have h := l_lcF (pos := pos) (elt := elt) (ifs := []) own enc (fun _ => true) g ht hN hz (fun i x hx => by
    obtain ⟨ρ2, h1, h2, h3⟩ := hb i x hx
    exact ⟨ρ2, h1, fun s H C cl fp => i_nil, fun _ => h2, h3⟩) hv hkk ok hc hs
  rwa [List.filter_eq_self.mpr fun _ _ => rfl] at h
theorem l_lcS {α T : Type} {xs : List α} {scope : Scope} (own : List (Str × Nat)) {elt : Expr} (enc : α → PyData) (t0 : T) (step : T → α → T) (g : T → α → PyData) (emb : T → Rho) (J : T → Nat → Prop) (hJ : J t0 0)
    (ht : Src X tg iter ρ (xs.map enc) (emb t0) none) (hN : X.N.Nodup) (hz : xs.length < 100000)
    (hb : ∀ t (i : Nat) (x : α), xs[i]? = some x → J t i → J (step t x) (i + 1) ∧ ∃ ρ2 ρ4 : Rho, (∀ (s : Shared) (H : Hp) (C : Addr) (cl : List (Str × Addr)) (fp : List Addr), GC (X.blk s H scope (compEnvC scope cl C X.env) fp) (own.map (·.2)) tg (enc x) (wipeR (emb t) (own.map (·.2))) ρ2) ∧
      (∀ (s : Shared) (H : Hp) (C : Addr) (cl : List (Str × Addr)) (fp : List Addr), E (X.blk s H scope (compEnvC scope cl C X.env) fp) elt ρ2 (.d (g t x)) ρ4) ∧ wipeR ρ4 (own.map (·.2)) = wipeR (emb (step t x)) (own.map (·.2)))
    (hv : ∀ t, noOwn (emb t) (own.map (·.2)) = true) (hem : ∀ t t', (emb t).length = (emb t').length ∧ ∀ i, i ∈ own.map (·.2) → (emb t)[i]? = (emb t')[i]?) (ok : BlkOk X.N X.env.scope scope own)
    (hc : X.calm = true := by rfl) (hs : ∀ x, foldedSetIterable iter X.env x = pure x := by intro _; rfl) :
    ELc X (.ListComp elt [⟨tg, iter, [], 0⟩] scope pos) ρ (.ml ((xs.foldl (fun (p : T × List PyData) x => (step p.1 x, p.2 ++ [g p.1 x])) (t0, [])).2)) (emb (xs.foldl step t0)) := by
  have hfst : ∀ (ys : List α) (t : T) (acc : List PyData), (ys.foldl (fun (p : T × List PyData) x => (step p.1 x, p.2 ++ [g p.1 x])) (t, acc)).1 = ys.foldl step t := fun ys => by
    induction ys with
    | nil => intro t acc; rfl
    | cons y ys ih => intro t acc; rw [List.foldl_cons, List.foldl_cons]; exact ih _ _
  have hlen : ∀ (ys : List α) (t : T) (acc : List PyData), (ys.foldl (fun (p : T × List PyData) x => (step p.1 x, p.2 ++ [g p.1 x])) (t, acc)).2.length = acc.length + ys.length := fun ys => by
    induction ys with
    | nil => intro t acc; rfl
    | cons y ys ih => intro t acc; rw [List.foldl_cons, ih]; simp; omega
  have hJall : ∀ i, i ≤ xs.length → J ((xs.take i).foldl step t0) i := fun i => by
    induction i with
    | zero => intro _; exact hJ
    | succ i ih =>
      intro hi
      have e := List.getElem?_eq_getElem (show i < xs.length by omega)
      rw [List.take_add_one, e, List.foldl_append]
      exact (hb _ i _ e (ih (by omega))).1
  refine el_lc (D0 := []) (k := none) ht ok hN (fun i ρ' acc => ρ' = wipeR (emb ((xs.take i).foldl step t0)) (own.map (·.2)) ∧ acc = ((xs.take i).foldl (fun (p : T × List PyData) x => (step p.1 x, p.2 ++ [g p.1 x])) (t0, [])).2) ⟨rfl, rfl⟩ (fun _ _ _ _ => ⟨trivial, fun _ z => nomatch z⟩) (fun i v ρ' acc hi ⟨e1, e2⟩ => ?_) (fun ρ' acc ⟨e1, e2⟩ => ?_) (by rw [List.length_map]; exact Nat.lt_of_lt_of_le hz (by decide)) (fun i ρ' acc ⟨_, e⟩ => ?_) hc hs
  · subst e1
    obtain ⟨x, hx, rfl⟩ := map_get hi
    have hlt := (List.getElem?_eq_some_iff.mp hx).1
    obtain ⟨_, ρ2, ρ4, h1, h2, h3⟩ := hb _ i x hx (hJall i (by omega))
    have tk : xs.take (i + 1) = xs.take i ++ [x] := by rw [List.take_add_one, hx]; rfl
    refine ⟨ρ2, true, ρ2, h1, fun s H C cl fp => i_nil, fun _ => ⟨_, ρ4, h2, ?_, ?_⟩, fun z => nomatch z⟩
    · rw [h3, tk, List.foldl_append]
      rfl
    · rw [e2, tk, List.foldl_append]
      show _ = _ ++ [g _ x]
      rw [hfst]
  · subst e1
    rw [List.length_map, List.take_length] at *
    refine ⟨e2, (hem _ _).1, fun i hi => (wipeR_off hi).symm, fun i hi => ⟨(hem _ _).2 i hi, fun a e => no_own (hv t0) i a hi e⟩⟩
  · rw [e, hlen]
    simp
    exact Nat.min_le_left _ _
end
end Th

set_option Elab.async false
set_option linter.all false
set_option maxRecDepth 100000
namespace Th
open PySem PySem.Spec PyProof.Rows L2

/-! ### drawn numbers and polynomials -/
def nmStep (t : Int × (Int × Int)) : Int × (Int × Int) := (t.1 * 10 ^ 9 + tkV t.2 (10 ^ 9), tkS t.2 (10 ^ 9))
def nm7 (s : Int × Int) : Int × (Int × Int) := (List.range 7).foldl (fun t _ => nmStep t) (0, tkS s 3)
def nmDiv (i : Int) : Int := [1, 10 ^ 9, 10 ^ 30].getD i.toNat 0
def nmQ (s : Int × Int) (m : Int) : Int := (nm7 s).1 % (m + 1) / nmDiv (tkV (nm7 s).2 3)
def numV (s : Int × Int) (m : Int) : Int := if 0 < tkV s 3 then tkV (tkS s 3) 9 - 4 else [nmQ s m, 0 - nmQ s m].getD (tkV (tkS (nm7 s).2 3) 2).toNat 0
def numS (s : Int × Int) (m : Int) : Int × Int := if 0 < tkV s 3 then tkS (tkS s 3) 9 else tkS (tkS (nm7 s).2 3) 2
theorem nm7_n (s : Int × Int) : (nm7 s).2.2 = s.2 + 8 := by
  show s.2 + 1 + 1 + 1 + 1 + 1 + 1 + 1 + 1 = s.2 + 8
  omega
theorem numS_n (s : Int × Int) (m : Int) : s.2 ≤ (numS s m).2 ∧ (numS s m).2 ≤ s.2 + 10 := by
  unfold numS
  split
  · simp only [tkS_n]; omega
  · simp only [tkS_n, nm7_n]; omega
theorem nmDiv_pos {i : Int} (h0 : 0 ≤ i) (h : i < 3) : 1 ≤ nmDiv i ∧ (nmDiv i).natAbs < 2 ^ 110 := by
  have : i = 0 ∨ i = 1 ∨ i = 2 := by omega
  rcases this with rfl | rfl | rfl <;> exact ⟨by decide, by decide⟩
theorem numV_bd {s : Int × Int} {m : Int} (hm : 0 ≤ m) : -(m + 4) ≤ numV s m ∧ numV s m ≤ m + 4 := by
  unfold numV
  split
  · have := tkV_lo (s := tkS s 3) (b := 9) (by decide)
    have := tkV_hi (s := tkS s 3) (b := 9) (by decide)
    omega
  · have h1 := emod_lo (a := (nm7 s).1) (b := m + 1) (by omega)
    have h2 := emod_hi (a := (nm7 s).1) (b := m + 1) (by omega)
    have hd := (nmDiv_pos (tkV_lo (s := (nm7 s).2) (b := 3) (by decide)) (tkV_hi (by decide))).1
    have h3 : 0 ≤ nmQ s m := Int.ediv_nonneg h1 (by omega)
    have h4 : nmQ s m ≤ m := by
      unfold nmQ
      refine Int.le_trans (Int.ediv_le_self _ h1) (by omega)
    have hi0 := tkV_lo (s := tkS (nm7 s).2 3) (b := 2) (by decide)
    have hi1 := tkV_hi (s := tkS (nm7 s).2 3) (b := 2) (by decide)
    generalize tkV (tkS (nm7 s).2 3) 2 = i at *
    have : i = 0 ∨ i = 1 := by omega
    rcases this with rfl | rfl
    · show -(m + 4) ≤ nmQ s m ∧ nmQ s m ≤ m + 4
      omega
    · show -(m + 4) ≤ 0 - nmQ s m ∧ 0 - nmQ s m ≤ m + 4
      omega
def mostOk (m : Int) : Prop := 0 ≤ m ∧ m < 10 ^ 61
def fNumber : Fs := fun as r as' => ∃ (s : Int × Int) (m : Int), (0 ≤ s.2 ∧ s.2 ≤ 900000) ∧ mostOk m ∧ as = [rowA s, .d (.int m)] ∧ r = .d (.int (numV s m)) ∧ as' = [rowA (numS s m), .d (.int m)]
/-- a polynomial's terms as drawn -/
structure PSt where
  acc : List (Int × Int)
  p : Int
  s : Int × Int
def gapS (s : Int × Int) (m : Int) : Int × Int := tkS (tkS (tkS s 4) (1 + m / 1000)) 4
def gapV (s : Int × Int) (m : Int) : Int := [0, 1, tkV s 4, tkV (tkS s 4) (1 + m / 1000)].getD (tkV (tkS (tkS s 4) (1 + m / 1000)) 4).toNat 0
def polyStep (m : Int) (t : PSt) : PSt := ⟨if numV t.s m = 0 then t.acc else t.acc ++ [(t.p, numV t.s m)], t.p + 1 + gapV (numS t.s m) m, gapS (numS t.s m) m⟩
def poly0 (s : Int × Int) (m t : Int) : PSt := ⟨[], numV s (m / 1000), tkS (numS s (m / 1000)) (t + 1)⟩
def polyN (s : Int × Int) (m t : Int) : Nat := (tkV (numS s (m / 1000)) (t + 1)).toNat
def polyR (s : Int × Int) (m t : Int) : PSt := (List.range (polyN s m t)).foldl (fun u _ => polyStep m u) (poly0 s m t)
theorem gapV_lo {s : Int × Int} {m : Int} (hm : 0 ≤ m) : 0 ≤ gapV s m := by
  unfold gapV
  have h1 := tkV_lo (s := s) (b := 4) (by decide)
  have h2 := tkV_lo (s := tkS s 4) (b := 1 + m / 1000) (by omega)
  have h3 := tkV_lo (s := tkS (tkS s 4) (1 + m / 1000)) (b := 4) (by decide)
  have h4 := tkV_hi (s := tkS (tkS s 4) (1 + m / 1000)) (b := 4) (by decide)
  generalize tkV (tkS (tkS s 4) (1 + m / 1000)) 4 = i at *
  have : i = 0 ∨ i = 1 ∨ i = 2 ∨ i = 3 := by omega
  rcases this with rfl | rfl | rfl | rfl
  · exact Int.le_refl _
  · exact show (0 : Int) ≤ 1 by decide
  · exact h1
  · exact h2
theorem gapS_n (s : Int × Int) (m : Int) : (gapS s m).2 = s.2 + 3 := by
  unfold gapS
  simp only [tkS_n]
  omega
structure POk (m s0 : Int) (i : Nat) (t : PSt) : Prop where
  can : Can t.acc
  below : ∀ u ∈ t.acc, u.1 < t.p
  small : ∀ u ∈ t.acc, -(m + 4) ≤ u.2 ∧ u.2 ≤ m + 4
  len : t.acc.length ≤ i
  sn : s0 ≤ t.s.2 ∧ t.s.2 ≤ s0 + 13 * i
theorem can_snoc {a : List (Int × Int)} {u : Int × Int} (h : Can a) (h2 : ∀ v ∈ a, v.1 < u.1) (h3 : u.2 ≠ 0) : Can (a ++ [u]) := by
  refine ⟨?_, fun v hv => ?_⟩
  · rw [List.map_append, List.pairwise_append]
    refine ⟨h.1, List.pairwise_singleton _ _, fun x hx y hy => ?_⟩
    obtain ⟨v, hv, rfl⟩ := List.mem_map.mp hx
    rw [List.mem_singleton.mp hy]
    exact h2 v hv
  · rcases List.mem_append.mp hv with hv | hv
    · exact h.2 v hv
    · rw [List.mem_singleton.mp hv]
      exact h3
theorem pok_step {m s0 : Int} {i : Nat} {t : PSt} (hm : 0 ≤ m) (h : POk m s0 i t) : POk m s0 (i + 1) (polyStep m t) := by
  have hg := gapV_lo (s := numS t.s m) hm
  have hn := numS_n t.s m
  have hs := h.sn
  have hv := numV_bd (s := t.s) hm
  have hgn := gapS_n (numS t.s m) m
  refine ⟨?_, ?_, ?_, ?_, ?_⟩
  · show Can (if numV t.s m = 0 then _ else _)
    split
    · exact h.can
    · rename_i g; exact can_snoc h.can h.below g
  · show ∀ u ∈ (if numV t.s m = 0 then t.acc else _), u.1 < t.p + 1 + gapV (numS t.s m) m
    split
    · intro u hu
      have := h.below u hu
      omega
    · intro u hu
      rcases List.mem_append.mp hu with hu | hu
      · have := h.below u hu
        omega
      · rw [List.mem_singleton.mp hu]
        dsimp only
        omega
  · show ∀ u ∈ (if numV t.s m = 0 then t.acc else _), _
    split
    · exact h.small
    · intro u hu
      rcases List.mem_append.mp hu with hu | hu
      · exact h.small u hu
      · rw [List.mem_singleton.mp hu]
        exact hv
  · show (if numV t.s m = 0 then t.acc else _).length ≤ i + 1
    have := h.len
    split
    · omega
    · rw [List.length_append, List.length_singleton]; omega
  · show s0 ≤ (gapS (numS t.s m) m).2 ∧ _
    constructor
    · omega
    · show (gapS (numS t.s m) m).2 ≤ _
      push_cast
      omega
theorem pok_fold {m s0 : Int} (hm : 0 ≤ m) {t0 : PSt} (h : POk m s0 0 t0) : ∀ n : Nat, POk m s0 n ((List.range n).foldl (fun u _ => polyStep m u) t0)
  | 0 => h
  | n + 1 => by
    rw [List.range_succ, List.foldl_append]
    exact pok_step hm (pok_fold hm h n)
theorem pok_poly0 (s : Int × Int) (m t : Int) : POk m ((numS s (m / 1000)).2 + 1) 0 (poly0 s m t) :=
  ⟨⟨List.Pairwise.nil, (fun _ z => nomatch z)⟩, (fun _ z => nomatch z), (fun _ z => nomatch z), Nat.le_refl _, by
    show _ ≤ (numS s (m / 1000)).2 + 1 ∧ (numS s (m / 1000)).2 + 1 ≤ _
    push_cast
    omega⟩
theorem polyN_le {s : Int × Int} {m t : Int} (ht : 0 ≤ t) : (polyN s m t : Int) ≤ t := by
  have h1 := tkV_lo (s := numS s (m / 1000)) (b := t + 1) (by omega)
  have h2 := tkV_hi (s := numS s (m / 1000)) (b := t + 1) (by omega)
  unfold polyN
  omega
def polyL (s : Int × Int) (m t : Int) : List (Int × Int) := (polyR s m t).acc
def polyS (s : Int × Int) (m t : Int) : Int × Int := (polyR s m t).s
structure DrawnP (a : List (Int × Int)) (n : Nat) : Prop where
  can : Can a
  len : a.length ≤ n
  small : ∀ u ∈ a, u.2.natAbs < 2 ^ 210
theorem small_of {m : Int} (hm : mostOk m) {x : Int} (h : -(m + 4) ≤ x ∧ x ≤ m + 4) : x.natAbs < 2 ^ 210 := by
  have := hm.2
  have h0 : (10 : Int) ^ 61 + 4 < 2 ^ 210 := by decide
  have h1 : ((x.natAbs : Nat) : Int) < 2 ^ 210 := by omega
  have h2 : ((2 ^ 210 : Nat) : Int) = 2 ^ 210 := by decide
  omega
theorem polyL_ok {s : Int × Int} {m t : Int} (hm : mostOk m) (ht : 0 ≤ t) : DrawnP (polyL s m t) t.toNat := by
  have h := pok_fold hm.1 (pok_poly0 s m t) (polyN s m t)
  have hn := polyN_le (s := s) (m := m) ht
  have hl := h.len
  exact ⟨h.can, by show (polyR s m t).acc.length ≤ _; unfold polyR; omega, fun u hu => small_of hm (h.small u hu)⟩
theorem polyS_n {s : Int × Int} {m t : Int} (hm : 0 ≤ m) (ht : 0 ≤ t) : s.2 ≤ (polyS s m t).2 ∧ (polyS s m t).2 ≤ s.2 + 11 + 13 * t := by
  have h := (pok_fold hm (pok_poly0 s m t) (polyN s m t)).sn
  have hn := polyN_le (s := s) (m := m) ht
  have h2 := numS_n s (m / 1000)
  unfold polyS polyR
  omega
def fPolynomial : Fs := fun as r as' => ∃ (s : Int × Int) (m t : Int), (0 ≤ s.2 ∧ s.2 ≤ 800000) ∧ mostOk m ∧ (0 ≤ t ∧ t ≤ 100) ∧ as = [rowA s, .d (.int m), .d (.int t)] ∧ r = .d (encP (polyL s m t)) ∧ as' = [rowA (polyS s m t), .d (.int m), .d (.int t)]
def fCellAt : List PyData → A → Prop := fun ds r => ∃ (ns : List Int) (k : Nat), ds = [.list (ns.map .int), .int k] ∧ r = .d (.int (ns.getD k 0))
end Th

set_option Elab.async false
set_option linter.all false
set_option maxRecDepth 100000
namespace Th
open PySem PySem.Spec PyProof.Rows L2 RT RZ
section
variable {X : Cx} {ρ ρ1 ρ2 : Rho} {tg iter e e1 e2 : Expr} {es : List Expr} {pos : Pos} {ds xs ys : List PyData} {k : Option Nat}
/-- reversed(t) of a tuple -/
theorem srcAt_rt {K : PySem.W.Frag} {HF H : Hp} {p : Addr} {ys : List V} (s : Same HF H) (h1 : SqT K H p ys) (h2 : DpAll K HF ys ds) : SrcAt K (ItvT K p ys.length) ds.reverse HF H := by
  have hl := dpa_len h2
  refine ⟨fun i hi => ?_, ?_, fun i x H2 hi ⟨e, y⟩ => ?_⟩
  · rw [List.length_reverse] at hi
    obtain ⟨y, g, _⟩ := dpa_get h2 (List.getElem?_eq_getElem (show ds.length - 1 - i < ds.length by omega))
    rw [← hl] at g
    exact ⟨by omega, ys, y, h1, g⟩
  · show ys.length ≤ ds.reverse.length
    rw [List.length_reverse, hl]
    exact Nat.le_refl _
  · rw [List.length_reverse] at hi
    obtain ⟨v, g1, g2⟩ := dpa_get' h2 (y ys h1)
    refine ⟨v, ?_, .inl ⟨e, g2⟩⟩
    rw [List.getElem?_reverse hi, ← hl]
    exact g1
theorem src_revT {p : Pos} (h : E X e ρ (.d (.tuple ds)) ρ1) (hm : X.mg "reversed" = none) (hg : Gl X "reversed" := by rfl) (hs : starEach [e] X.env = (false, eval e X.env) :: starEach [] X.env := by rfl) : Src X tg (.Call (.Name "reversed" p) [e] [] pos) ρ ds.reverse ρ1 none :=
  ⟨_, pi_revA hg hm pe_w hs, fun σ HF H S1 R q => h σ HF H S1 _ fun x HF1 H1 S2 f1 r1 => by
  cases (show Dp X.K HF1 x (.tuple ds) from r1) with
  | @tup p ys _ h1 h2 => exact ⟨p, ys, rfl, .inr ⟨same_t S2.sub h1, q _ HF1 H1 S2 f1 fun σ2 ρ2 HF2 H2 _ _ S3 s3 => srcAt_rt S3.sub (same_t S3.sub (same_t s3 h1)) (dpa_mono s3 h2)⟩⟩⟩
/-- zip of two tuples -/
def zipD (xs ys : List PyData) : List PyData := (xs.zip ys).map fun p => .tuple [p.1, p.2]
theorem zipD_len : (zipD xs ys).length = min xs.length ys.length := by unfold zipD; rw [List.length_map, List.length_zip]
theorem zipD_get {i : Nat} {x y : PyData} (h1 : xs[i]? = some x) (h2 : ys[i]? = some y) : (zipD xs ys)[i]? = some (.tuple [x, y]) := by
  unfold zipD
  rw [List.getElem?_map, show (xs.zip ys)[i]? = some (x, y) from List.getElem?_zip_eq_some.mpr ⟨h1, h2⟩]
  rfl
theorem srcAt_zt {K : PySem.W.Frag} {HF H : Hp} {p q : Addr} {vs ws : List V} (s : Same HF H) (h1 : SqT K H p vs) (g1 : SqT K H q ws) (h2 : DpAll K HF vs xs) (g2 : DpAll K HF ws ys) : SrcAt K (ItzT K p q) (zipD xs ys) HF H := by
  have l1 := dpa_len h2
  have l2 := dpa_len g2
  refine ⟨fun i hi => ?_, ⟨vs, ws, h1, g1, ?_⟩, fun i x H2 hi ⟨T, v, w, e1, e2, e3, y1, y2⟩ => ?_⟩
  · rw [zipD_len] at hi
    obtain ⟨v, e1, _⟩ := dpa_get h2 (List.getElem?_eq_getElem (show i < xs.length by omega))
    obtain ⟨w, e2, _⟩ := dpa_get g2 (List.getElem?_eq_getElem (show i < ys.length by omega))
    exact ⟨vs, ws, v, w, h1, g1, e1, e2⟩
  · rw [zipD_len]
    omega
  · obtain ⟨a, a1, a2⟩ := dpa_get' h2 (y1 vs h1)
    obtain ⟨b, b1, b2⟩ := dpa_get' g2 (y2 ws g1)
    exact ⟨_, zipD_get a1 b1, .inr ⟨T, _, _, e2, e3, e1, rfl, .cons a2 (.cons b2 .nil)⟩⟩
theorem src_zipT {p : Pos} {elts : List Expr} {kk : Nat} {tpos : Pos} (h : E X e1 ρ (.d (.tuple xs)) ρ1) (h2 : E X e2 ρ1 (.d (.tuple ys)) ρ2) (hm : X.mg "zip" = none) (hg : Gl X "zip" := by rfl) (hs : starEach [e1, e2] X.env = (false, eval e1 X.env) :: starEach [e2] X.env := by rfl)
    (hs2 : starEach [e2] X.env = (false, eval e2 X.env) :: starEach [] X.env := by rfl) (hpl : (backTo pos (starEach [e2] X.env)).any (·.1) = false := by rfl) : Src X (.Tuple elts kk tpos) (.Call (.Name "zip" p) [e1, e2] [] pos) ρ (zipD xs ys) ρ2 none :=
  ⟨_, pi_zipA hg hm (pa_cons pe_w (pa_cons pe_w pa_nil hs2) hs) hs hpl, fun σ HF H S1 R q => h σ HF H S1 _ fun x HF1 H1 S2 f1 r1 => h2 σ HF1 H1 S2 _ fun y HF2 H2 S3 f2 r2 => by
  cases (show Dp X.K HF1 x (.tuple xs) from r1) with
  | @tup p vs _ a1 a2 =>
    cases (show Dp X.K HF2 y (.tuple ys) from r2) with
    | @tup p2 ws _ b1 b2 =>
      exact ⟨p, p2, vs, ws, rfl, .inr ⟨same_t S3.sub (same_t f2.hf a1), same_t S3.sub b1, q _ HF2 H2 S3 (f1.trans f2) fun σ2 ρ2 HF3 H3 _ _ S4 s4 =>
        srcAt_zt S4.sub (same_t S4.sub (same_t s4 (same_t f2.hf a1))) (same_t S4.sub (same_t s4 b1)) (dpa_mono s4 (dpa_mono f2.hf a2)) (dpa_mono s4 b2)⟩⟩⟩
/-- range(a, b, c) -/
theorem src_r3 {e3 : Expr} {ρ3 : Rho} {px : Pos} {a b c : Int} {n : Nat} (h : E X e1 ρ (.d (.int a)) ρ1) (h2 : E X e2 ρ1 (.d (.int b)) ρ2) (h3 : E X e3 ρ2 (.d (.int c)) ρ3) (hm : X.mg "range" = none) (hn : RgC a b c n) (hg : Gl X "range" := by rfl)
    (hs : starEach [e1, e2, e3] X.env = (false, eval e1 X.env) :: starEach [e2, e3] X.env := by rfl) (hs2 : starEach [e2, e3] X.env = (false, eval e2 X.env) :: starEach [e3] X.env := by rfl) (hs3 : starEach [e3] X.env = (false, eval e3 X.env) :: starEach [] X.env := by rfl) (hpl : (backTo pos (starEach [e2, e3] X.env)).any (·.1) = false := by rfl) :
    Src X tg (.Call (.Name "range" px) [e1, e2, e3] [] pos) ρ ((List.range n).map fun i : Nat => .int (a + (i : Int) * c)) ρ3 none :=
  ⟨_, pi_range3 hg hm (pa_cons pe_w (pa_cons pe_w (pa_cons pe_w pa_nil hs3) hs2) hs) hs hpl, fun σ HF H S1 R q => h σ HF H S1 _ fun x HF1 H1 S2 f1 r1 => h2 σ HF1 H1 S2 _ fun y HF2 H2 S3 f2 r2 => h3 σ HF2 H2 S3 _ fun z HF3 H3 S4 f3 r3 => by
  cases r1
  cases r2
  cases r3
  refine ⟨a, b, c, n, rfl, hn, q _ HF3 H3 S4 ((f1.trans f2).trans f3) fun σ2 ρ2 HF2 H2 _ _ _ _ => ⟨fun i hi => ?_, ?_, fun i x H2 hi ⟨e, y⟩ => ?_⟩⟩
  · rw [List.length_map, List.length_range] at hi
    exact hi
  · rw [List.length_map, List.length_range]
    exact Nat.le_refl _
  · rw [List.length_map, List.length_range] at hi
    refine ⟨_, by rw [List.getElem?_map, List.getElem?_range hi]; rfl, .inl ⟨e, by rw [y]; exact .int _⟩⟩⟩
end
/-! terms of a polynomial, turned -/
def negT (a : List (Int × Int)) : List (Int × Int) := a.map fun t => (t.1, 0 - t.2)
def turnT (a : List (Int × Int)) : List (Int × Int) := a.reverse.map fun t => (0 - t.1, t.2)
def fPlus : List PyData → A → Prop := fun ds r => ∃ a b : List (Int × Int), a.length + b.length < 100000 ∧ ds = [encP a, encP b] ∧ r = .d (encP (gat (a ++ b)))
def fMinus : List PyData → A → Prop := fun ds r => ∃ a b : List (Int × Int), a.length + b.length < 100000 ∧ ds = [encP a, encP b] ∧ r = .d (encP (gat (a ++ negT b)))
def fTurned : List PyData → A → Prop := fun ds r => ∃ a : List (Int × Int), a.length < 100000 ∧ ds = [encP a] ∧ r = .d (encP (turnT a))
theorem cf_neg (a : List (Int × Int)) (p : Int) : cf (negT a) p = -cf a p := by
  induction a with
  | nil => rfl
  | cons t a ih =>
    show (if t.1 = p then 0 - t.2 else 0) + cf (negT a) p = _
    rw [cf, ih]
    split <;> omega
theorem cf_rev (a : List (Int × Int)) (p : Int) : cf a.reverse p = cf a p := by
  induction a with
  | nil => rfl
  | cons t a ih =>
    rw [List.reverse_cons, cf_app, ih]
    show cf a p + ((if t.1 = p then t.2 else 0) + 0) = (if t.1 = p then t.2 else 0) + cf a p
    omega
def flipT (a : List (Int × Int)) : List (Int × Int) := a.map fun t => (0 - t.1, t.2)
theorem cf_flip (a : List (Int × Int)) (p : Int) : cf (flipT a) p = cf a (-p) := by
  induction a with
  | nil => rfl
  | cons t a ih =>
    show (if 0 - t.1 = p then t.2 else 0) + cf (flipT a) p = _
    rw [cf, ih]
    by_cases h : t.1 = -p
    · rw [if_pos (by omega), if_pos h]
    · rw [if_neg (by omega), if_neg h]
theorem cf_turn (a : List (Int × Int)) (p : Int) : cf (turnT a) p = cf a (-p) := (cf_flip a.reverse p).trans (cf_rev a (-p))
theorem turn_can {a : List (Int × Int)} (h : Can a) : Can (turnT a) := by
  refine ⟨?_, fun t ht => ?_⟩
  · unfold turnT
    rw [List.map_map, List.map_reverse, List.pairwise_reverse, List.pairwise_map]
    exact (List.pairwise_map.mp h.1).imp fun {a b} (h : a.1 < b.1) => (show (0 : Int) - b.1 < 0 - a.1 by omega)
  · obtain ⟨u, hu, rfl⟩ := List.mem_map.mp ht
    exact h.2 u (List.mem_reverse.mp hu)
end Th
namespace Th
open PySem PySem.Spec PyProof.Rows L2
def fProduct : List PyData → A → Prop := fun ds r => ∃ a b : List (Int × Int), a.length * b.length < 100000 ∧ a.length < 100000 ∧ b.length < 100000 ∧ (∀ t ∈ a, ∀ u ∈ b, CMulW t.2 u.2) ∧ ds = [encP a, encP b] ∧ r = .ml ((prodT a b).map encT)
/-! long ones -/
def longV (s : Int × Int) : Int := [1, -1].getD (tkV s 2).toNat 0 * (1 + tkV (tkS s 2) 9)
def longStep (t : PSt) : PSt := ⟨t.acc ++ [(t.p, longV t.s)], t.p + 1 + tkV (tkS (tkS t.s 2) 9) 3, tkS (tkS (tkS t.s 2) 9) 3⟩
def long0 (s : Int × Int) (a b : Int) : PSt := ⟨[], numV s (10 ^ 9), tkS (numS s (10 ^ 9)) (b - a + 1)⟩
def longN (s : Int × Int) (a b : Int) : Nat := (a + tkV (numS s (10 ^ 9)) (b - a + 1)).toNat
def longR (s : Int × Int) (a b : Int) : PSt := (List.range (longN s a b)).foldl (fun u _ => longStep u) (long0 s a b)
theorem longV_bd (s : Int × Int) : longV s ≠ 0 ∧ -9 ≤ longV s ∧ longV s ≤ 9 := by
  unfold longV
  have h0 := tkV_lo (s := s) (b := 2) (by decide)
  have h1 := tkV_hi (s := s) (b := 2) (by decide)
  have g0 := tkV_lo (s := tkS s 2) (b := 9) (by decide)
  have g1 := tkV_hi (s := tkS s 2) (b := 9) (by decide)
  generalize tkV (tkS s 2) 9 = x at *
  generalize tkV s 2 = i at *
  have : i = 0 ∨ i = 1 := by omega
  rcases this with rfl | rfl
  · show (1 : Int) * (1 + x) ≠ 0 ∧ -9 ≤ (1 : Int) * (1 + x) ∧ (1 : Int) * (1 + x) ≤ 9
    omega
  · show (-1 : Int) * (1 + x) ≠ 0 ∧ -9 ≤ (-1 : Int) * (1 + x) ∧ (-1 : Int) * (1 + x) ≤ 9
    omega
theorem pok_long {s0 : Int} {i : Nat} {t : PSt} (h : POk 5 s0 i t) : POk 5 s0 (i + 1) (longStep t) := by
  have hs := h.sn
  obtain ⟨h1, h2, h3⟩ := longV_bd t.s
  have hg := tkV_lo (s := tkS (tkS t.s 2) 9) (b := 3) (by decide)
  refine ⟨can_snoc h.can h.below h1, fun u hu => ?_, fun u hu => ?_, ?_, ?_⟩
  · show u.1 < t.p + 1 + tkV (tkS (tkS t.s 2) 9) 3
    rcases List.mem_append.mp hu with hu | hu
    · have := h.below u hu
      omega
    · rw [List.mem_singleton.mp hu]
      dsimp only
      omega
  · rcases List.mem_append.mp hu with hu | hu
    · exact h.small u hu
    · rw [List.mem_singleton.mp hu]
      dsimp only
      omega
  · have := h.len
    show (t.acc ++ _).length ≤ _
    rw [List.length_append, List.length_singleton]
    omega
  · show s0 ≤ (tkS (tkS (tkS t.s 2) 9) 3).2 ∧ (tkS (tkS (tkS t.s 2) 9) 3).2 ≤ _
    simp only [tkS_n]
    push_cast
    omega
theorem pok_long0 (s : Int × Int) (a b : Int) : POk 5 ((numS s (10 ^ 9)).2 + 1) 0 (long0 s a b) :=
  ⟨⟨List.Pairwise.nil, (fun _ z => nomatch z)⟩, (fun _ z => nomatch z), (fun _ z => nomatch z), Nat.le_refl _, by
    show _ ≤ (numS s (10 ^ 9)).2 + 1 ∧ (numS s (10 ^ 9)).2 + 1 ≤ _
    push_cast
    omega⟩
theorem pok_longF {s0 : Int} {t0 : PSt} (h : POk 5 s0 0 t0) : ∀ n : Nat, POk 5 s0 n ((List.range n).foldl (fun u _ => longStep u) t0)
  | 0 => h
  | n + 1 => by
    rw [List.range_succ, List.foldl_append]
    exact pok_long (pok_longF h n)
theorem longN_le {s : Int × Int} {a b : Int} (h : 0 ≤ a ∧ a ≤ b) : (longN s a b : Int) ≤ b := by
  have h1 := tkV_lo (s := numS s (10 ^ 9)) (b := b - a + 1) (by omega)
  have h2 := tkV_hi (s := numS s (10 ^ 9)) (b := b - a + 1) (by omega)
  unfold longN
  omega
def longL (s : Int × Int) (a b : Int) : List (Int × Int) := (longR s a b).acc
def longS (s : Int × Int) (a b : Int) : Int × Int := (longR s a b).s
theorem longL_ok {s : Int × Int} {a b : Int} (h : 0 ≤ a ∧ a ≤ b) : DrawnP (longL s a b) b.toNat := by
  have g := pok_longF (pok_long0 s a b) (longN s a b)
  have hn := longN_le (s := s) h
  have hl := g.len
  exact ⟨g.can, by show (longR s a b).acc.length ≤ _; unfold longR; omega, fun u hu => small_of (m := 5) ⟨by decide, by decide⟩ (g.small u hu)⟩
theorem longS_n {s : Int × Int} {a b : Int} (h : 0 ≤ a ∧ a ≤ b) : s.2 ≤ (longS s a b).2 ∧ (longS s a b).2 ≤ s.2 + 11 + 13 * b := by
  have g := (pok_longF (pok_long0 s a b) (longN s a b)).sn
  have hn := longN_le (s := s) h
  have h2 := numS_n s (10 ^ 9)
  unfold longS longR
  omega
def fLong : Fs := fun as r as' => ∃ (s : Int × Int) (a b : Int), (0 ≤ s.2 ∧ s.2 ≤ 800000) ∧ (0 ≤ a ∧ a ≤ b ∧ b ≤ 200) ∧ as = [rowA s, .d (.int a), .d (.int b)] ∧ r = .d (encP (longL s a b)) ∧ as' = [rowA (longS s a b), .d (.int a), .d (.int b)]
/-! the second one -/
def signT (g : Int) (a : List (Int × Int)) : List (Int × Int) := a.map fun t => (t.1, g * t.2)
def secL (s : Int × Int) (a : List (Int × Int)) : List (Int × Int) := if 0 < tkV s 3 then polyL (tkS s 3) (10 ^ 60 - 1) 8 else signT (1 - 2 * tkV (tkS s 3) 2) (a.drop (tkV (tkS (tkS s 3) 2) 3).toNat)
def secS (s : Int × Int) : Int × Int := if 0 < tkV s 3 then polyS (tkS s 3) (10 ^ 60 - 1) 8 else tkS (tkS (tkS s 3) 2) 3
def fSecond : Fs := fun as r as' => ∃ (s : Int × Int) (a : List (Int × Int)), (0 ≤ s.2 ∧ s.2 ≤ 700000) ∧ a.length < 100000 ∧ as = [rowA s, .d (encP a)] ∧ r = .d (encP (secL s a)) ∧ as' = [rowA (secS s), .d (encP a)]
theorem secS_n {s : Int × Int} : s.2 ≤ (secS s).2 ∧ (secS s).2 ≤ s.2 + 200 := by
  unfold secS
  split
  · have := polyS_n (s := tkS s 3) (m := 10 ^ 60 - 1) (t := 8) (by decide) (by decide)
    rw [tkS_n] at this
    omega
  · simp only [tkS_n]; omega
theorem secL_small {s : Int × Int} {a : List (Int × Int)} {n : Nat} (h : DrawnP a n) : ∀ u ∈ secL s a, u.2.natAbs < 2 ^ 211 := by
  unfold secL
  split
  · intro u hu
    exact Nat.lt_trans ((polyL_ok (m := 10 ^ 60 - 1) (t := 8) ⟨by decide, by decide⟩ (by decide)).small u hu) (by decide)
  · intro u hu
    obtain ⟨v, hv, rfl⟩ := List.mem_map.mp hu
    have h1 := h.small v (List.mem_of_mem_drop hv)
    have h0 := tkV_lo (s := tkS s 3) (b := 2) (by decide)
    have h2 := tkV_hi (s := tkS s 3) (b := 2) (by decide)
    generalize tkV (tkS s 3) 2 = i at *
    have : i = 0 ∨ i = 1 := by omega
    have e : 2 ^ 211 = 2 * 2 ^ 210 := by decide
    rcases this with rfl | rfl
    · show ((1 : Int) - 2 * 0) * v.2 |>.natAbs |> (· < 2 ^ 211)
      omega
    · show ((1 : Int) - 2 * 1) * v.2 |>.natAbs |> (· < 2 ^ 211)
      omega
end Th
namespace Th
open PySem PySem.Spec PyProof.Rows L2
theorem cf_prod_nilR (a : List (Int × Int)) (p : Int) : cf (prodT a []) p = 0 := by
  induction a with
  | nil => rfl
  | cons t a ih =>
    rw [cf_prod_cons, ih]
    show t.2 * 0 + 0 = 0
    omega
theorem cf_prod_consR (u : Int × Int) (a b : List (Int × Int)) (p : Int) : cf (prodT a (u :: b)) p = u.2 * cf a (p - u.1) + cf (prodT a b) p := by
  induction a with
  | nil => show (0 : Int) = u.2 * 0 + 0; omega
  | cons t a ih =>
    rw [cf_prod_cons, cf_prod_cons, ih, cf, cf, Int.mul_add, Int.mul_add]
    by_cases h : u.1 = p - t.1
    · rw [if_pos h, if_pos (by omega), Int.mul_comm t.2 u.2]
      omega
    · rw [if_neg h, if_neg (by omega), Int.mul_zero, Int.mul_zero]
      omega
theorem cf_prod_comm (a b : List (Int × Int)) (p : Int) : cf (prodT a b) p = cf (prodT b a) p := by
  induction a with
  | nil => rw [cf_prod_nilR]; rfl
  | cons t a ih => rw [cf_prod_cons, cf_prod_consR, ih]
end Th

set_option Elab.async false
set_option linter.all false
set_option maxRecDepth 100000
namespace Th
open PySem PySem.Spec PyProof.Rows L2 RT RZ

/-! ### an own object made for a call and lent to it -/
section
variable {X : Cx} {ρ ρ1 ρ2 : Rho} {e e1 : Expr} {es : List Expr} {pos : Pos} {a r : A} {ds : List PyData} {as' : List A}
theorem e_callT {Fx : Fs} {k : Nat} {f : Addr} {fd : FuncData} {ps : List Str} {x : Str} {p : Pos} (G : FnOk X.prog X.w X.K X.mg X.base CX0 k f fd ps (spA X.K Fx)) (hr : Room k X.A) (hm : X.mg x = some (.ref f)) (hk : PySem.W.keepIn X.K (.ref f) = true) (hb : Binds X.K fd ps [])
    (h1 : E X e ρ a ρ1) (ho : a.own = true) (hD : ED X es ρ1 ds ρ2) (hF : Fx (a :: ds.map A.d) r as') (hsh : Shape (a :: ds.map A.d) as') (hs : starEach (e :: es) X.env = (false, eval e X.env) :: starEach es X.env := by rfl) (hg : Gl X x := by rfl) (hdb : (x == ("__debug__" : Str)) = false := by decide) (hpl : (backTo pos (starEach es X.env)).any (·.1) = false := by rfl) :
    E X (.Call (.Name x p) (e :: es) [] pos) ρ r ρ2 :=
  .of (pe_call (E := fun _ _ _ => False) G hr hg hm hk hb .nil (fun _ _ _ _ _ _ _ h => h.elim) pa_w hdb hs hpl) fun σ HF H S0 Q q => ⟨_, pa_cons pe_w pa_w hs, h1 σ HF H S0 _ fun x1 HF1 H1 S1 f1 r1 => hD σ HF1 H1 S1 _ fun ys HF2 H2 S2 f2 r2 => by
    show spA X.K Fx ((x1 :: ys) ++ []) H2 Q _
    rw [List.append_nil]
    obtain ⟨p, o, rfl, h0, hf1, hh1, hrel⟩ := (rrel_own ho).mp r1
    have nw1 : ¬ OwnAt ρ1 σ p := fun z => S0.notOwn h0 (f1.sh.own.mp z)
    have nw2 : ¬ OwnAt ρ2 σ p := fun z => nw1 (f2.sh.own.mp z)
    have hh2 : H2 p = some o := f2.keep p o hh1 nw1
    have hf2 : HF2 p = none := f2.hfn hf1 hh1
    have hrel2 : HRel X.K HF2 _ o a := hrel_mono f2.hf hrel
    have onlyP : ∀ b, OwnAt (a :: ds.map A.d) ((V.ref p :: ys).map some) b → b = p := by
      rintro b ⟨i, c, e1, e2, e3⟩
      cases i with
      | zero =>
        have : some (some (V.ref p)) = some (some (V.ref b)) := e3
        cases this
        rfl
      | succ i =>
        have := own_map c (List.mem_of_getElem? (show (ds.map A.d)[i]? = some c from e1))
        rw [e2] at this
        cases this
    have hl := dpa_len r2
    have SA : Sl X.K (a :: ds.map A.d) ((V.ref p :: ys).map some) HF2 H2 := by
      refine ⟨by simp [hl], S2.sub, fun i c e1 => ?_, fun i j c d b e1 e2 o1 o2 e3 e4 => ?_⟩
      · cases i with
        | zero =>
          have e1 : some a = some c := e1
          cases e1
          exact ⟨_, rfl, (arel_own ho).mpr ⟨_, rfl, p, o, rfl, hf2, hh2, hrel2⟩⟩
        | succ i =>
          have e1 : (ds.map A.d)[i]? = some c := e1
          rw [List.getElem?_map] at e1
          cases hd : ds[i]? with
          | none => rw [hd] at e1; cases e1
          | some d =>
            rw [hd] at e1
            cases e1
            obtain ⟨y, g1, g2⟩ := dpa_get r2 hd
            refine ⟨some y, ?_, y, rfl, g2⟩
            show (ys.map some)[i]? = _
            rw [List.getElem?_map, g1]
            rfl
      · have z : ∀ (i : Nat) (c : A), (a :: ds.map A.d)[i]? = some c → c.own = true → i = 0 := fun i c e o => by
          cases i with
          | zero => rfl
          | succ i =>
            have := own_map c (List.mem_of_getElem? (show (ds.map A.d)[i]? = some c from e))
            rw [o] at this
            cases this
        rw [z i c e1 o1, z j d e2 o2]
    refine ⟨HF2, _, r, as', SA, hF, hsh, fun y HF3 H3 S3 f3 rr => ?_⟩
    have f12 := f1.trans f2
    have keep3 : ∀ b o', H2 b = some o' → b ≠ p → H3 b = some o' := fun b o' e n => f3.keep b o' e fun z => n (onlyP b z)
    refine q y HF3 H3 ⟨S2.len, S3.sub, fun i c e => ?_, S2.apart⟩ ⟨f12.sh, f12.hf.trans f3.hf, fun b o' e n => ?_, fun b o' e => ?_, fun b o' e => ?_⟩ (rrel_fresh (fun b e => f12.fresh e) rr)
    · obtain ⟨s, e2, g⟩ := S2.slot i c e
      refine ⟨s, e2, arel_mono g f3.hf fun b o' e3 g1 g2 oc => ⟨f3.hfn g1 g2, keep3 b o' g2 fun z => ?_⟩⟩
      subst z
      exact nw2 ⟨i, c, e, oc, by rw [e2, e3]⟩
    · exact keep3 b o' (f12.keep b o' e n) fun z => by rw [z, h0] at e; cases e
    · rcases f3.new b o' e with z | z
      · exact f12.new b o' z
      · exact .inr (f12.fresh z)
    · obtain ⟨o2, e2⟩ := f12.pres b o' e
      exact f3.pres b o2 e2⟩
/-- all(list) -/
theorem e_all {bs : List Bool} {k : Option Nat} {pn : Pos} (h : EO X e ρ (.list (bs.map .bool)) ρ1 k) (hm : X.mg "all" = none) (hg : Gl X "all" := by rfl) (hc : X.calm = true := by rfl) (he : starEach [e] X.env = (false, eval e X.env) :: starEach [] X.env := by rfl) : E X (.Call (.Name "all" pn) [e] [] pos) ρ (.d (.bool (bs.all id))) ρ1 :=
  .of (pe_callB (cr_all hc) hg hm (by decide +kernel) (pa_cons pe_w pa_nil he) (he := he)) (ev_cb h fun HF H x Q r s q => by
    obtain ⟨p, ys, rfl, h1, h2⟩ := r
    have : ∀ {bs : List Bool} {ys : List V}, DpAll X.K HF ys (bs.map .bool) → ys = bs.map V.bl := fun {bs} => by
      induction bs with
      | nil => intro ys h; cases h; rfl
      | cons b bs ih =>
        intro ys h
        cases h with
        | cons h t => cases h; rw [ih t]; rfl
    have := this h2
    subst this
    exact ⟨p, bs, rfl, h1, q _ (.bl _)⟩)
end
/-! ### what a polynomial is -/
def isWholeD : PyData → Bool
  | .int _ => true
  | _ => false
def isTermD : PyData → Bool
  | .tuple [.int _, .int b] => !decide (b = 0)
  | _ => false
def powD : PyData → Int
  | .tuple [.int a, _] => a
  | _ => 0
def riseD (ds : List PyData) : Bool := (ds.zip (ds.drop 1)).all fun p => decide (powD p.1 < powD p.2)
def isPolyD : PyData → Bool
  | .tuple ds => ds.all isTermD && riseD ds
  | _ => false
def fIsWhole : List PyData → A → Prop := fun ds r => ∃ v, ds = [v] ∧ r = .d (.bool (isWholeD v))
def fIsTerm : List PyData → A → Prop := fun ds r => ∃ v, ds = [v] ∧ r = .d (.bool (isTermD v))
def fIsPoly : List PyData → A → Prop := fun ds r => ∃ v, (∀ xs, v = .tuple xs → xs.length < 100000) ∧ ds = [v] ∧ r = .d (.bool (isPolyD v))
theorem isWhole_eq (v : PyData) : (isi v .int && !isi v .bool) = isWholeD v := by cases v <;> rfl
theorem isTerm_of {v : PyData} (h : isTermD v = true) : ∃ a b : Int, v = .tuple [.int a, .int b] ∧ b ≠ 0 := by
  unfold isTermD at h
  split at h
  · rename_i a b
    exact ⟨a, b, rfl, by simpa using h⟩
  · cases h
theorem rise_can : ∀ {a : List (Int × Int)}, (a.map (·.1)).Pairwise (· < ·) → riseD (a.map encT) = true
  | [], _ => rfl
  | [_], _ => rfl
  | x :: y :: a, h => by
    have h1 := List.pairwise_cons.mp (show (x.1 :: y.1 :: a.map (·.1)).Pairwise (· < ·) from h)
    have ih := rise_can (a := y :: a) h1.2
    have e : riseD ((x :: y :: a).map encT) = (decide (x.1 < y.1) && riseD ((y :: a).map encT)) := rfl
    rw [e, ih, decide_eq_true (h1.1 y.1 List.mem_cons_self)]
    rfl
theorem isPoly_can {a : List (Int × Int)} (h : Can a) : isPolyD (encP a) = true := by
  show ((a.map encT).all isTermD && riseD (a.map encT)) = true
  rw [rise_can h.1, Bool.and_true, List.all_eq_true]
  intro x hx
  obtain ⟨t, ht, rfl⟩ := List.mem_map.mp hx
  have := h.2 t ht
  show (!decide (t.2 = 0)) = true
  simpa using this
/-! ### sizes -/
structure Sm (a : List (Int × Int)) (n k : Nat) : Prop where
  len : a.length ≤ n
  small : ∀ u ∈ a, u.2.natAbs ≤ 2 ^ k
theorem DrawnP.sm {a : List (Int × Int)} {n : Nat} (h : DrawnP a n) : Sm a n 210 := ⟨h.len, fun u hu => Nat.le_of_lt (h.small u hu)⟩
theorem cf_bd {a : List (Int × Int)} {M : Nat} (h : ∀ u ∈ a, u.2.natAbs ≤ M) (p : Int) : (cf a p).natAbs ≤ a.length * M := by
  induction a with
  | nil => exact Nat.zero_le _
  | cons t a ih =>
    have ih := ih fun u hu => h u (List.mem_cons_of_mem _ hu)
    have ht := h t List.mem_cons_self
    rw [cf, List.length_cons, Nat.succ_mul]
    split <;> omega
theorem sm_gat {a : List (Int × Int)} {n k : Nat} (h : Sm a n k) (hn : n ≤ 1024 := by decide) : Sm (gat a) n (k + 10) := by
  refine ⟨Nat.le_trans (gat_len a) h.len, fun u hu => ?_⟩
  rw [gat_val hu]
  refine Nat.le_trans (cf_bd h.small _) ?_
  rw [Nat.pow_add, Nat.mul_comm (2 ^ k)]
  exact Nat.mul_le_mul_right _ (Nat.le_trans h.len hn)
theorem sm_app {a b : List (Int × Int)} {n m k : Nat} (h : Sm a n k) (g : Sm b m k) : Sm (a ++ b) (n + m) k := by
  refine ⟨by rw [List.length_append]; have := h.len; have := g.len; omega, fun u hu => ?_⟩
  rcases List.mem_append.mp hu with hu | hu
  · exact h.small u hu
  · exact g.small u hu
theorem Sm.up {a : List (Int × Int)} {n k : Nat} (h : Sm a n k) {l : Nat} (hl : k ≤ l := by decide) : Sm a n l := ⟨h.len, fun u hu => Nat.le_trans (h.small u hu) (Nat.pow_le_pow_right (by decide) hl)⟩
theorem sm_prod {a b : List (Int × Int)} {n m k l : Nat} (h : Sm a n k) (g : Sm b m l) : Sm (prodT a b) (n * m) (k + l) := by
  refine ⟨by rw [prodT_len]; exact Nat.mul_le_mul h.len g.len, fun u hu => ?_⟩
  unfold prodT at hu
  obtain ⟨r, hr, hu⟩ := List.mem_flatten.mp hu
  obtain ⟨t, ht, rfl⟩ := List.mem_map.mp hr
  obtain ⟨v, hv, rfl⟩ := List.mem_map.mp hu
  show (t.2 * v.2).natAbs ≤ _
  rw [Int.natAbs_mul, Nat.pow_add]
  exact Nat.mul_le_mul (h.small t ht) (g.small v hv)
theorem sm_neg {a : List (Int × Int)} {n k : Nat} (h : Sm a n k) : Sm (negT a) n k := by
  refine ⟨by unfold negT; rw [List.length_map]; exact h.len, fun u hu => ?_⟩
  obtain ⟨v, hv, rfl⟩ := List.mem_map.mp hu
  have := h.small v hv
  show (0 - v.2).natAbs ≤ _
  omega
theorem sm_turn {a : List (Int × Int)} {n k : Nat} (h : Sm a n k) : Sm (turnT a) n k := by
  refine ⟨by unfold turnT; rw [List.length_map, List.length_reverse]; exact h.len, fun u hu => ?_⟩
  obtain ⟨v, hv, rfl⟩ := List.mem_map.mp hu
  exact h.small v (List.mem_reverse.mp hv)
theorem sm_lift {m : Int} {a : List (Int × Int)} {n k : Nat} (h : Sm a n k) : Sm (liftT m a) n k := by
  refine ⟨by unfold liftT; rw [List.length_map]; exact h.len, fun u hu => ?_⟩
  obtain ⟨v, hv, rfl⟩ := List.mem_map.mp hu
  exact h.small v hv
theorem times_sp {a b : List (Int × Int)} {n m k l : Nat} (h : Sm a n k) (g : Sm b m l) (hk : k + l ≤ 9000 := by decide) (hn : n * m < 100000 := by decide) (hn1 : n < 100000 := by decide) (hm1 : m < 100000 := by decide) : fTimes [encP a, encP b] (.d (encP (gat (prodT a b)))) :=
  ⟨a, b, Nat.lt_of_le_of_lt (Nat.mul_le_mul h.len g.len) hn, Nat.lt_of_le_of_lt h.len hn1, Nat.lt_of_le_of_lt g.len hm1, fun t ht u hu => wide_mul (a := k + 1) (b := l + 1) (Nat.lt_of_le_of_lt (h.small t ht) (Nat.pow_lt_pow_right (by decide) (Nat.lt_succ_self k))) (Nat.lt_of_le_of_lt (g.small u hu) (Nat.pow_lt_pow_right (by decide) (Nat.lt_succ_self l))) (by omega) (by omega) (by omega), rfl, rfl⟩
theorem plus_sp {a b : List (Int × Int)} {n m k l : Nat} (h : Sm a n k) (g : Sm b m l) (hn : n + m < 100000 := by decide) : fPlus [encP a, encP b] (.d (encP (gat (a ++ b)))) := ⟨a, b, by have := h.len; have := g.len; omega, rfl, rfl⟩
theorem minus_sp {a b : List (Int × Int)} {n m k l : Nat} (h : Sm a n k) (g : Sm b m l) (hn : n + m < 100000 := by decide) : fMinus [encP a, encP b] (.d (encP (gat (a ++ negT b)))) := ⟨a, b, by have := h.len; have := g.len; omega, rfl, rfl⟩
theorem lift_sp {a : List (Int × Int)} {n k : Nat} {m : Int} (h : Sm a n k) (hn : n < 100000 := by decide) : fLifted [encP a, .int m] (.d (encP (liftT m a))) := ⟨a, m, by have := h.len; omega, rfl, rfl⟩
theorem turn_sp {a : List (Int × Int)} {n k : Nat} (h : Sm a n k) (hn : n < 100000 := by decide) : fTurned [encP a] (.d (encP (turnT a))) := ⟨a, by have := h.len; omega, rfl, rfl⟩
end Th
namespace Th
open PySem PySem.Spec PyProof.Rows L2 RT RZ
/-! ### the rules of reckoning -/
abbrev Pl := List (Int × Int)
theorem cf_prod_congrR (a : Pl) {b b' : Pl} (h : ∀ p, cf b p = cf b' p) (p : Int) : cf (prodT a b) p = cf (prodT a b') p := by
  induction a with
  | nil => rfl
  | cons t a ih => rw [cf_prod_cons, cf_prod_cons, ih, h]
theorem cf_prod_congrL {a a' : Pl} (b : Pl) (h : ∀ p, cf a p = cf a' p) (p : Int) : cf (prodT a b) p = cf (prodT a' b) p := by
  rw [cf_prod_comm, cf_prod_congrR b h, cf_prod_comm]
theorem cf_prod_appL (a a' b : Pl) (p : Int) : cf (prodT (a ++ a') b) p = cf (prodT a b) p + cf (prodT a' b) p := by
  induction a with
  | nil => show _ = 0 + _; rw [Int.zero_add]; rfl
  | cons t a ih => rw [List.cons_append, cf_prod_cons, cf_prod_cons, ih]; omega
theorem cf_prod_appR (a b b' : Pl) (p : Int) : cf (prodT a (b ++ b')) p = cf (prodT a b) p + cf (prodT a b') p := by
  rw [cf_prod_comm, cf_prod_appL, cf_prod_comm b, cf_prod_comm b']
theorem cf_prod_row (t : Int × Int) (b c : Pl) (p : Int) : cf (prodT (rowT t b) c) p = t.2 * cf (prodT b c) (p - t.1) := by
  induction b with
  | nil => show (0 : Int) = t.2 * 0; omega
  | cons u b ih =>
    show cf (prodT ((t.1 + u.1, t.2 * u.2) :: rowT t b) c) p = _
    rw [cf_prod_cons, cf_prod_cons, ih, Int.mul_add, ← Int.mul_assoc]
    dsimp only
    rw [show p - (t.1 + u.1) = p - t.1 - u.1 by omega]
theorem cf_prod_assoc (a b c : Pl) (p : Int) : cf (prodT (prodT a b) c) p = cf (prodT a (prodT b c)) p := by
  induction a generalizing p with
  | nil => rfl
  | cons t a ih => rw [prodT_cons, cf_prod_appL, cf_prod_row, ih, cf_prod_cons]
theorem cf_one (a : Pl) (m p : Int) : cf (prodT a [(m, 1)]) p = cf a (p - m) := by
  rw [cf_prod_consR, cf_prod_nilR]
  show 1 * cf a (p - m) + 0 = _
  omega
theorem cf_prod_flip (a b : Pl) (p : Int) : cf (prodT (flipT a) (flipT b)) p = cf (prodT a b) (-p) := by
  induction a with
  | nil => rfl
  | cons t a ih =>
    show cf (prodT ((0 - t.1, t.2) :: flipT a) (flipT b)) p = _
    rw [cf_prod_cons, cf_prod_cons, ih, cf_flip]
    dsimp only
    rw [show -(p - (0 - t.1)) = -p - t.1 by omega]
section
variable {a b c : Pl} {m : Int}
theorem r_dist : gat (prodT a (gat (b ++ c))) = gat (gat (prodT a b) ++ gat (prodT a c)) := gat_congr fun p => by
  rw [cf_prod_congrR a (gat_cf (b ++ c)), cf_prod_appR, cf_app, gat_cf, gat_cf]
theorem r_plus : gat (a ++ b) = gat (b ++ a) := gat_congr fun p => by rw [cf_app, cf_app]; omega
theorem r_times : gat (prodT a b) = gat (prodT b a) := gat_congr (cf_prod_comm a b)
theorem r_tassoc : gat (prodT (gat (prodT a b)) c) = gat (prodT a (gat (prodT b c))) := gat_congr fun p => by
  rw [cf_prod_congrL c (gat_cf (prodT a b)), cf_prod_assoc, cf_prod_congrR a (gat_cf (prodT b c))]
theorem r_passoc : gat (gat (a ++ b) ++ c) = gat (a ++ gat (b ++ c)) := gat_congr fun p => by
  rw [cf_app, cf_app, gat_cf, gat_cf, cf_app, cf_app]; omega
theorem r_back (ha : Can a) : gat (gat (a ++ b) ++ negT b) = a := gat_is ha fun p => by
  rw [cf_app, gat_cf, cf_app, cf_neg]; omega
theorem can_nil : Can [] := ⟨List.Pairwise.nil, (fun _ z => nomatch z)⟩
theorem r_self : gat (a ++ negT a) = [] := gat_is can_nil fun p => by
  rw [cf_app, cf_neg]
  show _ = (0 : Int)
  omega
theorem r_one (ha : Can a) : gat (prodT a [(0, 1)]) = a := gat_is ha fun p => by rw [cf_one, Int.sub_zero]
theorem r_nil (ha : Can a) : gat (a ++ []) = a := by rw [List.append_nil]; exact gat_id ha
theorem r_nought : gat (prodT a []) = [] := gat_is can_nil fun p => cf_prod_nilR a p
theorem r_lift (ha : Can a) : liftT m a = gat (prodT a [(m, 1)]) := (gat_is (lift_can ha) fun p => by rw [cf_one, cf_lift]).symm
theorem r_lift2 : liftT (0 - m) (liftT m a) = a := by
  unfold liftT
  rw [List.map_map]
  refine (List.map_congr_left fun t _ => ?_).trans (List.map_id a)
  show (t.1 + m + (0 - m), t.2) = t
  rw [show t.1 + m + (0 - m) = t.1 by omega]
theorem r_turn2 : turnT (turnT a) = a := by
  unfold turnT
  rw [← List.map_reverse, List.map_map, List.reverse_reverse]
  refine (List.map_congr_left fun t _ => ?_).trans (List.map_id a)
  show (0 - (0 - t.1), t.2) = t
  rw [show 0 - (0 - t.1) = t.1 by omega]
theorem r_turnL : turnT (liftT m a) = liftT (0 - m) (turnT a) := by
  unfold turnT liftT
  rw [← List.map_reverse, List.map_map, List.map_map]
  refine List.map_congr_left fun t _ => ?_
  show (0 - (t.1 + m), t.2) = (0 - t.1 + (0 - m), t.2)
  rw [show 0 - (t.1 + m) = 0 - t.1 + (0 - m) by omega]
theorem r_turnT : turnT (gat (prodT a b)) = gat (prodT (turnT a) (turnT b)) := can_ext (turn_can (gat_can _)) (gat_can _) fun p => by
  rw [cf_turn, gat_cf, gat_cf, cf_prod_congrL (turnT b) (fun q => (cf_turn a q).trans (cf_flip a q).symm), cf_prod_congrR (flipT a) (fun q => (cf_turn b q).trans (cf_flip b q).symm), cf_prod_flip]
end
end Th
namespace Th
open PySem PySem.Spec PyProof.Rows L2 RT RZ
/-- a for that may return early: the state behind a turn is chosen at its end -/
theorem s_forS {X : Cx} {B : Bs} {P : Pst} {ρ ρ1 : Rho} {tg iter : Expr} {pos : Pos} {body : List Stmt} {α T : Type} {xs : List α} (enc : α → PyData) (hi : Src X tg iter ρ (xs.map enc) ρ1 none) (t0 : T) (emb : T → Rho) (J : T → Nat → Prop) (hJ : J t0 0) (h0 : Le ρ1 (emb t0))
    (hb : ∀ t (i : Nat) x, xs[i]? = some x → J t i → ∃ ρ2, GT X B tg (enc x) (emb t) ρ2 ∧ Ss X B body ρ2 (bodyP P fun ρ => ∃ t', J t' (i + 1) ∧ Le ρ (emb t'))) (hd : ∀ t ρ', J t xs.length → Le ρ' (emb t) → P.nx ρ')
    (hp : PassesOwn (model X.prog X.w) X.A X.env X.xe := by exact PassesOwn.never) (hc : X.calm = true := by rfl) (hs : ∀ x, foldedSetIterable iter X.env x = pure x := by intro _; rfl) : S X B (.For tg iter body [] pos) ρ P := by
  refine s_for hi (fun i ρ => ∃ t, J t i ∧ Le ρ (emb t)) ⟨t0, hJ, h0⟩ (fun i v ρ' hv ⟨t, hj, hI⟩ => ?_) (fun ρ' ⟨t, hj, l⟩ => ?_) hp hc hs
  · obtain ⟨x, hx, rfl⟩ := map_get hv
    obtain ⟨ρ2, g, h⟩ := hb t i x hx hj
    exact ⟨_, (show GT X B tg (enc x) ρ' ρ2 from fun x σ HF H S1 r Q q => g x σ HF H (S1.le hI) r Q fun σ' S' b' => q σ' S' fun b => b' (b.le hI)), h⟩
  · rw [List.length_map] at hj
    exact hd t ρ' hj l
end Th
namespace Th
open PySem PySem.Spec PyProof.Rows L2 RT RZ
theorem EO.tol {X : Cx} {e : Expr} {ρ ρ1 : Rho} {k : Option Nat} {xs ys : List PyData} (h : EO X e ρ (.list xs) ρ1 k) (q : xs = ys) : EO X e ρ (.list ys) ρ1 k := q ▸ h
end Th

set_option Elab.async false
set_option linter.all false
set_option maxRecDepth 100000
namespace Th
open PySem PySem.Spec PyProof.Rows L2 RT RZ
section
variable {X : Cx} {ρ ρ1 ρ2 : Rho} {e e1 e2 : Expr} {es : List Expr} {pos pos' : Pos} {a r : A} {ds : List PyData} {as : List A} {v : PyData} {i : Int} {x : Str} {kvs : List (Key × PyData)}
/-! ### one of a written list, its items of any kind -/
theorem RRel.later {K : PySem.W.Frag} {σ : L2.St} {HF H HF1 H1 HF2 H2 : Hp} {x : V} (S0 : Sl K ρ σ HF H) (f1 : Fw ρ ρ1 σ HF H HF1 H1) (f2 : Fw ρ1 ρ2 σ HF1 H1 HF2 H2) (r : RRel K H HF1 H1 x a) : RRel K H HF2 H2 x a := by
  cases ho : a.own with
  | true =>
    obtain ⟨p, o, e, h0, h1, h2, h3⟩ := (rrel_own ho).mp r
    refine (rrel_own ho).mpr ⟨p, o, e, h0, f2.hfn h1 h2, f2.keep p o h2 fun z => S0.notOwn h0 (f1.sh.own.mp z), hrel_mono f2.hf h3⟩
  | false =>
    cases a with
    | d v => exact dp_mono f2.hf r
    | any => trivial
    | tw l =>
      obtain ⟨t, ys, e, h0, h1, h2, h3⟩ := r
      refine ⟨t, ys, e, h0, f2.hfn h1 h2, f2.keep t _ h2 fun z => S0.notOwn h0 (f1.sh.own.mp z), Paired.mapP h3 fun y a z => ?_⟩
      cases a with
      | inl zs => obtain ⟨q, us, g1, g2, g3, g4, g5⟩ := z; exact ⟨q, us, g1, g2, f2.hfn g3 g4, f2.keep q _ g4 fun w => S0.notOwn g2 (f1.sh.own.mp w), dpa_mono f2.hf g5⟩
      | inr v => exact dp_mono f2.hf z
    | pin _ => exact r
    | rk v => exact rk_mono f2.hf r
    | dl m =>
      obtain ⟨p, kws, e, g⟩ := r
      have kp : ∀ b o, H1 b = some o → H b = none → H2 b = some o := fun b o q n => f2.keep b o q fun z => S0.notOwn n (f1.sh.own.mp z)
      exact ⟨p, kws, e, kp _ _ g.at_ g.base, g.base, f2.hfn g.fr g.at_, Paired.mapP g.its fun w kv z => by
        obtain ⟨z1, q, us, z2, z3, z4, z5, z6⟩ := z
        exact ⟨z1, q, us, z2, z3, f2.hfn z4 z5, kp _ _ z5 z3, dpa_mono f2.hf z6⟩, g.nk, g.na⟩
    | nw g => exact g.later f2.hf (fun b o e n => ⟨f2.keep b o e fun z => S0.notOwn n (f1.sh.own.mp z), fun h => f2.hfn h e⟩) r
    | fk v => exact fk_mono f2.hf r
    | ft v => exact ft_mono f2.hf r
    | gn g => exact g.mono f2.hf r
    | go _ => cases ho
    | ml _ => cases ho
    | mk _ => cases ho
    | mt _ => cases ho
def EM (X : Cx) (es : List Expr) (ρ : Rho) (as : List A) (ρ' : Rho) : Prop := ∀ σ HF H, Sl X.K ρ σ HF H → ∀ Q : List V → Hp → Prop,
  (∀ xs HF' H', Sl X.K ρ' σ HF' H' → Fw ρ ρ' σ HF H HF' H' → Paired (RRel X.K H HF' H') xs as → Q xs H') → wA X es σ H Q
theorem m_nil : EM X [] ρ [] ρ := fun σ HF H S Q q => ⟨_, pa_nil, q [] HF H S (.refl ..) .nil⟩
theorem m_cons (h : E X e ρ a ρ1) (hr : EM X es ρ1 as ρ2) (hs : starEach (e :: es) X.env = (false, eval e X.env) :: starEach es X.env := by rfl) : EM X (e :: es) ρ (a :: as) ρ2 := fun σ HF H S Q q =>
  ⟨_, pa_cons pe_w pa_w hs, h σ HF H S _ fun x HF1 H1 S1 f1 r1 => hr σ HF1 H1 S1 _ fun xs HF2 H2 S2 f2 r2 => q _ HF2 H2 S2 (f1.trans f2) (.cons (RRel.later S f1 f2 r1) (Paired.mapP r2 fun x a r => rrel_fresh (fun p h => f1.fresh h) r))⟩
theorem paired_get {α β : Type} {R : α → β → Prop} : ∀ {xs : List α} {ys : List β} {i : Nat} {y : β}, Paired R xs ys → ys[i]? = some y → ∃ x, xs[i]? = some x ∧ R x y
  | _, _, _, _, .nil, h => by simp at h
  | _, _, 0, _, .cons r _, h => by simp at h; subst h; exact ⟨_, rfl, r⟩
  | _, _, i + 1, _, .cons _ t, h => by
    obtain ⟨x, h1, h2⟩ := paired_get (i := i) t (by simpa using h)
    exact ⟨x, by simpa using h1, h2⟩
theorem e_pick (h : EM X es ρ as ρ1) (h2 : E X e2 ρ1 (.d (.int i)) ρ2) (h0 : 0 ≤ i) (hg : as[i.toNat]? = some a) (hz : as.length ≤ 1000 := by exact Nat.le_of_ble_eq_true rfl) (hp : PlainIx e2 := by exact fun _ _ => rfl) : E X (.Subscript (.List es pos') e2 pos) ρ a ρ2 :=
  .of (pe_ix ix_list (pe_lst pa_w) pe_w hp) fun σ HF H S Q q => h σ HF H S _ fun xs HF1 H1 S1 f1 r1 => by
    have hl := Paired.length r1
    refine ⟨by rw [hl]; exact Nat.le_of_lt (small1000 hz), fun p hpn => ?_⟩
    obtain ⟨S2, f2⟩ := S1.allocO hpn (.lst xs)
    have nw : ¬ OwnAt ρ1 σ p := S1.notOwn hpn
    refine h2 σ HF1 _ S2 _ fun z HF2 H2 S3 f3 r3 => ?_
    cases r3
    obtain ⟨y, g1, g2⟩ := paired_get r1 hg
    have hH : H2 p = some (.lst xs) := f3.keep p _ upd_same nw
    refine ⟨p, xs, i, y, rfl, rfl, .inl (.inl hH), ?_, q y HF2 H2 S3 ((f1.trans f2).trans f3) (RRel.later S f1 (f2.trans f3) g2)⟩
    exact (atI_nat' h0).trans g1
/-- isinstance of an own dict -/
theorem e_isM (T : Ty) (j : Nat) {pt pn : Pos} (hi : ρ[j]? = some (.mk kvs)) (hm : X.mg "isinstance" = none) (hmt : X.mg (Str.ofString T.nm) = none) (hg : Gl X "isinstance" := by rfl) (hgt : Gl X (Str.ofString T.nm) := by rfl) (hn : (Str.ofString T.nm) ≠ "__name__" := by decide) (hd : ((Str.ofString T.nm) == ("__debug__" : Str)) = false := by decide)
    (hN : X.N[j]? = some x := by rfl) (hv : Vis X.env.scope x := by first | exact Or.inl rfl | exact Or.inr (Or.inl rfl) | exact Or.inr (Or.inr rfl)) (hdx : (x == ("__debug__" : Str)) = false := by decide) (hcd : (x == ("__classdict__" : Str)) = false := by decide)
    (he : starEach [.Name x pos', .Name (Str.ofString T.nm) pt] X.env = (false, eval (.Name x pos') X.env) :: starEach [.Name (Str.ofString T.nm) pt] X.env := by rfl) (he2 : starEach [.Name (Str.ofString T.nm) pt] X.env = (false, eval (.Name (Str.ofString T.nm) pt) X.env) :: starEach [] X.env := by rfl) (hpl : (backTo pos (starEach [.Name (Str.ofString T.nm) pt] X.env)).any (·.1) = false := by rfl) :
    E X (.Call (.Name "isinstance" pn) [.Name x pos', .Name (Str.ofString T.nm) pt] [] pos) ρ (.d (.bool (isi (.dict []) T))) ρ :=
  .of (pe_callB call_isi hg hm (by decide +kernel) (pa_cons (pe_var hN hv hdx hcd) (pa_cons (pe_bltn (v := .ty T.nm) hgt hmt (boot_ty T) rfl hn hd) pa_nil he2) he) (by decide) (by decide) he hpl) fun σ HF H S1 Q q => by
    obtain ⟨p, o, e, h1, h2, h3⟩ := S1.ownAt hi rfl
    cases o <;> first | exact h3.elim | skip
    exact ⟨.ref p, e, .ref p, .ty T.nm, _, _, isi (.dict []) T, rfl, .ty T.nm, .base (.dK h2), kit_ty (kit_isi (.dict []) T), q _ HF H S1 (.refl ..) (.bl _)⟩
/-- x is not None -/
def someB : PyData → Bool
  | .none => false
  | _ => true
theorem t_notN {j : Nat} {p1 : Pos} (h : E X e ρ (.d v) ρ1) : ET X (.Compare e [.IsNot] [.Constant .none j p1] pos) ρ (someB v) ρ1 :=
  t_cmp op_notN (ev_op h e_non fun HF H x y Q hx hy _ q => by
    cases hy
    refine ⟨rfl, ?_⟩
    have : (!decide (x = V.non)) = someB v := by cases hx <;> rfl
    rw [this]
    exact q _ (.bl _)) (nomark _)
end
/-! ### the same, from one to the next -/
def leO : Option Int → PyData → Bool
  | none, _ => true
  | some p, x => decide (p < powD x)
def chk : Option Int → List PyData → Bool
  | _, [] => true
  | o, x :: xs => isTermD x && leO o x && chk (some (powD x)) xs
theorem chk_some : ∀ (x : PyData) (ds : List PyData), (ds.all isTermD && riseD (x :: ds)) = chk (some (powD x)) ds
  | _, [] => rfl
  | x, y :: ds => by
    have e : riseD (x :: y :: ds) = (decide (powD x < powD y) && riseD (y :: ds)) := rfl
    rw [e, List.all_cons, chk, ← chk_some y ds]
    show _ = (isTermD y && decide (powD x < powD y) && _)
    cases isTermD y <;> cases decide (powD x < powD y) <;> simp
theorem chk_none (ds : List PyData) : (ds.all isTermD && riseD ds) = chk none ds := by
  cases ds with
  | nil => rfl
  | cons x ds =>
    rw [chk, ← chk_some x ds, List.all_cons]
    show _ = (isTermD x && true && _)
    rw [Bool.and_true, Bool.and_assoc]
def encO : Option Int → PyData
  | none => .none
  | some i => .int i
def fIsM : Fs := fun as r as' => as = [.mk []] ∧ r = .d (.bool false) ∧ as' = as
end Th

set_option Elab.async false
set_option linter.all false
set_option maxRecDepth 100000
namespace Th
open PySem PySem.Spec PyProof.Rows L2 RT RZ

/-! ### enumerate(tuple) -/
section
variable {prog : Program} {w : World} {A : Around} {E : Value → Shared → Prop} {s : Shared}
theorem nextOf_tup_item {it t : Addr} {i : Nat} {items} {x : Value} {Q : Value → Shared → Prop} (hit : s.heap.IsTupleIter it t i)
    (ht : s.heap.IsTuple t items) (hx : items[i]? = some x)
    (hQ : ∀ h', h'.IsTupleIter it t (i + 1) → Heap.SameBut it s.heap h' → Q x { s with heap := h' }) :
    wpAny (model prog w) A (Builtin.SmallTypes.nextOf (.ref it)) Q E s := by
  obtain ⟨o, ho, hc, hd⟩ := id hit
  obtain ⟨ol, hol, _, nl, hdl⟩ := ht
  unfold Builtin.SmallTypes.nextOf
  refine wpAny_bind (wpAny_callSpecial?_slot (name := Str.ofString "__next__") hit.typeIs F.slot_tuple_iterator_next
    (wpAny_call_entry F.slot_tuple_iterator_next hit.typeIs F.entry_tuple_iterator_next ?_ (F.args_tuple_iterator_next_1 _)))
  show wpAny _ _ (field (.ref it) 0 >>= _) _ _ s
  refine wpAny_bind (wpAny_field ho hd (x := .ref t) rfl ?_)
  show wpAny _ _ (if (Value.ref t == Value.none) = true then _ else _) _ _ s
  rw [if_neg (show ¬ ((Value.ref t == Value.none) = true) from Bool.false_ne_true)]
  show wpAny _ _ (field (.ref it) 1 >>= _) _ _ s
  refine wpAny_bind (wpAny_field ho hd (x := .int i 0) rfl ?_)
  show wpAny _ _ (seqItems? (.ref t) >>= _) _ _ s
  refine wpAny_bind (wpAny_seqItems hol hdl ?_)
  simp only [Int.toNat_natCast, hx]
  refine wpAny_bind (wpAny_setField ho hd (by simp) (wpAny_pure ⟨x, rfl, wpAny_pure (hQ _ ?_ (Heap.SameBut.update ..))⟩))
  exact ⟨_, Heap.get?_update_self _ ho (Obj.isFreed_of_fields (Obj.data_mapFields hd _)), (Obj.cls_mapFields ..).trans hc, by
    rw [Obj.data_mapFields hd]; simp [rawInt]⟩
theorem nextOf_tup_end {it t : Addr} {i : Nat} {items} {Q : Value → Shared → Prop} (hh : A.handled = none)
    (hit : s.heap.IsTupleIter it t i) (ht : s.heap.IsTuple t items) (hx : items[i]? = none)
    (hE : ∀ h' e, Heap.ExtBut it s.heap h' → (∃ o, h'.get? e = some o ∧ o.cls = .type "StopIteration") → E (.ref e) { s with heap := h' }) :
    wpAny (model prog w) A (Builtin.SmallTypes.nextOf (.ref it)) Q E s := by
  obtain ⟨o, ho, hc, hd⟩ := id hit
  obtain ⟨ol, hol, _, nl, hdl⟩ := ht
  unfold Builtin.SmallTypes.nextOf
  refine wpAny_bind (wpAny_callSpecial?_slot (name := Str.ofString "__next__") hit.typeIs F.slot_tuple_iterator_next
    (wpAny_call_entry F.slot_tuple_iterator_next hit.typeIs F.entry_tuple_iterator_next ?_ (F.args_tuple_iterator_next_1 _)))
  show wpAny _ _ (field (.ref it) 0 >>= _) _ _ s
  refine wpAny_bind (wpAny_field ho hd (x := .ref t) rfl ?_)
  show wpAny _ _ (if (Value.ref t == Value.none) = true then _ else _) _ _ s
  rw [if_neg (show ¬ ((Value.ref t == Value.none) = true) from Bool.false_ne_true)]
  show wpAny _ _ (field (.ref it) 1 >>= _) _ _ s
  refine wpAny_bind (wpAny_field ho hd (x := .int i 0) rfl ?_)
  show wpAny _ _ (seqItems? (.ref t) >>= _) _ _ s
  refine wpAny_bind (wpAny_seqItems hol hdl ?_)
  simp only [Int.toNat_natCast, hx]
  refine wpAny_bind (wpAny_rule (wpAny_bind (wpAny_setField ho hd (by simp) ?_)))
  show wpAny _ _ (newExc (.type "StopIteration") [] >>= _) _ _ _
  refine wpAny_bind ?_
  simp only [newExc, newTuple]
  refine wpAny_bind (wpAny_newObj_type ?_ (by size_fits))
  refine wpAny_bind (m := firstArgMember _ _) (wpAny_of_eq (a := Value.none) (by first | rfl | (simp only [firstArgMember]; rfl)) ?_)
  refine wpAny_newObj_type ?_ (by size_fits)
  simp only [raiseNew]
  refine wpAny_bind (wpAny_handled ?_)
  first | rw [show A.in1.handled = none from hh] | rw [hh]
  refine wpAny_bind (wpAny_pure (wpAny_throw ?_))
  exact hE _ _ (((Heap.SameBut.update ..).extBut.push _).push _) ⟨_, Heap.get?_push_size _ rfl, rfl⟩
end
theorem draws_tup {prog : Program} {w : World} {A : Around} (hh : A.handled = none) (it l : Addr) (hne : l ≠ it) (items : Array Value) :
    Draws prog w A it [it, l] items.size (fun i v => items[i]? = some v) (fun i h => h.IsTupleIter it l i ∧ h.IsTuple l items) where
  live := fun _ _ st => let ⟨o, ho, _⟩ := st.1; ⟨o, ho⟩
  frame := fun _ _ _ st hk => ⟨st.1.at fun o e => hk it (by simp) o e, st.2.at fun o e => hk l (by simp) o e⟩
  item := fun i s Q E hi st hQ => by
    refine nextOf_tup_item st.1 st.2 (x := items[i]) (by simp [hi]) fun h' hit' hs' => ?_
    exact hQ _ h' s.toks (by simp [hi]) ⟨hit', st.2.extBut hs'.extBut hne⟩ hs'
  done := fun s Q E st hE => nextOf_tup_end hh st.1 st.2 (by simp) hE
set_option maxHeartbeats 1000000 in
theorem meets_enum_tup (l : Addr) (items : Array Value) (n : Nat) (dct : Option Addr) (sl : Array (Option Value)) :
    Meets (Builtin.«enumerate.__new__» ⟨[.type "enumerate", .ref l], []⟩) (fun _ R s => s.heap.get? l = some { cls := .type "tuple", dict := dct, data := .seq items n, slots := sl } ∧
      R (.ok (.ret (.ref (s.heap.push { cls := .type "tuple_iterator", data := .fields #[.ref l, .int 0 0] }).objs.size)))
        { s with heap := (s.heap.push { cls := .type "tuple_iterator", data := .fields #[.ref l, .int 0 0] }).push { cls := .type "enumerate", data := .fields #[.none, .bool false, .ref s.heap.objs.size, rawInt 0, .none, .none] } }) :=
  .of_wp fun prog w A R s h => by
    obtain ⟨hp, g, d, tk, os⟩ := s; obtain ⟨hl, h⟩ := h
    have hsub := sub_enumerate
    have hL : Heap.IsTuple (Shared.heap ⟨hp, g, d, tk, os⟩) l items := ⟨_, hl, rfl, n, rfl⟩
    wp_walk using PySem.AutoSeq1.wpAny_loadPart' hl
    refine wpAny_stack_any fun st => wpAny_pure ?_
    split
    · rename_i c _ _ _ _ _
      cases (c == Value.type "enumerate")
      · wp_walk using PySem.AutoSeq1.wpAny_loadPart' hl, wpAny_pyIter_tuple hL
        exact ⟨_, rfl, h⟩
      · wp_walk using PySem.AutoSeq1.wpAny_loadPart' hl, wpAny_pyIter_tuple hL
        exact ⟨_, rfl, h⟩
    · wp_walk using PySem.AutoSeq1.wpAny_loadPart' hl, wpAny_pyIter_tuple hL
      exact ⟨_, rfl, h⟩
section
variable {prog : Program} {w : World} {A : Around} {E : Value → Shared → Prop} {s : Shared}
theorem call_enum_tup {l : Addr} {items : Array Value} {Q : Value → Shared → Prop} (hL : s.heap.IsTuple l items)
    (h : ∀ h', IsEnum h' (s.heap.objs.size + 1) s.heap.objs.size 0 .none → h'.IsTupleIter s.heap.objs.size l 0 → h'.objs.size = s.heap.objs.size + 2 →
      (∀ b o, s.heap.get? b = some o → h'.get? b = some o) → Q (.ref (s.heap.objs.size + 1)) { s with heap := h' }) :
    wpAny (model prog w) A (call (.type "enumerate") [.ref l]) Q E s := by
  obtain ⟨⟨c, dct, dt, sl⟩, hl, hc, n, hd⟩ := hL
  replace hc : c = .type "tuple" := hc
  replace hd : dt = .seq items n := hd
  subst hc hd
  refine callType_new F.called_enumerate (by decide) (F.typeCall_enumerate_1 _) (F.newCall_enumerate_1 _) (fun obj => F.args_object_init_2 obj _) F.entry_enumerate_new
    (meets_enum_tup l items n dct sl) ⟨hl, ?_⟩
  have hz : (s.heap.push { cls := .type "tuple_iterator", data := .fields #[.ref l, .int 0 0] }).objs.size = s.heap.objs.size + 1 := Heap.size_push ..
  show _ ∧ _
  rw [hz]
  have he : IsEnum ((s.heap.push { cls := .type "tuple_iterator", data := .fields #[.ref l, .int 0 0] }).push
      { cls := .type "enumerate", data := .fields #[.none, .bool false, .ref s.heap.objs.size, rawInt 0, .none, .none] }) (s.heap.objs.size + 1) s.heap.objs.size 0 .none := by
    have := Heap.get?_push_size (s.heap.push { cls := .type "tuple_iterator", data := .fields #[.ref l, .int 0 0] })
      (o := { cls := .type "enumerate", data := .fields #[.none, .bool false, .ref s.heap.objs.size, rawInt 0, .none, .none] }) rfl
    rw [hz] at this; exact this
  refine ⟨⟨_, he, rfl⟩, h _ he ⟨_, Heap.get?_push_of_some _ (Heap.get?_push_size _ rfl), rfl, rfl⟩ (by rw [Heap.size_push, hz]) fun b o x => Heap.get?_push_of_some _ (Heap.get?_push_of_some _ x)⟩
end
theorem enum_end_tup {prog : Program} {w : World} {A : Around} {E : Value → Shared → Prop} {s : Shared} {e it l : Addr} {i : Nat} {items : Array Value} {old : Value} {Q : Option Value → Shared → Prop} (hh : A.handled = none)
    (he : IsEnum s.heap e it i old) (hit : s.heap.IsTupleIter it l i) (hl : s.heap.IsTuple l items) (hx : items[i]? = none)
    (hQ : ∀ h', Heap.ExtBut it s.heap h' → Q none { s with heap := h' }) : wpAny (model prog w) A (pyNext (.ref e)) Q E s := by
  have hT : s.TypeIs (.ref e) "enumerate" := ⟨_, he, rfl⟩
  unfold pyNext
  refine wpAny_bind (wpAny_attempt (wpAny_callSpecial?_slot (name := Str.ofString "__next__") hT F.slot_enumerate_next
    (wpAny_call_entry F.slot_enumerate_next hT F.entry_enumerate_next ?_ (F.args_enumerate_next_1 _))))
  show wpAny _ _ (field (.ref e) 2 >>= _) _ _ _
  refine wpAny_bind (wpAny_field he rfl (x := .ref it) rfl ?_)
  refine wpAny_bind (nextOf_tup_end hh hit hl hx fun h' x he' hx' => ?_)
  obtain ⟨o, ho, hc⟩ := hx'
  refine wpAny_bind (wpAny_isInstance (T := "StopIteration") (b := true) ⟨o, ho, hc⟩ isSubtype_stop ?_)
  exact wpAny_pure (hQ _ he')
/-- the tuple at a as it stands at each turn, each item in a new pair -/
def ItE (K : PySem.W.Frag) (a : Addr) : It :=
  ⟨fun i H => ∃ (xs : List V) (x : V), SqT K H a xs ∧ xs[i]? = some x, fun i H v H' => ∃ T x, v = .ref T ∧ H T = none ∧ H' = upd H T (.tup [.int (i : Nat), x]) ∧ ∀ xs, SqT K H a xs → xs[i]? = some x, fun i H => ∃ xs : List V, SqT K H a xs ∧ xs.length ≤ i⟩
theorem turn_enumT {P : Program} {w : World} {K : PySem.W.Frag} {elts : List Expr} {kk : Nat} {tpos : Pos} (a e it : Addr) :
    Turn P w K (.Tuple elts kk tpos) (ItE K a) [e, it] e (fun i h => (∃ old, IsEnum h e it ((i : Nat) : Int) old) ∧ h.IsTupleIter it a i ∧ e ≠ it ∧ a ≠ it ∧ a ≠ e) where
  mem := by simp
  obj := fun i h st b hb => by
    obtain ⟨⟨old, he⟩, ⟨o, ho, hc, hd⟩, _⟩ := st
    have e' : b = e ∨ b = it := by simpa using hb
    rcases e' with z | z
    · rw [z]; exact ⟨_, he, fun v q => nomatch q⟩
    · rw [z]; exact ⟨o, ho, fun v q => by rw [hd] at q; cases q⟩
  keep := fun i h h' st k => let ⟨⟨old, he⟩, hi, hne, h1, h2⟩ := st; ⟨⟨old, k e (by simp) _ he⟩, hi.at fun o q => k it (by simp) o q, hne, h1, h2⟩
  item := by
    intro X hP hw hK hc i pins s σ H E I hf st hg
    subst hP hw hK
    obtain ⟨⟨old, he⟩, hit, hne, hai, hae⟩ := st
    obtain ⟨xs, x, hq, hx⟩ := hg
    obtain ⟨its, rv, p, hz⟩ := I.tuple hq
    have hT : s.heap.IsTuple a its.toArray := p
    obtain ⟨u, hu, ru⟩ := rv.get hx
    have hel : e < s.heap.objs.size := Heap.lt_size he
    have hil : it < s.heap.objs.size := by obtain ⟨_, q, _⟩ := hit; exact Heap.lt_size q
    have hlt : i < its.toArray.size := by
      have := (List.getElem?_eq_some_iff.mp hu).1
      simpa using this
    refine wpAny_pyNext_enum_itemD (draws_tup (A := X.A.in1) (I.ok.hd hc) it a hai its.toArray) he ⟨hit, hT⟩ hlt hne (by simp [hne, Ne.symm hae]) fun y h' tk hy ho hst hT2 hsz hk => ?_
    have hyu : y = u := by
      have : its.toArray[i]? = some y := hy
      rw [show its.toArray[i]? = its[i]? by simp, hu] at this
      exact (Option.some.inj this).symm
    subst hyu
    refine ⟨_, rfl, wpAny_letOwnedTupleGo_enum (s := { s with heap := h', toks := tk + 1 }) ho fun h'' he' sb => ?_⟩
    have hT3 : h''.get? s.heap.objs.size = some { cls := .type "tuple", data := .seq #[.int i tk, y] } := (sb.2 _ (Nat.ne_of_gt hel)).trans hT2
    have new : ObjOk X.prog X.w (upd H s.heap.objs.size (.tup [.int (i : Nat), x])) h'' s.heap.objs.size (.tup [.int (i : Nat), x]) :=
      ⟨by show 2 ≤ sizeLine; decide, [.int i tk, y], .cons ⟨_, rfl⟩ (.cons ru .nil), ⟨_, hT3, rfl, _, rfl⟩⟩
    have I1 : Inv X pins σ (upd H s.heap.objs.size (.tup [.int (i : Nat), x])) { s with heap := h'', toks := tk + 1 } :=
      I.turnedNew (ch := [e, it]) (fun b ob hb q => (sb.2 b (fun z => hb (by simp [z]))).trans (hk b ob (fun z => hb (by simp [z])) (fun z => hb (by simp [z])) q)) hf (Nat.le_refl _) new
    refine ⟨.ref s.heap.objs.size, _, I1, rfl, ⟨_, x, rfl, I.hok.fresh (Nat.le_refl _), rfl, fun ys hy => by rw [I.tuple_inj hy hq]; exact hx⟩, ⟨⟨y, ?_⟩, hst.1.at fun o q => (sb.2 it (Ne.symm hne)).trans q, hne, hai, hae⟩, fun b hb => ?_⟩
    · have e1 : ((i + 1 : Nat) : Int) = (i : Int) + 1 := by omega
      rw [e1]; exact he'
    · have hb' : b < s.heap.objs.size := by
        have e' : b = e ∨ b = it := by simpa using hb
        rcases e' with z | z
        · rw [z]; exact hel
        · rw [z]; exact hil
      rw [upd_ne (Nat.ne_of_lt hb')]
      exact (hf b hb).1
  done := by
    intro X hP hw hK hc i pins s σ H E I hf st hg
    subst hP hw hK
    obtain ⟨⟨old, he⟩, hit, hne, hai, hae⟩ := st
    obtain ⟨xs, hq, hx⟩ := hg
    obtain ⟨its, rv, p, hz⟩ := I.tuple hq
    have hT : s.heap.IsTuple a its.toArray := p
    obtain ⟨f0, f1, f2, f3, f4, f5⟩ := hf it (by simp)
    have hl := rv.length
    exact enum_end_tup (I.ok.hd hc) he hit hT (by simp; omega) fun h' eb => ⟨rfl, I.turned (t' := s.toks) (fun b o hb q => eb b o hb q) f0 f1 f3 f4 f5⟩
  self := fun A i s Q E st h => let ⟨⟨_, he⟩, _⟩ := st; wpAny_pyIter_enum he h
def iEnumT (K : PySem.W.Frag) (ta : TA) : TI := fun σ H R => ta σ H fun vs H1 => ∃ a xs, vs = [.ref a] ∧ SqT K H1 a xs ∧ R (ItE K a) H1
theorem pi_enumT {X : Cx} {e : Expr} {ta : TA} {p pos tpos : Pos} {elts : List Expr} {kk : Nat} (hg : Gl X "enumerate") (hm : X.mg "enumerate" = none) (ha : PA X [e] ta) (hs : starEach [e] X.env = [(false, eval e X.env)] := by rfl) :
    PI X (.Tuple elts kk tpos) (.Call (.Name "enumerate" p) [e] [] pos) (iEnumT X.K ta) := by
  refine ⟨fun pins s σ H R I h => ?_⟩
  refine Call_ (ld_blt I hg hm boot_enumerate (PyProof.Rows.callWith_type1 (thn (ha.run pos pins s σ H _ I h) fun us s1 ⟨vs, H1, I1, r1, q1⟩ => ?_) hs rfl))
  obtain ⟨a, xs, ex, hq, q⟩ := q1
  subst ex
  cases r1 with
  | cons r rr =>
    cases rr
    cases r
    obtain ⟨its, rv, p', hz⟩ := I1.tuple hq
    have hT : s1.heap.IsTuple a its.toArray := p'
    have hal : a < s1.heap.objs.size := by obtain ⟨_, e, _⟩ := hT; exact Heap.lt_size e
    refine call_enum_tup hT fun h' he hit hsz hk => wpAny_pyIter_enum he ?_
    have I2 : Inv X pins σ H1 { s1 with heap := h' } := I1.kept (t' := s1.toks) hk
    refine ⟨s1.heap.objs.size + 1, [s1.heap.objs.size + 1, s1.heap.objs.size], _, _, H1, rfl, I2, turn_enumT a (s1.heap.objs.size + 1) s1.heap.objs.size, ⟨⟨.none, he⟩, hit, Nat.succ_ne_self _, Nat.ne_of_lt hal, Nat.ne_of_lt (Nat.lt_succ_of_lt hal)⟩, fun b hb => ?_, q⟩
    have e' : b = s1.heap.objs.size + 1 ∨ b = s1.heap.objs.size := by simpa using hb
    have hle : s1.heap.objs.size ≤ b := by
      rcases e' with z | z
      · rw [z]; exact Nat.le_add_right _ _
      · rw [z]; exact Nat.le_refl _
    exact I1.fpOk hle (I1.hok.fresh hle)
/-- enumerate(t), t a tuple; enumerate(xs), xs a list -/
def enumD (ds : List PyData) : List PyData := ds.zipIdx.map fun p => .tuple [.int (p.2 : Nat), p.1]
theorem enumD_len (ds : List PyData) : (enumD ds).length = ds.length := by unfold enumD; rw [List.length_map, List.length_zipIdx]
theorem enumD_get {ds : List PyData} {i : Nat} {d : PyData} (h : ds[i]? = some d) : (enumD ds)[i]? = some (.tuple [.int (i : Nat), d]) := by
  unfold enumD
  rw [List.getElem?_map, List.getElem?_zipIdx, h]
  simp
section
variable {X : Cx} {ρ ρ1 : Rho} {e : Expr} {pos : Pos} {ds : List PyData}
theorem src_enumT {p : Pos} {elts : List Expr} {kk : Nat} {tpos : Pos} (h : E X e ρ (.d (.tuple ds)) ρ1) (hm : X.mg "enumerate" = none) (hg : Gl X "enumerate" := by rfl) (hs : starEach [e] X.env = [(false, eval e X.env)] := by rfl) :
    Src X (.Tuple elts kk tpos) (.Call (.Name "enumerate" p) [e] [] pos) ρ (enumD ds) ρ1 none :=
  ⟨_, pi_enumT hg hm (pa_cons pe_w pa_nil hs) hs, fun σ HF H S1 R q => h σ HF H S1 _ fun x HF1 H1 S2 f1 r1 => by
  cases (show Dp X.K HF1 x (.tuple ds) from r1) with
  | @tup p ys _ h1 h2 =>
    refine ⟨p, ys, rfl, same_t S2.sub h1, q _ HF1 H1 S2 f1 fun σ2 ρ2 HF2 H2 _ _ S3 s3 => ?_⟩
    have t3 := same_t S3.sub (same_t s3 h1)
    have d3 := dpa_mono s3 h2
    have hl := dpa_len h2
    refine ⟨fun i hi => ?_, ⟨ys, t3, by rw [enumD_len, hl]; exact Nat.le_refl _⟩, fun i x H3 hi ⟨T, y, e1, e2, e3, e4⟩ => ?_⟩
    · rw [enumD_len] at hi
      obtain ⟨y, g, _⟩ := dpa_get d3 (List.getElem?_eq_getElem hi)
      exact ⟨ys, y, t3, g⟩
    · obtain ⟨d, g1, g2⟩ := dpa_get' d3 (e4 ys t3)
      exact ⟨_, enumD_get g1, .inr ⟨T, _, _, e2, e3, e1, rfl, .cons (.int _) (.cons g2 .nil)⟩⟩⟩
end
end Th

set_option Elab.async false
set_option linter.all false
set_option maxRecDepth 100000
namespace Th
open PySem PySem.Spec PyProof.Rows L2
/-! ### texts -/
section
variable {X : Cx} {ρ ρ1 ρ2 ρ3 : Rho} {e e1 e2 o : Expr} {pos pn apos : Pos} {a b : Str} {ys : List Str} {i : Int} {k : Option Nat}
/-- str(n) -/
theorem e_strI (h : E X e ρ (.d (.int i)) ρ1) (hz : i.natAbs.log2 < 1920) (hm : X.mg "str" = none) (hg : Gl X "str" := by rfl) (he : starEach [e] X.env = (false, eval e X.env) :: starEach [] X.env := by rfl) :
    E X (.Call (.Name "str" pn) [e] [] pos) ρ (.d (.str (toString i))) ρ1 :=
  .of (pe_callTy call_str_int hg hm (by decide +kernel) (pa_cons pe_w pa_nil he) (he := he)) fun σ HF H S1 Q q => h σ HF H S1 _ fun x HF1 H1 S2 f1 r1 => by
    cases r1
    exact ⟨i, rfl, hz, q _ HF1 H1 S2 f1 (.str _)⟩
/-- int(text) -/
theorem e_intS (h : E X e ρ (.d (.str a)) ρ1) (hn : PySem.intText? a = some i) (hl : a.length ≤ 640) (hm : X.mg "int" = none) (hg : Gl X "int" := by rfl) (he : starEach [e] X.env = (false, eval e X.env) :: starEach [] X.env := by rfl) :
    E X (.Call (.Name "int" pn) [e] [] pos) ρ (.d (.int i)) ρ1 :=
  .of (pe_callTy call_int_str hg hm (by decide +kernel) (pa_cons pe_w pa_nil he) (he := he)) fun σ HF H S1 Q q => h σ HF H S1 _ fun x HF1 H1 S2 f1 r1 => by
    cases r1
    exact ⟨a, i, rfl, hn, hl, q _ HF1 H1 S2 f1 (.int _)⟩
/-- len(text) -/
theorem e_lenS (h : E X e ρ (.d (.str a)) ρ1) (hz : a.length ≤ 16777216) (hm : X.mg "len" = none) (hg : Gl X "len" := by rfl) (he : starEach [e] X.env = (false, eval e X.env) :: starEach [] X.env := by rfl) :
    E X (.Call (.Name "len" pn) [e] [] pos) ρ (.d (.int a.length)) ρ1 :=
  .of (pe_callB call_len_str hg hm PySem.boot_len (pa_cons pe_w pa_nil he) (he := he)) fun σ HF H S1 Q q => h σ HF H S1 _ fun x HF1 H1 S2 f1 r1 => by
    cases r1
    exact ⟨a, rfl, by rw [sizeLine_eq]; exact hz, q _ HF1 H1 S2 f1 (.int _)⟩
/-- a + b -/
theorem e_addS (ha : E X e1 ρ (.d (.str a)) ρ1) (hb : E X e2 ρ1 (.d (.str b)) ρ2) (hz : a.length + b.length ≤ 16777216) : E X (.BinOp e1 .Add e2 pos) ρ (.d (.str (a ++ b))) ρ2 :=
  .of (pe_op op_add_str pe_w pe_w) (ev_op ha hb fun HF H x y Q hx hy _ q => by
    cases hx
    cases hy
    exact ⟨a, b, rfl, rfl, Nat.le_trans hz (by rw [sizeLine_eq]; exact Nat.le_refl _), q _ (.str _)⟩)
/-- text.split(b) -/
theorem e_splitS (ho : E X o ρ (.d (.str a)) ρ1) (he : E X e ρ1 (.d (.str b)) ρ2) (hb : (b.length == 0) = false) (hz : a.length ≤ 16777214) (hs : starEach [e] X.env = [(false, eval e X.env)] := by rfl) (hbase : attributeBase o "split" X.env (eval o X.env) = eval o X.env := by rfl) (hline : (apos.endLine == pos.line) = true := by rfl) :
    E X (.Call (.Attribute o "split" apos) [e] [] pos) ρ (.ml ((Txt.split a b).map PyData.str)) ρ2 :=
  .of (pe_split pe_w pe_w hs hbase hline) fun σ HF H S1 Q q => ho σ HF H S1 _ fun x HF1 H1 S2 f1 r1 => by
    cases r1
    refine ⟨⟨a, rfl⟩, he σ HF1 H1 S2 _ fun y HF2 H2 S3 f2 r2 => ?_⟩
    cases r2
    refine ⟨a, b, rfl, rfl, hb, by rw [sizeLine_eq]; omega, fun p hp => ?_⟩
    obtain ⟨S4, f4⟩ := S3.allocO hp (.lst ((Txt.split a b).map V.str))
    have f12 := f1.trans f2
    refine q _ _ _ S4 (f12.trans f4) ⟨p, _, rfl, f12.fresh hp, S3.hfNone hp, upd_same, ?_⟩
    have key : ∀ l : List Str, DpAll X.K HF2 (l.map V.str) (l.map PyData.str) := fun l => by
      induction l with
      | nil => exact .nil
      | cons z l ih => exact .cons (.str _) ih
    exact key _
/-- text.partition(b) -/
theorem e_partS (ho : E X o ρ (.d (.str a)) ρ1) (he : E X e ρ1 (.d (.str b)) ρ2) (hb : (b.length == 0) = false) (hz : a.length ≤ 16777216) (hs : starEach [e] X.env = [(false, eval e X.env)] := by rfl) (hbase : attributeBase o "partition" X.env (eval o X.env) = eval o X.env := by rfl) (hline : (apos.endLine == pos.line) = true := by rfl) :
    E X (.Call (.Attribute o "partition" apos) [e] [] pos) ρ (.d (.tuple [.str (Txt.partition a b).1, .str (Txt.partition a b).2.1, .str (Txt.partition a b).2.2])) ρ2 :=
  .of (pe_partition pe_w pe_w hs hbase hline) fun σ HF H S1 Q q => ho σ HF H S1 _ fun x HF1 H1 S2 f1 r1 => by
    cases r1
    refine ⟨⟨a, rfl⟩, he σ HF1 H1 S2 _ fun y HF2 H2 S3 f2 r2 => ?_⟩
    cases r2
    refine ⟨a, b, rfl, rfl, hb, by rw [sizeLine_eq]; omega, fun p hp => ?_⟩
    obtain ⟨S4, f4⟩ := S3.allocD hp (.tup [.str (Txt.partition a b).1, .str (Txt.partition a b).2.1, .str (Txt.partition a b).2.2])
    exact q _ _ _ S4 ((f1.trans f2).trans f4) (.tup (.inl (.inl upd_same)) (.cons (.str _) (.cons (.str _) (.cons (.str _) .nil))))
/-- b.join(words) -/
theorem e_joinS (ho : E X o ρ (.d (.str b)) ρ1) (he : EO X e ρ1 (.list (ys.map .str)) ρ2 k) (hz : (ys.map (·.length)).sum + ys.length * b.length ≤ 16777216) (hk : Kp k ρ2 ρ2 := by first | exact trivial | exact rfl) (hs : starEach [e] X.env = [(false, eval e X.env)] := by rfl) (hbase : attributeBase o "join" X.env (eval o X.env) = eval o X.env := by rfl) (hline : (apos.endLine == pos.line) = true := by rfl) :
    E X (.Call (.Attribute o "join" apos) [e] [] pos) ρ (.d (.str (Txt.join b ys))) ρ2 :=
  .of (pe_join pe_w pe_w hs hbase hline) fun σ HF H S1 Q q => ho σ HF H S1 _ fun x HF1 H1 S2 f1 r1 => by
    cases r1
    refine ⟨⟨b, rfl⟩, he σ HF1 H1 S2 _ fun y HF2 H2 S3 f2 r2 => ?_⟩
    obtain ⟨p, zs, rfl, h1, h2⟩ := r2 ρ2 HF2 H2 hk S3 (.refl ..)
    have key : ∀ {l : List Str} {vs : List V}, DpAll X.K HF2 vs (l.map PyData.str) → vs = l.map V.str := fun {l} => by
      induction l with
      | nil => intro vs h; cases h; rfl
      | cons z l ih =>
        intro vs h
        cases h with
        | cons h1 h2 => cases h1; rw [ih h2]; rfl
    have := key h2
    subst this
    exact ⟨b, p, ys, rfl, rfl, .inl h1, hz, q _ HF2 H2 S3 (f1.trans f2) (.str _)⟩
/-- text[i] -/
theorem e_ixS {c : Nat} (ha : E X e1 ρ (.d (.str a)) ρ1) (hb : E X e2 ρ1 (.d (.int i)) ρ2) (h0 : 0 ≤ i) (hi : i < a.length) (hz : a.length ≤ 16777216) (hc : a.cps[i.toNat]? = some c) (hs : PlainIxT e2 := by exact fun _ _ => rfl) : E X (.Subscript e1 e2 pos) ρ (.d (.str ⟨#[c]⟩)) ρ2 :=
  .of (pe_item_str pe_w pe_w hs) (ev_op ha hb fun HF H x y Q hx hy _ q => by
    cases hx
    cases hy
    exact ⟨a, i, c, rfl, rfl, h0, by omega, hi, hc, q _ (.str _)⟩)
/-- text[l:h] -/
theorem e_slS {lo hi : Option Expr} {l h : Option Int} {p2 : Pos} (ha : E X e ρ (.d (.str a)) ρ1) (hl : EP X lo ρ1 l ρ2) (hh : EP X hi ρ2 h ρ3) (hz : a.length ≤ 16777216) : E X (.Subscript e (.Slice lo hi none p2) pos) ρ (.d (.str (cutS a l h))) ρ3 :=
  .of (pe_slice sl_str pe_w po_w po_w) fun σ HF H S Q q => ha σ HF H S _ fun x HF1 H1 S1 f1 r1 => hl σ HF1 H1 S1 _ fun HF2 H2 S2 f2 => hh σ HF2 H2 S2 _ fun HF3 H3 S3 f3 => by
    cases r1
    exact ⟨a, rfl, by rw [sizeLine_eq]; exact hz, q _ HF3 H3 S3 (f1.trans (f2.trans f3)) (.str _)⟩
end
section
variable {X : Cx} {ρ ρ1 ρ2 : Rho} {e1 e2 : Expr} {pos : Pos} {a b : Str}
/-- a in b, a one sign: by looking at b's signs -/
theorem e_inS (ha : E X e1 ρ (.d (.str a)) ρ1) (hb : E X e2 ρ1 (.d (.str b)) ρ2) (hm : behindInMarks .In e2 = false := by rfl) : ET X (.Compare e1 [.In] [e2] pos) ρ (!(Builtin.Str.occurrences b a 0 b.length 1).isEmpty) ρ2 :=
  t_cmp op_in_str (ev_op ha hb fun HF H x y Q hx hy _ q => by
    cases hx
    cases hy
    exact ⟨a, b, rfl, rfl, q _ (.bl _)⟩) hm
end
section
variable {X : Cx} {ρ ρ1 ρ2 : Rho} {e1 e2 e3 tg iter : Expr} {pos : Pos} {l : List Nat}
/-- a <= b <= c -/
theorem t_chII {i j l : Int} (ha : E X e1 ρ (.d (.int i)) ρ1) (hb : E X e2 ρ1 (.d (.int j)) ρ2) (hc : E X e3 ρ2 (.d (.int l)) ρ2) (hm : lastMarks [.LtE, .LtE] [e2, e3] = false := by with_unfolding_all rfl) : ET X (.Compare e1 [.LtE, .LtE] [e2, e3] pos) ρ (decide (i ≤ j) && decide (j ≤ l)) ρ2 :=
  .of (pt_chain op_le op_le pe_w pe_w pe_w hm) fun σ HF H S1 Q q => ha σ HF H S1 _ fun x HF1 H1 S2 f1 r1 => hb σ HF1 H1 S2 _ fun y HF2 H2 S3 f2 r2 => by
    cases r1
    cases r2
    refine ⟨i, j, rfl, rfl, decide (i ≤ j), rfl, ?_⟩
    by_cases h : i ≤ j
    · rw [if_pos (decide_eq_true h), decide_eq_true h, Bool.true_and] at *
      refine hc σ HF2 H2 S3 _ fun z HF3 H3 S4 f3 r3 => ?_
      cases r3
      exact ⟨j, l, rfl, rfl, _, rfl, q HF3 H3 S4 ((f1.trans f2).trans f3)⟩
    · rw [if_neg (by rw [decide_eq_false h]; exact Bool.false_ne_true), decide_eq_false h, Bool.false_and] at *
      exact ⟨_, rfl, q HF2 H2 S3 (f1.trans f2)⟩
/-- for c in text -/
theorem src_str (h : E X iter ρ (.d (.str ⟨l.toArray⟩)) ρ1) : Src X tg iter ρ (l.map fun c => PyData.str ⟨#[c]⟩) ρ1 none := ⟨_, pi_str pe_w, fun σ HF H S1 R q => h σ HF H S1 _ fun x HF1 H1 S2 f1 r1 => by
  cases (show Dp X.K HF1 x (.str ⟨l.toArray⟩) from r1)
  refine ⟨⟨l.toArray⟩, rfl, q _ HF1 H1 S2 f1 fun σ2 ρ2 HF2 H2 _ _ S3 s3 => ⟨fun i hi => ?_, ?_, fun i x H3 hi ⟨e, c, hc, ex⟩ => ?_⟩⟩
  · show i < l.toArray.size
    rw [List.length_map] at hi
    simpa using hi
  · show l.toArray.size ≤ (l.map fun c => PyData.str ⟨#[c]⟩).length
    rw [List.length_map]
    simp
  · have hc : l.toArray[i]? = some c := hc
    have hc : l[i]? = some c := by simpa using hc
    exact ⟨.str ⟨#[c]⟩, by rw [List.getElem?_map, hc]; rfl, .inl ⟨e, by rw [ex]; exact .str _⟩⟩⟩
/-- c in text, one sign -/
theorem e_in1 {c : Nat} {b : Str} (ha : E X e1 ρ (.d (.str ⟨#[c]⟩)) ρ1) (hb : E X e2 ρ1 (.d (.str b)) ρ2) (hm : behindInMarks .In e2 = false := by rfl) : E X (.Compare e1 [.In] [e2] pos) ρ (.d (.bool (decide (c ∈ b.cps.toList)))) ρ2 :=
  .of (pe_cmpR op_in_str pe_w pe_w hm) (ev_op ha hb fun HF H x y Q hx hy _ q => by
    cases hx
    cases hy
    rw [← PySem.StrLaws.found_one] at q
    exact ⟨_, _, rfl, rfl, q _ (.bl _)⟩)
end
section
open L2
variable {X : Cx} {ρ ρ1 : Rho} {e1 : Expr} {pos px : Pos} {c x : Str} {d : Addr} {es : Array DictEntry} {n : Nat} {r : Option Value}
/-- c not in D, D a dict of the module with text keys -/
theorem t_ninKd (D : KDict X.K X.w d es n) (hg : X.mg x = some (.ref d)) (ha : E X e1 ρ (.d (.str c)) ρ1) (hr : PySem.W.nsIn X.K d c = some r) (hgl : Gl X x := by rfl) (hdx : (x == ("__debug__" : Str)) = false := by decide) (hm : behindInMarks .NotIn (.Name x px) = false := by rfl) :
    ET X (.Compare e1 [.NotIn] [.Name x px] pos) ρ (!r.isSome) ρ1 :=
  t_cmp (op_notIn_kd D) (fun σ HF H S Q q => ha σ HF H S _ fun x1 HF1 H1 S1 f1 r1 => by
    cases r1
    exact ⟨_, pe_glob (v := .ref d) hgl hg rfl hdx, c, r, rfl, rfl, hr, q _ HF1 H1 S1 f1 (.bl _)⟩) hm
/-- D[c], a whole number -/
theorem e_ixKd {i : Int} {t : Tok} (D : KDict X.K X.w d es n) (hg : X.mg x = some (.ref d)) (ha : E X e1 ρ (.d (.str c)) ρ1) (hr : PySem.W.nsIn X.K d c = some (some (.int i t))) (hgl : Gl X x := by rfl) (hdx : (x == ("__debug__" : Str)) = false := by decide) (hp : PlainIx e1 := by exact fun _ _ => rfl) :
    E X (.Subscript (.Name x px) e1 pos) ρ (.d (.int i)) ρ1 :=
  .of (pe_ix ix_kdict (pe_glob (v := .ref d) hgl hg rfl hdx) pe_w hp) fun σ HF H S Q q => ha σ HF H S _ fun x1 HF1 H1 S1 f1 r1 => by
    cases r1
    exact ⟨d, c, .int i, rfl, rfl, ⟨es, n, .int i t, D.at_, D.lit, hr, ⟨_, rfl⟩⟩, q _ HF1 H1 S1 f1 (.int _)⟩
end
end Th

set_option Elab.async false
set_option linter.all false
set_option maxRecDepth 100000
namespace Th
open PySem PySem.Spec PyProof.Rows L2 TL
/-! ### polynomials as texts, by their signs (32 blank, 43 +, 45 -, 94 ^, 120 x) -/
def mkS (l : List Nat) : Str := ⟨l.toArray⟩
theorem tl_mkS (l : List Nat) : tl (mkS l) = l := tl_mk l
theorem mkS_tl (x : Str) : mkS (tl x) = x := mk_tl x
theorem mkS_app (a b : List Nat) : mkS a ++ mkS b = mkS (a ++ b) := ext_tl (by rw [tl_append, tl_mkS, tl_mkS, tl_mkS])
theorem mkS_len (l : List Nat) : (mkS l).length = l.length := by rw [len_tl, tl_mkS]
theorem mkS_inj {a b : List Nat} (h : mkS a = mkS b) : a = b := by rw [← tl_mkS a, h, tl_mkS]
def intL (p : Int) : List Nat := if p < 0 then 45 :: numL p.natAbs else numL p.natAbs
theorem tl_int (p : Int) : tl (Str.ofString (toString p)) = intL p := by
  unfold intL
  cases p with
  | ofNat n =>
    rw [if_neg (show ¬ Int.ofNat n < 0 from Int.not_lt.mpr (Int.natCast_nonneg n))]
    exact tl_num n
  | negSucc n =>
    rw [if_pos (Int.negSucc_lt_zero n)]
    have e : toString (Int.negSucc n) = "-" ++ toString (n + 1) := rfl
    have h := tl_num (n + 1)
    have e2 : toString ((n + 1 : Nat) : Int) = toString (n + 1) := rfl
    rw [e2, tl_ofString] at h
    rw [e, tl_ofString, String.toList_append, List.map_append, h]
    rfl
theorem str_int (p : Int) : (Str.ofString (toString p)) = mkS (intL p) := by rw [← tl_int, mkS_tl]
def headL (p n : Int) : List Nat := if p ≠ 0 ∧ n.natAbs = 1 then [] else numL n.natAbs
def powL (p : Int) : List Nat := if p = 1 then [] else 94 :: intL p
def bodyL (p n : Int) : List Nat := headL p n ++ if p = 0 then [] else 120 :: powL p
def sgL (n : Int) : Nat := if n < 0 then 45 else 43
theorem intL_free {p : Int} {s : Nat} (h : s ≠ 45) (h2 : s < 48 ∨ 57 < s) : s ∉ intL p := by
  unfold intL
  split
  · intro z
    rcases List.mem_cons.mp z with z | z
    · exact h z
    · exact numL_free h2 z
  · exact numL_free h2
theorem headL_free {p n : Int} {s : Nat} (h2 : s < 48 ∨ 57 < s) : s ∉ headL p n := by
  unfold headL
  split
  · exact fun z => nomatch z
  · exact numL_free h2
theorem bodyL_free {p n : Int} {s : Nat} (h : s ≠ 45) (h1 : s ≠ 120) (h3 : s ≠ 94) (h2 : s < 48 ∨ 57 < s) : s ∉ bodyL p n := by
  unfold bodyL
  intro z
  rcases List.mem_append.mp z with z | z
  · exact headL_free h2 z
  · split at z
    · cases z
    · rcases List.mem_cons.mp z with z | z
      · exact h1 z
      · unfold powL at z
        split at z
        · cases z
        · rcases List.mem_cons.mp z with z | z
          · exact h3 z
          · exact intL_free h h2 z
def restL (l : List Tm) : List Nat := l.flatMap fun t => 32 :: sgL t.2 :: 32 :: bodyL t.1 t.2
def shownL : List Tm → List Nat
  | [] => [48]
  | t :: l => (if t.2 < 0 then [45] else []) ++ bodyL t.1 t.2 ++ restL l
def wordsL : List Tm → List (List Nat)
  | [] => []
  | t :: l => bodyL t.1 t.2 :: l.flatMap fun t => [[sgL t.2], bodyL t.1 t.2]
theorem join_rest : ∀ (l : List Tm) (w : List Nat), joinL [32] (w :: l.flatMap fun t => [[sgL t.2], bodyL t.1 t.2]) = w ++ restL l
  | [], w => by
    show w = w ++ []
    rw [List.append_nil]
  | t :: l, w => by
    have ih := join_rest l (bodyL t.1 t.2)
    show joinL [32] (w :: [sgL t.2] :: bodyL t.1 t.2 :: l.flatMap fun t => [[sgL t.2], bodyL t.1 t.2]) = w ++ (32 :: sgL t.2 :: 32 :: bodyL t.1 t.2 ++ restL l)
    have e : ∀ (a b : List Nat) (r : List (List Nat)), joinL [32] (a :: b :: r) = a ++ ([32] ++ joinL [32] (b :: r)) := fun a b r => by
      first | rfl | simp [joinL]
    rw [e, e, ih]
    simp
theorem map_tl (ps : List (List Nat)) : (ps.map mkS).map tl = ps := by
  rw [List.map_map]
  have : tl ∘ mkS = id := funext tl_mkS
  rw [this, List.map_id]
theorem words_free (t : Tm) (l : List Tm) : ∀ w ∈ wordsL (t :: l), 32 ∉ w := fun w hw => by
  have hb : ∀ p n : Int, 32 ∉ bodyL p n := fun p n => bodyL_free (by decide) (by decide) (by decide) (.inl (by decide))
  rcases List.mem_cons.mp hw with rfl | hw
  · exact hb _ _
  · obtain ⟨u, _, hu⟩ := List.mem_flatMap.mp hw
    rcases List.mem_cons.mp hu with rfl | hu
    · intro z
      rw [List.mem_singleton] at z
      unfold sgL at z
      split at z <;> cases z
    · rw [List.mem_singleton] at hu
      rw [hu]
      exact hb _ _
theorem words_join (t : Tm) (l : List Tm) : Txt.join (mkS [32]) ((wordsL (t :: l)).map mkS) = mkS (bodyL t.1 t.2 ++ restL l) := by
  refine ext_tl ?_
  rw [join_eq, tl_join, map_tl, tl_mkS, tl_mkS]
  exact join_rest l _
theorem words_split (t : Tm) (l : List Tm) : Txt.split (mkS (bodyL t.1 t.2 ++ restL l)) (mkS [32]) = (wordsL (t :: l)).map mkS := by
  rw [← words_join]
  refine split_join (tl_mkS [32]) (by simp [mkS]) (fun e => nomatch (List.map_eq_nil_iff.mp e)) fun p hp => ?_
  obtain ⟨w, hw, rfl⟩ := List.mem_map.mp hp
  rw [tl_mkS]
  exact words_free t l w hw
theorem part_zero (n : Int) : Txt.partition (mkS (bodyL 0 n)) (mkS [120]) = (mkS (numL n.natAbs), Str.empty, Str.empty) := by
  have e : bodyL 0 n = numL n.natAbs := by
    unfold bodyL headL
    rw [if_neg (by rintro ⟨h, _⟩; exact h rfl), if_pos rfl, List.append_nil]
  rw [e]
  exact partition_none (tl_mkS [120]) (by rw [tl_mkS]; exact numL_free (.inr (by decide)))
theorem part_pow {p : Int} (n : Int) (h : p ≠ 0) : Txt.partition (mkS (bodyL p n)) (mkS [120]) = (mkS (headL p n), mkS [120], mkS (powL p)) := by
  have e : mkS (bodyL p n) = mkS (headL p n) ++ mkS [120] ++ mkS (powL p) := by
    rw [mkS_app, mkS_app]
    unfold bodyL
    rw [if_neg h, List.append_assoc]
    rfl
  rw [e]
  exact partition_app (tl_mkS [120]) (by rw [tl_mkS]; exact headL_free (.inr (by decide)))
theorem num_text {n : Nat} (h : n < 10 ^ 60) : PySem.intText? (mkS (numL n)) = some (n : Int) ∧ (numL n).length ≤ 60 ∧ 1 ≤ (numL n).length := by
  have hl := numL_len (n := n) (k := 60) (by decide) h
  refine ⟨?_, hl, ?_⟩
  · rw [← tl_num, mkS_tl]
    exact int_num (Nat.le_trans hl (by decide))
  · have := numL_ne n
    cases e : numL n with
    | nil => exact absurd e this
    | cons c r => exact Nat.le_add_left ..
end Th

set_option Elab.async false
set_option linter.all false
set_option maxRecDepth 100000
namespace Th
open PySem PySem.Spec PyProof.Rows L2 TL RT RZ
/-! ### xs[lo::c], zip of two lists -/
def pickL {α : Type} (xs : List α) (lo : Option Int) (c : Int) : List α := (sliceRange (sliceBounds lo none (some c) xs.length).1 (sliceBounds lo none (some c) xs.length).2.1 c).filterMap (xs[·]?)
theorem vals_pick {xs : List V} {us : List Value} (r : Vals xs us) : ∀ is : List Nat, Vals (is.filterMap (xs[·]?)) (is.filterMap (us[·]?))
  | [] => .nil
  | i :: is => by
    have ih := vals_pick r is
    have hl := r.length
    rw [List.filterMap_cons, List.filterMap_cons]
    by_cases h : i < xs.length
    · obtain ⟨u, hu, ru⟩ := r.get (List.getElem?_eq_getElem h)
      rw [List.getElem?_eq_getElem h, hu]
      exact .cons ru ih
    · rw [List.getElem?_eq_none (by omega), List.getElem?_eq_none (by omega)]
      exact ih
theorem dpa_pick {K : PySem.W.Frag} {H : Hp} {vs : List V} {ds : List PyData} (r : DpAll K H vs ds) : ∀ is : List Nat, DpAll K H (is.filterMap (vs[·]?)) (is.filterMap (ds[·]?))
  | [] => .nil
  | i :: is => by
    have ih := dpa_pick r is
    have hl := dpa_len r
    rw [List.filterMap_cons, List.filterMap_cons]
    by_cases h : i < ds.length
    · obtain ⟨u, hu, ru⟩ := dpa_get r (List.getElem?_eq_getElem h)
      rw [List.getElem?_eq_getElem h, hu]
      exact .cons ru ih
    · rw [List.getElem?_eq_none (by omega), List.getElem?_eq_none (by omega)]
      exact ih
def tStepL (K : PySem.W.Frag) (te : TE) (tl : TO) (c : Int) : TE := fun σ H Q => te σ H fun x H1 => tl σ H1 fun o H2 => ∃ a xs, x = .ref a ∧ SqL K H2 a xs ∧ ∀ p, H2 p = none → Q (.ref p) (upd H2 p (.lst (pickL xs o c)))
theorem pe_stepL {X : Cx} {te : TE} {tl : TO} {lo : Option Expr} {e : Expr} {k : Nat} {c : Int} {p1 p3 pos : Pos} (he : PE X e te) (hl : PO X lo tl) (hc : 0 < c) : PE X (.Subscript e (.Slice lo none (some (.Constant (.int c) k p1)) p3) pos) (tStepL X.K te tl c) := by
  refine ⟨fun pins s σ H Q I h => ?_⟩
  refine Subscript_ (thn (he.run pins s σ H _ I h) fun v s1 ⟨x, H1, I1, r1, q1⟩ => ?_)
  refine wpAny_Slice (thn (hl.run pins s1 σ H1 _ I1 q1) fun vl s2 ⟨l, H2, I2, pl, q2⟩ => ?_)
  obtain ⟨a, xs, ex, hx, q⟩ := q2
  subst ex
  cases r1
  have hst : PO X (some (.Constant (.int c) k p1)) (tPart (tC (.int c))) := po_some pe_int
  refine thn (po_none.run pins s2 σ H2 (fun o H3 => o = none ∧ H3 = H2) I2 ⟨rfl, rfl⟩) fun vu s3 ⟨u, H3, I3, pu, eu, e3⟩ => ?_
  subst eu e3
  refine thn (hst.run pins s3 σ H3 (fun o H4 => o = some c ∧ H4 = H3) I3 ⟨c, rfl, rfl, rfl⟩) fun vs s4 ⟨o, H4, I4, ps, eo, e4⟩ => ?_
  subst eo e4
  have I5 : Inv X pins σ H4 { s4 with heap := s4.heap.push { cls := .type "slice", data := .fields #[vl, vu, vs] } } := I4.kept (t' := s4.toks) fun b ob q => Heap.get?_push_of_some _ q
  obtain ⟨its, r, ht, hz⟩ := I5.list hx
  have hlen := r.length
  show wpAny (model X.prog X.w) X.A (subscriptTail e (.Slice lo none (some (.Constant (.int c) k p1)) p3) (.ref a) (.ref s4.heap.objs.size)) (L2.EP X pins σ Q) X.xe { s4 with heap := s4.heap.push { cls := .type "slice", data := .fields #[vl, vu, vs] } }
  refine tail_any (ops := [.ref a, .ref s4.heap.objs.size]) ht.isList.typeIs (PySem.slot_list_getitem.lookup) ?_ (by with_unfolding_all rfl)
  have hsz : (slicePick its.toArray l none (some c)).size ≤ its.toArray.size := slicePick_size_le its.toArray l none (some c)
  refine wpAny_getItem_list_slice ht.isList (Heap.IsSliceOf.new _ vl vu vs) pl pu ps (fun z => by injection z with z; omega) ?_ (by rw [List.size_toArray]; omega)
  have e : slicePick its.toArray l none (some c) = ((sliceRange (sliceBounds l none (some c) xs.length).1 (sliceBounds l none (some c) xs.length).2.1 c).filterMap (its[·]?)).toArray := by
    unfold slicePick
    rw [List.size_toArray, ← hlen]
    simp
    rfl
  rw [e] at hsz ⊢
  have rp := vals_pick r (sliceRange (sliceBounds l none (some c) xs.length).1 (sliceBounds l none (some c) xs.length).2.1 c)
  have hlp := rp.length
  refine ⟨.ref _, _, I5.laid (t' := s4.toks) (o := .lst (pickL xs l c)) (fun b ob q => Heap.get?_push_of_some _ q) (Nat.le_refl _) ?_, rfl, q _ (I5.hok.fresh (Nat.le_refl _))⟩
  refine ⟨?_, _, 0, rp, Heap.get?_push_size _ rfl⟩
  rw [List.size_toArray, List.size_toArray] at hsz
  unfold pickL
  omega
section
variable {X : Cx} {ρ ρ1 ρ2 : Rho} {e e1 e2 : Expr} {pos : Pos} {ds xs ys : List PyData} {k : Option Nat}
/-- xs[lo::c] -/
theorem e_stepL {j : Nat} {p1 p3 : Pos} {lo : Option Expr} {l : Option Int} {c : Int} (h : EO X e ρ (.list ds) ρ1 k) (hl : EP X lo ρ1 l ρ2) (hk : Kp k ρ1 ρ2 := by first | exact trivial | exact rfl) (hc : 0 < c := by decide) : E X (.Subscript e (.Slice lo none (some (.Constant (.int c) j p1)) p3) pos) ρ (.ml (pickL ds l c)) ρ2 := .of (pe_stepL pe_w po_w hc) fun σ HF H S1 Q q => h σ HF H S1 _ fun x HF1 H1 S2 f1 r1 => hl σ HF1 H1 S2 _ fun HF2 H2 S3 f2 => by
  obtain ⟨p, ys, rfl, h1, h2⟩ := r1 ρ2 HF2 H2 hk S3 f2
  refine ⟨p, ys, rfl, h1, fun r hr => ?_⟩
  obtain ⟨S4, f4⟩ := S3.allocO hr (.lst (pickL ys l c))
  refine q _ _ _ S4 ((f1.trans f2).trans f4) ⟨r, _, rfl, (f1.trans f2).fresh hr, S3.hfNone hr, upd_same, ?_⟩
  have e : pickL ys l c = ((sliceRange (sliceBounds l none (some c) ds.length).1 (sliceBounds l none (some c) ds.length).2.1 c).filterMap (ys[·]?)) := by
    unfold pickL
    rw [dpa_len h2]
  rw [e]
  exact dpa_pick h2 _
theorem srcAt_zl {K : PySem.W.Frag} {HF H : Hp} {p q : Addr} {vs ws : List V} (s : Same HF H) (h1 : SqL K H p vs) (g1 : SqL K H q ws) (h2 : DpAll K HF vs xs) (g2 : DpAll K HF ws ys) : SrcAt K (Itz K p q) (zipD xs ys) HF H := by
  have l1 := dpa_len h2
  have l2 := dpa_len g2
  refine ⟨fun i hi => ?_, ⟨vs, ws, h1, g1, ?_⟩, fun i x H2 hi ⟨T, v, w, e1, e2, e3, y1, y2⟩ => ?_⟩
  · rw [zipD_len] at hi
    obtain ⟨v, e1, _⟩ := dpa_get h2 (List.getElem?_eq_getElem (show i < xs.length by omega))
    obtain ⟨w, e2, _⟩ := dpa_get g2 (List.getElem?_eq_getElem (show i < ys.length by omega))
    exact ⟨vs, ws, v, w, h1, g1, e1, e2⟩
  · rw [zipD_len]
    omega
  · obtain ⟨a, a1, a2⟩ := dpa_get' h2 (y1 vs h1)
    obtain ⟨b, b1, b2⟩ := dpa_get' g2 (y2 ws g1)
    exact ⟨_, zipD_get a1 b1, .inr ⟨T, _, _, e2, e3, e1, rfl, .cons a2 (.cons b2 .nil)⟩⟩
/-- zip(xs, ys), two lists as data -/
theorem src_zipL {p : Pos} {elts : List Expr} {kk : Nat} {tpos : Pos} (h : E X e1 ρ (.d (.list xs)) ρ1) (h2 : E X e2 ρ1 (.d (.list ys)) ρ2) (hm : X.mg "zip" = none) (hg : Gl X "zip" := by rfl) (hs : starEach [e1, e2] X.env = (false, eval e1 X.env) :: starEach [e2] X.env := by rfl)
    (hs2 : starEach [e2] X.env = (false, eval e2 X.env) :: starEach [] X.env := by rfl) (hpl : (backTo pos (starEach [e2] X.env)).any (·.1) = false := by rfl) : Src X (.Tuple elts kk tpos) (.Call (.Name "zip" p) [e1, e2] [] pos) ρ (zipD xs ys) ρ2 none :=
  ⟨_, pi_zipA hg hm (pa_cons pe_w (pa_cons pe_w pa_nil hs2) hs) hs hpl, fun σ HF H S1 R q => h σ HF H S1 _ fun x HF1 H1 S2 f1 r1 => h2 σ HF1 H1 S2 _ fun y HF2 H2 S3 f2 r2 => by
  cases (show Dp X.K HF1 x (.list xs) from r1) with
  | @lst p vs _ a1 a2 =>
    cases (show Dp X.K HF2 y (.list ys) from r2) with
    | @lst p2 ws _ b1 b2 =>
      exact ⟨p, p2, vs, ws, rfl, .inl ⟨same_l S3.sub (same_l f2.hf a1), same_l S3.sub b1, q _ HF2 H2 S3 (f1.trans f2) fun σ2 ρ2 HF3 H3 _ _ S4 s4 =>
        srcAt_zl S4.sub (same_l S4.sub (same_l s4 (same_l f2.hf a1))) (same_l S4.sub (same_l s4 b1)) (dpa_mono s4 (dpa_mono f2.hf a2)) (dpa_mono s4 b2)⟩⟩⟩
end
/-- every other one of a row a, b, a, b .. -/
theorem pick_even {α : Type} {xs : List α} {n : Nat} (h : xs.length = 2 * n) : pickL xs none 2 = (List.range n).filterMap fun i => xs[2 * i]? := by
  unfold pickL
  have e1 : sliceBounds none none (some 2) xs.length = (0, (xs.length : Int), 2) := rfl
  rw [e1]
  have e2 : sliceRange 0 (xs.length : Int) 2 = (List.range n).map fun i => 2 * i := by
    unfold sliceRange
    rw [h]
    by_cases h0 : n = 0
    · subst h0
      rfl
    have hz : (if (2 : Int) > 0 then (if (0 : Int) < ((2 * n : Nat) : Int) then (((2 * n : Nat) : Int) - 0 + 2 - 1) / 2 else 0) else (if (0 : Int) > ((2 * n : Nat) : Int) then (0 - ((2 * n : Nat) : Int) - 2 - 1) / (-2) else 0)).toNat = n := by
      rw [if_pos (by decide), if_pos (by omega)]
      omega
    show (List.range _).map _ = _
    rw [hz]
    refine List.map_congr_left fun i _ => ?_
    omega
  rw [e2, List.filterMap_map]
  rfl
theorem pick_odd {α : Type} {xs : List α} {n : Nat} (h : xs.length = 2 * n) : pickL xs (some 1) 2 = (List.range n).filterMap fun i => xs[2 * i + 1]? := by
  unfold pickL
  have e1 : sliceBounds (some 1) none (some 2) xs.length = (max 0 (min 1 (xs.length : Int)), (xs.length : Int), 2) := rfl
  rw [e1]
  have e2 : sliceRange (max 0 (min 1 (xs.length : Int))) (xs.length : Int) 2 = (List.range n).map fun i => 2 * i + 1 := by
    unfold sliceRange
    rw [h]
    by_cases h0 : n = 0
    · subst h0
      rfl
    have hm : max 0 (min 1 (((2 * n : Nat) : Int))) = 1 := by omega
    rw [hm]
    have hz : (if (2 : Int) > 0 then (if (1 : Int) < ((2 * n : Nat) : Int) then (((2 * n : Nat) : Int) - 1 + 2 - 1) / 2 else 0) else (if (1 : Int) > ((2 * n : Nat) : Int) then (1 - ((2 * n : Nat) : Int) - 2 - 1) / (-2) else 0)).toNat = n := by
      rw [if_pos (by decide), if_pos (by omega)]
      omega
    show (List.range _).map _ = _
    rw [hz]
    refine List.map_congr_left fun i _ => ?_
    omega
  rw [e2, List.filterMap_map]
  rfl
end Th

set_option Elab.async false
set_option linter.all false
set_option maxRecDepth 100000
namespace Th
open PySem PySem.Spec PyProof.Rows L2 TL
/-! ### texts of plain signs -/
abbrev eS (w : List Nat) : PyData := .str (mkS w)
def Asc (l : List Nat) : Prop := ∀ c ∈ l, c < 128
theorem asc_num (n : Nat) : Asc (numL n) := fun c hc => by
  have := numL_digits n c hc
  omega
theorem asc_app {a b : List Nat} (h : Asc a) (g : Asc b) : Asc (a ++ b) := fun c hc => (List.mem_append.mp hc).elim (h c) (g c)
theorem asc_cons {x : Nat} {a : List Nat} (hx : x < 128) (h : Asc a) : Asc (x :: a) := fun c hc => (List.mem_cons.mp hc).elim (fun e => by rw [e]; exact hx) (h c)
theorem asc_nil : Asc [] := fun _ z => nomatch z
theorem asc_str {l : List Nat} (h : Asc l) : PyData.strOk (mkS l) = true := by
  show (mkS l).cps.all (· < 0x110000) = true
  unfold mkS
  simp only [List.all_toArray, List.all_eq_true, decide_eq_true_iff]
  intro c hc
  have := h c hc
  omega
theorem asc_ok {l : List Nat} (h : Asc l) : SeqAt.shaped (.str (mkS l)) = true := (fit_str (n := 0) (asc_str h)).shaped
theorem eqv_str (a b : List Nat) : PyData.eqv (.str (mkS a)) (.str (mkS b)) = decide (a = b) := by
  rw [eqE_str (mkS a) (mkS b)]
  rw [Bool.eq_iff_iff, decide_eq_true_iff, decide_eq_true_iff]
  exact ⟨fun h => mkS_inj h, fun h => by rw [h]⟩
theorem eqE_eS : EqE eS := fun a b => eqv_str a b
theorem fitW {W : List (List Nat)} (h : ∀ w ∈ W, Asc w) : SeqAt.shaped (.list (W.map eS)) = true := (fit_lm (n := 0) fun w hw => fit_str (asc_str (h w hw))).shaped
theorem natS_eq (n : Nat) : (Str.ofString (toString (n : Int))) = mkS (numL n) := by rw [← tl_num, mkS_tl]
theorem numL_head (n : Nat) : ∃ c r, numL n = c :: r ∧ (c = 48 → n = 0 ∧ r = []) := by
  induction n using Nat.strongRecOn with
  | _ n ih =>
    by_cases h : n < 10
    · exact ⟨48 + n, [], numL_lt h, fun z => ⟨by omega, rfl⟩⟩
    · obtain ⟨c, r, e, z⟩ := ih (n / 10) (by omega)
      refine ⟨c, r ++ [48 + n % 10], by rw [numL_step (by omega), e]; rfl, fun q => ?_⟩
      have := (z q).1
      omega
theorem str_i {a : Int} (h : 0 ≤ a) : (Str.ofString (toString a)) = mkS (numL a.natAbs) := by
  rw [str_int]
  unfold intL
  rw [if_neg (by omega)]
theorem lg9 {a : Int} (h0 : 0 ≤ a) (h : a < 10 ^ 9) : a.natAbs.log2 < 1920 := by
  by_cases h1 : a.natAbs = 0
  · rw [h1]
    decide
  · have : a.natAbs < 2 ^ 64 := by omega
    have := (Nat.log2_lt h1).mpr this
    omega
section
variable {X : Cx} {ρ ρ1 ρ2 : Rho} {e1 e2 : Expr} {pos : Pos}
/-- c not in text, one sign -/
theorem t_nin1 {c : Nat} {b : Str} (ha : E X e1 ρ (.d (.str ⟨#[c]⟩)) ρ1) (hb : E X e2 ρ1 (.d (.str b)) ρ2) (hm : behindInMarks .NotIn e2 = false := by rfl) : ET X (.Compare e1 [.NotIn] [e2] pos) ρ (!decide (c ∈ b.cps.toList)) ρ2 :=
  t_cmp op_notInS (ev_op ha hb fun HF H x y Q hx hy _ q => by
    cases hx
    cases hy
    exact ⟨_, _, rfl, rfl, q _ (.bl _)⟩) hm
end
end Th

set_option Elab.async false
set_option linter.all false
set_option maxRecDepth 100000
namespace Th
open PySem PySem.Spec PyProof.Rows L2 RT RZ
theorem dpa_erase {K : PySem.W.Frag} {HF : Hp} : ∀ {vs : List V} {ds : List PyData} (j : Nat), DpAll K HF vs ds → DpAll K HF (vs.eraseIdx j) (ds.eraseIdx j)
  | _, _, _, .nil => .nil
  | _, _, 0, .cons _ t => t
  | _, _, j + 1, .cons h t => .cons h (dpa_erase j t)
theorem seqIndex_ixN {n : Nat} {i : Int} {j : Nat} (h : ixN n i = some j) : seqIndex? i n = some j := (ixN_seq h).1
section
variable {X : Cx} {ρ ρ1 ρ2 ρ3 : Rho} {e e2 : Expr} {pos pos' : Pos} {xs : List PyData} {v : PyData} {x : Str} {n : Int} {j : Nat}
/-- xs.pop(k), xs an own list in a slot -/
theorem e_popAt (i : Nat) {apos : Pos} (he : E X e ρ (.d (.int n)) ρ1) (hi0 : ∃ x0, ρ[i]? = some (.ml x0)) (hi : ρ1[i]? = some (.ml xs)) (hz : xs.length < 100000) (hj : ixN xs.length n = some j) (hv0 : xs[j]? = some v) (hN : X.N[i]? = some x := by rfl)
    (hv : Vis X.env.scope x := by first | exact Or.inl rfl | exact Or.inr (Or.inl rfl) | exact Or.inr (Or.inr rfl)) (hd : (x == ("__debug__" : Str)) = false := by decide) (hcd : (x == ("__classdict__" : Str)) = false := by decide)
    (hbase : attributeBase (.Name x pos') "pop" X.env (eval (.Name x pos') X.env) = eval (.Name x pos') X.env := by rfl)
    (hfew : ((backTo pos (starEach [e] X.env)).all (fun x => !x.1) && (backToKw pos (keywordEach [] X.env)).all (fun x => x.1.isSome) && decide (([e] : List Expr).length + ([] : List Keyword).length + (if ([] : List Keyword).isEmpty then 0 else 1) < 30)) = true := by rfl)
    (hline : (apos.endLine == pos.line) = true := by rfl) (hs : starEach [e] X.env = (false, eval e X.env) :: starEach [] X.env := by rfl) :
    E X (.Call (.Attribute (.Name x pos') "pop" apos) [e] [] pos) ρ (.d v) (ρ1.set i (.ml (xs.eraseIdx j))) :=
  .of (pe_bm PySem.F.plainAttrs_list PySem.F.slot_list_pop PySem.F.type_list_pop mt_popAt (pe_var hN hv hd hcd) (pa_cons pe_w pa_nil hs) hbase hfew hline hs) fun σ HF H S1 Q q => by
    obtain ⟨k0, hk0⟩ := hi0
    obtain ⟨p, o0, e0, _, k2, k3⟩ := S1.ownAt hk0 rfl
    cases o0 <;> first | exact k3.elim | skip
    refine ⟨.ref p, e0, .inl ⟨rfl, _, .inl (.inl k2)⟩, he σ HF H S1 _ fun x1 HF1 H1 S2 f1 r1 => ?_⟩
    obtain ⟨p2, o2, e3, h1, h2, h3⟩ := S2.ownAt hi rfl
    rw [e0] at e3
    cases e3
    cases r1
    cases o2 <;> first | exact h3.elim | skip
    rename_i ys
    have hl := dpa_len h3
    obtain ⟨w, g1, g2⟩ := dpa_get h3 hv0
    obtain ⟨S4, f4⟩ := S2.put hi rfl e0 (o' := .lst (ys.eraseIdx j)) (a' := .ml (xs.eraseIdx j)) (dpa_erase j h3)
    obtain ⟨a1, a2, a3, a4⟩ := ixN_seq hj
    exact ⟨p, ys, n, j, w, rfl, rfl, h2, by omega, by omega, by rw [hl]; exact a1, g1, q _ _ _ S4 (f1.trans f4) g2⟩
variable {kvs : List (Key × PyData)} {y : Key} {d w : PyData} {e1 : Expr}
/-- d.pop(k), d.pop(k, z), d an own dict in a slot -/
theorem e_dpop1 (i : Nat) {apos : Pos} (he : E X e ρ (.d (kD y)) ρ1) (hi0 : ∃ k0, ρ[i]? = some (.mk k0)) (hi : ρ1[i]? = some (.mk kvs)) (hg : getK kvs y = some d) (m : M1 X (.Name x pos') "pop" apos e pos := by exact ⟨rfl, rfl, rfl, rfl⟩) (hN : X.N[i]? = some x := by rfl)
    (hv : Vis X.env.scope x := by first | exact Or.inl rfl | exact Or.inr (Or.inl rfl) | exact Or.inr (Or.inr rfl)) (hd : (x == ("__debug__" : Str)) = false := by decide) (hcd : (x == ("__classdict__" : Str)) = false := by decide) :
    E X (.Call (.Attribute (.Name x pos') "pop" apos) [e] [] pos) ρ (.d d) (ρ1.set i (.mk (delK kvs y))) := .of (pe_dpop1 (pe_var hN hv hd hcd) pe_w m) fun σ HF H S1 Q q => by
  obtain ⟨k0, hk0⟩ := hi0
  obtain ⟨p, o, e0, _, k2, k3⟩ := S1.ownAt hk0 rfl
  cases o <;> first | exact k3.elim | skip
  refine ⟨.ref p, e0, p, rfl, .inl ⟨_, .inl k2⟩, he σ HF H S1 _ fun x1 HF1 H1 S2 f1 r1 => ?_⟩
  obtain ⟨p2, o2, e3, h1, h2, h3⟩ := S2.ownAt hi rfl
  rw [e0] at e3
  cases e3
  cases o2 <;> first | exact h3.elim | skip
  rename_i kws
  have hx := dp_key r1
  subst hx
  rcases dpkv_val y h3 with ⟨_, g2⟩ | ⟨v1, d1, g1, g2, g3⟩
  · rw [hg] at g2; cases g2
  · rw [hg] at g2
    cases g2
    obtain ⟨S4, f4⟩ := S2.put hi rfl e0 (o' := .dK (dropK kws y)) (a' := .mk (delK kvs y)) (dpkv_drop y h3)
    exact ⟨kws, y, v1, h2, rfl, g1, q _ _ _ S4 (f1.trans f4) g3⟩
theorem e_dpop2 (i : Nat) {apos : Pos} (he : E X e ρ (.d (kD y)) ρ1) (he2 : E X e2 ρ1 (.d w) ρ2) (hi0 : ∃ k0, ρ[i]? = some (.mk k0)) (hi : ρ2[i]? = some (.mk kvs)) (m : M2 X (.Name x pos') "pop" apos e e2 pos := by exact ⟨rfl, rfl, rfl, rfl⟩) (hN : X.N[i]? = some x := by rfl)
    (hv : Vis X.env.scope x := by first | exact Or.inl rfl | exact Or.inr (Or.inl rfl) | exact Or.inr (Or.inr rfl)) (hd : (x == ("__debug__" : Str)) = false := by decide) (hcd : (x == ("__classdict__" : Str)) = false := by decide) :
    E X (.Call (.Attribute (.Name x pos') "pop" apos) [e, e2] [] pos) ρ (.d ((getK kvs y).getD w)) (ρ2.set i (.mk (delK kvs y))) := .of (pe_dpop2 (pe_var hN hv hd hcd) pe_w pe_w m) fun σ HF H S1 Q q => by
  obtain ⟨k0, hk0⟩ := hi0
  obtain ⟨p, o, e0, _, k2, k3⟩ := S1.ownAt hk0 rfl
  cases o <;> first | exact k3.elim | skip
  refine ⟨.ref p, e0, p, rfl, .inl ⟨_, .inl k2⟩, he σ HF H S1 _ fun x1 HF1 H1 S2 f1 r1 => he2 σ HF1 H1 S2 _ fun x2 HF2 H2 S3 f2 r2 => ?_⟩
  obtain ⟨p2, o2, e3, h1, h2, h3⟩ := S3.ownAt hi rfl
  rw [e0] at e3
  cases e3
  cases o2 <;> first | exact h3.elim | skip
  rename_i kws
  have hx := dp_key r1
  subst hx
  refine ⟨kws, y, h2, rfl, fun v1 g1 => ?_, fun g1 => ?_⟩
  · rcases dpkv_val y h3 with ⟨g, _⟩ | ⟨v2, d1, g, g2, g3⟩
    · rw [g1] at g; cases g
    · rw [g1] at g
      cases g
      rw [g2] at q
      obtain ⟨S4, f4⟩ := S3.put hi rfl e0 (o' := .dK (dropK kws y)) (a' := .mk (delK kvs y)) (dpkv_drop y h3)
      exact q _ _ _ S4 ((f1.trans f2).trans f4) g3
  · rcases dpkv_val y h3 with ⟨g, g2⟩ | ⟨v2, d1, g, g2, g3⟩
    · have hdel : delK kvs y = kvs := by
        unfold delK
        refine List.filter_eq_self.mpr fun kv hkv => ?_
        refine decide_eq_true fun z => ?_
        unfold getK at g2
        rw [Option.map_eq_none_iff, List.find?_eq_none] at g2
        exact g2 kv hkv (decide_eq_true z)
      rw [hdel, g2] at q
      have hset : ρ2.set i (.mk kvs) = ρ2 := by
        refine List.ext_getElem? fun j => ?_
        by_cases hj : i = j
        · subst hj
          rw [List.getElem?_set_self (List.getElem?_eq_some_iff.mp hi).1, hi]
        · rw [List.getElem?_set_ne hj]
      rw [hset] at q
      exact q _ HF2 H2 S3 (f1.trans f2) r2
    · rw [g1] at g; cases g
/-- xs.remove(k) of an own list of ints -/
theorem e_remI (i : Nat) {apos : Pos} {ns : List Int} {k : Int} (he : E X e ρ (.d (.int k)) ρ1) (hi0 : ∃ x0, ρ[i]? = some (.ml x0)) (hi : ρ1[i]? = some (.ml (ns.map .int))) (hj : ns[j]? = some k) (hno : ∀ m : Nat, m < j → ns[m]? ≠ some k) (hN : X.N[i]? = some x := by rfl)
    (hv : Vis X.env.scope x := by first | exact Or.inl rfl | exact Or.inr (Or.inl rfl) | exact Or.inr (Or.inr rfl)) (hd : (x == ("__debug__" : Str)) = false := by decide) (hcd : (x == ("__classdict__" : Str)) = false := by decide)
    (hbase : attributeBase (.Name x pos') "remove" X.env (eval (.Name x pos') X.env) = eval (.Name x pos') X.env := by rfl)
    (hfew : ((backTo pos (starEach [e] X.env)).all (fun x => !x.1) && (backToKw pos (keywordEach [] X.env)).all (fun x => x.1.isSome) && decide (([e] : List Expr).length + ([] : List Keyword).length + (if ([] : List Keyword).isEmpty then 0 else 1) < 30)) = true := by rfl)
    (hline : (apos.endLine == pos.line) = true := by rfl) (hs : starEach [e] X.env = (false, eval e X.env) :: starEach [] X.env := by rfl) :
    E X (.Call (.Attribute (.Name x pos') "remove" apos) [e] [] pos) ρ (.d .none) (ρ1.set i (.ml ((ns.eraseIdx j).map .int))) :=
  .of (pe_bm PySem.F.plainAttrs_list PySem.F.slot_list_remove PySem.F.type_list_remove mt_remove (pe_var hN hv hd hcd) (pa_cons pe_w pa_nil hs) hbase hfew hline hs) fun σ HF H S1 Q q => by
    obtain ⟨k0, hk0⟩ := hi0
    obtain ⟨p, o0, e0, _, k2, k3⟩ := S1.ownAt hk0 rfl
    cases o0 <;> first | exact k3.elim | skip
    refine ⟨.ref p, e0, .inl ⟨rfl, _, .inl (.inl k2)⟩, he σ HF H S1 _ fun x1 HF1 H1 S2 f1 r1 => ?_⟩
    obtain ⟨p2, o2, e3, h1, h2, h3⟩ := S2.ownAt hi rfl
    rw [e0] at e3
    cases e3
    cases r1
    cases o2 <;> first | exact h3.elim | skip
    rename_i ys
    have hy := ints_dpa h3
    subst hy
    obtain ⟨S4, f4⟩ := S2.put hi rfl e0 (o' := .lst ((ns.eraseIdx j).map V.int)) (a' := .ml ((ns.eraseIdx j).map .int)) (dpa_ints _)
    exact ⟨p, ns, k, j, rfl, rfl, h2, hj, hno, q _ _ _ S4 (f1.trans f4) .non⟩
end
end Th

set_option Elab.async false
set_option linter.all false
set_option maxRecDepth 100000
namespace Th
open PySem PySem.Spec PyProof.Rows L2 RT RZ
section
variable {X : Cx} {ρ ρ1 ρ2 ρ3 : Rho} {e e2 : Expr} {pos p1 p2 p3 : Pos}
theorem dpa_encN {K : PySem.W.Frag} {HF : Hp} : ∀ (f : Nat → Int) (ns : List Nat), DpAll K HF (ns.map fun i => V.int (f i)) (ns.map fun i => PyData.int (f i))
  | _, [] => .nil
  | f, n :: ns => .cons (.int _) (dpa_encN f ns)
/-- list(range(n)) -/
theorem e_lrange {n : Nat} (h : E X e ρ (.d (.int n)) ρ1) (hm : X.mg "list" = none) (hr : X.mg "range" = none) (hn : n ≤ 1000000) (hg : Gl X "list" := by rfl) (hgr : Gl X "range" := by rfl) (hc : X.calm = true := by rfl) (na : starEach [e] X.env = (false, eval e X.env) :: starEach [] X.env := by rfl)
    (nb : starEach [.Call (.Name "range" p2) [e] [] p3] X.env = (false, eval (.Call (.Name "range" p2) [e] [] p3) X.env) :: starEach [] X.env := by rfl) : E X (.Call (.Name "list" p1) [.Call (.Name "range" p2) [e] [] p3] [] pos) ρ (.ml ((List.range n).map encN)) ρ1 :=
  .of (pe_listRg hc hg hm (prg_1 hgr hr pe_w na) nb) fun σ HF H S1 Q q => h σ HF H S1 _ fun x HF1 H1 S2 f1 r1 => by
    cases r1
    refine ⟨n, rfl, .of_le (Int.le_refl _) (by omega) (by decide) (by omega), fun r hr => ?_⟩
    have e : rgV 0 (n : Int) = (List.range n).map fun i => V.int ((i : Nat) : Int) := by
      unfold rgV
      rw [Int.sub_zero, Int.toNat_natCast]
      refine List.map_congr_left fun i _ => ?_
      rw [Int.zero_add]
    rw [e]
    obtain ⟨S4, f4⟩ := S2.allocO hr (.lst ((List.range n).map fun i => V.int ((i : Nat) : Int)))
    exact q _ _ _ S4 (f1.trans f4) ⟨r, _, rfl, f1.fresh hr, S2.hfNone hr, upd_same, dpa_encN (fun i => (i : Int)) _⟩
end
/-! ### webs as they are drawn -/
def primeF (i : Int) : Int := [101, 10007, 999999937].getD i.toNat 0
theorem primeF_pos {i : Int} (h0 : 0 ≤ i) (h : i < 3) : 101 ≤ primeF i ∧ primeF i < 10 ^ 9 := by
  have : i = 0 ∨ i = 1 ∨ i = 2 := by omega
  rcases this with rfl | rfl | rfl <;> exact ⟨by decide, by decide⟩
def arcP (s : Int × Int) : Int := primeF (tkV s 3)
def arcLeap (s : Int × Int) : Int := 1 + tkV (tkS s 3) (arcP s - 1)
def arcOff (s : Int × Int) : Int := tkV (tkS (tkS s 3) (arcP s - 1)) (arcP s)
def arcsS (s : Int × Int) : Int × Int := tkS (tkS (tkS s 3) (arcP s - 1)) (arcP s)
def arcsL (s : Int × Int) (n : Nat) : List Int := (List.range n).map fun k : Nat => (arcOff s + (k : Int) * arcLeap s) % arcP s
theorem arcP_bd (s : Int × Int) : 101 ≤ arcP s ∧ arcP s < 10 ^ 9 := primeF_pos (tkV_lo (by decide)) (tkV_hi (by decide))
theorem arcLeap_bd (s : Int × Int) : 1 ≤ arcLeap s ∧ arcLeap s < arcP s := by
  have hp := arcP_bd s
  unfold arcLeap
  have := tkV_lo (s := tkS s 3) (b := arcP s - 1) (by omega)
  have := tkV_hi (s := tkS s 3) (b := arcP s - 1) (by omega)
  omega
theorem arcsS_n (s : Int × Int) : (arcsS s).2 = s.2 + 3 := by
  unfold arcsS
  simp only [tkS_n]
  omega
theorem arcsL_len (s : Int × Int) (n : Nat) : (arcsL s n).length = n := by unfold arcsL; rw [List.length_map, List.length_range]
def fArcs : Fs := fun as r as' => ∃ (s : Int × Int) (n : Nat), (0 ≤ s.2 ∧ s.2 ≤ 900000) ∧ n ≤ 10000 ∧ as = [rowA s, .d (.int n)] ∧ r = .ml ((arcsL s n).map .int) ∧ as' = [rowA (arcsS s), .d (.int n)]
/-- small numbers have no divisor with the three primes -/
theorem prime_gcd {i : Int} (h0 : 0 ≤ i) (h : i < 3) : ∀ d : Nat, 1 ≤ d → d ≤ 100 → Nat.gcd d (primeF i).toNat = 1 := by
  have : i = 0 ∨ i = 1 ∨ i = 2 := by omega
  rcases this with rfl | rfl | rfl
  · have h : ∀ d : Fin 101, 1 ≤ d.1 → Nat.gcd d.1 101 = 1 := by decide +kernel
    exact fun d h1 h2 => h ⟨d, by omega⟩ h1
  · have h : ∀ d : Fin 101, 1 ≤ d.1 → Nat.gcd d.1 10007 = 1 := by decide +kernel
    exact fun d h1 h2 => h ⟨d, by omega⟩ h1
  · have h : ∀ d : Fin 101, 1 ≤ d.1 → Nat.gcd d.1 999999937 = 1 := by decide +kernel
    exact fun d h1 h2 => h ⟨d, by omega⟩ h1
theorem arcs_ne (s : Int × Int) {j k : Nat} (hjk : j < k) (hk : k ≤ 100) : (arcOff s + (j : Int) * arcLeap s) % arcP s ≠ (arcOff s + (k : Int) * arcLeap s) % arcP s := fun h => by
  have hp := arcP_bd s
  have hl := arcLeap_bd s
  have hd : arcP s ∣ (arcOff s + (k : Int) * arcLeap s) - (arcOff s + (j : Int) * arcLeap s) := by
    have := Int.emod_eq_emod_iff_emod_sub_eq_zero.mp h.symm
    exact Int.dvd_of_emod_eq_zero this
  have e : (arcOff s + (k : Int) * arcLeap s) - (arcOff s + (j : Int) * arcLeap s) = ((k - j : Nat) : Int) * arcLeap s := by
    rw [Int.ofNat_sub (Nat.le_of_lt hjk), Int.sub_mul]
    omega
  rw [e] at hd
  have hpn : arcP s = ((arcP s).toNat : Int) := (Int.toNat_of_nonneg (by omega)).symm
  have hln : arcLeap s = ((arcLeap s).toNat : Int) := (Int.toNat_of_nonneg (by omega)).symm
  have hd2 : (arcP s).toNat ∣ (k - j) * (arcLeap s).toNat := by
    refine Int.natCast_dvd_natCast.mp ?_
    rw [← hpn]
    push_cast
    rw [← hln]
    exact hd
  have hg : Nat.gcd (arcP s).toNat (k - j) = 1 := by
    rw [Nat.gcd_comm]
    exact prime_gcd (tkV_lo (by decide)) (tkV_hi (by decide)) (k - j) (by omega) (by omega)
  have hd3 : (arcP s).toNat ∣ (arcLeap s).toNat := (Nat.Coprime.dvd_of_dvd_mul_left hg hd2)
  have := Nat.le_of_dvd (by omega) hd3
  omega
theorem arcs_nodup (s : Int × Int) {n : Nat} (hn : n ≤ 101) : (arcsL s n).Nodup := by
  unfold arcsL
  refine List.pairwise_map.mpr ?_
  refine List.Pairwise.imp_of_mem (R := fun a b => a < b) ?_ List.pairwise_lt_range
  intro a b ha hb hab
  exact arcs_ne s hab (by have := List.mem_range.mp hb; omega)
end Th
namespace Th
open PySem PySem.Spec PyProof.Rows L2 RT RZ
structure WSt where
  A : List Int
  L : List Nat
  s : Int × Int
def webStep (t : WSt) (arc : Int) : WSt :=
  ⟨(t.A.set (t.L.headD 0) arc).set (t.L.tail.getD (tkV t.s t.L.tail.length).toNat 0) arc, t.L.tail.eraseIdx (tkV t.s t.L.tail.length).toNat, tkS t.s t.L.tail.length⟩
def web0 (s : Int × Int) (m h : Nat) : WSt := ⟨List.replicate (4 * m + 2 * h) 0, List.range (4 * m + 2 * h), arcsS s⟩
def webR (s : Int × Int) (m h : Nat) : WSt := (arcsL s (2 * m + h)).foldl webStep (web0 s m h)
structure WOk (N : Nat) (s0 : Int) (i : Nat) (t : WSt) : Prop where
  len : t.A.length = N
  bd : ∀ x ∈ t.L, x < N
  left : t.L.length + 2 * i = N
  sn : t.s.2 = s0 + i
theorem wok_0 (s : Int × Int) (m h : Nat) : WOk (4 * m + 2 * h) (s.2 + 3) 0 (web0 s m h) :=
  ⟨List.length_replicate, fun x hx => List.mem_range.mp hx, by show (List.range _).length + _ = _; rw [List.length_range]; omega, by show (arcsS s).2 = _; rw [arcsS_n]; omega⟩
theorem wok_step {N : Nat} {s0 : Int} {i : Nat} {t : WSt} {arc : Int} (h : WOk N s0 i t) (hi : 2 * (i + 1) ≤ N) : WOk N s0 (i + 1) (webStep t arc) := by
  have hl := h.left
  have hs := h.sn
  have htl : t.L.tail.length = t.L.length - 1 := List.length_tail
  have h0 := tkV_lo (s := t.s) (b := (t.L.tail.length : Int)) (by omega)
  have h1 := tkV_hi (s := t.s) (b := (t.L.tail.length : Int)) (by omega)
  refine ⟨?_, fun x hx => ?_, ?_, ?_⟩
  · show (List.set _ _ _).length = N
    rw [List.length_set, List.length_set]
    exact h.len
  · exact h.bd x (List.mem_of_mem_tail (List.mem_of_mem_eraseIdx hx))
  · show (List.eraseIdx _ _).length + _ = _
    rw [List.length_eraseIdx_of_lt (by omega)]
    omega
  · show t.s.2 + 1 = _
    push_cast
    omega
/-- a web -/
structure Wb where
  cs : List (List Int)
  ends : List Int
  rings : Int
abbrev encR (c : List Int) : PyData := .tuple (c.map .int)
abbrev encW (w : Wb) : PyData := .tuple [.tuple (w.cs.map encR), encR w.ends, .int w.rings]
def ringsF4 (i : Int) : Int := [0, 1, 2, 20].getD i.toNat 0
def webCs (A : List Int) (m : Nat) : List (List Int) := (List.range m).map fun k => (A.take (4 * k + 4)).drop (4 * k)
def webF (s : Int × Int) (m h : Nat) : Wb := ⟨webCs (webR s m h).A m, (webR s m h).A.drop (4 * m), ringsF4 (tkV (webR s m h).s 4)⟩
def webS (s : Int × Int) (m h : Nat) : Int × Int := tkS (webR s m h).s 4
def fWeb : Fs := fun as r as' => ∃ (s : Int × Int) (m h : Nat), (0 ≤ s.2 ∧ s.2 ≤ 800000) ∧ m ≤ 1000 ∧ h ≤ 1000 ∧ as = [rowA s, .d (.int m), .d (.int ((2 * h : Nat) : Int))] ∧ r = .d (encW (webF s m h)) ∧ as' = [rowA (webS s m h), .d (.int m), .d (.int ((2 * h : Nat) : Int))]
theorem wok_fold {N : Nat} {s0 : Int} {t0 : WSt} (h : WOk N s0 0 t0) : ∀ (xs : List Int), 2 * xs.length ≤ N → WOk N s0 xs.length (xs.foldl webStep t0) := fun xs => by
  have key : ∀ (xs : List Int) (i : Nat) (t : WSt), WOk N s0 i t → 2 * (i + xs.length) ≤ N → WOk N s0 (i + xs.length) (xs.foldl webStep t) := fun xs => by
    induction xs with
    | nil => intro i t h _; exact h
    | cons x xs ih =>
      intro i t h hn
      rw [List.length_cons] at hn ⊢
      have := ih (i + 1) (webStep t x) (wok_step h (by omega)) (by omega)
      rw [show i + (xs.length + 1) = i + 1 + xs.length by omega]
      exact this
  intro hn
  have := key xs 0 t0 h (by omega)
  rwa [Nat.zero_add] at this
end Th
namespace Th
theorem map_erase {α β : Type} (f : α → β) : ∀ (xs : List α) (i : Nat), (xs.map f).eraseIdx i = (xs.eraseIdx i).map f
  | [], _ => rfl
  | _ :: _, 0 => rfl
  | x :: xs, i + 1 => congrArg (f x :: ·) (map_erase f xs i)
end Th
namespace Th
open PySem PySem.Spec PyProof.Rows L2 RT RZ
/-- range(a, b) of naturals -/
theorem src_r2N {X : Cx} {ρ ρ1 ρ2 : Rho} {tg e1 e2 : Expr} {px pc : Pos} {a b : Nat} (h : E X e1 ρ (.d (.int a)) ρ1) (h2 : E X e2 ρ1 (.d (.int b)) ρ2) (hm : X.mg "range" = none) (hn : a < 2 ^ 60 ∧ b < 2 ^ 60) (hg : Gl X "range" := by rfl)
    (hse : starEach [e1, e2] X.env = [(false, eval e1 X.env), (false, eval e2 X.env)] := by rfl) (hse2 : starEach [e2] X.env = [(false, eval e2 X.env)] := by rfl) :
    Src X tg (.Call (.Name "range" px) [e1, e2] [] pc) ρ ((List.range' a (b - a)).map encN) ρ2 none := by
  have g := src_r2 (tg := tg) (px := px) (pc := pc) h h2 hm ⟨by omega, by omega, by omega, by omega⟩ hg hse hse2
  have : rangeD (a : Int) ((b : Int) - (a : Int)).toNat = (List.range' a (b - a)).map encN := by
    unfold rangeD
    rw [show ((b : Int) - (a : Int)).toNat = b - a by omega, List.range'_eq_map_range, List.map_map]
    refine List.map_congr_left fun i _ => ?_
    show PyData.int _ = PyData.int _
    congr 1
  rwa [this] at g
/-- enumerate(t), typed -/
theorem src_enumI {X : Cx} {ρ ρ1 : Rho} {e : Expr} {pos p : Pos} {elts : List Expr} {kk : Nat} {tpos : Pos} {α : Type} {xs : List α} {enc : α → PyData} (h : E X e ρ (.d (.tuple (xs.map enc))) ρ1) (hm : X.mg "enumerate" = none) (hg : Gl X "enumerate" := by rfl) (hs : starEach [e] X.env = [(false, eval e X.env)] := by rfl) :
    Src X (.Tuple elts kk tpos) (.Call (.Name "enumerate" p) [e] [] pos) ρ (xs.zipIdx.map fun q => .tuple [.int (q.2 : Nat), enc q.1]) ρ1 none := by
  have g := src_enumT (pos := pos) (p := p) (elts := elts) (kk := kk) (tpos := tpos) h hm hg hs
  have : enumD (xs.map enc) = xs.zipIdx.map fun q => .tuple [.int (q.2 : Nat), enc q.1] := by
    unfold enumD
    rw [List.zipIdx_map, List.map_map]
    rfl
  rwa [this] at g
theorem zipIdx_get {α : Type} {xs : List α} {i : Nat} {q : α × Nat} (h : xs.zipIdx[i]? = some q) : q.2 = i ∧ xs[i]? = some q.1 := by
  rw [List.getElem?_zipIdx] at h
  cases hx : xs[i]? with
  | none => rw [hx] at h; cases h
  | some x =>
    rw [hx] at h
    cases h
    exact ⟨Nat.zero_add i, rfl⟩
end Th
namespace Th
open PySem PySem.Spec PyProof.Rows L2 RT RZ
/-- zip of two tuples, typed -/
theorem src_zipI {X : Cx} {ρ ρ1 ρ2 : Rho} {e1 e2 : Expr} {pos p : Pos} {elts : List Expr} {kk : Nat} {tpos : Pos} {α β : Type} {xs : List α} {ys : List β} {enc1 : α → PyData} {enc2 : β → PyData} (h : E X e1 ρ (.d (.tuple (xs.map enc1))) ρ1) (h2 : E X e2 ρ1 (.d (.tuple (ys.map enc2))) ρ2) (hm : X.mg "zip" = none) (hg : Gl X "zip" := by rfl) (hs : starEach [e1, e2] X.env = (false, eval e1 X.env) :: starEach [e2] X.env := by rfl)
    (hs2 : starEach [e2] X.env = (false, eval e2 X.env) :: starEach [] X.env := by rfl) (hpl : (backTo pos (starEach [e2] X.env)).any (·.1) = false := by rfl) : Src X (.Tuple elts kk tpos) (.Call (.Name "zip" p) [e1, e2] [] pos) ρ ((xs.zip ys).map fun p => .tuple [enc1 p.1, enc2 p.2]) ρ2 none := by
  have g := src_zipT (pos := pos) (p := p) (elts := elts) (kk := kk) (tpos := tpos) h h2 hm hg hs hs2 hpl
  have : zipD (xs.map enc1) (ys.map enc2) = (xs.zip ys).map fun p => .tuple [enc1 p.1, enc2 p.2] := by
    unfold zipD
    rw [List.zip_map, List.map_map]
    rfl
  rwa [this] at g
end Th

set_option Elab.async false
set_option linter.all false
set_option maxRecDepth 100000
namespace Th
open PySem PySem.Spec PyProof.Rows L2

/-! ### new tuples that hold new lists -/
def twD : List PyData ⊕ PyData → PyData
  | .inl zs => .list zs
  | .inr v => v
def twA : List PyData ⊕ PyData → A
  | .inl zs => .ml zs
  | .inr v => .d v
section
variable {K : PySem.W.Frag} {ρ ρ1 : Rho} {σ : L2.St} {HF H : Hp} {te : TE} {l : List (List PyData ⊕ PyData)}
def TwS (K : PySem.W.Frag) (H HF' H' : Hp) (x : V) : List PyData ⊕ PyData → Prop
  | .inl zs => ∃ q us, x = .ref q ∧ H q = none ∧ (HF' q = none ∨ HF' q = some (.lst us)) ∧ H' q = some (.lst us) ∧ DpAll K HF' us zs
  | .inr v => Dp K HF' x v
theorem tws_of {HF' H' : Hp} {ys : List V} (h : Paired (TwR K H HF' H') ys l) : Paired (TwS K H HF' H') ys l := Paired.mapP h fun y a z => by
  cases a with
  | inl zs => obtain ⟨q, us, g1, g2, g3, g4⟩ := z; exact ⟨q, us, g1, g2, .inl g3, g4⟩
  | inr v => exact z
theorem tws_mono {H HF' HF2 H' : Hp} {y : V} {a : List PyData ⊕ PyData} (s : Same HF' HF2) (hn : ∀ q us, HF' q = none → H' q = some (.lst us) → HF2 q = none ∨ HF2 q = some (.lst us)) (z : TwS K H HF' H' y a) : TwS K H HF2 H' y a := by
  cases a with
  | inl zs =>
    obtain ⟨q, us, g1, g2, g3, g4, g5⟩ := z
    refine ⟨q, us, g1, g2, ?_, g4, dpa_mono s g5⟩
    rcases g3 with g3 | g3
    · exact hn q us g3 g4
    · exact .inr (s _ _ g3)
  | inr v => exact dp_mono s z
theorem tw_frz' (S0 : Sl K ρ σ HF H) {H' : Hp} {ys : List V} : ∀ {ys : List V} {l : List (List PyData ⊕ PyData)} {HF' : Hp}, Paired (TwS K H HF' H') ys l → Sl K ρ1 σ HF' H' → Fw ρ ρ1 σ HF H HF' H' →
    ∃ HF2, Sl K ρ1 σ HF2 H' ∧ Fw ρ ρ1 σ HF H HF2 H' ∧ Same HF' HF2 ∧ DpAll K HF2 ys (l.map twD) ∧ ∀ b o, HF2 b = some o → HF' b = some o ∨ ∃ us, H' b = some (.lst us)
  | _, _, HF', .nil, S1, f1 => ⟨HF', S1, f1, .refl _, .nil, fun _ _ h => .inl h⟩
  | _, _, HF', .cons (a := y) (b := a) z t, S1, f1 => by
    cases a with
    | inr v =>
      obtain ⟨HF2, S2, f2, s2, d2, n2⟩ := tw_frz' S0 (ys := []) t S1 f1
      exact ⟨HF2, S2, f2, s2, .cons (dp_mono s2 z) d2, n2⟩
    | inl zs =>
      obtain ⟨q, us, rfl, g2, g3, g4, g5⟩ := z
      rcases g3 with g3 | g3
      · have nw : ¬ OwnAt ρ1 σ q := fun w => S0.notOwn g2 (f1.sh.own.mp w)
        have s1 : Same HF' (upd HF' q (.lst us)) := same_upd g3
        have S1' := S1.frz g4 g3 nw
        have f1' : Fw ρ ρ1 σ HF H (upd HF' q (.lst us)) H' := ⟨f1.sh, f1.hf.trans s1, f1.keep, fun b u e => by
          by_cases hb : b = q
          · subst hb
            exact .inr g2
          · rw [upd_ne hb] at e
            exact f1.new b u e, f1.pres⟩
        obtain ⟨HF2, S2, f2, s2, d2, n2⟩ := tw_frz' S0 (ys := []) (Paired.mapP t fun y a z => tws_mono s1 (fun q' us' h1 h2 => by
          by_cases hb : q' = q
          · subst hb
            rw [h2] at g4
            cases g4
            exact .inr upd_same
          · exact .inl (by rw [upd_ne hb]; exact h1)) z) S1' f1'
        refine ⟨HF2, S2, f2, s1.trans s2, .cons (.lst (.inl (.inl (s2 _ _ upd_same))) (dpa_mono (s1.trans s2) g5)) d2, fun b o e => ?_⟩
        rcases n2 b o e with e | e
        · by_cases hb : b = q
          · subst hb
            exact .inr ⟨_, g4⟩
          · rw [upd_ne hb] at e
            exact .inl e
        · exact .inr e
      · obtain ⟨HF2, S2, f2, s2, d2, n2⟩ := tw_frz' S0 (ys := []) t S1 f1
        exact ⟨HF2, S2, f2, s2, .cons (.lst (.inl (.inl (s2 _ _ g3))) (dpa_mono s2 g5)) d2, n2⟩
theorem Ev.tw (h : Ev K te ρ (.tw l) ρ1) : Ev K te ρ (.d (.tuple (l.map twD))) ρ1 := fun σ HF H S Q q => h σ HF H S Q fun x HF1 H1 S1 f1 r1 => by
  obtain ⟨t, ys, rfl, h0, h1, h2, h3⟩ := r1
  obtain ⟨HF2, S2, f2, s2, d2, n2⟩ := tw_frz' S (ys := []) (tws_of h3) S1 f1
  have hn : HF2 t = none := by
    cases e : HF2 t with
    | none => rfl
    | some o =>
      rcases n2 t o e with e | ⟨us, e⟩
      · rw [h1] at e; cases e
      · rw [h2] at e; cases e
  have nw : ¬ OwnAt ρ1 σ t := fun z => S.notOwn h0 (f1.sh.own.mp z)
  have s3 := same_upd (o := .tup ys) hn
  refine q _ (upd HF2 t (.tup ys)) H1 (S2.frz h2 hn nw) ⟨f2.sh, f2.hf.trans s3, f2.keep, fun b u e => ?_, f2.pres⟩ (.tup (.inl (.inl upd_same)) (dpa_mono s3 d2))
  by_cases hb : b = t
  · subst hb
    exact .inr h0
  · rw [upd_ne hb] at e
    exact f2.new b u e
end
section
variable {X : Cx} {B : Bs} {P : Pst} {ρ ρ1 ρ2 ρ3 : Rho} {e e0 e1 e2 : Expr} {es : List Expr} {pos pos' : Pos} {a : A} {l : List (List PyData ⊕ PyData)} {v : PyData} {i : Int} {zs ds : List PyData} {x : Str}
theorem E.tw (h : E X e ρ (.tw l) ρ1) : E X e ρ (.d (.tuple (l.map twD))) ρ1 := Ev.tw h
theorem tw_item {K : PySem.W.Frag} {H HF' H' : Hp} {x : V} {z : List PyData ⊕ PyData} (r : TwR K H HF' H' x z) : RRel K H HF' H' x (twA z) := by
  cases z with
  | inl zs => obtain ⟨q, us, g1, g2, g3, g4, g5⟩ := r; exact ⟨q, _, g1, g2, g3, g4, g5⟩
  | inr v => exact r
theorem e_twIx {z : List PyData ⊕ PyData} (h : E X e ρ (.tw l) ρ1) (h2 : E X e2 ρ1 (.d (.int i)) ρ2) (h0 : 0 ≤ i) (hg : l[i.toNat]? = some z) (hp : PlainIx e2 := by exact fun _ _ => rfl) : E X (.Subscript e e2 pos) ρ (twA z) ρ2 :=
  .of (pe_ix ix_tup pe_w pe_w hp) fun σ HF H S1 Q q => h σ HF H S1 _ fun x HF1 H1 S2 f1 r1 => h2 σ HF1 H1 S2 _ fun y HF2 H2 S3 f2 r2 => by
    cases r2
    have r3 : RRel X.K H HF2 H2 x (.tw l) := RRel.later S1 f1 f2 r1
    obtain ⟨t, ys, rfl, g0, g1, g2, g3⟩ := r3
    obtain ⟨y, k1, k2⟩ := paired_get g3 hg
    exact ⟨t, ys, i, y, rfl, rfl, .inl (.inl g2), (atI_nat' h0).trans k1, q y HF2 H2 S3 (f1.trans f2) (tw_item k2)⟩
/-- an own list that stands in no slot is appended to -/
theorem e_appE {apos : Pos} (h0 : E X e0 ρ (.ml zs) ρ1) (he : E X e ρ1 (.d v) ρ2) (hz : zs.length < 100000)
    (hbase : attributeBase e0 "append" X.env (eval e0 X.env) = eval e0 X.env := by rfl)
    (hfew : ((backTo pos (starEach [e] X.env)).all (fun x => !x.1) && (backToKw pos (keywordEach [] X.env)).all (fun x => x.1.isSome) && decide (([e] : List Expr).length + ([] : List Keyword).length + (if ([] : List Keyword).isEmpty then 0 else 1) < 30)) = true := by rfl)
    (hline : (apos.endLine == pos.line) = true := by rfl) (hs : starEach [e] X.env = (false, eval e X.env) :: starEach [] X.env := by rfl) :
    E X (.Call (.Attribute e0 "append" apos) [e] [] pos) ρ (.d .none) ρ2 :=
  .of (pe_bm PySem.F.plainAttrs_list PySem.F.slot_list_append PySem.F.type_list_append mt_append pe_w (pa_cons pe_w pa_nil hs) hbase hfew hline hs) fun σ HF H S1 Q q => h0 σ HF H S1 _ fun y HF1 H1 S2 f1 r1 => by
    obtain ⟨p, o, rfl, g0, g1, g2, g3⟩ := r1
    cases o <;> first | exact g3.elim | skip
    rename_i ys
    refine .inl ⟨rfl, _, .inl (.inl g2)⟩ |> fun w => ⟨w, he σ HF1 H1 S2 _ fun x1 HF2 H2 S3 f2 r2 => ?_⟩
    have nw : ¬ OwnAt ρ1 σ p := fun z => S1.notOwn g0 (f1.sh.own.mp z)
    have nw2 : ¬ OwnAt ρ2 σ p := fun z => nw (f2.sh.own.mp z)
    have k2 := f2.keep p _ g2 nw
    have k1 := f2.hfn g1 g2
    have f12 := f1.trans f2
    refine ⟨p, ys, x1, rfl, rfl, k2, Nat.lt_of_lt_of_le (by rw [dpa_len g3]; exact hz) (by decide), q _ HF2 _ ⟨S3.len, fun b u e => ?_, fun i a h => ?_, S3.apart⟩ ⟨f12.sh, f12.hf, fun b u e n => ?_, f12.new, fun b u e => ?_⟩ .non⟩
    · rw [upd_ne fun w => by rw [w, k1] at e; cases e]
      exact S3.sub b u e
    · obtain ⟨s, e, g⟩ := S3.slot i a h
      refine ⟨s, e, arel_mono g (.refl _) fun b u e1 h1 h2 ho => ⟨h1, ?_⟩⟩
      rw [upd_ne fun w => nw2 ⟨i, a, h, ho, by rw [e, e1, w]⟩]
      exact h2
    · have hb : b ≠ p := fun w => by rw [w, g0] at e; cases e
      rw [upd_ne hb]
      exact f12.keep b u e n
    · have hb : b ≠ p := fun w => by rw [w, g0] at e; cases e
      rw [upd_ne hb]
      exact f12.pres b u e

/-! handed back -/
def EvR (X : Cx) (B : Bs) (ta : TA) (ρ : Rho) (l : List (List PyData ⊕ PyData)) (ρ' : Rho) : Prop := ∀ σ HF H, Sl X.K ρ σ HF H → Bn B ρ σ HF H → ∀ Q : List V → Hp → Prop,
  (∀ xs HF' H', Sl X.K ρ' σ HF' H' → Fw ρ ρ' σ HF H HF' H' → Paired (TwR X.K B.H0 HF' H') xs l → Q xs H') → ta σ H Q
abbrev ER (X : Cx) (B : Bs) (es : List Expr) (ρ : Rho) (l : List (List PyData ⊕ PyData)) (ρ' : Rho) : Prop := EvR X B (wA X es) ρ l ρ'
theorem er_nil : ER X B [] ρ [] ρ := fun σ HF H S b Q q => ⟨_, pa_nil, q [] HF H S (.refl ..) .nil⟩
theorem er_d (h : E X e ρ (.d v) ρ1) (hr : ER X B es ρ1 l ρ2) (hs : starEach (e :: es) X.env = (false, eval e X.env) :: starEach es X.env := by rfl) : ER X B (e :: es) ρ (.inr v :: l) ρ2 := fun σ HF H S b Q q =>
  ⟨_, pa_cons pe_w pa_w hs, h σ HF H S _ fun x HF1 H1 S1 f1 r1 => hr σ HF1 H1 S1 (b.fw f1) _ fun xs HF2 H2 S2 f2 r2 => q _ HF2 H2 S2 (f1.trans f2) (.cons (a := x) (b := .inr v) (show Dp X.K HF2 x v from dp_mono f2.hf r1) r2)⟩
theorem er_l (h : E X e ρ (.ml zs) ρ1) (hr : ER X B es ρ1 l ρ2) (hs : starEach (e :: es) X.env = (false, eval e X.env) :: starEach es X.env := by rfl) : ER X B (e :: es) ρ (.inl zs :: l) ρ2 := fun σ HF H S b Q q =>
  ⟨_, pa_cons pe_w pa_w hs, h σ HF H S _ fun x HF1 H1 S1 f1 r1 => hr σ HF1 H1 S1 (b.fw f1) _ fun xs HF2 H2 S2 f2 r2 => by
    have r3 : RRel X.K H HF2 H2 x (.ml zs) := RRel.later S f1 f2 r1
    obtain ⟨p, o, rfl, g0, g1, g2, g3⟩ := r3
    cases o <;> first | exact g3.elim | skip
    exact q _ HF2 H2 S2 (f1.trans f2) (.cons (a := .ref p) (b := .inl zs) ⟨p, _, rfl, b.free g0, g1, g2, g3⟩ r2)⟩
theorem er_o (i : Nat) (hi0 : ∃ z0, ρ[i]? = some (.ml z0)) (hr : ER X B es ρ l ρ2) (hi : ρ2[i]? = some (.ml zs)) (hl : ∀ q ∈ B.L, q.1 ≠ i) (hN : X.N[i]? = some x := by rfl) (hv : Vis X.env.scope x := by first | exact Or.inl rfl | exact Or.inr (Or.inl rfl) | exact Or.inr (Or.inr rfl))
    (hd : (x == ("__debug__" : Str)) = false := by decide) (hcd : (x == ("__classdict__" : Str)) = false := by decide) (hs : starEach (.Name x pos' :: es) X.env = (false, eval (.Name x pos') X.env) :: starEach es X.env := by rfl) : ER X B (.Name x pos' :: es) ρ (.inl zs :: l) ρ2 := fun σ HF H S b Q q =>
  ⟨_, pa_cons (pe_var hN hv hd hcd) pa_w hs, by
    obtain ⟨z0, hi0⟩ := hi0
    obtain ⟨p, o, e, _⟩ := S.ownAt hi0 rfl
    refine ⟨.ref p, e, hr σ HF H S b _ fun xs HF2 H2 S2 f2 r2 => ?_⟩
    obtain ⟨p2, o2, e2, h1, h2, h3⟩ := S2.ownAt hi rfl
    rw [e] at e2
    cases e2
    cases o2 <;> first | exact h3.elim | skip
    refine q _ HF2 H2 S2 f2 (.cons (a := .ref p) (b := .inl zs) ⟨p, _, rfl, ?_, h1, h2, h3⟩ r2)
    rcases b.mine i _ p hi0 rfl e with z | z
    · exact (hl _ z rfl).elim
    · exact z⟩
theorem s_retTw {n : Nat} (h : ER X B es ρ l ρ1) (hp : P.rt (.tw l) ρ1) (hz : l.length ≤ 1000 := by exact Nat.le_of_ble_eq_true rfl) : S X B (.Return (some (.Tuple es n pos')) pos) ρ P := .of (ps_ret (pe_tup pa_w)) fun σ HF H Sl b D o =>
  h σ HF H Sl b _ fun xs HF1 H1 S1 f1 r1 => by
    have hl := Paired.length r1
    refine ⟨by rw [hl]; exact Nat.le_of_lt (small1000 hz), fun p hn => ?_⟩
    obtain ⟨S2, f2⟩ := S1.allocO hn (.tup xs)
    refine o.rt _ ρ1 σ HF1 _ _ hp S2 (b.fw (f1.trans f2)) ⟨p, xs, rfl, b.free (f1.fresh hn), S1.hfNone hn, upd_same, Paired.mapP r1 fun y a z => ?_⟩
    cases a with
    | inl zs => obtain ⟨q, us, g1, g2, g3, g4, g5⟩ := z; exact ⟨q, us, g1, g2, g3, by rw [upd_ne (ne_of_none g4 hn)]; exact g4, g5⟩
    | inr v => exact z

/-! x = e (such a tuple); x[0].append(..) -/
structure TwIn (B : Bs) (i N : Nat) (ks : List Bool) (ρ : Rho) (σ : L2.St) (HF H : Hp) : Prop where
  ex : ∃ t ys, σ[i]? = some (some (V.ref t)) ∧ B.H0 t = none ∧ HF t = none ∧ ¬ OwnAt ρ σ t ∧ H t = some (.tup ys) ∧ Paired (fun y k => k = true → ∃ q us, y = V.ref q ∧ B.H0 q = none ∧ HF q = none ∧ ¬ OwnAt ρ σ q ∧ H q = some (.lst us) ∧ us.length ≤ N) ys ks
def Sw (X : Cx) (B : Bs) (i N : Nat) (ks : List Bool) (sts : List Stmt) (ρ : Rho) (P : Pst) : Prop := ∀ σ HF H, Sl X.K ρ σ HF H → Bn B ρ σ HF H → TwIn B i N ks ρ σ HF H → ∀ D, Ok X.K B HF D P → wSs X sts D σ H
theorem sw_end {i N : Nat} {ks : List Bool} {sts : List Stmt} (h : Ss X B sts ρ P) : Sw X B i N ks sts ρ P := fun σ HF H S b _ D o => h σ HF H S b D o
def isL : List PyData ⊕ PyData → Bool
  | .inl _ => true
  | .inr _ => false
theorem sw_set (i N : Nat) {sts : List Stmt} (he : E X e ρ (.tw l) ρ1) (hlen : ∀ z ∈ l, ∀ zs, z = .inl zs → zs.length ≤ N) (h : Sw X B i N (l.map isL) sts (ρ1.set i .any) P) (hl : ∀ q ∈ B.L, q.1 ≠ i) (hN : X.N.Nodup) (hi : X.N[i]? = some x := by rfl) (hx : Loc X.env.scope x := by first | exact Or.inl rfl | exact Or.inr rfl)
    (hir : i < ρ1.length := by exact Nat.le_of_ble_eq_true rfl) (hs : swapsWith e (some (.Name x pos')) pos.line X.env = pure false := by rfl) (hf : X.fn x = true ∨ X.env.scope.names.lookup x = some .local := by first | exact .inl rfl | exact .inr rfl) : Ss X B (.Assign [.Name x pos'] e pos :: sts) ρ P := fun σ HF H Sl b D o =>
  ⟨_, pss_cons (ps_set hN hi hx pe_w hs hf) pss_w, he σ HF H Sl _ fun y HF1 H1 S1 f1 r1 => by
    obtain ⟨t, ys, rfl, h0, h1, h2, h3⟩ := r1
    have b1 := b.fw f1
    have r0 : ∀ Hb, RRel X.K Hb HF1 H1 (V.ref t) .any := fun _ => trivial
    have S2 : Th.Sl X.K (ρ1.set i .any) (σ.set i (some (V.ref t))) HF1 H1 := S1.set (Hb := H) (r0 H) fun p hp z => Sl.notOwn hp (f1.sh.own.mp z)
    have b2 : Bn B (ρ1.set i .any) (σ.set i (some (V.ref t))) HF1 H1 := b1.set S1 (r0 B.H0) hl
    have no : ∀ p, H p = none → ¬ OwnAt (ρ1.set i .any) (σ.set i (some (V.ref t))) p := fun p hp => by
      rintro ⟨j, c, g1, g2, g3⟩
      by_cases hj : i = j
      · subst hj
        rw [List.getElem?_set_self hir] at g1
        cases g1
        cases g2
      · rw [List.getElem?_set_ne hj] at g1 g3
        exact Sl.notOwn hp (f1.sh.own.mp ⟨j, c, g1, g2, g3⟩)
    refine h _ HF1 H1 S2 b2 ⟨t, ys, ?_, b.free h0, h1, no t h0, h2, ?_⟩ D (o.up f1.hf)
    · rw [List.getElem?_set_self (by rw [S1.len]; exact hir)]
    · have key : ∀ {ys : List V} {l : List (List PyData ⊕ PyData)}, Paired (TwR X.K H HF1 H1) ys l → (∀ z ∈ l, ∀ zs, z = .inl zs → zs.length ≤ N) → Paired (fun y k => k = true → ∃ q us, y = V.ref q ∧ B.H0 q = none ∧ HF1 q = none ∧ ¬ OwnAt (ρ1.set i .any) (σ.set i (some (V.ref t))) q ∧ H1 q = some (.lst us) ∧ us.length ≤ N) ys (l.map isL) := fun hp => by
        induction hp with
        | nil => intro _; exact .nil
        | @cons y a ys l z _ ih =>
          intro hall
          refine .cons (fun hk => ?_) (ih fun b hb => hall b (List.mem_cons_of_mem _ hb))
          have h0 := hall a List.mem_cons_self
          cases a with
          | inl zs => obtain ⟨q, us, g1, g2, g3, g4, g5⟩ := z; exact ⟨q, us, g1, b.free g2, g3, no q g2, g4, by rw [dpa_len g5]; exact h0 zs rfl⟩
          | inr v => exact nomatch hk
      exact key h3 hlen⟩
theorem sw_app {j N : Nat} (k : Nat) {ks : List Bool} {sts : List Stmt} {apos spos p2 : Pos} {n2 : Nat} (he : E X e ρ (.d v) ρ) (hk : ks[k]? = some true) (hz : N < 100000) (h : Sw X B j (N + 1) ks sts ρ P) (hj : X.N[j]? = some x := by rfl)
    (hv : Vis X.env.scope x := by first | exact Or.inl rfl | exact Or.inr (Or.inl rfl) | exact Or.inr (Or.inr rfl)) (hd : (x == ("__debug__" : Str)) = false := by decide) (hcd : (x == ("__classdict__" : Str)) = false := by decide)
    (hbase : attributeBase (.Subscript (.Name x pos') (.Constant (.int (k : Int)) n2 p2) spos) "append" X.env (eval (.Subscript (.Name x pos') (.Constant (.int (k : Int)) n2 p2) spos) X.env) = eval (.Subscript (.Name x pos') (.Constant (.int (k : Int)) n2 p2) spos) X.env := by rfl)
    (hfew : ((backTo pos (starEach [e] X.env)).all (fun x => !x.1) && (backToKw pos (keywordEach [] X.env)).all (fun x => x.1.isSome) && decide (([e] : List Expr).length + ([] : List Keyword).length + (if ([] : List Keyword).isEmpty then 0 else 1) < 30)) = true := by rfl)
    (hline : (apos.endLine == pos.line) = true := by rfl) (hs : starEach [e] X.env = (false, eval e X.env) :: starEach [] X.env := by rfl) (hp : PlainIx (.Constant (.int (k : Int)) n2 p2) := by exact fun _ _ => rfl)
    (hsw : swapsWith (.Call (.Attribute (.Subscript (.Name x pos') (.Constant (.int (k : Int)) n2 p2) spos) "append" apos) [e] [] pos) none ppos.line X.env = pure false := by rfl) :
    Sw X B j N ks (.Expr (.Call (.Attribute (.Subscript (.Name x pos') (.Constant (.int (k : Int)) n2 p2) spos) "append" apos) [e] [] pos) ppos :: sts) ρ P := fun σ HF H S1 b w D o =>
  ⟨_, pss_cons (ps_expr (pe_bm PySem.F.plainAttrs_list PySem.F.slot_list_append PySem.F.type_list_append mt_append (pe_ix ix_tup (pe_var hj hv hd hcd) pe_int hp) (pa_cons pe_w pa_nil hs) hbase hfew hline hs) hsw) pss_w, by
    obtain ⟨t, ys, e0, t0, t1, t2, t3, t4⟩ := w.ex
    obtain ⟨y, y1, y2⟩ := paired_get t4 hk
    obtain ⟨q, us, rfl, q0, q1, q2, q3, q4⟩ := y2 rfl
    refine ⟨.ref t, e0, t, ys, (k : Int), .ref q, rfl, rfl, .inl (.inl t3), (atI_nat' (Int.natCast_nonneg k)).trans y1, .inl ⟨rfl, _, .inl (.inl q3)⟩, ?_⟩
    refine he σ HF H S1 _ fun x1 HF1 H1 S2 f1 r1 => ?_
    have k3 := f1.keep q _ q3 q2
    have k1 := f1.hfn q1 q3
    have b1 := b.fw f1
    refine ⟨q, us, x1, rfl, rfl, k3, Nat.lt_of_le_of_lt q4 (Nat.lt_of_lt_of_le hz (by decide)), ?_⟩
    have up : ∀ p o, H1 p = some o → p ≠ q → upd H1 q (.lst (us ++ [x1])) p = some o := fun p o e n => by rw [upd_ne n]; exact e
    refine h σ HF1 _ ⟨S2.len, fun b u e => ?_, fun i a h => ?_, S2.apart⟩ ⟨b1.hf, fun p u n e => ?_, b1.new, fun p u e => ?_, b1.mine, b1.lent⟩ ⟨t, ys, e0, t0, f1.hfn t1 t3, t2, ?_, Paired.mapP t4 fun y k z hk => ?_⟩ D (o.up f1.hf)
    · exact up b u (S2.sub b u e) fun w => by rw [w, k1] at e; cases e
    · obtain ⟨s, e, g⟩ := S2.slot i a h
      refine ⟨s, e, arel_mono g (.refl _) fun b u e1 h1 h2 ho => ⟨h1, up b u h2 fun w => q2 ⟨i, a, h, ho, by rw [e, e1, w]⟩⟩⟩
    · exact up p u (b1.keep p u n e) fun w => by rw [w, q0] at e; cases e
    · by_cases hb : p = q
      · subst hb
        exact ⟨_, upd_same⟩
      · obtain ⟨u', e'⟩ := b1.pres p u e
        exact ⟨u', up p u' e' hb⟩
    · refine up t _ (f1.keep t _ t3 t2) fun w => ?_
      rw [w, q3] at t3
      cases t3
    · obtain ⟨q', us', rfl, g0, g1, g2, g3, g4⟩ := z hk
      by_cases hb : q' = q
      · subst hb
        refine ⟨q', _, rfl, g0, k1, g2, upd_same, ?_⟩
        rw [List.length_append]
        simp
        exact q4
      · exact ⟨q', us', rfl, g0, f1.hfn g1 g3, g2, up q' _ (f1.keep q' _ g3 g2) hb, by omega⟩⟩
/-- xs.index(v) -/
theorem e_indexL {apos : Pos} {k1 : Option Nat} {j : Nat} {ns : List Int} {n : Int} (h0 : EO X e0 ρ (.list (ns.map .int)) ρ1 k1) (he : E X e ρ1 (.d (.int n)) ρ2) (hj : ns[j]? = some n) (hm : ∀ m < j, ns[m]? ≠ some n) (hkp : Kp k1 ρ1 ρ2 := by first | exact trivial | exact rfl)
    (hbase : attributeBase e0 "index" X.env (eval e0 X.env) = eval e0 X.env := by rfl)
    (hfew : ((backTo pos (starEach [e] X.env)).all (fun x => !x.1) && (backToKw pos (keywordEach [] X.env)).all (fun x => x.1.isSome) && decide (([e] : List Expr).length + ([] : List Keyword).length + (if ([] : List Keyword).isEmpty then 0 else 1) < 30)) = true := by rfl)
    (hline : (apos.endLine == pos.line) = true := by rfl) (hs : starEach [e] X.env = (false, eval e X.env) :: starEach [] X.env := by rfl) :
    E X (.Call (.Attribute e0 "index" apos) [e] [] pos) ρ (.d (.int j)) ρ2 :=
  .of (pe_bm PySem.F.plainAttrs_list PySem.F.slot_list_index PySem.F.type_list_index mt_index pe_w (pa_cons pe_w pa_nil hs) hbase hfew hline hs) fun σ HF H S1 Q q => h0 σ HF H S1 _ fun y HF1 H1 S2 f1 r1 => by
    obtain ⟨p, ys, rfl, g1, g2⟩ := r1 ρ1 HF1 H1 .refl S2 (.refl ..)
    refine ⟨.inl ⟨rfl, _, g1⟩, he σ HF1 H1 S2 _ fun x1 HF2 H2 S3 f2 r2 => ?_⟩
    obtain ⟨p', ys', e', g1', g2'⟩ := r1 ρ2 HF2 H2 hkp S3 f2
    cases e'
    cases r2
    have hy := ints_dpa g2'
    subst hy
    refine ⟨p, _, .int n, j, .int n, rfl, rfl, g1', rfl, ?_, ?_, ?_, fun m z' hmj hz => ?_, q _ HF2 H2 S3 (f1.trans f2) (.int _)⟩
    · exact List.all_eq_true.mpr fun z hz => by obtain ⟨n', _, rfl⟩ := List.mem_map.mp hz; rfl
    · rw [List.getElem?_map, hj]; rfl
    · simp [eqV]
    · obtain ⟨n', h1, rfl⟩ := map_get hz
      have hne : n' ≠ n := fun w => hm m hmj (by rw [h1, w])
      simp [eqV, hne]
end
end Th

set_option Elab.async false
set_option linter.all false
set_option maxRecDepth 100000
namespace Th
open PySem PySem.Spec PyProof.Rows L2

/-! steps of lists -/
inductive Wd where
  | one | less | nought | loose | split | two
deriving DecidableEq
def Wd.nm : Wd → Str
  | .one => "one"
  | .less => "less"
  | .nought => "nought"
  | .loose => "loose"
  | .split => "split"
  | .two => "two"
theorem Wd.nm_inj : ∀ a b : Wd, decide (a.nm = b.nm) = decide (a = b) := by
  intro a b
  cases a <;> cases b <;> decide +kernel
theorem Wd.ok (a : Wd) : PyData.strOk a.nm = true := by cases a <;> decide +kernel
abbrev Stp := Wd × Int
def encSt (p : Stp) : PyData := .tuple [.str p.1.nm, .int p.2]
def encWd (a : Wd) : PyData := .str a.nm
theorem eqE_wd : EqE encWd := fun a b => by
  show PyData.eqv (.str _) (.str _) = _
  rw [← Wd.nm_inj]
  exact eqE_str _ _
theorem eqE_st : EqE encSt := eqE_pair eqE_wd eqE_int
theorem fit_st {n : Nat} (p : Stp) : Fit (n + 1) (encSt p) := fit_t2 (fit_str p.1.ok) (fit_int _)
/-- the last one less by c -/
def decL (p : List Int) (c : Int) : List Int := p.set (p.length - 1) (p.getD (p.length - 1) 0 - c)
def stepN (p : List Int) (n b : Int) (r : List Int) : Wd → Option (List Int × Int)
  | .one => if n = 1 then some (decL p 1 ++ (b - 1) :: r, if p = [] then 0 else 1) else none
  | .less => if n = -1 then some (decL p (-1) ++ (b + 1) :: r, if p = [] then 0 else -1) else none
  | .nought => if n = 0 then (if p = [] then (if b = 0 ∧ r ≠ [] then some (r, 0) else none) else some (decL p (-b) ++ r, 0)) else none
  | .loose => if n = 0 ∧ p = [] then some (0 :: 0 :: r, b) else none
  | .split => if n < -1 then some (p ++ (n + 1) :: 1 :: (b + 1) :: r, -1) else none
  | .two => none
def stepF (l : List Int) (w : Wd) (at_ : Int) : Option (List Int × Int) :=
  if 0 ≤ at_ ∧ at_ + 1 < l.length then stepN (l.take at_.toNat) (l.getD at_.toNat 0) (l.getD (at_.toNat + 1) 0) (l.drop (at_.toNat + 2)) w else none
theorem split_at {l : List Int} {i : Nat} (h : i + 1 < l.length) : l = l.take i ++ l.getD i 0 :: l.getD (i + 1) 0 :: l.drop (i + 2) ∧ (l.take i).length = i := by
  refine ⟨?_, by rw [List.length_take]; omega⟩
  have h1 : l.drop i = l.getD i 0 :: l.drop (i + 1) := by
    rw [List.drop_eq_getElem_cons (show i < l.length by omega), List.getD_eq_getElem?_getD, List.getElem?_eq_getElem (show i < l.length by omega)]
    rfl
  have h2 : l.drop (i + 1) = l.getD (i + 1) 0 :: l.drop (i + 2) := by
    rw [List.drop_eq_getElem_cons h, List.getD_eq_getElem?_getD, List.getElem?_eq_getElem h]
    rfl
  rw [← h2, ← h1, List.take_append_drop]
theorem stepF_at (p : List Int) (n b : Int) (r : List Int) (w : Wd) : stepF (p ++ n :: b :: r) w p.length = stepN p n b r w := by
  unfold stepF
  rw [if_pos ⟨by omega, by rw [List.length_append]; simp; omega⟩]
  have e : ((p.length : Int)).toNat = p.length := by omega
  rw [e]
  congr 1
  · simp
  · simp
  · rw [List.getD_eq_getElem?_getD, List.getElem?_append_right (by omega)]
    simp
  · rw [List.drop_append]
    simp [show p.length + 2 - p.length = 2 by omega]
theorem decL_nil (c : Int) : decL [] c = [] := rfl
theorem decL_app (q : List Int) (a c : Int) : decL (q ++ [a]) c = q ++ [a - c] := by
  unfold decL
  rw [List.length_append]
  simp
theorem nil_or (p : List Int) : p = [] ∨ ∃ q a, p = q ++ [a] := by
  rcases List.eq_nil_or_concat p with h | ⟨q, a, h⟩
  · exact .inl h
  · exact .inr ⟨q, a, by simpa using h⟩
/-- which comes next -/
def nx (p : List Int) (n b : Int) (r : List Int) : Option Wd :=
  if n = 1 then some .one else if n = -1 then some .less else if n < -1 then some .split else if p ≠ [] then some .nought else if b ≠ 0 then some .loose else if r ≠ [] then some .nought else none
def nextG (p : List Int) : List Int → Option Stp
  | n :: b :: r => if n < 2 then (nx p n b r).map (·, (p.length : Int)) else nextG (p ++ [n]) (b :: r)
  | _ => none
def nextF (l : List Int) : Option Stp := nextG [] l
theorem nextG_two {p r : List Int} {n b : Int} (h : 2 ≤ n) : nextG p (n :: b :: r) = nextG (p ++ [n]) (b :: r) := by
  rw [nextG, if_neg (by omega)]
theorem nextG_lt {p r : List Int} {n b : Int} (h : n < 2) : nextG p (n :: b :: r) = (nx p n b r).map (·, (p.length : Int)) := by
  rw [nextG, if_pos h]
theorem nextG_pass : ∀ (q p : List Int) (n : Int) (r : List Int), (∀ x ∈ q, 2 ≤ x) → nextG p (q ++ n :: r) = nextG (p ++ q) (n :: r)
  | [], p, n, r, _ => by simp
  | x :: [], p, n, r, h => by
    rw [List.singleton_append, nextG_two (h x List.mem_cons_self)]
  | x :: y :: q, p, n, r, h => by
    have := nextG_pass (y :: q) (p ++ [x]) n r fun z hz => h z (List.mem_cons_of_mem _ hz)
    rw [List.cons_append, List.cons_append, nextG_two (h x List.mem_cons_self), ← List.cons_append, this]
    simp
theorem next_pass {p r : List Int} {n : Int} (h : ∀ x ∈ p, 2 ≤ x) : nextF (p ++ n :: r) = nextG p (n :: r) := nextG_pass p [] n r h
theorem next_at {p r : List Int} {n b : Int} (h : ∀ x ∈ p, 2 ≤ x) (hn : n < 2) : nextF (p ++ n :: b :: r) = (nx p n b r).map (·, (p.length : Int)) := by
  rw [next_pass h, nextG_lt hn]
theorem nextG_some : ∀ (s p : List Int) {w : Wd} {i : Int}, (∀ x ∈ p, 2 ≤ x) → nextG p s = some (w, i) → ∃ q n b r, p ++ s = q ++ n :: b :: r ∧ i = q.length ∧ (∀ x ∈ q, 2 ≤ x) ∧ n < 2 ∧ nx q n b r = some w
  | [], _, _, _, _, h => by simp [nextG] at h
  | [_], _, _, _, _, h => by simp [nextG] at h
  | n :: b :: r, p, w, i, hp, h => by
    by_cases hn : n < 2
    · rw [nextG_lt hn] at h
      cases hx : nx p n b r with
      | none => rw [hx] at h; cases h
      | some w' =>
        rw [hx] at h
        cases h
        exact ⟨p, n, b, r, rfl, rfl, hp, hn, hx⟩
    · rw [nextG_two (by omega)] at h
      obtain ⟨q, n', b', r', e, h2⟩ := nextG_some (b :: r) (p ++ [n]) (fun x hx => by
        rcases List.mem_append.mp hx with hx | hx
        · exact hp x hx
        · rw [List.mem_singleton] at hx; omega) h
      exact ⟨q, n', b', r', by rw [← e]; simp, h2⟩
theorem nextG_none : ∀ (s p : List Int), (∀ x ∈ p, 2 ≤ x) → nextG p s = none → p ++ s = [0, 0] ∨ ∀ x ∈ (p ++ s).dropLast, 2 ≤ x
  | [], p, hp, _ => .inr fun x hx => hp x (by simpa using List.dropLast_subset _ hx)
  | [n], p, hp, _ => .inr fun x hx => hp x (by simpa using hx)
  | n :: b :: r, p, hp, h => by
    by_cases hn : n < 2
    · rw [nextG_lt hn] at h
      cases hx : nx p n b r with
      | some w' => rw [hx] at h; cases h
      | none =>
        unfold nx at hx
        split at hx
        · cases hx
        · split at hx
          · cases hx
          · split at hx
            · cases hx
            · split at hx
              · cases hx
              · split at hx
                · cases hx
                · split at hx
                  · cases hx
                  · rename_i h1 h2 h3 h4 h5 h6
                    have e1 : p = [] := Classical.not_not.mp h4
                    have e2 : b = 0 := Classical.not_not.mp h5
                    have e3 : r = [] := Classical.not_not.mp h6
                    have e4 : n = 0 := by omega
                    subst e1; subst e2; subst e3; subst e4
                    exact .inl rfl
    · rw [nextG_two (by omega)] at h
      have := nextG_none (b :: r) (p ++ [n]) (fun x hx => by
        rcases List.mem_append.mp hx with hx | hx
        · exact hp x hx
        · rw [List.mem_singleton] at hx; omega) h
      simpa using this
inductive Ease : List Int → List Stp → List Int → Int → Prop
  | stop {l : List Int} : nextF l = none → Ease l [] l 0
  | go {l : List Int} {w : Wd} {i : Int} {l' : List Int} {h : Int} {ss : List Stp} {e : List Int} {hh : Int} : nextF l = some (w, i) → stepF l w i = some (l', h) → Ease l' ss e hh → Ease l ((w, i) :: ss) e (h + hh)
/-! it comes to an end -/
def ng (x : Int) : Nat := (-x).toNat
def nsum : List Int → Nat
  | [] => 0
  | x :: r => ng x + nsum r
theorem nsum_app (a b : List Int) : nsum (a ++ b) = nsum a + nsum b := by
  induction a with
  | nil => simp [nsum]
  | cons x a ih => rw [List.cons_append, nsum, nsum, ih]; omega
def Wt (l : List Int) : Nat := l.length + nsum l
def ph (l : List Int) : Nat := match nextF l with
  | some (.one, i) => 128 + i.toNat
  | some (.split, i) => 64 + ng (l.getD i.toNat 0)
  | some (.loose, _) => 64
  | _ => 0
def rk (l : List Int) : Nat := Wt l * 192 + ph l
theorem wt_app (p : List Int) (r : List Int) : Wt (p ++ r) = Wt p + Wt r := by
  unfold Wt
  rw [List.length_append, nsum_app]
  omega
theorem wt_cons (x : Int) (r : List Int) : Wt (x :: r) = 1 + ng x + Wt r := by
  unfold Wt
  rw [List.length_cons, nsum]
  omega
theorem wt_nil : Wt [] = 0 := rfl
theorem ph_at {p r : List Int} {n b : Int} (h : ∀ x ∈ p, 2 ≤ x) (hn : n < 2) {w : Wd} (hx : nx p n b r = some w) : nextF (p ++ n :: b :: r) = some (w, (p.length : Int)) ∧ (p ++ n :: b :: r).getD (((p.length : Nat) : Int)).toNat 0 = n := by
  refine ⟨by rw [next_at h hn, hx]; rfl, ?_⟩
  have e : ((p.length : Int)).toNat = p.length := by omega
  rw [e]
  simp
theorem ph_lt {l : List Int} (h : Wt l < 64) : ph l < 192 := by
  unfold ph
  split
  · rename_i i e
    obtain ⟨q, n, b, r, e1, e2, _⟩ := nextG_some l [] (fun _ z => nomatch z) e
    rw [List.nil_append] at e1
    rw [e1, wt_app, wt_cons, wt_cons] at h
    have : q.length ≤ Wt q := by unfold Wt; omega
    omega
  · rename_i i e
    obtain ⟨q, n, b, r, e1, e2, _⟩ := nextG_some l [] (fun _ z => nomatch z) e
    rw [List.nil_append] at e1
    rw [e1, wt_app, wt_cons, wt_cons] at h
    rw [e1, e2, show ((q.length : Nat) : Int).toNat = q.length by omega]
    simp
    omega
  · decide
  · decide
/-- behind a number below 0 -/
theorem ph_neg {p r : List Int} {n : Int} (h : ∀ x ∈ p, 2 ≤ x) (hn : n < 0) : ph (p ++ n :: r) ≤ 64 + ng n := by
  unfold ph
  cases r with
  | nil =>
    have e : nextF (p ++ [n]) = none := by rw [next_pass h, nextG]; exact fun _ _ _ z => by cases z
    rw [e]
    exact Nat.zero_le _
  | cons b r =>
    have hx : nx p n b r = some .less ∨ nx p n b r = some .split := by
      unfold nx
      rw [if_neg (by omega)]
      by_cases e : n = -1
      · rw [if_pos e]; exact .inl rfl
      · rw [if_neg e, if_pos (by omega)]; exact .inr rfl
    rcases hx with hx | hx
    · rw [(ph_at h (by omega) hx).1]
      exact Nat.zero_le _
    · obtain ⟨e1, e2⟩ := ph_at h (by omega) hx
      rw [e1]
      show 64 + ng _ ≤ _
      rw [e2]
      exact Nat.le_refl _
theorem step_down {p r : List Int} {n b : Int} {w : Wd} {l' : List Int} {h : Int} (hp : ∀ x ∈ p, 2 ≤ x) (hn : n < 2) (hx : nx p n b r = some w) (hs : stepN p n b r w = some (l', h)) (hw : Wt (p ++ n :: b :: r) < 64) :
    Wt l' ≤ Wt (p ++ n :: b :: r) ∧ (Wt l' < Wt (p ++ n :: b :: r) ∨ ph l' < ph (p ++ n :: b :: r)) := by
  have hphl := ph_at hp hn hx
  have hw0 := hw
  rw [wt_app, wt_cons, wt_cons] at hw ⊢
  cases w with
  | two => cases hs
  | one =>
    have h1 : n = 1 := by
      simp only [stepN] at hs
      split at hs
      · assumption
      · cases hs
    subst h1
    simp only [stepN, if_pos] at hs
    have hph : ph (p ++ 1 :: b :: r) = 128 + p.length := by
      unfold ph
      rw [hphl.1]
      show 128 + _ = _
      omega
    rcases nil_or p with rfl | ⟨q, a, rfl⟩
    · rw [decL_nil, List.nil_append] at hs
      cases hs
      rw [wt_cons, wt_nil]
      have : ng 1 = 0 := rfl
      by_cases hb : 1 ≤ b
      · have : ng (b - 1) = 0 := by unfold ng; omega
        exact ⟨by omega, .inl (by omega)⟩
      · have h2 : ng (b - 1) = ng b + 1 := by unfold ng; omega
        refine ⟨by omega, .inr ?_⟩
        rw [hph]
        have := ph_neg (p := []) (r := r) (n := b - 1) (fun _ z => nomatch z) (by omega)
        rw [List.nil_append] at this
        omega
    · rw [decL_app] at hs
      cases hs
      have ha := hp a (by simp)
      have hq : ∀ x ∈ q, 2 ≤ x := fun x hx => hp x (by simp [hx])
      have g1 : ng 1 = 0 := rfl
      have g2 : ng a = 0 := by unfold ng; omega
      have g3 : ng (a - 1) = 0 := by unfold ng; omega
      simp only [wt_app, wt_cons, wt_nil, g1, g2, g3] at hw ⊢
      by_cases hb : 1 ≤ b
      · have : ng (b - 1) = 0 := by unfold ng; omega
        exact ⟨by omega, .inl (by omega)⟩
      · have h2 : ng (b - 1) = ng b + 1 := by unfold ng; omega
        refine ⟨by omega, .inr ?_⟩
        rw [hph]
        by_cases ha1 : a - 1 = 1
        · rw [ha1, show q ++ [(1 : Int)] ++ (b - 1) :: r = q ++ 1 :: (b - 1) :: r by simp]
          have e := ph_at (p := q) (r := r) (n := 1) (b := b - 1) hq (by decide) (w := .one) rfl
          have : ph (q ++ 1 :: (b - 1) :: r) = 128 + q.length := by
            unfold ph
            rw [e.1]
            show 128 + _ = _
            omega
          rw [this]
          simp
        · have := ph_neg (p := q ++ [a - 1]) (r := r) (n := b - 1) (fun x hx => by
            rcases List.mem_append.mp hx with hx | hx
            · exact hq x hx
            · rw [List.mem_singleton] at hx; omega) (by omega)
          omega
  | less =>
    have h1 : n = -1 := by
      simp only [stepN] at hs
      split at hs
      · assumption
      · cases hs
    subst h1
    simp only [stepN, if_pos] at hs
    have h3 : ng (b + 1) ≤ ng b := by unfold ng; omega
    have g0 : ng (-1) = 1 := rfl
    rcases nil_or p with rfl | ⟨q, a, rfl⟩
    · rw [decL_nil, List.nil_append] at hs
      cases hs
      rw [wt_cons]
      exact ⟨by omega, .inl (by omega)⟩
    · rw [decL_app] at hs
      cases hs
      have ha := hp a (by simp)
      have g2 : ng a = 0 := by unfold ng; omega
      have g3 : ng (a - -1) = 0 := by unfold ng; omega
      simp only [wt_app, wt_cons, wt_nil, g0, g2, g3] at hw ⊢
      exact ⟨by omega, .inl (by omega)⟩
  | nought =>
    simp only [stepN] at hs
    split at hs
    · rename_i h0
      subst h0
      split at hs
      · rename_i hp0
        subst hp0
        split at hs
        · cases hs
          exact ⟨by omega, .inl (by omega)⟩
        · cases hs
      · rename_i hp0
        rcases nil_or p with rfl | ⟨q, a, rfl⟩
        · exact (hp0 rfl).elim
        · rw [decL_app] at hs
          cases hs
          have ha := hp a (by simp)
          have g2 : ng a = 0 := by unfold ng; omega
          have g3 : ng (a - -b) ≤ ng b := by unfold ng; omega
          simp only [wt_app, wt_cons, wt_nil, g2] at hw ⊢
          exact ⟨by omega, .inl (by omega)⟩
    · cases hs
  | loose =>
    simp only [stepN] at hs
    split at hs
    · rename_i h0
      obtain ⟨rfl, rfl⟩ := h0
      cases hs
      have hb : b ≠ 0 := by
        intro hb
        subst hb
        unfold nx at hx
        simp at hx
      have g0 : ng 0 = 0 := rfl
      rw [wt_cons, wt_cons, g0, wt_nil]
      by_cases hb2 : b < 0
      · have : 0 < ng b := by unfold ng; omega
        exact ⟨by omega, .inl (by omega)⟩
      · refine ⟨by omega, .inr ?_⟩
        have e1 : ph ([] ++ 0 :: b :: r) = 64 := by
          unfold ph
          rw [hphl.1]
        rw [e1]
        have e2 : ph (0 :: 0 :: r) = 0 := by
          unfold ph
          have : nextF (0 :: 0 :: r) = (nx [] 0 0 r).map (·, 0) := nextG_lt (by decide)
          rw [this]
          cases r with
          | nil => rfl
          | cons c r => rfl
        omega
    · cases hs
  | split =>
    simp only [stepN] at hs
    split at hs
    · rename_i h0
      cases hs
      have g1 : ng 1 = 0 := rfl
      have g2 : ng (n + 1) + 1 = ng n := by unfold ng; omega
      have g3 : ng (b + 1) ≤ ng b := by unfold ng; omega
      simp only [wt_app, wt_cons, g1] at hw ⊢
      by_cases hb : ng (b + 1) < ng b
      · exact ⟨by omega, .inl (by omega)⟩
      · refine ⟨by omega, .inr ?_⟩
        have := ph_neg (p := p) (r := 1 :: (b + 1) :: r) (n := n + 1) hp (by omega)
        have e1 : ph (p ++ n :: b :: r) = 64 + ng n := by
          unfold ph
          rw [hphl.1]
          show 64 + ng _ = _
          rw [hphl.2]
        omega
    · cases hs
theorem step_is {p r : List Int} {n b : Int} {w : Wd} (hn : n < 2) (hx : nx p n b r = some w) : ∃ l' h, stepN p n b r w = some (l', h) := by
  unfold nx at hx
  split at hx
  · rename_i h; cases hx; exact ⟨_, _, by simp only [stepN, if_pos h]; rfl⟩
  · split at hx
    · rename_i h; cases hx; exact ⟨_, _, by simp only [stepN, if_pos h]; rfl⟩
    · split at hx
      · rename_i h; cases hx; exact ⟨_, _, by simp only [stepN, if_pos h]; rfl⟩
      · have h0 : n = 0 := by omega
        split at hx
        · rename_i h; cases hx; exact ⟨_, _, by simp only [stepN, if_pos h0, if_neg h]; rfl⟩
        · rename_i hp
          have hp : p = [] := Classical.not_not.mp hp
          split at hx
          · rename_i h; cases hx; exact ⟨_, _, by simp only [stepN]; rw [if_pos ⟨h0, hp⟩]⟩
          · rename_i hb
            have hb : b = 0 := Classical.not_not.mp hb
            split at hx
            · rename_i h; cases hx; exact ⟨_, _, by simp only [stepN, if_pos h0, if_pos hp]; rw [if_pos ⟨hb, h⟩]⟩
            · cases hx
theorem next_step {l : List Int} {w : Wd} {i : Int} (h : nextF l = some (w, i)) (hw : Wt l < 64) : ∃ l' g, stepF l w i = some (l', g) ∧ Wt l' ≤ Wt l ∧ rk l' < rk l := by
  obtain ⟨p, n, b, r, e1, e2, hp, hn, hx⟩ := nextG_some l [] (fun _ z => nomatch z) h
  rw [List.nil_append] at e1
  subst e1
  subst e2
  obtain ⟨l', g, hs⟩ := step_is hn hx
  obtain ⟨h1, h2⟩ := step_down hp hn hx hs hw
  refine ⟨l', g, by rw [stepF_at]; exact hs, h1, ?_⟩
  have := ph_lt (l := l') (by omega)
  unfold rk
  rcases h2 with h2 | h2 <;> omega
theorem ease_ex : ∀ (m : Nat) (l : List Int), rk l ≤ m → Wt l < 64 → ∃ ss e h, Ease l ss e h ∧ ss.length ≤ rk l
  | m, l, hm, hw => by
    cases hx : nextF l with
    | none => exact ⟨_, _, _, .stop hx, Nat.zero_le _⟩
    | some wi =>
      obtain ⟨w, i⟩ := wi
      obtain ⟨l', g, h1, h2, h3⟩ := next_step hx hw
      match m with
      | 0 => omega
      | m + 1 =>
        obtain ⟨ss, e, h, k1, k2⟩ := ease_ex m l' (by omega) (by omega)
        exact ⟨_, _, _, .go hx h1 k1, by rw [List.length_cons]; omega⟩
theorem rk_lt {l : List Int} (h : Wt l < 64) : rk l < 20000 := by
  have := ph_lt h
  unfold rk
  omega
theorem wt_len (l : List Int) : l.length ≤ Wt l := by unfold Wt; omega
end Th

set_option Elab.async false
set_option linter.all false
set_option maxRecDepth 100000
namespace Th
open PySem PySem.Spec PyProof.Rows L2

/-! values of lists -/
def norm (p : Int × Int) : Int × Int := if p.2 = 0 then (1, 0) else if p.2 < 0 then (-p.1, -p.2) else p
def stepV (p : Int × Int) (n : Int) : Int × Int := (n * p.1 - p.2, p.1)
def rawV (ns : List Int) : Int × Int := ns.foldl stepV (1, 0)
def valF (ns : List Int) : Int × Int := norm (rawV ns)
def neg2 (p : Int × Int) : Int × Int := (-p.1, -p.2)
theorem neg2_neg2 (p : Int × Int) : neg2 (neg2 p) = p := by
  unfold neg2
  simp
theorem norm_neg (p : Int × Int) : norm (neg2 p) = norm p := by
  obtain ⟨t, b⟩ := p
  unfold norm neg2
  dsimp only
  by_cases h : b = 0
  · rw [if_pos (show -b = 0 by omega), if_pos h]
  · rw [if_neg (show ¬ -b = 0 by omega), if_neg h]
    by_cases h2 : b < 0
    · rw [if_neg (show ¬ -b < 0 by omega), if_pos h2]
    · rw [if_pos (show -b < 0 by omega), if_neg h2]
      simp
theorem stepV_neg (p : Int × Int) (n : Int) : stepV (neg2 p) n = neg2 (stepV p n) := by
  unfold stepV neg2
  dsimp only
  congr 1
  rw [Int.mul_neg]
  omega
theorem fold_neg : ∀ (ns : List Int) (p : Int × Int), ns.foldl stepV (neg2 p) = neg2 (ns.foldl stepV p)
  | [], _ => rfl
  | n :: ns, p => by rw [List.foldl_cons, List.foldl_cons, stepV_neg, fold_neg ns]
theorem v_one (v : Int × Int) (a b : Int) : stepV (stepV (stepV v a) 1) b = stepV (stepV v (a - 1)) (b - 1) := by
  unfold stepV
  dsimp only
  simp only [Int.sub_mul, Int.mul_sub, Int.one_mul, Int.mul_one]
  congr 1 <;> omega
theorem v_less (v : Int × Int) (a b : Int) : stepV (stepV (stepV v a) (-1)) b = neg2 (stepV (stepV v (a + 1)) (b + 1)) := by
  unfold stepV neg2
  dsimp only
  simp only [Int.sub_mul, Int.mul_sub, Int.one_mul, Int.mul_one, Int.add_mul, Int.mul_add, Int.neg_mul, Int.mul_neg]
  congr 1 <;> omega
theorem v_nought (v : Int × Int) (a b : Int) : stepV (stepV (stepV v a) 0) b = neg2 (stepV v (a + b)) := by
  unfold stepV neg2
  dsimp only
  simp only [Int.sub_mul, Int.mul_sub, Int.one_mul, Int.mul_one, Int.add_mul, Int.mul_add, Int.neg_mul, Int.mul_neg, Int.zero_mul]
  congr 1 <;> omega
theorem step_val {p r : List Int} {n b : Int} {w : Wd} {l' : List Int} {h : Int} (hs : stepN p n b r w = some (l', h)) : valF l' = valF (p ++ n :: b :: r) := by
  have same : ∀ {x y : Int × Int}, (x = y ∨ x = neg2 y) → norm (r.foldl stepV x) = norm (r.foldl stepV y) := fun {x y} z => by
    rcases z with z | z
    · rw [z]
    · rw [z, fold_neg, norm_neg]
  unfold valF rawV
  rw [List.foldl_append, List.foldl_cons, List.foldl_cons]
  cases w with
  | two => cases hs
  | one =>
    simp only [stepN] at hs
    split at hs
    · rename_i h0
      subst h0
      cases hs
      rcases nil_or p with rfl | ⟨q, a, rfl⟩
      · rw [decL_nil, List.nil_append, List.foldl_cons]
        refine same (.inl ?_)
        show ((b - 1) * 1 - 0, (1 : Int)) = (b * (1 * 1 - 0) - 1, 1 * 1 - 0)
        simp
      · rw [decL_app, List.foldl_append, List.foldl_append, List.foldl_append, List.foldl_cons]
        refine same (.inl ?_)
        show stepV (stepV _ (a - 1)) (b - 1) = stepV (stepV (stepV _ a) 1) b
        rw [v_one]
    · cases hs
  | less =>
    simp only [stepN] at hs
    split at hs
    · rename_i h0
      subst h0
      cases hs
      rcases nil_or p with rfl | ⟨q, a, rfl⟩
      · rw [decL_nil, List.nil_append, List.foldl_cons]
        refine same (.inr ?_)
        show ((b + 1) * 1 - 0, (1 : Int)) = (-(b * (-1 * 1 - 0) - 1), -(-1 * 1 - 0))
        simp
        omega
      · rw [decL_app, List.foldl_append, List.foldl_append, List.foldl_append, List.foldl_cons]
        refine same (.inr ?_)
        show stepV (stepV _ (a - -1)) (b + 1) = neg2 (stepV (stepV (stepV _ a) (-1)) b)
        rw [v_less, neg2_neg2, show a - -1 = a + 1 by omega]
    · cases hs
  | nought =>
    simp only [stepN] at hs
    split at hs
    · rename_i h0
      subst h0
      split at hs
      · rename_i hp
        subst hp
        split at hs
        · rename_i hb
          obtain ⟨rfl, _⟩ := hb
          cases hs
          exact same (.inr rfl)
        · cases hs
      · rename_i hp
        rcases nil_or p with rfl | ⟨q, a, rfl⟩
        · exact (hp rfl).elim
        · cases hs
          rw [decL_app, List.foldl_append, List.foldl_append, List.foldl_append]
          refine same (.inr ?_)
          show stepV _ (a - -b) = neg2 (stepV (stepV (stepV _ a) 0) b)
          rw [v_nought, neg2_neg2, show a - -b = a + b by omega]
    · cases hs
  | loose =>
    simp only [stepN] at hs
    split at hs
    · rename_i h0
      obtain ⟨rfl, rfl⟩ := h0
      cases hs
      rw [List.foldl_cons, List.foldl_cons]
      refine same (.inl ?_)
      show ((0 : Int) * (0 * 1 - 0) - 1, (0 : Int) * 1 - 0) = (b * (0 * 1 - 0) - 1, 0 * 1 - 0)
      simp
    · cases hs
  | split =>
    simp only [stepN] at hs
    split at hs
    · cases hs
      rw [List.foldl_append, List.foldl_cons, List.foldl_cons, List.foldl_cons]
      refine same (.inl ?_)
      rw [v_one, show n + 1 - 1 = n by omega, show b + 1 - 1 = b by omega]
    · cases hs
/-- the least number not below t by b -/
def up (t b : Int) : Int := -((-t) / b)
theorem up_rest (t b : Int) : up t b * b - t = (-t) % b := by
  have := Int.mul_ediv_add_emod (-t) b
  unfold up
  rw [Int.neg_mul, Int.mul_comm]
  omega
def ll (t b : Int) : List Int := if 0 < b then up t b :: ll b (up t b * b - t) else []
termination_by b.toNat
decreasing_by
  rename_i h
  rw [up_rest]
  have h1 := Int.emod_nonneg (-t) (show b ≠ 0 by omega)
  have h2 := Int.emod_lt_of_pos (-t) h
  omega
theorem ll_pos {t b : Int} (h : 0 < b) : ll t b = up t b :: ll b (up t b * b - t) := by rw [ll, if_pos h]
theorem ll_zero {t b : Int} (h : ¬ 0 < b) : ll t b = [] := by rw [ll, if_neg h]
theorem rest_lt {t b : Int} (h : 0 < b) : 0 ≤ up t b * b - t ∧ up t b * b - t < b := by
  rw [up_rest]
  exact ⟨Int.emod_nonneg _ (by omega), Int.emod_lt_of_pos _ h⟩
def leastF (p : Int × Int) : List Int := if p.2 = 0 then [0, 0] else (ll p.1 p.2).reverse
theorem up_is {n t s : Int} (h0 : 0 ≤ s) (h1 : s < t) : up (n * t - s) t = n := by
  unfold up
  have : -(n * t - s) = s + t * (-n) := by rw [Int.mul_neg, Int.mul_comm]; omega
  rw [this, Int.add_mul_ediv_left _ _ (by omega), Int.ediv_eq_zero_of_lt h0 h1]
  omega
/-- of numbers from 2 on -/
theorem two_raw : ∀ q : List Int, (∀ x ∈ q, 2 ≤ x) → 0 ≤ (rawV q).2 ∧ (rawV q).2 < (rawV q).1 ∧ ll (rawV q).1 (rawV q).2 = q.reverse := by
  intro q
  have key : ∀ (m : Nat) (q : List Int), q.length ≤ m → (∀ x ∈ q, 2 ≤ x) → 0 ≤ (rawV q).2 ∧ (rawV q).2 < (rawV q).1 ∧ ll (rawV q).1 (rawV q).2 = q.reverse := by
    intro m
    induction m with
    | zero =>
      intro q hq _
      have : q = [] := List.length_eq_zero_iff.mp (by omega)
      subst this
      exact ⟨by decide, by decide, ll_zero (by decide)⟩
    | succ m ih =>
      intro q hq h
      rcases nil_or q with rfl | ⟨q, a, rfl⟩
      · exact ⟨by decide, by decide, ll_zero (by decide)⟩
      · rw [List.length_append, List.length_singleton] at hq
        obtain ⟨h1, h2, h3⟩ := ih q (by omega) fun x hx => h x (by simp [hx])
        have ha := h a (by simp)
        have e : rawV (q ++ [a]) = stepV (rawV q) a := by unfold rawV; rw [List.foldl_append]; rfl
        rw [e]
        generalize rawV q = v at *
        obtain ⟨t, s⟩ := v
        dsimp only at h1 h2 h3
        show 0 ≤ t ∧ t < a * t - s ∧ ll (a * t - s) t = _
        have h4 : 2 * t ≤ a * t := Int.mul_le_mul_of_nonneg_right ha (by omega)
        refine ⟨by omega, by omega, ?_⟩
        rw [ll_pos (by omega), up_is h1 h2, show a * t - (a * t - s) = s by omega, h3]
        simp
  exact key q.length q (Nat.le_refl _)
theorem least_val {e : List Int} (h : e = [0, 0] ∨ (e ≠ [] ∧ ∀ x ∈ e.dropLast, 2 ≤ x)) : leastF (valF e) = e := by
  rcases h with rfl | ⟨h1, h2⟩
  · rfl
  · rcases nil_or e with rfl | ⟨q, a, rfl⟩
    · exact (h1 rfl).elim
    · obtain ⟨k1, k2, k3⟩ := two_raw q (by simpa using h2)
      have e : rawV (q ++ [a]) = stepV (rawV q) a := by unfold rawV; rw [List.foldl_append]; rfl
      unfold valF
      rw [e]
      generalize rawV q = v at *
      obtain ⟨t, s⟩ := v
      dsimp only at k1 k2 k3
      have : norm (stepV (t, s) a) = (a * t - s, t) := by
        unfold norm stepV
        dsimp only
        rw [if_neg (by omega), if_neg (by omega)]
      rw [this]
      unfold leastF
      dsimp only
      rw [if_neg (by omega), ll_pos (by omega), up_is k1 k2, show a * t - (a * t - s) = s by omega, k3]
      simp
def Lst (e : List Int) : Prop := e = [0, 0] ∨ (e ≠ [] ∧ ∀ x ∈ e.dropLast, 2 ≤ x)
theorem stepF_val {l l' : List Int} {w : Wd} {i h : Int} (hs : stepF l w i = some (l', h)) : valF l' = valF l := by
  have hs0 := hs
  unfold stepF at hs
  split at hs
  · rename_i hi
    have := split_at (l := l) (i := i.toNat) (by omega)
    conv => rhs; rw [this.1]
    exact step_val hs
  · cases hs
theorem step_ne {p r : List Int} {n b : Int} {w : Wd} {l' : List Int} {h : Int} (hs : stepN p n b r w = some (l', h)) : l' ≠ [] := by
  cases w with
  | two => cases hs
  | one => simp only [stepN] at hs; split at hs <;> cases hs; simp
  | less => simp only [stepN] at hs; split at hs <;> cases hs; simp
  | nought =>
    simp only [stepN] at hs
    split at hs
    · split at hs
      · split at hs
        · rename_i h; cases hs; exact h.2
        · cases hs
      · rename_i hp
        cases hs
        rcases nil_or p with rfl | ⟨q, a, rfl⟩
        · exact (hp rfl).elim
        · rw [decL_app]; simp
    · cases hs
  | loose => simp only [stepN] at hs; split at hs <;> cases hs; simp
  | split => simp only [stepN] at hs; split at hs <;> cases hs; simp
theorem stepF_ne {l l' : List Int} {w : Wd} {i h : Int} (hs : stepF l w i = some (l', h)) : l' ≠ [] := by
  unfold stepF at hs
  split at hs
  · exact step_ne hs
  · cases hs
theorem ease_lst {l : List Int} {ss : List Stp} {e : List Int} {h : Int} (E : Ease l ss e h) : l ≠ [] → Lst e ∧ valF e = valF l := by
  induction E with
  | @stop l hn =>
    intro h0
    refine ⟨?_, rfl⟩
    rcases nextG_none l [] (fun _ z => nomatch z) hn with h | h
    · exact .inl h
    · exact .inr ⟨h0, h⟩
  | go hn hs _ ih =>
    intro _
    obtain ⟨h1, h2⟩ := ih (stepF_ne hs)
    exact ⟨h1, h2.trans (stepF_val hs)⟩
theorem ease_wt {l : List Int} {ss : List Stp} {e : List Int} {h : Int} (E : Ease l ss e h) : Wt l < 64 → Wt e ≤ Wt l := by
  induction E with
  | stop => intro _; exact Nat.le_refl _
  | go hn hs _ ih =>
    intro hw
    obtain ⟨l2, g, k1, k2, _⟩ := next_step hn hw
    rw [hs] at k1
    cases k1
    have := ih (by omega)
    omega
/-- it is told alone by its value -/
theorem ease_least {l : List Int} {ss : List Stp} {e : List Int} {h : Int} (E : Ease l ss e h) (hl : l ≠ []) : leastF (valF l) = e := by
  obtain ⟨h1, h2⟩ := ease_lst E hl
  rw [← h2]
  exact least_val h1
theorem lst_next {e : List Int} (h : Lst e) : nextF e = none := by
  rcases h with rfl | ⟨h1, h2⟩
  · rfl
  · rcases nil_or e with rfl | ⟨q, a, rfl⟩
    · rfl
    · rw [next_pass (by simpa using h2), nextG]
      exact fun _ _ _ z => by cases z
end Th

set_option Elab.async false
set_option linter.all false
set_option maxRecDepth 100000
namespace Th
open PySem PySem.Spec PyProof.Rows L2

/-! sums of lists of twists, by their numbers -/
abbrev Fn := Int → Int
abbrev F2 := Fn × Fn
def hU (v : F2) : F2 := (fun k => v.1 (k + 1), fun k => v.1 (k - 1) - v.2 (k - 3))
def hD (v : F2) : F2 := (fun k => v.1 (k - 1), fun k => v.1 (k + 1) - v.2 (k + 3))
def sw (v : F2) : F2 := (v.2, v.1)
def itr (f : F2 → F2) : Nat → F2 → F2
  | 0, v => v
  | n + 1, v => f (itr f n v)
def tw (n : Int) (v : F2) : F2 := if 0 ≤ n then itr hU n.toNat v else itr hD (-n).toNat v
theorem f2_ext {u v : F2} (h1 : ∀ k, u.1 k = v.1 k) (h2 : ∀ k, u.2 k = v.2 k) : u = v := Prod.ext (funext h1) (funext h2)
theorem fcg (f : Fn) {a b : Int} (h : a = b) : f a = f b := congrArg f h
theorem hU_hD (v : F2) : hU (hD v) = v := f2_ext (fun k => fcg v.1 (show k + 1 - 1 = k by omega)) fun k => by
  show v.1 (k - 1 - 1) - (v.1 (k - 3 + 1) - v.2 (k - 3 + 3)) = v.2 k
  rw [show k - 3 + 1 = k - 1 - 1 by omega, show k - 3 + 3 = k by omega]
  omega
theorem hD_hU (v : F2) : hD (hU v) = v := f2_ext (fun k => fcg v.1 (show k - 1 + 1 = k by omega)) fun k => by
  show v.1 (k + 1 + 1) - (v.1 (k + 3 - 1) - v.2 (k + 3 - 3)) = v.2 k
  rw [show k + 3 - 1 = k + 1 + 1 by omega, show k + 3 - 3 = k by omega]
  omega
theorem itr_in (f : F2 → F2) (n : Nat) (v : F2) : itr f n (f v) = f (itr f n v) := by
  induction n with
  | zero => rfl
  | succ n ih => exact congrArg f ih
theorem tw_up (n : Int) (v : F2) : tw (n + 1) v = hU (tw n v) := by
  unfold tw
  by_cases h : 0 ≤ n
  · rw [if_pos (by omega), if_pos h, show (n + 1).toNat = n.toNat + 1 by omega]
    rfl
  · rw [if_neg h]
    by_cases h2 : n = -1
    · subst h2
      show v = hU (hD v)
      rw [hU_hD]
    · rw [if_neg (by omega), show (-n).toNat = (-(n + 1)).toNat + 1 by omega]
      show _ = hU (hD _)
      rw [hU_hD]
theorem tw_dn (n : Int) (v : F2) : tw (n - 1) v = hD (tw n v) := by
  have := tw_up (n - 1) v
  rw [show n - 1 + 1 = n by omega] at this
  rw [this, hD_hU]
theorem tw_zero (v : F2) : tw 0 v = v := rfl
theorem tw_add (a b : Int) (v : F2) : tw (a + b) v = tw a (tw b v) := by
  have up : ∀ (n : Nat), tw ((n : Int) + b) v = tw n (tw b v) := fun n => by
    induction n with
    | zero => show tw (0 + b) v = tw b v; rw [show 0 + b = b by omega]
    | succ n ih => rw [show ((n + 1 : Nat) : Int) + b = (n : Int) + b + 1 by omega, tw_up, ih, ← tw_up]; rfl
  have dn : ∀ (n : Nat), tw (-(n : Int) + b) v = tw (-(n : Int)) (tw b v) := fun n => by
    induction n with
    | zero => show tw (0 + b) v = tw b v; rw [show 0 + b = b by omega]
    | succ n ih => rw [show -((n + 1 : Nat) : Int) + b = -(n : Int) + b - 1 by omega, tw_dn, ih, ← tw_dn, show -((n + 1 : Nat) : Int) = -(n : Int) - 1 by omega]
  by_cases h : 0 ≤ a
  · have := up a.toNat
    rwa [show ((a.toNat : Nat) : Int) = a by omega] at this
  · have := dn (-a).toNat
    rwa [show -(((-a).toNat : Nat) : Int) = a by omega] at this
/-- times -x^3, h times -/
def sg (h : Int) : Int := 1 - 2 * (h % 2)
def rz (h : Int) (v : F2) : F2 := (fun k => sg h * v.1 (k - 3 * h), fun k => sg h * v.2 (k - 3 * h))
theorem sg_add (a b : Int) : sg (a + b) = sg a * sg b := by
  unfold sg
  have h1 : a % 2 = 0 ∨ a % 2 = 1 := by omega
  have h2 : b % 2 = 0 ∨ b % 2 = 1 := by omega
  rcases h1 with h1 | h1 <;> rcases h2 with h2 | h2
  · rw [h1, h2, show (a + b) % 2 = 0 by omega]; rfl
  · rw [h1, h2, show (a + b) % 2 = 1 by omega]; rfl
  · rw [h1, h2, show (a + b) % 2 = 1 by omega]; rfl
  · rw [h1, h2, show (a + b) % 2 = 0 by omega]; rfl
theorem rz_add (a b : Int) (v : F2) : rz (a + b) v = rz a (rz b v) := f2_ext
  (fun k => by show sg (a + b) * v.1 _ = sg a * (sg b * v.1 _); rw [sg_add, Int.mul_assoc, show k - 3 * (a + b) = k - 3 * a - 3 * b by omega])
  (fun k => by show sg (a + b) * v.2 _ = sg a * (sg b * v.2 _); rw [sg_add, Int.mul_assoc, show k - 3 * (a + b) = k - 3 * a - 3 * b by omega])
theorem rz_zero (v : F2) : rz 0 v = v := f2_ext (fun k => by show 1 * v.1 _ = _; rw [Int.one_mul, show k - 3 * 0 = k by omega]) (fun k => by show 1 * v.2 _ = _; rw [Int.one_mul, show k - 3 * 0 = k by omega])
theorem rz_sw (h : Int) (v : F2) : rz h (sw v) = sw (rz h v) := rfl
theorem rz_hU (h : Int) (v : F2) : hU (rz h v) = rz h (hU v) := f2_ext
  (fun k => by show sg h * v.1 _ = sg h * v.1 _; rw [show k + 1 - 3 * h = k - 3 * h + 1 by omega])
  (fun k => by show sg h * v.1 _ - sg h * v.2 _ = sg h * (v.1 _ - v.2 _); rw [Int.mul_sub, show k - 1 - 3 * h = k - 3 * h - 1 by omega, show k - 3 - 3 * h = k - 3 * h - 3 by omega])
theorem rz_hD (h : Int) (v : F2) : hD (rz h v) = rz h (hD v) := f2_ext
  (fun k => by show sg h * v.1 _ = sg h * v.1 _; rw [show k - 1 - 3 * h = k - 3 * h - 1 by omega])
  (fun k => by show sg h * v.1 _ - sg h * v.2 _ = sg h * (v.1 _ - v.2 _); rw [Int.mul_sub, show k + 1 - 3 * h = k - 3 * h + 1 by omega, show k + 3 - 3 * h = k - 3 * h + 3 by omega])
theorem rz_itr {f : F2 → F2} {h : Int} (hf : ∀ v, f (rz h v) = rz h (f v)) (n : Nat) (v : F2) : itr f n (rz h v) = rz h (itr f n v) := by
  induction n with
  | zero => rfl
  | succ n ih => show f _ = _; rw [ih, hf]; rfl
theorem rz_tw (h n : Int) (v : F2) : tw n (rz h v) = rz h (tw n v) := by
  unfold tw
  split
  · exact rz_itr (rz_hU h) _ _
  · exact rz_itr (rz_hD h) _ _
def stT (v : F2) (n : Int) : F2 := tw n (sw v)
def dl : Fn := fun k => if k = 0 then 1 else 0
def v0 : F2 := (fun _ => 0, dl)
def sumV (l : List Int) : F2 := l.foldl stT v0
theorem stT_rz (h n : Int) (v : F2) : stT (rz h v) n = rz h (stT v n) := rz_tw h n (sw v)
theorem fold_rz (h : Int) : ∀ (l : List Int) (v : F2), l.foldl stT (rz h v) = rz h (l.foldl stT v)
  | [], _ => rfl
  | n :: l, v => by rw [List.foldl_cons, List.foldl_cons, stT_rz, fold_rz h l]
theorem three_up (v : F2) : hU (sw (hU (sw (hU v)))) = rz 1 (sw v) := f2_ext
  (fun k => by
    show (v.1 (k + 1 - 1 - 1) - v.2 (k + 1 - 1 - 3)) - v.1 (k + 1 - 3 + 1) = (1 - 2 * (1 % 2)) * v.2 (k - 3 * 1)
    rw [fcg v.1 (show k + 1 - 1 - 1 = k - 1 by omega), fcg v.2 (show k + 1 - 1 - 3 = k - 3 by omega), fcg v.1 (show k + 1 - 3 + 1 = k - 1 by omega), fcg v.2 (show k - 3 * 1 = k - 3 by omega)]
    omega)
  (fun k => by
    show ((v.1 (k - 1 - 1 - 1) - v.2 (k - 1 - 1 - 3)) - v.1 (k - 1 - 3 + 1)) - (v.1 (k - 3 + 1 - 1) - v.2 (k - 3 + 1 - 3)) = (1 - 2 * (1 % 2)) * v.1 (k - 3 * 1)
    rw [fcg v.1 (show k - 1 - 1 - 1 = k - 3 by omega), fcg v.2 (show k - 1 - 1 - 3 = k - 5 by omega), fcg v.1 (show k - 1 - 3 + 1 = k - 3 by omega), fcg v.1 (show k - 3 + 1 - 1 = k - 3 by omega), fcg v.2 (show k - 3 + 1 - 3 = k - 5 by omega), fcg v.1 (show k - 3 * 1 = k - 3 by omega)]
    omega)
theorem three_dn (v : F2) : hD (sw (hD (sw (hD v)))) = rz (-1) (sw v) := f2_ext
  (fun k => by
    show (v.1 (k - 1 + 1 + 1) - v.2 (k - 1 + 1 + 3)) - v.1 (k - 1 + 3 - 1) = (1 - 2 * (-1 % 2)) * v.2 (k - 3 * -1)
    rw [fcg v.1 (show k - 1 + 1 + 1 = k + 1 by omega), fcg v.2 (show k - 1 + 1 + 3 = k + 3 by omega), fcg v.1 (show k - 1 + 3 - 1 = k + 1 by omega), fcg v.2 (show k - 3 * -1 = k + 3 by omega)]
    omega)
  (fun k => by
    show ((v.1 (k + 1 + 1 + 1) - v.2 (k + 1 + 1 + 3)) - v.1 (k + 1 + 3 - 1)) - (v.1 (k + 3 - 1 + 1) - v.2 (k + 3 - 1 + 3)) = (1 - 2 * (-1 % 2)) * v.1 (k - 3 * -1)
    rw [fcg v.1 (show k + 1 + 1 + 1 = k + 3 by omega), fcg v.2 (show k + 1 + 1 + 3 = k + 5 by omega), fcg v.1 (show k + 1 + 3 - 1 = k + 3 by omega), fcg v.1 (show k + 3 - 1 + 1 = k + 3 by omega), fcg v.2 (show k + 3 - 1 + 3 = k + 5 by omega), fcg v.1 (show k - 3 * -1 = k + 3 by omega)]
    omega)
theorem sw_sw (v : F2) : sw (sw v) = v := rfl
theorem tw_in (n : Int) (v : F2) : tw n (hU v) = hU (tw n v) := by
  rw [← tw_up]
  exact (tw_add n 1 v).symm
theorem tw_inD (n : Int) (v : F2) : tw n (hD v) = hD (tw n v) := by
  rw [← tw_dn]
  exact (tw_add n (-1) v).symm
theorem s_one (v : F2) (a b : Int) : stT (stT (stT v a) 1) b = rz 1 (stT (stT v (a - 1)) (b - 1)) := by
  unfold stT
  have h1 : tw a (sw v) = hU (tw (a - 1) (sw v)) := by rw [← tw_up, show a - 1 + 1 = a by omega]
  have h2 : ∀ u, tw b u = tw (b - 1) (hU u) := fun u => by rw [tw_in, ← tw_up, show b - 1 + 1 = b by omega]
  rw [h1, h2, show ∀ u, tw 1 u = hU u from fun u => rfl, three_up, rz_tw]
theorem s_less (v : F2) (a b : Int) : stT (stT (stT v a) (-1)) b = rz (-1) (stT (stT v (a + 1)) (b + 1)) := by
  unfold stT
  have h1 : tw a (sw v) = hD (tw (a + 1) (sw v)) := by rw [← tw_dn, show a + 1 - 1 = a by omega]
  have h2 : ∀ u, tw b u = tw (b + 1) (hD u) := fun u => by rw [tw_inD, ← tw_dn, show b + 1 - 1 = b by omega]
  rw [h1, h2, show ∀ u, tw (-1) u = hD u from fun u => rfl, three_dn, rz_tw]
theorem s_nought (v : F2) (a b : Int) : stT (stT (stT v a) 0) b = stT v (a + b) := by
  unfold stT
  rw [tw_zero, sw_sw, ← tw_add, show b + a = a + b by omega]
theorem up_v0 : hU v0 = rz 1 v0 := f2_ext (fun k => by show (0 : Int) = _ * 0; rw [Int.mul_zero]) (fun k => by
  show (0 : Int) - dl (k - 3) = (1 - 2 * (1 % 2)) * dl (k - 3 * 1)
  rw [fcg dl (show k - 3 * 1 = k - 3 by omega)]
  omega)
theorem dn_v0 : hD v0 = rz (-1) v0 := f2_ext (fun k => by show (0 : Int) = _ * 0; rw [Int.mul_zero]) (fun k => by
  show (0 : Int) - dl (k + 3) = (1 - 2 * (-1 % 2)) * dl (k - 3 * -1)
  rw [fcg dl (show k - 3 * -1 = k + 3 by omega)]
  omega)
theorem tw_v0 (b : Int) : tw b v0 = rz b v0 := by
  have up : ∀ n : Nat, tw n v0 = rz n v0 := fun n => by
    induction n with
    | zero => exact (rz_zero v0).symm
    | succ n ih => rw [show ((n + 1 : Nat) : Int) = (n : Int) + 1 by omega, tw_up, ih, rz_hU, up_v0, ← rz_add]
  have dn : ∀ n : Nat, tw (-(n : Int)) v0 = rz (-(n : Int)) v0 := fun n => by
    induction n with
    | zero => exact (rz_zero v0).symm
    | succ n ih => rw [show -((n + 1 : Nat) : Int) = -(n : Int) - 1 by omega, tw_dn, ih, rz_hD, dn_v0, ← rz_add]; rfl
  by_cases h : 0 ≤ b
  · have := up b.toNat
    rwa [show ((b.toNat : Nat) : Int) = b by omega] at this
  · have := dn (-b).toNat
    rwa [show -(((-b).toNat : Nat) : Int) = b by omega] at this
theorem one_v0 (b : Int) : stT (stT v0 1) b = stT v0 (b - 1) := by
  have e : hU (sw (hU (sw v0))) = sw v0 := f2_ext (fun k => by
    show dl (k + 1 - 1) - 0 = dl k
    rw [fcg dl (show k + 1 - 1 = k by omega)]
    omega) (fun k => by
    show (dl (k - 1 - 1) - 0) - dl (k - 3 + 1) = 0
    rw [fcg dl (show k - 1 - 1 = k - 2 by omega), fcg dl (show k - 3 + 1 = k - 2 by omega)]
    omega)
  unfold stT
  have h2 : ∀ u, tw b u = tw (b - 1) (hU u) := fun u => by rw [tw_in, ← tw_up, show b - 1 + 1 = b by omega]
  rw [h2, show ∀ u, tw 1 u = hU u from fun u => rfl, e]
theorem less_v0 (b : Int) : stT (stT v0 (-1)) b = stT v0 (b + 1) := by
  have e : hD (sw (hD (sw v0))) = sw v0 := f2_ext (fun k => by
    show dl (k - 1 + 1) - 0 = dl k
    rw [fcg dl (show k - 1 + 1 = k by omega)]
    omega) (fun k => by
    show (dl (k + 1 + 1) - 0) - dl (k + 3 - 1) = 0
    rw [fcg dl (show k + 1 + 1 = k + 2 by omega), fcg dl (show k + 3 - 1 = k + 2 by omega)]
    omega)
  unfold stT
  have h2 : ∀ u, tw b u = tw (b + 1) (hD u) := fun u => by rw [tw_inD, ← tw_dn, show b + 1 - 1 = b by omega]
  rw [h2, show ∀ u, tw (-1) u = hD u from fun u => rfl, e]
theorem step_sum {p r : List Int} {n b : Int} {w : Wd} {l' : List Int} {h : Int} (hs : stepN p n b r w = some (l', h)) : sumV (p ++ n :: b :: r) = rz h (sumV l') := by
  have same : ∀ {x y : F2} {h : Int}, x = rz h y → r.foldl stT x = rz h (r.foldl stT y) := fun {x y h} z => by rw [z, fold_rz]
  have id0 : ∀ {x y : F2}, x = y → r.foldl stT x = rz 0 (r.foldl stT y) := fun {x y} z => by rw [z, rz_zero]
  unfold sumV
  rw [List.foldl_append, List.foldl_cons, List.foldl_cons]
  cases w with
  | two => cases hs
  | one =>
    simp only [stepN] at hs
    split at hs
    · rename_i h0
      subst h0
      cases hs
      rcases nil_or p with rfl | ⟨q, a, rfl⟩
      · rw [decL_nil, List.nil_append, List.foldl_cons]
        exact id0 (one_v0 b)
      · rw [decL_app, List.foldl_append, List.foldl_append, List.foldl_append, List.foldl_cons, if_neg (by simp)]
        exact same (s_one _ a b)
    · cases hs
  | less =>
    simp only [stepN] at hs
    split at hs
    · rename_i h0
      subst h0
      cases hs
      rcases nil_or p with rfl | ⟨q, a, rfl⟩
      · rw [decL_nil, List.nil_append, List.foldl_cons]
        exact id0 (less_v0 b)
      · rw [decL_app, List.foldl_append, List.foldl_append, List.foldl_append, List.foldl_cons, if_neg (by simp), show a - -1 = a + 1 by omega]
        exact same (s_less _ a b)
    · cases hs
  | nought =>
    simp only [stepN] at hs
    split at hs
    · rename_i h0
      subst h0
      split at hs
      · rename_i hp
        subst hp
        split at hs
        · rename_i hb
          obtain ⟨rfl, _⟩ := hb
          cases hs
          exact id0 rfl
        · cases hs
      · rename_i hp
        rcases nil_or p with rfl | ⟨q, a, rfl⟩
        · exact (hp rfl).elim
        · cases hs
          rw [decL_app, List.foldl_append, List.foldl_append, List.foldl_append, show a - -b = a + b by omega]
          exact id0 (s_nought _ a b)
    · cases hs
  | loose =>
    simp only [stepN] at hs
    split at hs
    · rename_i h0
      obtain ⟨rfl, rfl⟩ := h0
      cases hs
      rw [List.foldl_cons, List.foldl_cons]
      exact same (tw_v0 _)
    · cases hs
  | split =>
    simp only [stepN] at hs
    split at hs
    · cases hs
      rw [List.foldl_append, List.foldl_cons, List.foldl_cons, List.foldl_cons]
      refine same ?_
      rw [s_one, show n + 1 - 1 = n by omega, show b + 1 - 1 = b by omega, ← rz_add]
      exact (rz_zero _).symm
    · cases hs
theorem stepF_sum {l l' : List Int} {w : Wd} {i h : Int} (hs : stepF l w i = some (l', h)) : sumV l = rz h (sumV l') := by
  unfold stepF at hs
  split at hs
  · rename_i hi
    have := split_at (l := l) (i := i.toNat) (by omega)
    conv => lhs; rw [this.1]
    exact step_sum hs
  · cases hs
theorem ease_sum {l : List Int} {ss : List Stp} {e : List Int} {h : Int} (E : Ease l ss e h) : sumV l = rz h (sumV e) := by
  induction E with
  | stop => exact (rz_zero _).symm
  | go hn hs _ ih => rw [stepF_sum hs, ih, ← rz_add]

/-! .. as the program reckons them -/
abbrev P2 := List Tm × List Tm
def halfT (way : Int) (v : P2) : P2 := (liftT (-way) v.1, gat (liftT way v.1 ++ negT (liftT (3 * way) v.2)))
def halfs (way : Int) : Nat → P2 → P2
  | 0, v => v
  | n + 1, v => halfT way (halfs way n v)
def cf2 (v : P2) : F2 := (cf v.1, cf v.2)
def Can2 (v : P2) : Prop := Can v.1 ∧ Can v.2
theorem cf_up (v : P2) : cf2 (halfT 1 v) = hU (cf2 v) := f2_ext
  (fun k => by show cf (liftT (-1) v.1) k = cf v.1 (k + 1); rw [cf_lift]; congr 1)
  (fun k => by show cf (gat _) k = cf v.1 (k - 1) - cf v.2 (k - 3); rw [gat_cf, cf_app, cf_neg, cf_lift, cf_lift]; show cf v.1 (k - 1) + -cf v.2 (k - 3) = _; omega)
theorem cf_dn (v : P2) : cf2 (halfT (-1) v) = hD (cf2 v) := f2_ext
  (fun k => by show cf (liftT 1 v.1) k = cf v.1 (k - 1); rw [cf_lift])
  (fun k => by show cf (gat _) k = cf v.1 (k + 1) - cf v.2 (k + 3); rw [gat_cf, cf_app, cf_neg, cf_lift, cf_lift]; show cf v.1 (k + 1) + -cf v.2 (k + 3) = _; omega)
theorem can_half {way : Int} {v : P2} (h : Can2 v) : Can2 (halfT way v) := ⟨lift_can h.1, gat_can _⟩
theorem can_halfs {way : Int} {v : P2} (h : Can2 v) : ∀ n, Can2 (halfs way n v)
  | 0 => h
  | n + 1 => can_half (can_halfs h n)
def wayOf (n : Int) : Int := if decide (0 < n) = true then 1 else -1
theorem cf_halfs (n : Int) (v : P2) : cf2 (halfs (wayOf n) n.natAbs v) = tw n (cf2 v) := by
  have up : ∀ m, cf2 (halfs 1 m v) = itr hU m (cf2 v) := fun m => by
    induction m with
    | zero => rfl
    | succ m ih => show cf2 (halfT 1 _) = _; rw [cf_up, ih]; rfl
  have dn : ∀ m, cf2 (halfs (-1) m v) = itr hD m (cf2 v) := fun m => by
    induction m with
    | zero => rfl
    | succ m ih => show cf2 (halfT (-1) _) = _; rw [cf_dn, ih]; rfl
  unfold tw wayOf
  by_cases h : 0 < n
  · rw [if_pos (decide_eq_true h), if_pos (by omega), show n.natAbs = n.toNat by omega]
    exact up _
  · rw [if_neg (by rw [decide_eq_false h]; decide)]
    by_cases h0 : n = 0
    · subst h0; rfl
    · rw [if_neg (by omega), show n.natAbs = (-n).toNat by omega]
      exact dn _
def sw2 (v : P2) : P2 := (v.2, v.1)
def stP (v : P2) (n : Int) : P2 := halfs (wayOf n) n.natAbs (sw2 v)
def p0 : P2 := ([], [(0, 1)])
def sumP (l : List Int) : P2 := l.foldl stP p0
theorem can_p0 : Can2 p0 := ⟨⟨.nil, fun _ z => nomatch z⟩, ⟨List.pairwise_singleton _ _, fun t ht => by
  have ht : t = (0, 1) := List.mem_singleton.mp ht
  subst ht; decide⟩⟩
theorem cf_fold : ∀ (l : List Int) (v : P2), Can2 v → cf2 (l.foldl stP v) = l.foldl stT (cf2 v) ∧ Can2 (l.foldl stP v)
  | [], _, h => ⟨rfl, h⟩
  | n :: l, v, h => by
    rw [List.foldl_cons, List.foldl_cons]
    have e : cf2 (stP v n) = stT (cf2 v) n := cf_halfs n (sw2 v)
    rw [← e]
    exact cf_fold l _ (can_halfs ⟨h.2, h.1⟩ _)
theorem cf_p0 : cf2 p0 = v0 := f2_ext (fun _ => rfl) (fun k => by
  show (if (0 : Int) = k then 1 else 0) + 0 = dl k
  unfold dl
  by_cases h : k = 0
  · subst h; rfl
  · rw [if_neg (fun z => h z.symm), if_neg h]; rfl)
theorem sumP_cf (l : List Int) : cf2 (sumP l) = sumV l := by
  have := (cf_fold l p0 can_p0).1
  rw [cf_p0] at this
  exact this
theorem sumP_can (l : List Int) : Can2 (sumP l) := (cf_fold l p0 can_p0).2
/-- the law's way to lift -/
def raiseT (h : Int) (a : List Tm) : List Tm := a.map fun t => (t.1 + 3 * h, t.2 * (1 - 2 * (h % 2)))
theorem cf_raise (h : Int) (a : List Tm) (k : Int) : cf (raiseT h a) k = sg h * cf a (k - 3 * h) := by
  induction a with
  | nil => show (0 : Int) = _ * 0; rw [Int.mul_zero]
  | cons t a ih =>
    show (if t.1 + 3 * h = k then t.2 * (1 - 2 * (h % 2)) else 0) + cf (raiseT h a) k = sg h * ((if t.1 = k - 3 * h then t.2 else 0) + cf a (k - 3 * h))
    rw [ih, Int.mul_add]
    by_cases e : t.1 + 3 * h = k
    · rw [if_pos e, if_pos (by omega), Int.mul_comm]
      rfl
    · rw [if_neg e, if_neg (by omega), Int.mul_zero]
theorem sg_ne (h : Int) : sg h ≠ 0 := by unfold sg; omega
theorem raise_can {h : Int} {a : List Tm} (c : Can a) : Can (raiseT h a) := by
  refine ⟨?_, fun t ht => ?_⟩
  · unfold raiseT
    rw [List.map_map, List.pairwise_map]
    exact (List.pairwise_map.mp c.1).imp fun {a b} (z : a.1 < b.1) => (show a.1 + 3 * h < b.1 + 3 * h by omega)
  · obtain ⟨u, hu, rfl⟩ := List.mem_map.mp ht
    exact Int.mul_ne_zero (c.2 u hu) (sg_ne h)
theorem sums_alike {l m e : List Int} {ss ts : List Stp} {h g : Int} (E : Ease l ss e h) (E2 : Ease m ts e g) : sumP l = (raiseT (h - g) (sumP m).1, raiseT (h - g) (sumP m).2) := by
  have h1 := ease_sum E
  have h2 := ease_sum E2
  have h3 : sumV l = rz (h - g) (sumV m) := by rw [h1, h2, ← rz_add, show h - g + g = h by omega]
  rw [← sumP_cf, ← sumP_cf] at h3
  have c1 := sumP_can l
  have c2 := sumP_can m
  refine Prod.ext (can_ext c1.1 (raise_can c2.1) fun k => ?_) (can_ext c1.2 (raise_can c2.2) fun k => ?_)
  · rw [cf_raise]
    exact congrFun (congrArg Prod.fst h3) k
  · rw [cf_raise]
    exact congrFun (congrArg Prod.snd h3) k
/-- how long they are -/
theorem half_len (way : Int) (v : P2) : (halfT way v).1.length + (halfT way v).2.length ≤ 2 * (v.1.length + v.2.length) := by
  unfold halfT
  have := gat_len (liftT way v.1 ++ negT (liftT (3 * way) v.2))
  rw [List.length_append] at this
  unfold liftT negT at *
  simp only [List.length_map] at *
  omega
theorem halfs_len (way : Int) (v : P2) : ∀ n, (halfs way n v).1.length + (halfs way n v).2.length ≤ 2 ^ n * (v.1.length + v.2.length)
  | 0 => by simp [halfs]
  | n + 1 => by
    have h1 := half_len way (halfs way n v)
    have h2 := halfs_len way v n
    show (halfT way (halfs way n v)).1.length + (halfT way (halfs way n v)).2.length ≤ _
    rw [Nat.pow_succ, Nat.mul_comm (2 ^ n) 2, Nat.mul_assoc]
    omega
def asum : List Int → Nat
  | [] => 0
  | x :: r => x.natAbs + asum r
theorem fold_plen : ∀ (l : List Int) (v : P2), (l.foldl stP v).1.length + (l.foldl stP v).2.length ≤ 2 ^ asum l * (v.1.length + v.2.length)
  | [], v => by simp [asum]
  | n :: l, v => by
    rw [List.foldl_cons, asum]
    refine Nat.le_trans (fold_plen l (stP v n)) ?_
    have h1 := halfs_len (wayOf n) (sw2 v) n.natAbs
    rw [show (2 : Nat) ^ (n.natAbs + asum l) = 2 ^ asum l * 2 ^ n.natAbs by rw [Nat.add_comm, Nat.pow_add], Nat.mul_assoc]
    refine Nat.mul_le_mul_left _ ?_
    show (halfs (wayOf n) n.natAbs (sw2 v)).1.length + (halfs (wayOf n) n.natAbs (sw2 v)).2.length ≤ _
    refine Nat.le_trans h1 (Nat.mul_le_mul_left _ ?_)
    show v.2.length + v.1.length ≤ _
    omega
end Th

set_option Elab.async false
set_option linter.all false
set_option maxRecDepth 100000
namespace Th
open PySem PySem.Spec PyProof.Rows L2
section
variable {X : Cx} {ρ ρ1 ρ2 : Rho} {e e1 e2 : Expr} {pos : Pos} {ds : List PyData}
/-- enumerate(xs), xs a list -/
theorem src_enumL {p : Pos} {elts : List Expr} {kk : Nat} {tpos : Pos} (h : E X e ρ (.d (.list ds)) ρ1) (hm : X.mg "enumerate" = none) (hg : Gl X "enumerate" := by rfl) (hs : starEach [e] X.env = [(false, eval e X.env)] := by rfl) :
    Src X (.Tuple elts kk tpos) (.Call (.Name "enumerate" p) [e] [] pos) ρ (enumD ds) ρ1 none :=
  ⟨_, pi_enum hg hm (pa_cons pe_w pa_nil hs) hs, fun σ HF H S1 R q => h σ HF H S1 _ fun x HF1 H1 S2 f1 r1 => by
  cases (show Dp X.K HF1 x (.list ds) from r1) with
  | @lst p ys _ h1 h2 =>
    refine ⟨p, ys, rfl, same_l S2.sub h1, q _ HF1 H1 S2 f1 fun σ2 ρ2 HF2 H2 _ _ S3 s3 => ?_⟩
    have t3 := same_l S3.sub (same_l s3 h1)
    have d3 := dpa_mono s3 h2
    have hl := dpa_len h2
    refine ⟨fun i hi => ?_, ⟨ys, t3, by rw [enumD_len, hl]; exact Nat.le_refl _⟩, fun i x H3 hi ⟨T, y, e1, e2, e3, e4⟩ => ?_⟩
    · rw [enumD_len] at hi
      obtain ⟨y, g, _⟩ := dpa_get d3 (List.getElem?_eq_getElem hi)
      exact ⟨ys, y, t3, g⟩
    · obtain ⟨d, g1, g2⟩ := dpa_get' d3 (e4 ys t3)
      exact ⟨_, enumD_get g1, .inr ⟨T, _, _, e2, e3, e1, rfl, .cons (.int _) (.cons g2 .nil)⟩⟩⟩
theorem src_enumLI {p : Pos} {elts : List Expr} {kk : Nat} {tpos : Pos} {α : Type} {xs : List α} {enc : α → PyData} (h : E X e ρ (.d (.list (xs.map enc))) ρ1) (hm : X.mg "enumerate" = none) (hg : Gl X "enumerate" := by rfl) (hs : starEach [e] X.env = [(false, eval e X.env)] := by rfl) :
    Src X (.Tuple elts kk tpos) (.Call (.Name "enumerate" p) [e] [] pos) ρ (xs.zipIdx.map fun q => .tuple [.int (q.2 : Nat), enc q.1]) ρ1 none := by
  have g := src_enumL (pos := pos) (p := p) (elts := elts) (kk := kk) (tpos := tpos) h hm hg hs
  have : enumD (xs.map enc) = xs.zipIdx.map fun q => .tuple [.int (q.2 : Nat), enc q.1] := by
    unfold enumD
    rw [List.zipIdx_map, List.map_map]
    rfl
  rwa [this] at g
/-- a word among written words -/
theorem dpa_strs {K : PySem.W.Frag} {HF : Hp} : ∀ {ys : List V} {ss : List Str}, DpAll K HF ys (ss.map PyData.str) → ys = ss.map V.str
  | _, [], .nil => rfl
  | _, s :: ss, .cons h t => by
    cases h
    rw [dpa_strs t]
    rfl
theorem t_inS {s : Str} {ss : List Str} (h1 : E X e1 ρ (.d (.str s)) ρ1) (h2 : E X e2 ρ1 (.d (.tuple (ss.map .str))) ρ2) (hb : behindInMarks .In e2 = false := by rfl) : ET X (.Compare e1 [.In] [e2] pos) ρ (decide (s ∈ ss)) ρ2 :=
  t_cmp op_in_seq (ev_op h1 h2 fun HF H x y Q hx hy s2 q => by
    cases hx
    cases hy with
    | tup g1 g2 =>
      have := dpa_strs g2
      subst this
      refine ⟨_, _, rfl, .inr (same_t s2 g1), rfl, List.all_eq_true.mpr fun z hz => by obtain ⟨n', _, rfl⟩ := List.mem_map.mp hz; rfl, ?_⟩
      have e : inV (.str s) (ss.map V.str) = decide (s ∈ ss) := by
        unfold inV
        rw [List.any_map]
        by_cases h : s ∈ ss
        · rw [decide_eq_true h]
          exact List.any_eq_true.mpr ⟨s, h, by simp [eqV]⟩
        · rw [decide_eq_false h]
          apply Bool.eq_false_iff.mpr
          intro z
          obtain ⟨s', h1, h2⟩ := List.any_eq_true.mp z
          simp [eqV] at h2
          exact h (h2 ▸ h1)
      show Q (.bl (inV _ _)) H
      rw [e]
      exact q _ (.bl _)) hb
end
end Th
namespace Th
open PySem PySem.Spec PyProof.Rows L2
def encL (xs : List Int) : PyData := .list (xs.map .int)
theorem eqE_L : EqE encL := eqE_list eqE_int
theorem fit_L {n : Nat} (xs : List Int) : Fit (n + 1) (encL xs) := fit_lm fun x _ => fit_int x
section
variable {X : Cx} {ρ ρ1 ρ2 : Rho} {e e1 e2 : Expr} {pos : Pos} {ds : List PyData}
theorem t_eqW (v : Wd) {w : Wd} (h1 : E X e1 ρ (.d (encWd w)) ρ1) (h2 : E X e2 ρ1 (.d (encWd v)) ρ2) : ET X (.Compare e1 [.Eq] [e2] pos) ρ (decide (w = v)) ρ2 :=
  t_cmp op_eq (ev_op h1 h2 fun HF H x y Q hx hy _ q => by
    cases hx; cases hy
    exact ⟨rfl, by rw [show decide (V.str w.nm = V.str v.nm) = decide (w = v) by rw [← Wd.nm_inj]; by_cases h : w.nm = v.nm <;> simp [h]]; exact q _ (.bl _)⟩) (nomark _)
theorem e_eqW (v : Wd) {w : Wd} (h1 : E X e1 ρ (.d (encWd w)) ρ1) (h2 : E X e2 ρ1 (.d (encWd v)) ρ2) : E X (.Compare e1 [.Eq] [e2] pos) ρ (.d (.bool (decide (w = v)))) ρ2 :=
  .of (pe_cmpR op_eq pe_w pe_w (nomark _)) (ev_op h1 h2 fun HF H x y Q hx hy _ q => by
    cases hx; cases hy
    exact ⟨rfl, by rw [show decide (V.str w.nm = V.str v.nm) = decide (w = v) by rw [← Wd.nm_inj]; by_cases h : w.nm = v.nm <;> simp [h]]; exact q _ (.bl _)⟩)
end
/-! items of a list that is told apart at a place -/
section
variable (p : List Int) (n b : Int) (r : List Int)
theorem sp_n : ((p ++ n :: b :: r).map PyData.int)[p.length]? = some (.int n) := by simp
theorem sp_b : ((p ++ n :: b :: r).map PyData.int)[p.length + 1]? = some (.int b) := by
  rw [List.getElem?_map, List.getElem?_append_right (by omega)]
  simp
theorem sp_len : ((p ++ n :: b :: r).map PyData.int).length = p.length + 2 + r.length := by simp; omega
theorem sp_atn : atI ((p ++ n :: b :: r).map PyData.int) (p.length : Int) = some (.int n) := (atI_nat' (Int.natCast_nonneg _)).trans (sp_n p n b r)
theorem sp_atb : atI ((p ++ n :: b :: r).map PyData.int) ((p.length : Int) + 1) = some (.int b) := (atI_nat' (by omega)).trans (by
  rw [show ((p.length : Int) + 1).toNat = p.length + 1 by omega]
  exact sp_b p n b r)
theorem sp_setb (v : Int) : ((p ++ n :: b :: r).map PyData.int).set (p.length + 1) (.int v) = (p ++ n :: v :: r).map PyData.int := by
  rw [← List.map_set, List.set_append_right _ _ (by omega)]
  simp
theorem sp_take : cut ((p ++ n :: b :: r).map PyData.int) none (some (p.length : Int)) = p.map PyData.int := by
  rw [take_cut]
  simp
theorem sp_drop1 : cut ((p ++ n :: b :: r).map PyData.int) (some ((p.length : Int) + 1)) none = (b :: r).map PyData.int := by
  show cut _ (some ((p.length + 1 : Nat) : Int)) none = _
  rw [drop_cut, ← List.map_drop, List.drop_append]
  simp [show p.length + 1 - p.length = 1 by omega]
theorem sp_drop2 : cut ((p ++ n :: b :: r).map PyData.int) (some ((p.length : Int) + 2)) none = r.map PyData.int := by
  show cut _ (some ((p.length + 2 : Nat) : Int)) none = _
  rw [drop_cut, ← List.map_drop, List.drop_append]
  simp [show p.length + 2 - p.length = 2 by omega]
end
theorem decL_len (p : List Int) (c : Int) : (decL p c).length = p.length := by unfold decL; rw [List.length_set]
def fLessBeside : List PyData → A → Prop := fun ds r => ∃ (p : List Int) (n b : Int) (s : List Int) (c : Int), (p ++ n :: b :: s).length ≤ 1000 ∧ ds = [encL (p ++ n :: b :: s), .int p.length, .int c] ∧ r = .ml ((decL p c ++ (b - c) :: s).map .int)
def stepRes (l : List Int) (h : Int) : A := .tw [.inl (l.map .int), .inr (.int h)]
def fBy (w : Wd) : List PyData → A → Prop := fun ds r => ∃ (p : List Int) (n b : Int) (s l : List Int) (h : Int), (p ++ n :: b :: s).length ≤ 1000 ∧ stepN p n b s w = some (l, h) ∧ ds = [encL (p ++ n :: b :: s), .int p.length] ∧ r = stepRes l h
def fitB : Wd → Int → Bool
  | .one, n => decide (n = 1)
  | .less, n => decide (n = -1)
  | .split, n => decide (n < -1)
  | .nought, n => decide (n = 0)
  | .loose, n => decide (n = 0)
  | .two, _ => false
theorem fit_of {p s l : List Int} {n b h : Int} {w : Wd} (hs : stepN p n b s w = some (l, h)) : fitB w n = true := by
  cases w with
  | two => cases hs
  | one => simp only [stepN] at hs; split at hs <;> first | (exact decide_eq_true ‹_›) | cases hs
  | less => simp only [stepN] at hs; split at hs <;> first | (exact decide_eq_true ‹_›) | cases hs
  | nought => simp only [stepN] at hs; split at hs <;> first | (exact decide_eq_true ‹_›) | cases hs
  | loose => simp only [stepN] at hs; split at hs <;> first | (exact decide_eq_true (‹_ ∧ _›).1) | cases hs
  | split => simp only [stepN] at hs; split at hs <;> first | (exact decide_eq_true ‹_›) | cases hs
def fFits : List PyData → A → Prop := fun ds r => ∃ (w : Wd) (n : Int), ds = [encWd w, .int n] ∧ r = .d (.bool (fitB w n))
def fStep : List PyData → A → Prop := fun ds r => ∃ (l : List Int) (w : Wd) (i : Int) (l' : List Int) (h : Int), l.length ≤ 1000 ∧ stepF l w i = some (l', h) ∧ ds = [encL l, encSt (w, i)] ∧ r = stepRes l' h
theorem stepF_cut {l l' : List Int} {w : Wd} {i h : Int} (hs : stepF l w i = some (l', h)) : ∃ p n b s, l = p ++ n :: b :: s ∧ i = p.length ∧ stepN p n b s w = some (l', h) := by
  unfold stepF at hs
  split at hs
  · rename_i hi
    have := split_at (l := l) (i := i.toNat) (by omega)
    exact ⟨_, _, _, _, this.1, by rw [this.2]; omega, hs⟩
  · cases hs
end Th
namespace Th
open PySem PySem.Spec PyProof.Rows L2
def encI2 (p : Int × Int) : PyData := .tuple [.int p.1, .int p.2]
theorem eq_i2 : EqE encI2 := eqE_pair eqE_int eqE_int
theorem fit_i2 {n : Nat} (p : Int × Int) : Fit (n + 1) (encI2 p) := fit_t2 (fit_int _) (fit_int _)
theorem up_abs (t b : Int) : (up t b).natAbs ≤ t.natAbs := by
  unfold up
  rw [Int.natAbs_neg]
  refine Nat.le_trans (Int.natAbs_ediv_le_natAbs _ _) ?_
  rw [Int.natAbs_neg]
  exact Nat.le_refl _
def fValue : List PyData → A → Prop := fun ds r => ∃ ns : List Int, (∀ n ∈ ns, (n.natAbs : Int) ≤ 100) ∧ ds = [encL ns] ∧ r = .d (encI2 (valF ns))
def fLeastList : List PyData → A → Prop := fun ds r => ∃ p : Int × Int, (0 ≤ p.2 ∧ p.2 < 2 ^ 60 ∧ p.1.natAbs < 2 ^ 60 ∧ (ll p.1 p.2).length ≤ 1000) ∧ ds = [encI2 p] ∧ r = .ml ((leastF p).map .int)
/-! rows of steps -/
inductive Run : List Int → List Stp → List Int → Int → Prop
  | nil {l : List Int} : Run l [] l 0
  | cons {l : List Int} {w : Wd} {i : Int} {l' : List Int} {h : Int} {ss : List Stp} {e : List Int} {hh : Int} : l.length ≤ 1000 → stepF l w i = some (l', h) → Run l' ss e hh → Run l ((w, i) :: ss) e (h + hh)
theorem ease_run {l : List Int} {ss : List Stp} {e : List Int} {h : Int} (E : Ease l ss e h) : Wt l < 64 → Run l ss e h := by
  induction E with
  | stop => intro _; exact .nil
  | @go l w i l' h ss e hh hn hs _ ih =>
    intro hw
    obtain ⟨l2, g, k1, k2, _⟩ := next_step hn hw
    rw [hs] at k1
    cases k1
    have := wt_len l
    exact .cons (by omega) hs (ih (by omega))
def encNx : Option Stp → PyData
  | none => .none
  | some p => encSt p
def fLed : List PyData → A → Prop := fun ds r => ∃ (l : List Int) (ss : List Stp) (e : List Int) (h : Int), Run l ss e h ∧ ds = [encL l, .list (ss.map encSt)] ∧ r = .d (.tuple [encL e, .int h])
def fNextStep : List PyData → A → Prop := fun ds r => ∃ l : List Int, l.length ≤ 1000 ∧ ds = [encL l] ∧ r = .d (encNx (nextF l))
def fEased : List PyData → A → Prop := fun ds r => ∃ (l : List Int) (ss : List Stp) (e : List Int) (h : Int), (Ease l ss e h ∧ ss.length < 20000 ∧ Wt l < 64) ∧ ds = [encL l] ∧ r = .tw [.inl (ss.map encSt), .inl (e.map .int)]
theorem noLs_st : ∀ ss : List Stp, noLs (ss.map encSt) = true
  | [] => rfl
  | _ :: ss => noLs_st ss
theorem noA_step (l : List Int) (h : Int) : noA (stepRes l h) = true := by
  unfold stepRes noA
  simp [noLs_ints, noL]
/-- a step, kept as a tail -/
theorem nextG_tail {l : List Int} {i : Nat} {n b : Int} {r : List Int} (h : l.drop i = n :: b :: r) : l.take (i + 1) = l.take i ++ [n] ∧ l.drop (i + 1) = b :: r := by
  constructor
  · have : l[i]? = some n := by
      have := congrArg (fun x => x[0]?) h
      simpa using this
    rw [List.take_add_one, this]
    rfl
  · rw [← List.drop_drop, h]
    rfl
theorem drop_at {l : List Int} {i : Nat} (h : i + 1 < l.length) : ∃ n b r, l.drop i = n :: b :: r ∧ l = l.take i ++ n :: b :: r ∧ (l.take i).length = i := by
  obtain ⟨h1, h2⟩ := split_at h
  have : l.drop i = l.getD i 0 :: l.getD (i + 1) 0 :: l.drop (i + 2) := by
    conv => lhs; rw [h1]
    rw [List.drop_append]
    simp [h2]
  exact ⟨_, _, _, this, h1, h2⟩
end Th
namespace Th
open PySem PySem.Spec PyProof.Rows L2
theorem noL_nx : ∀ o : Option Stp, noL (encNx o) = true
  | none => rfl
  | some _ => rfl
theorem some_nx : ∀ o : Option Stp, someB (encNx o) = o.isSome
  | none => rfl
  | some _ => rfl
def fHalfTwist : List PyData → A → Prop := fun ds r => ∃ (v : P2) (way : Int), v.1.length + v.2.length < 100000 ∧ ds = [encP v.1, encP v.2, .int way] ∧ r = .d (.tuple [encP (halfT way v).1, encP (halfT way v).2])
def fTwistedSums : List PyData → A → Prop := fun ds r => ∃ l : List Int, (l ≠ [] ∧ l.length ≤ 1000 ∧ asum l ≤ 16) ∧ ds = [encL l] ∧ r = .d (.tuple [encP (sumP l).1, encP (sumP l).2])
theorem asum_take : ∀ (l : List Int) (i : Nat), asum (l.take i) + (l.getD i 0).natAbs ≤ asum l
  | [], i => by simp [asum]
  | x :: l, 0 => by simp [asum]
  | x :: l, i + 1 => by
    have := asum_take l i
    rw [List.take_succ_cons, asum, asum, List.getD_cons_succ]
    omega
end Th
namespace Th
open PySem PySem.Spec PyProof.Rows L2
theorem E.of_eqF {X : Cx} {ρ ρ1 ρ2 : Rho} {e1 e2 : Expr} {pos : Pos} {i j : Int} (ha : E X e1 ρ (.d (.int i)) ρ1) (hb : E X e2 ρ1 (.d (.int j)) ρ2) (h : i ≠ j) : ET X (.Compare e1 [.Eq] [e2] pos) ρ false ρ2 := by
  have := t_eqI (pos := pos) ha hb
  rwa [decide_eq_false h] at this
end Th
namespace Th
open PySem PySem.Spec PyProof.Rows L2
theorem src_rP {X : Cx} {ρ ρ1 : Rho} {tg e : Expr} {px pc : Pos} {n : Nat} (h : E X e ρ (.d (.int ((n : Int) - 1))) ρ1) (hm : X.mg "range" = none) (hn : n < 2 ^ 62) (hg : Gl X "range" := by rfl) (hse : starEach [e] X.env = [(false, eval e X.env)] := by rfl) :
    Src X tg (.Call (.Name "range" px) [e] [] pc) ρ ((List.range (n - 1)).map encN) ρ1 none := by
  have g := src_r1 (tg := tg) (px := px) (pc := pc) h hm ⟨by omega, by omega⟩ hg hse
  have : rangeD 0 ((n : Int) - 1).toNat = (List.range (n - 1)).map encN := by
    unfold rangeD
    rw [show ((n : Int) - 1).toNat = n - 1 by omega]
    refine List.map_congr_left fun i _ => ?_
    show PyData.int _ = PyData.int _
    congr 1
    omega
  rwa [this] at g
end Th

set_option Elab.async false
set_option linter.all false
set_option maxRecDepth 100000
namespace Th
open PySem PySem.Spec PyProof.Rows L2

/-! lists drawn of cells -/
def manyF (most c : Int) : Int := [c % 7 - 3, c % 3 - 1, c / 21 % (2 * most + 1) - most].getD (c / 7 % 3).toNat 0
def cutM (most left c : Int) : Int := if decide (left < ((manyF most c).natAbs : Int)) = true then 0 else manyF most c
def stepW (most : Int) (t : List Int × Int) (c : Int) : List Int × Int := (t.1 ++ [cutM most t.2 c], t.2 - ((cutM most t.2 c).natAbs : Int))
def twistsF (most : Int) (cs : List Int) : List Int := (cs.foldl (stepW most) ([], most)).1
theorem cutM_le (most left c : Int) (h : 0 ≤ left) : ((cutM most left c).natAbs : Int) ≤ left := by
  unfold cutM
  split
  · simpa using h
  · rename_i hh
    simp at hh
    exact hh
theorem asum_app (a b : List Int) : asum (a ++ b) = asum a + asum b := by
  induction a with
  | nil => simp [asum]
  | cons x a ih => rw [List.cons_append, asum, asum, ih]; omega
theorem fold_twists (most : Int) : ∀ (cs : List Int) (t : List Int × Int), 0 ≤ t.2 → (asum t.1 : Int) + t.2 ≤ most →
    (asum (cs.foldl (stepW most) t).1 : Int) ≤ most ∧ (cs.foldl (stepW most) t).1.length = t.1.length + cs.length
  | [], t, h, h2 => ⟨by show (asum t.1 : Int) ≤ most; omega, by simp⟩
  | c :: cs, t, h, h2 => by
    have hc := cutM_le most t.2 c h
    have e : asum (stepW most t c).1 = asum t.1 + (cutM most t.2 c).natAbs := by
      unfold stepW
      rw [asum_app]
      simp [asum]
    have := fold_twists most cs (stepW most t c) (by unfold stepW; dsimp only; omega) (by rw [e]; unfold stepW; dsimp only; omega)
    refine ⟨this.1, this.2.trans ?_⟩
    unfold stepW
    simp
    omega
theorem twists_ok {most : Int} {cs : List Int} (h : 0 ≤ most) : (asum (twistsF most cs) : Int) ≤ most ∧ (twistsF most cs).length = cs.length := by
  have := fold_twists most cs ([], most) h (by show ((0 : Nat) : Int) + most ≤ most; omega)
  simpa [twistsF] using this
def fTwists : List PyData → A → Prop := fun ds r => ∃ (cs : List Int) (most : Int), (cs.length ≤ 64 ∧ 0 ≤ most ∧ most ≤ 1000) ∧ ds = [encL cs, .int most] ∧ r = .ml ((twistsF most cs).map .int)
theorem asum_mem {l : List Int} {n : Int} (h : n ∈ l) : n.natAbs ≤ asum l := by
  induction l with
  | nil => cases h
  | cons x l ih =>
    rw [asum]
    rcases List.mem_cons.mp h with rfl | h
    · omega
    · have := ih h; omega
theorem nsum_asum (l : List Int) : nsum l ≤ asum l := by
  induction l with
  | nil => exact Nat.le_refl _
  | cons x l ih => rw [nsum, asum]; unfold ng; omega
theorem wt_asum (l : List Int) : Wt l ≤ l.length + asum l := by
  unfold Wt
  have := nsum_asum l
  omega
/-- how great values are -/
theorem raw_bd : ∀ (l : List Int) (v : Int × Int) (M : Nat), v.1.natAbs ≤ M → v.2.natAbs ≤ M → (l.foldl stepV v).1.natAbs ≤ 2 ^ asum l * M ∧ (l.foldl stepV v).2.natAbs ≤ 2 ^ asum l * M
  | [], v, M, h1, h2 => by simpa [asum] using ⟨h1, h2⟩
  | n :: l, v, M, h1, h2 => by
    rw [List.foldl_cons, asum]
    have hn : n.natAbs + 1 ≤ 2 ^ n.natAbs := Nat.lt_two_pow_self
    have k1 : (stepV v n).1.natAbs ≤ 2 ^ n.natAbs * M := by
      show (n * v.1 - v.2).natAbs ≤ _
      have a1 : (n * v.1 - v.2).natAbs ≤ (n * v.1).natAbs + v.2.natAbs := by omega
      rw [Int.natAbs_mul] at a1
      have a2 : n.natAbs * v.1.natAbs ≤ n.natAbs * M := Nat.mul_le_mul_left _ h1
      have a3 : (n.natAbs + 1) * M ≤ 2 ^ n.natAbs * M := Nat.mul_le_mul_right _ hn
      rw [Nat.add_mul] at a3
      omega
    have k2 : (stepV v n).2.natAbs ≤ 2 ^ n.natAbs * M := by
      show v.1.natAbs ≤ _
      refine Nat.le_trans h1 ?_
      have : 1 * M ≤ 2 ^ n.natAbs * M := Nat.mul_le_mul_right _ (by omega)
      omega
    have := raw_bd l (stepV v n) (2 ^ n.natAbs * M) k1 k2
    rwa [← Nat.mul_assoc, ← Nat.pow_add, Nat.add_comm (asum l)] at this
theorem val_bd {l : List Int} (h : asum l ≤ 50) : 0 ≤ (valF l).2 ∧ (valF l).2 < 2 ^ 60 ∧ (valF l).1.natAbs < 2 ^ 60 := by
  obtain ⟨h1, h2⟩ := raw_bd l (1, 0) 1 (by decide) (by decide)
  have h3 : 2 ^ asum l ≤ 2 ^ 50 := Nat.pow_le_pow_right (by decide) h
  have h4 : (2 : Nat) ^ 50 < 2 ^ 60 := by decide
  unfold valF norm rawV
  split
  · exact ⟨by decide, by decide, by decide⟩
  · split
    · dsimp only
      omega
    · omega
theorem least_spec {l : List Int} {ss : List Stp} {e : List Int} {h : Int} (E : Ease l ss e h) (hl : l ≠ []) (hw : Wt l < 64) (ha : asum l ≤ 50) : fLeastList [encI2 (valF l)] (.ml (e.map .int)) := by
  obtain ⟨b1, b2, b3⟩ := val_bd ha
  have hE := ease_least E hl
  have hwe := ease_wt E hw
  have hle := wt_len e
  refine ⟨valF l, ⟨b1, b2, b3, ?_⟩, rfl, by rw [hE]⟩
  unfold leastF at hE
  split at hE
  · rename_i h0
    rw [h0, ll_zero (by decide)]
    exact Nat.zero_le _
  · rw [← List.length_reverse, hE]
    omega
/-- the other list -/
def otherF (l : List Int) (c : Int) : List Int :=
  if decide (c % 2 = 1) = true then l.take (c / 3 % l.length).toNat ++ [c / 24 % 5 - 2, 0, l.getD (c / 3 % l.length).toNat 0 - (c / 24 % 5 - 2)] ++ l.drop ((c / 3 % l.length).toNat + 1)
  else if decide (c / 3 % l.length + 1 < l.length) = true then l.take (c / 3 % l.length).toNat ++ [l.getD (c / 3 % l.length).toNat 0 + 1, 1, l.getD ((c / 3 % l.length).toNat + 1) 0 + 1] ++ l.drop ((c / 3 % l.length).toNat + 2)
  else l
theorem drop_get {l : List Int} {i : Nat} (h : i < l.length) : l.drop i = l.getD i 0 :: l.drop (i + 1) := by
  rw [List.drop_eq_getElem_cons h, List.getD_eq_getElem?_getD, List.getElem?_eq_getElem h]
  rfl
theorem other_ok {l : List Int} {c : Int} (h : l ≠ []) : otherF l c ≠ [] ∧ (otherF l c).length ≤ l.length + 2 ∧ asum (otherF l c) ≤ asum l + 4 := by
  have hl : 0 < l.length := List.length_pos_iff.mpr h
  have hm := Int.emod_nonneg (c / 3) (show (l.length : Int) ≠ 0 by omega)
  have hm2 := Int.emod_lt_of_pos (c / 3) (show (0 : Int) < l.length by omega)
  unfold otherF
  generalize hi : (c / 3 % (l.length : Int)).toNat = i
  have hil : i < l.length := by omega
  have e1 := drop_get hil
  have e2 := congrArg asum (List.take_append_drop i l)
  rw [asum_app, e1, asum] at e2
  split
  · refine ⟨by simp, by simp only [List.length_append, List.length_cons, List.length_take, List.length_drop, List.length_nil]; omega, ?_⟩
    rw [asum_app, asum_app]
    simp only [asum]
    omega
  · split
    · rename_i hc
      have hc := of_decide_eq_true hc
      have e3 := drop_get (l := l) (i := i + 1) (by omega)
      rw [e3, asum, show i + 1 + 1 = i + 2 from rfl] at e2
      refine ⟨by simp, by simp only [List.length_append, List.length_cons, List.length_take, List.length_drop, List.length_nil]; omega, ?_⟩
      rw [asum_app, asum_app]
      simp only [asum]
      omega
    · exact ⟨h, by omega, by omega⟩
def fOther : List PyData → A → Prop := fun ds r => ∃ (l : List Int) (c : Int), (l ≠ [] ∧ l.length ≤ 1000) ∧ ds = [encL l, .int c] ∧ r = .ml ((otherF l c).map .int)
def stepA : Option (List Int × Int) → A
  | none => .d .none
  | some (l, h) => stepRes l h
def fDueStep : List PyData → A → Prop := fun ds r => ∃ (l : List Int) (w : Wd) (i : Int), l.length ≤ 1000 ∧ ds = [encL l, encWd w, .int i] ∧ r = stepA (stepF l w i)
def fWalked : List PyData → A → Prop := fun ds r => ∃ (l : List Int) (ss : List Stp) (e : List Int) (h : Int), (Ease l ss e h ∧ ss.length < 20000 ∧ Wt l < 64) ∧ ds = [encL l] ∧ r = .tw [.inl (ss.map encSt), .inr (encL e), .inr (.int h)]
def fLeast : List PyData → A → Prop := fun ds r => ∃ e : List Int, (Lst e ∧ e.length ≤ 1000) ∧ ds = [encL e] ∧ r = .d (.bool true)
def fDueLifted : List PyData → A → Prop := fun ds r => ∃ (a : List Tm) (h : Int), a.length < 100000 ∧ ds = [encP a, .int h] ∧ r = .d (encP (raiseT h a))
theorem wd_in (w : Wd) : decide (w.nm ∈ [Wd.one.nm, Wd.less.nm]) = decide (w = .one ∨ w = .less) := by cases w <;> decide +kernel
/-- the last one -/
theorem at_last (q : List Int) (a : Int) : atI ((q ++ [a]).map PyData.int) (-1) = some (.int a) := by
  unfold atI ixN
  rw [if_neg (by decide), List.length_map, List.length_append, List.length_singleton, if_pos (by omega)]
  show ((q ++ [a]).map PyData.int)[((-1 : Int) + ((q.length + 1 : Nat) : Int)).toNat]? = _
  rw [show ((-1 : Int) + ((q.length + 1 : Nat) : Int)).toNat = q.length by omega]
  simp
theorem ix_last (q : List Int) (a : Int) : ixN ((q ++ [a]).map PyData.int).length (-1) = some q.length := by
  unfold ixN
  rw [if_neg (by decide), List.length_map, List.length_append, List.length_singleton, if_pos (by omega)]
  congr 1
  omega
theorem set_last (q : List Int) (a v : Int) : ((q ++ [a]).map PyData.int).set q.length (.int v) = (q ++ [v]).map PyData.int := by
  rw [← List.map_set, List.set_append_right _ _ (by omega)]
  simp
/-- the law's table of words -/
def ixW (n : Int) : Nat := if n = 0 then 0 else if n = 1 then 1 else if n = -1 then 2 else 3
def wdN (n : Int) : Wd := if n = 0 then .nought else if n = 1 then .one else if n = -1 then .less else .split
theorem ixW_ok (n : Int) : [0, 1, -1, n][ixW n]? = some n ∧ (∀ m < ixW n, [0, 1, -1, n][m]? ≠ some n) ∧ [PyData.str "nought", .str "one", .str "less", .str "split"][ixW n]? = some (encWd (wdN n)) := by
  unfold ixW wdN
  by_cases h0 : n = 0
  · subst h0
    exact ⟨rfl, fun m h => absurd h (Nat.not_lt_zero _), rfl⟩
  · rw [if_neg h0, if_neg h0]
    by_cases h1 : n = 1
    · subst h1
      refine ⟨rfl, fun m h => ?_, rfl⟩
      have : m = 0 := by
        have : m < 1 := h
        omega
      subst this
      simp
    · rw [if_neg h1, if_neg h1]
      by_cases h2 : n = -1
      · subst h2
        refine ⟨rfl, fun m h => ?_, rfl⟩
        have : m < 2 := h
        match m, this with
        | 0, _ => simp
        | 1, _ => simp
      · rw [if_neg h2, if_neg h2]
        refine ⟨rfl, fun m h => ?_, rfl⟩
        match m, h with
        | 0, _ => simpa using fun z => h0 z.symm
        | 1, _ => simpa using fun z => h1 z.symm
        | 2, _ => simpa using fun z => h2 z.symm
end Th
namespace Th
open PySem PySem.Spec PyProof.Rows L2
theorem t_ltF {X : Cx} {ρ ρ1 ρ2 : Rho} {e1 e2 : Expr} {pos : Pos} {i j : Int} (ha : E X e1 ρ (.d (.int i)) ρ1) (hb : E X e2 ρ1 (.d (.int j)) ρ2) (h : ¬ i < j) : ET X (.Compare e1 [.Lt] [e2] pos) ρ false ρ2 := by
  have := t_lt (pos := pos) ha hb
  rwa [decide_eq_false h] at this
end Th
namespace Th
open PySem PySem.Spec PyProof.Rows L2
theorem ET.as {X : Cx} {ρ ρ1 : Rho} {e : Expr} {a b : Bool} (h : ET X e ρ a ρ1) (q : a = b) : ET X e ρ b ρ1 := q ▸ h
end Th
namespace Th
open PySem PySem.Spec PyProof.Rows L2
theorem at_lastD {ns : List Int} (h : ns ≠ []) : atI (ns.map PyData.int) (-1) = some (.int (ns.getLastD 0)) := by
  rcases nil_or ns with rfl | ⟨q, a, rfl⟩
  · exact (h rfl).elim
  · rw [at_last]
    simp
def encEH (p : List Stp × List Int) : PyData := .tuple [.list (p.1.map encSt), encL p.2]
def encLH (p : List Int × Int) : PyData := .tuple [encL p.1, .int p.2]
theorem eqE_EH : EqE encEH := eqE_pair (eqE_list eqE_st) eqE_L
theorem eqE_LH : EqE encLH := eqE_pair eqE_L eqE_int
theorem fit_EH (p : List Stp × List Int) : SeqAt.shaped (encEH p) = true := (fit_t2 (n := 2) (fit_lm (n := 1) fun x _ => fit_st x) (fit_L p.2)).shaped
theorem fit_LH (p : List Int × Int) : SeqAt.shaped (encLH p) = true := (fit_t2 (n := 1) (fit_L p.1) (fit_int p.2)).shaped
theorem eqE_rfl {α : Type} [DecidableEq α] {f : α → PyData} (h : EqE f) (a : α) : PyData.eqv (f a) (f a) = true := (h a a).trans (decide_eq_true rfl)
end Th

set_option Elab.async false
set_option linter.all false
set_option maxRecDepth 100000
namespace Th
open PySem PySem.Spec PyProof.Rows L2

/-! ### errors of own classes -/
structure ExcT (K : PySem.W.Frag) (mg : Str → Option Value) (x : Str) (C : Addr) : Prop where
  g : mg x = some (.ref C)
  q : PySem.W.excIn K C [.type "ValueError", .type "Exception", .type "BaseException", .type "object"] "ValueError.__new__" = true
  k : PySem.W.keepIn K (.ref C) = true
  sb : PySem.W.subIn K (.ref C) (.type "BaseException") = some true
  ty : PySem.W.typeIn K (.ref C) = some (.type "type")
  cl : PySem.W.isClsIn K C = true
  sc : PySem.W.subIn K (.ref C) (.ref C) = some true
/-- an error of a class is what the clause by that class takes -/
theorem ExcT.self {K : PySem.W.Frag} {mg : Str → Option Value} {x : Str} {C : Addr} (T : ExcT K mg x C) : PySem.W.exmOne K (.ref C) (.ref C) = some true := by
  have h2 : (PySem.W.clsIn K C).isSome = true := T.cl
  show (if (PySem.W.subIn K (.ref C) (.type "BaseException") == some true) = true then (if ((PySem.W.clsIn K C).isSome && PySem.W.typeIn K (.ref C) == some (.type "type")) = true then PySem.W.subIn K (.ref C) (.ref C) else none) else none) = some true
  rw [T.sb, h2, T.ty, T.sc] <;> rfl
/-- a def that raises, whatever data of this kind it is given -/
def spR (K : PySem.W.Frag) (C : Addr) (G : List PyData → Prop) : Sp := fun vs H _ E => ∃ HF ds, Sl K (ds.map A.d) (vs.map some) HF H ∧ G ds ∧
  ∀ HF' H', Sl K (ds.map A.d) (vs.map some) HF' H' → Fw (ds.map A.d) (ds.map A.d) (vs.map some) HF H HF' H' → E (.ref C) none H'
def PN : Pst := ⟨fun _ => False, fun _ _ => False, fun _ => False, fun _ => False⟩
section
variable {P : Program} {w : World} {K : PySem.W.Frag} {mg : Str → Option Value} {base : Heap}
theorem fn_raise {x qual : Str} {st : Stmt} {f : Addr} {fd : FuncData} {N ps : List Str} {k : Nat} {C : Addr} {G : List PyData → Prop} (F : Fun K x qual st f fd) (S0 : FnScope N ps (defScope st)) (hn : ps.length ≤ N.length) (hG : ∀ ds, G ds → ds.length = ps.length)
    (hbody : ∀ (cdv : Value) (A1 : Around) (outer : List Env) (s : Shared) (H : Hp) (E : XK) (B : Bs) (ds : List PyData), Room k (A1.deeper (envOfC qual (defScope st) s.heap.objs.size f cdv)) → G ds → (∀ q ∈ B.L, q.1 ∈ ([] : List Nat)) →
      Takes (cxOf (L2.CX P w) P w K mg base N qual (defScope st) f cdv A1 outer s H E) (fun cls d _ H => E cls d H) → PassesOwn (model P w) (cxOf (L2.CX P w) P w K mg base N qual (defScope st) f cdv A1 outer s H E).A (cxOf (L2.CX P w) P w K mg base N qual (defScope st) f cdv A1 outer s H E).env (cxOf (L2.CX P w) P w K mg base N qual (defScope st) f cdv A1 outer s H E).xe →
      (∀ ρ σ HF H, Sl K ρ σ HF H → Bn B ρ σ HF H → E (.ref C) none H) →
      Ss (cxOf (L2.CX P w) P w K mg base N qual (defScope st) f cdv A1 outer s H E) B (defBody st) (ds.map A.d ++ List.replicate (N.length - ps.length) .any) PN) : FnOk P w K mg base (L2.CX P w) (k + 1) f fd ps (spR K C G) := by
  have len : ∀ vs H Q E, spR K C G vs H Q E → vs.length = ps.length := fun vs H Q E ⟨HF, ds, S1, h, _⟩ => by
    have := S1.len
    rw [List.length_map, List.length_map] at this
    exact this.trans (hG _ h)
  refine F.okX S0 len fun cdv A1 outer s H vs Q E hr hsp => ?_
  have hlen := len vs H Q E hsp
  obtain ⟨HF, ds, S1, hf, q⟩ := hsp
  have hal := hG _ hf
  let B : Bs := ⟨HF, H, []⟩
  have noOwnM : ∀ (i : Nat) (a : A), (ds.map A.d ++ List.replicate (N.length - ps.length) A.any)[i]? = some a → a.own = false := fun i a h => by
    rcases getElem?_app_rep h with h | ⟨_, rfl⟩
    · exact own_map a (List.mem_of_getElem? h)
    · rfl
  have Sl0 : Sl K (ds.map A.d ++ List.replicate (N.length - ps.length) .any) (L2.start N vs) HF H := by
    refine ⟨?_, S1.sub, fun i a h => ?_, fun i j a b p h1 h2 o1 o2 e1 e2 => ?_⟩
    · unfold L2.start
      rw [List.length_append, List.length_append, List.length_map, List.length_replicate, List.length_replicate, List.length_map, hlen, hal]
    · unfold L2.start
      rcases getElem?_app_rep h with h | ⟨hi, rfl⟩
      · obtain ⟨u, e, z⟩ := S1.slot i a h
        refine ⟨u, ?_, z⟩
        rw [List.getElem?_append_left (List.getElem?_eq_some_iff.mp e).1]
        exact e
      · have hlt := (List.getElem?_eq_some_iff.mp h).1
        rw [List.length_append, List.length_replicate, List.length_map] at hlt
        rw [List.length_map] at hi
        refine ⟨none, ?_, trivial⟩
        rw [List.getElem?_append_right (by rw [List.length_map]; omega), List.getElem?_replicate, if_pos (by rw [List.length_map]; omega)]
    · rw [noOwnM i a h1] at o1
      cases o1
  have Bn0 : Bn B (ds.map A.d ++ List.replicate (N.length - ps.length) .any) (L2.start N vs) HF H := by
    refine ⟨.refl _, fun b o _ h => h, fun b o h => .inl h, fun b o h => ⟨o, h⟩, fun i a p h o e => ?_, fun z hz => nomatch hz⟩
    rw [noOwnM i a h] at o
    cases o
  refine ⟨_, pss_w, hbody cdv A1 outer s H E B ds hr hf (fun _ z => nomatch z) (takes_of rfl rfl rfl rfl) (passes_of rfl) (fun ρ σ HF' H' S2 b2 => ?_) _ HF H Sl0 Bn0 _ ⟨fun _ _ _ _ p => p.elim, fun _ _ _ _ _ _ p => p.elim, fun _ _ _ _ p => p.elim, fun _ _ _ _ p => p.elim⟩⟩
  refine q HF' H' ⟨S1.len, S2.sub, fun i c h => ?_, fun i j a b p h1 _ o1 _ _ _ => ?_⟩ ⟨.refl _, b2.hf, fun b o h _ => b2.keep b o (fun _ z => nomatch z) h, b2.new, b2.pres⟩
  · obtain ⟨u, e, z⟩ := S1.slot i c h
    have hc := own_map c (List.mem_of_getElem? h)
    exact ⟨u, e, arel_mono z b2.hf fun _ _ _ _ _ o => by rw [hc] at o; cases o⟩
  · rw [own_map a (List.mem_of_getElem? h1)] at o1
    cases o1
end
section
variable {X : Cx} {B : Bs} {P : Pst} {ρ ρ1 ρ2 : Rho} {e e1 e2 : Expr} {es : List Expr} {pos pos' : Pos} {ds : List PyData} {C : Addr} {W : WX} {x : Str}
/-- an expression that raises -/
def EX (X : Cx) (C : Addr) (W : WX) (e : Expr) (ρ ρ1 : Rho) : Prop := ∀ σ HF H, Sl X.K ρ σ HF H → (∀ HF' H', Sl X.K ρ1 σ HF' H' → Fw ρ ρ1 σ HF H HF' H' → W (.ref C) none σ H') → ∀ Q : VK, wE X e σ H Q
theorem e_callR {G : List PyData → Prop} {n : Nat} {f : Addr} {fd : FuncData} {ps : List Str} {p : Pos} (F : FnOk X.prog X.w X.K X.mg X.base (L2.CX X.prog X.w) n f fd ps (spR X.K C G)) (hr : Room n X.A) (hm : X.mg x = some (.ref f)) (hk : PySem.W.keepIn X.K (.ref f) = true) (hb : Binds X.K fd ps [])
    (ha : ED X (e :: es) ρ ds ρ1) (hG : G ds) (tk : Takes X W) (hg : Gl X x := by rfl) (hdb : (x == ("__debug__" : Str)) = false := by decide) (he : starEach (e :: es) X.env = (false, eval e X.env) :: starEach es X.env := by rfl) (hpl : (backTo pos (starEach es X.env)).any (·.1) = false := by rfl) :
    EX X C W (.Call (.Name x p) (e :: es) [] pos) ρ ρ1 := fun σ HF H S1 hW Q =>
  ⟨_, pe_callS F hr hg hm hk hb (fun σ => passAt tk σ) pa_w hdb he hpl, ha σ HF H S1 _ fun xs HF1 H1 S2 f1 r1 => by
    have nd : (lents (ds.map Arg.dat)).Nodup := by rw [lents_dat]; exact List.nodup_nil
    have r2 := dat_args (ρ := ρ1) (σ := σ) r1
    have S3 := args_in S2 nd r2
    rw [toA_dat] at S3
    refine ⟨HF1, ds, S3, hG, fun HF' H' S4 f4 => ?_⟩
    have f5 : Fw ((ds.map Arg.dat).map (toA ρ1)) (ds.map A.d) (xs.map some) HF1 H1 HF' H' := by rw [toA_dat]; exact f4
    obtain ⟨S6, f6⟩ := args_out S2 nd r2 S4 f5
    rw [back_dat] at S6 f6
    exact hW HF' H' S6 (f1.trans f6)⟩
theorem s_raise {m : Str} {j : Nat} {p p2 pos2 : Pos} (T : ExcT X.K X.mg x C) (tk : Takes X W) (hW : ∀ σ HF H, Sl X.K ρ σ HF H → Bn B ρ σ HF H → W (.ref C) none σ H) (hg : Gl X x := by rfl) (hc : X.calm = true := by rfl) (hdb : (x == ("__debug__" : Str)) = false := by decide) :
    S X B (.Raise (some (.Call (.Name x p) [.Constant (.str m) j p2] [] pos)) none pos2) ρ P := .of (ps_raise hc tk (pmk_own PySem.F.excBase_ValueError T.q T.g T.k (raises_own T.sb T.ty) hg hdb)) fun σ HF H Sl b D o => hW σ HF H Sl b
theorem s_exprX (he : EX X C W e ρ ρ1) (hW : ∀ σ HF H, Sl X.K ρ1 σ HF H → Bn B ρ1 σ HF H → W (.ref C) none σ H) (hs : swapsWith e none pos.line X.env = pure false := by rfl) : S X B (.Expr e pos) ρ P := .of (ps_expr pe_w hs) fun σ HF H Sl b D o => he σ HF H Sl (fun HF' H' S' f => hW σ HF' H' S' (b.fw f)) _
theorem s_setX (i : Nat) {y : Str} (he : EX X C W e ρ ρ1) (hW : ∀ σ HF H, Sl X.K ρ1 σ HF H → Bn B ρ1 σ HF H → W (.ref C) none σ H) (hN : X.N.Nodup) (hi : X.N[i]? = some y := by rfl) (hx : Loc X.env.scope y := by first | exact Or.inl rfl | exact Or.inr rfl)
    (hs : swapsWith e (some (.Name y pos')) pos.line X.env = pure false := by rfl) (hf : X.fn y = true ∨ X.env.scope.names.lookup y = some .local := by first | exact .inl rfl | exact .inr rfl) : S X B (.Assign [.Name y pos'] e pos) ρ P :=
  .of (ps_set hN hi hx pe_w hs hf) fun σ HF H Sl b D o => he σ HF H Sl (fun HF' H' S' f => hW σ HF' H' S' (b.fw f)) _
theorem s_asgX {tg : Expr} (he : EX X C W e ρ ρ1) (hW : ∀ σ HF H, Sl X.K ρ1 σ HF H → Bn B ρ1 σ HF H → W (.ref C) none σ H) (hs : swapsWithSole [tg] e pos.line X.env = pure false := by rfl) (hw : swappedStores [tg] e X.env = pure none := by rfl)
    (h1 : (assignEach [tg] X.env).map (·.2) = [assign tg X.env] := by rfl) : S X B (.Assign [tg] e pos) ρ P := .of (ps_asg pe_w pg_w hs hw h1) fun σ HF H Sl b D o => he σ HF H Sl (fun HF' H' S' f => hW σ HF' H' S' (b.fw f)) _
theorem s_retX (he : EX X C W e ρ ρ1) (hW : ∀ σ HF H, Sl X.K ρ1 σ HF H → Bn B ρ1 σ HF H → W (.ref C) none σ H) : S X B (.Return (some e) pos) ρ P := .of (ps_ret pe_w) fun σ HF H Sl b D o => he σ HF H Sl (fun HF' H' S' f => hW σ HF' H' S' (b.fw f)) _
/-- try: e; except x: .. , e raises -/
theorem s_try1 {b0 : Stmt} {suite : List Stmt} {np p1 p2 : Pos} (T : ExcT X.K X.mg x C) (he : ∀ (W : WX) (pn : List (Addr × Obj)) (xe : Value → Shared → Prop), Takes (X.tr pn xe) W → EX (X.tr pn xe) C W e ρ ρ1)
    (hsu : ∀ (a : Addr) (oe : Obj) (pn : List (Addr × Obj)), Ss (X.suite a ((a, oe) :: pn)) B (b0 :: suite) ρ1 P) (hs : X.stack = X.env :: X.outer := by rfl) (hf : X.env.frame = some X.env.locals := by rfl) (hg : Gl X x := by rfl) (hdb : (x == ("__debug__" : Str)) = false := by decide)
    (hsw : swapsWith e none p1.line X.env = pure false := by rfl) : S X B (.Try [.Expr e p1] [.ExceptHandler (some (.Name x np)) none (b0 :: suite) p2] [] [] pos) ρ P :=
  .of (ps_try_only (Wout := fun _ _ _ _ => False) (tb := fun W D σ H => ∀ pn xe, Takes (X.tr pn xe) W → wSs (X.tr pn xe) [.Expr e p1] D σ H) (ts := fun a cls d D σ H => ∀ oe pn, wSs (X.suite a ((a, oe) :: pn)) (b0 :: suite) D σ H) hs hf ⟨hg, hdb, .inl T.g⟩ takes0
    (fun W pn xe tk _ => ⟨fun pins s σ H D I h => (pss_w (X := X.tr pn xe) (st := [.Expr e p1])).run pins s σ H D I (h pn xe tk)⟩)
    (fun a oe cls d pn _ _ => ⟨fun pins s σ H D I h => (pss_w (X := X.suite a ((a, oe) :: pn)) (st := b0 :: suite)).run pins s σ H D I (h oe pn)⟩)) fun σ HF H S1 b D o => fun pn xe tk =>
  ⟨_, pss_one (ps_expr pe_w hsw), he _ pn xe tk σ HF H S1 (fun HF' H' S' f => ⟨true, T.self, fun _ a _ oe pn' => hsu a oe pn' σ HF' H' S' (b.fw f) D (o.up f.hf), fun z => nomatch z⟩) _⟩
end
end Th

set_option Elab.async false
set_option linter.all false
set_option maxRecDepth 100000
namespace Th
open PySem PySem.Spec PyProof.Rows L2

/-! rows of steps -/
theorem Run.snoc {l e e' : List Int} {ss : List Stp} {h g : Int} {w : Wd} {i : Int} (r : Run l ss e h) (hl : e.length ≤ 1000) (hs : stepF e w i = some (e', g)) : Run l (ss ++ [(w, i)]) e' (h + g) := by
  induction r with
  | nil =>
    have := Run.cons hl hs .nil
    rwa [show g + 0 = 0 + g by omega] at this
  | cons h1 h2 _ ih =>
    have := Run.cons h1 h2 (ih hl hs)
    rwa [← Int.add_assoc] at this
theorem Run.val {l e : List Int} {ss : List Stp} {h : Int} (r : Run l ss e h) : valF e = valF l := by
  induction r with
  | nil => rfl
  | cons _ h2 _ ih => exact ih.trans (stepF_val h2)
theorem Run.sum {l e : List Int} {ss : List Stp} {h : Int} (r : Run l ss e h) : sumV l = rz h (sumV e) := by
  induction r with
  | nil => exact (rz_zero _).symm
  | cons _ h2 _ ih => rw [stepF_sum h2, ih, ← rz_add]
theorem Run.sums {l e : List Int} {ss : List Stp} {h : Int} (r : Run l ss e h) : sumP l = (raiseT h (sumP e).1, raiseT h (sumP e).2) := by
  have h3 := r.sum
  rw [← sumP_cf, ← sumP_cf] at h3
  have c1 := sumP_can l
  have c2 := sumP_can e
  refine Prod.ext (can_ext c1.1 (raise_can c2.1) fun k => ?_) (can_ext c1.2 (raise_can c2.2) fun k => ?_)
  · rw [cf_raise]
    exact congrFun (congrArg Prod.fst h3) k
  · rw [cf_raise]
    exact congrFun (congrArg Prod.snd h3) k
theorem step_bd {p r : List Int} {n b : Int} {w : Wd} {l' : List Int} {h : Int} (hs : stepN p n b r w = some (l', h)) : asum l' ≤ asum (p ++ n :: b :: r) + 1 ∧ l'.length ≤ (p ++ n :: b :: r).length + 1 := by
  rw [asum_app, asum, asum]
  cases w with
  | two => cases hs
  | one =>
    simp only [stepN] at hs
    split at hs
    · cases hs
      rcases nil_or p with rfl | ⟨q, a, rfl⟩
      · rw [decL_nil]; simp only [List.nil_append, asum, List.length_cons]; exact ⟨by omega, by omega⟩
      · rw [decL_app]; simp only [asum_app, asum, List.length_append, List.length_cons, List.length_nil]; exact ⟨by omega, by omega⟩
    · cases hs
  | less =>
    simp only [stepN] at hs
    split at hs
    · cases hs
      rcases nil_or p with rfl | ⟨q, a, rfl⟩
      · rw [decL_nil]; simp only [List.nil_append, asum, List.length_cons]; exact ⟨by omega, by omega⟩
      · rw [decL_app]; simp only [asum_app, asum, List.length_append, List.length_cons, List.length_nil]; exact ⟨by omega, by omega⟩
    · cases hs
  | nought =>
    simp only [stepN] at hs
    split at hs
    · split at hs
      · rename_i hp
        subst hp
        split at hs
        · cases hs
          simp only [List.nil_append, asum, List.length_cons]; exact ⟨by omega, by omega⟩
        · cases hs
      · rename_i hp
        cases hs
        rcases nil_or p with rfl | ⟨q, a, rfl⟩
        · exact (hp rfl).elim
        · rw [decL_app]; simp only [asum_app, asum, List.length_append, List.length_cons, List.length_nil]; exact ⟨by omega, by omega⟩
    · cases hs
  | loose =>
    simp only [stepN] at hs
    split at hs
    · rename_i h0
      obtain ⟨rfl, rfl⟩ := h0
      cases hs
      simp only [List.nil_append, asum, List.length_cons]; exact ⟨by omega, by omega⟩
    · cases hs
  | split =>
    simp only [stepN] at hs
    split at hs
    · cases hs
      simp only [asum_app, asum, List.length_append, List.length_cons]; exact ⟨by omega, by omega⟩
    · cases hs
theorem stepF_bd {l l' : List Int} {w : Wd} {i h : Int} (hs : stepF l w i = some (l', h)) : asum l' ≤ asum l + 1 ∧ l'.length ≤ l.length + 1 := by
  obtain ⟨p, n, b, s, rfl, rfl, hs2⟩ := stepF_cut hs
  exact step_bd hs2

/-! how far powers go -/
def Near (B : Nat) (a : List Tm) : Prop := ∀ t ∈ a, -(B : Int) ≤ t.1 ∧ t.1 ≤ B
theorem inc_len : ∀ (a : List Int) (lo hi : Int), a.Pairwise (· < ·) → (∀ x ∈ a, lo ≤ x ∧ x ≤ hi) → lo ≤ hi + 1 → (a.length : Int) ≤ hi + 1 - lo
  | [], lo, hi, _, _, h => by simp; omega
  | x :: a, lo, hi, hp, hb, h => by
    have hp := List.pairwise_cons.mp hp
    have hx := hb x List.mem_cons_self
    have := inc_len a (x + 1) hi hp.2 (fun y hy => ⟨by have := hp.1 y hy; omega, (hb y (List.mem_cons_of_mem _ hy)).2⟩) (by omega)
    rw [List.length_cons]
    omega
theorem near_len {B : Nat} {a : List Tm} (c : Can a) (h : Near B a) : a.length ≤ 2 * B + 1 := by
  have := inc_len (a.map (·.1)) (-(B : Int)) B c.1 (fun x hx => by
    obtain ⟨t, ht, rfl⟩ := List.mem_map.mp hx
    exact h t ht) (by omega)
  rw [List.length_map] at this
  omega
theorem near_lift {B : Nat} {a : List Tm} {k : Int} (h : Near B a) (hk : k.natAbs ≤ 3) : Near (B + 3) (liftT k a) := fun t ht => by
  obtain ⟨u, hu, rfl⟩ := List.mem_map.mp ht
  have := h u hu
  dsimp only
  omega
theorem near_half {B : Nat} {v : P2} {way : Int} (h : Near B v.1 ∧ Near B v.2) (hw : way = 1 ∨ way = -1) : Near (B + 3) (halfT way v).1 ∧ Near (B + 3) (halfT way v).2 := by
  refine ⟨near_lift h.1 (by omega), fun t ht => ?_⟩
  have := gat_pow ht
  rw [List.map_append] at this
  rcases List.mem_append.mp this with z | z
  · obtain ⟨u, hu, e⟩ := List.mem_map.mp z
    have := near_lift h.1 (k := way) (by omega) u hu
    rw [← e]
    exact this
  · obtain ⟨u, hu, e⟩ := List.mem_map.mp z
    obtain ⟨u', hu', rfl⟩ := List.mem_map.mp hu
    have := near_lift h.2 (k := 3 * way) (by omega) u' hu'
    rw [← e]
    exact this
theorem near_halfs {v : P2} {way : Int} {B : Nat} (h : Near B v.1 ∧ Near B v.2) (hw : way = 1 ∨ way = -1) : ∀ n, Near (B + 3 * n) (halfs way n v).1 ∧ Near (B + 3 * n) (halfs way n v).2
  | 0 => h
  | n + 1 => near_half (near_halfs h hw n) hw
theorem wayOf_or (n : Int) : wayOf n = 1 ∨ wayOf n = -1 := by unfold wayOf; split <;> simp
theorem near_fold : ∀ (l : List Int) (v : P2) (B : Nat), Near B v.1 ∧ Near B v.2 → Near (B + 3 * asum l) (l.foldl stP v).1 ∧ Near (B + 3 * asum l) (l.foldl stP v).2
  | [], v, B, h => h
  | n :: l, v, B, h => by
    have := near_fold l (stP v n) (B + 3 * n.natAbs) (near_halfs (v := sw2 v) ⟨h.2, h.1⟩ (wayOf_or n) n.natAbs)
    rw [List.foldl_cons, asum]
    rwa [show B + 3 * (n.natAbs + asum l) = B + 3 * n.natAbs + 3 * asum l by omega]
theorem near_p0 : Near 0 p0.1 ∧ Near 0 p0.2 := ⟨fun _ z => (nomatch z), fun t ht => by
  have ht : t = (0, 1) := List.mem_singleton.mp ht
  subst ht
  exact ⟨by decide, by decide⟩⟩
theorem near_sum (l : List Int) : Near (3 * asum l) (sumP l).1 ∧ Near (3 * asum l) (sumP l).2 := by
  have := near_fold l p0 0 near_p0
  rwa [Nat.zero_add] at this
theorem sum_len (l : List Int) : (sumP l).1.length ≤ 6 * asum l + 1 ∧ (sumP l).2.length ≤ 6 * asum l + 1 := by
  have h := near_sum l
  have c := sumP_can l
  have h1 := near_len c.1 h.1
  have h2 := near_len c.2 h.2
  omega
def fTwistedSums2 : List PyData → A → Prop := fun ds r => ∃ l : List Int, (l ≠ [] ∧ l.length ≤ 1000 ∧ asum l ≤ 1000) ∧ ds = [encL l] ∧ r = .d (.tuple [encP (sumP l).1, encP (sumP l).2])

/-! told or refused -/
def stepD : Option (List Int × Int) → PyData
  | none => .none
  | some (l, h) => .tuple [encL l, .int h]
theorem E.stepA {X : Cx} {e : Expr} {ρ ρ1 : Rho} {o : Option (List Int × Int)} (h : E X e ρ (stepA o) ρ1) : E X e ρ (.d (stepD o)) ρ1 := by
  cases o with
  | none => exact h
  | some p => exact E.to (E.tw h) rfl
theorem some_stepD (o : Option (List Int × Int)) : someB (stepD o) = o.isSome := by cases o <;> rfl
def GStepR : List PyData → Prop := fun ds => ∃ (l : List Int) (w : Wd) (i : Int), (l.length ≤ 1000 ∧ stepF l w i = none) ∧ ds = [encL l, encSt (w, i)]
def GNoughtR : List PyData → Prop := fun ds => ∃ (b : Int) (r : List Int), (r.length ≤ 1000 ∧ ¬ (b = 0 ∧ r ≠ [])) ∧ ds = [encL (0 :: b :: r), .int 0]
def GLooseR : List PyData → Prop := fun ds => ∃ (l : List Int) (i : Int), 0 < i ∧ ds = [encL l, .int i]
def GLedR : List PyData → Prop := fun ds => ∃ (l : List Int) (ss : List Stp) (e : List Int) (h : Int) (w : Wd) (i : Int), (Run l ss e h ∧ e.length ≤ 1000 ∧ stepF e w i = none) ∧ ds = [encL l, .list ((ss ++ [(w, i)]).map encSt)]
def fLed0 : List PyData → A → Prop := fun ds r => ∃ l : List Int, ds = [encL l, .list []] ∧ r = .tw [.inl (l.map .int), .inr (.int 0)]
def wds : List Wd := [.one, .less, .nought, .loose, .split]
def someF (l : List Int) : List Stp := ((List.range l.length).map fun i : Nat => (wds.filter fun w => (stepF l w i).isSome).map fun w => (w, (i : Int))).flatten
def fSome : List PyData → A → Prop := fun ds r => ∃ l : List Int, l.length ≤ 1000 ∧ ds = [encL l] ∧ r = .ml ((someF l).map encSt)
theorem someF_ok {l : List Int} {p : Stp} (h : p ∈ someF l) : ∃ l' g, stepF l p.1 p.2 = some (l', g) := by
  unfold someF at h
  obtain ⟨s, h1, h2⟩ := List.mem_flatten.mp h
  obtain ⟨i, _, rfl⟩ := List.mem_map.mp h1
  obtain ⟨w, hw, rfl⟩ := List.mem_map.mp h2
  have := (List.mem_filter.mp hw).2
  dsimp only
  cases q : stepF l w i with
  | none => rw [q] at this; cases this
  | some r => exact ⟨r.1, r.2, rfl⟩
end Th

set_option Elab.async false
set_option linter.all false
set_option maxRecDepth 100000
namespace Th
open PySem PySem.Spec PyProof.Rows L2

/-! an error that is kept behind its clause -/
def ExL (cls : Value) (d : Option Addr) (a : Addr) : HO := .ext fun h => ∃ (oe : Obj) (vs : Array Value), h.get? a = some oe ∧ Zc cls d oe ∧ oe.data = .fields vs
theorem exL_ok {P : Program} {w : World} {H : Hp} {h : Heap} {a : Addr} {cls : Value} {d : Option Addr} {oe : Obj} {vs : Array Value} (e : h.get? a = some oe) (z : Zc cls d oe) (f : oe.data = .fields vs) : ObjOk P w H h a (ExL cls d a) :=
  ⟨⟨oe, vs, e, z, f⟩, ⟨oe, e⟩, fun _ _ ⟨o, v, q, r⟩ k => ⟨o, v, k o q, r⟩⟩
section
variable {X : Cx} {pins : List (Addr × Obj)} {σ : L2.St} {H : Hp} {s : Shared} {a : Addr} {o : HO}
theorem track (I : Inv X pins σ H s) {oe : Obj} {vs : Array Value} (he : s.heap.get? a = some oe) (hd : oe.data = .fields vs) (na : H a = none) (nL : a ≠ X.env.locals) (new : X.s_0.heap.get? a = none) (np : ∀ p ∈ X.pn ++ pins, p.1 ≠ a) (ob : ObjOk X.prog X.w (upd H a o) s.heap a o) : Inv X pins σ (upd H a o) s := by
  have nn : ∀ {b : Addr} {u : HO}, H b = some u → upd H a o b = some u := fun {b u} q => by rw [upd_ne (ne_of_none q na)]; exact q
  have n0 : ∀ {b : Addr} {u : Obj}, X.s_0.heap.get? b = some u → b ≠ a := fun {b u} q z => by rw [z, new] at q; cases q
  refine ⟨I.ok, I.os, I.bare, ⟨fun b u e n f g => I.base.keep b u e ?_ f g, fun b u e n f g => I.base.slot b u e ?_ f g, fun b u e n g => ?_, I.base.there, fun b xs e => nn (I.base.tups b xs e), fun b u xs e => nn (I.base.frzs b u xs e), fun b ps e => ?_⟩, I.loc, I.cell, ?_, fun x c e => ?_, fun p hp => ?_, fun b u e => ?_, I.len⟩
  · first | exact n | (rw [upd_ne (n0 e)] at n; exact n)
  · first | exact n | (rw [upd_ne (n0 e)] at n; exact n)
  · rw [upd_ne (n0 e)]
    exact I.base.free b u e n g
  · obtain ⟨m, q⟩ := I.base.tbls b ps e
    exact ⟨m, nn q⟩
  · rw [upd_ne fun z => nL z.symm]
    exact I.free
  · have hc : c ≠ a := fun z => by
      obtain ⟨v, o', e', d'⟩ := I.cell x c e
      rw [z, he] at e'
      cases e'
      rw [hd] at d'
      cases d'
    rw [upd_ne hc]
    exact I.freeC x c e
  · obtain ⟨q1, q2, q3⟩ := I.pin p hp
    exact ⟨q1, by rw [upd_ne (np p hp)]; exact q2, q3⟩
  · by_cases hb : b = a
    · subst hb
      rw [upd_same] at e
      cases e
      exact ob
    · rw [upd_ne hb] at e
      exact (I.hok b u e).stay (fun _ _ _ q => q) (fun _ q => nn q) fun _ _ q => nn q
end
/-- what the clause wishes: behind it slot j holds the error, which is tracked -/
def wTold (K : PySem.W.Frag) (c : Value) (i j : Nat) (D : Ends) : WX := fun cls d σ H => PySem.W.exmOne K cls c = some true ∧ ∀ a, H a = none → D.nx (((σ.set i (some (V.ref a))).set j (some (V.ref a))).set i none) (upd H a (ExL cls d a))
def EN : Ends := { nx := fun _ _ => False, rt := fun _ _ => False }
section
variable {X : Cx} {x n y : Str} {c : Value} {i j : Nat} {body : List Stmt} {np pos pos' p1 p2 p3 : Pos} {tb : WX → TS}
theorem ps_try_told (hs : X.stack = X.env :: X.outer) (hf : X.env.frame = some X.env.locals) (hN : X.N.Nodup) (hi : X.N[i]? = some n) (hj : X.N[j]? = some y) (hln : X.env.kindOf n = some .local) (hly : X.env.kindOf y = some .local) (hc : Names X x c) (hex : X.ex = [])
    (hd1 : (n == ("__debug__" : Str)) = false) (hd2 : (n == ("__classdict__" : Str)) = false) (hil : ∀ σ : L2.St, σ.length = X.N.length → i < σ.length)
    (hb : ∀ (W : WX) (pn : List (Addr × Obj)) (xe : Value → Shared → Prop), Takes (X.tr pn xe) W → PSs (X.tr pn xe) body (tb W))
    (hsw : ∀ (a : Addr) (pn : List (Addr × Obj)), swapsWith (.Name n p1) (some (.Name y p2)) p3.line (X.suite a pn).env = pure false) :
    PS X (.Try body [.ExceptHandler (some (.Name x np)) (some n) [.Assign [.Name y p2] (.Name n p1) p3] pos'] [] [] pos) (fun D σ H => tb (wTold X.K c i j D) EN σ H) := by
  refine ⟨fun pins s σ H D I h => ?_⟩
  have ok := I.ok
  have fr : X.A.frames = some (X.env :: X.outer) := ok.frames.trans (congrArg some hs)
  have lc : Loc X.env.scope n := .inl hln
  refine wpAny_Try_except (wpAny_mono ((hb (wTold X.K c i j D) (X.pn ++ pins) (fun e u1 => wpAny (model X.prog X.w) X.A (noteFrame e X.env) (fun _ u2 => wpAny (model X.prog X.w) X.A (setFlight e none) (fun _ u3 => wpAny (model X.prog X.w) X.A (handleBy e X.env [.ExceptHandler (some (.Name x np)) (some n) [.Assign [.Name y p2] (.Name n p1) p3] pos']) (SP X pins D) X.xe u3) X.xe u2) X.xe u1) (fun u s1 air => ?air)).run [] s σ H EN (I.toTry _) h) (fun f s1 z => ?thru) fun _ _ z => z)
  case thru =>
    cases f with
    | next => obtain ⟨_, _, _, q⟩ := z; exact q.elim
    | brk => obtain ⟨_, _, _, q⟩ := z; exact q.elim
    | cont => obtain ⟨_, _, _, q⟩ := z; exact q.elim
    | ret v => obtain ⟨_, _, _, _, _, q⟩ := z; exact q.elim
  obtain ⟨a, B, sI, pins1, σ1, H1, cls, d, rfl, J0, nb, up, sky, na, os, ag, hex1, hnx⟩ := air
  have J : Inv X pins σ1 H1 sI := J0.ofTry ok
  have ground : B.get? a = none ∧ ∀ b o, sI.heap.get? b = some o → b ∉ frs X.stack → b ≠ a := by
    have key : B.get? a = none := by
      rcases sky with ⟨_, e, _⟩ | fl | hh
      · exact e
      · exact fl.2.1
      · exact hh.2.1
    exact ⟨key, fun b o e g z => by have := nb b o e g; rw [z, key] at this; cases this⟩
  rw [show (X.tr (X.pn ++ pins) _).stack = X.env :: X.outer from hs] at sky
  show wpAny _ X.A (noteFrame (.ref a) X.env) _ _ _
  refine Sky.land Zc.steady fr hf sky fun g3 f3 u3 => ?_
  have J3 : Inv X pins σ1 H1 { s1 with heap := g3 } := J.landed nb f3.1 (up.trans u3) os ag
  obtain ⟨o3, w3, e3, z3, d3⟩ := f3.there
  have nofr : a ∉ frs (X.env :: X.outer) := fun hm => by
    obtain ⟨_, o', e', hnf⟩ := f3.2.2.1.mem hm
    rw [e3] at e'
    cases e'
    exact hnf _ d3
  have nL : a ≠ X.env.locals := fun z => nofr (List.mem_filterMap.mpr ⟨X.env, List.mem_cons_self, hf.trans (congrArg some z.symm)⟩)
  have nF : a ∉ X.fs := fun hm => by
    obtain ⟨v, hv, q⟩ := List.mem_filterMap.mp hm
    exact nofr (List.mem_filterMap.mpr ⟨v, List.mem_cons_of_mem _ hv, q⟩)
  have new : X.s_0.heap.get? a = none := by
    cases e : X.s_0.heap.get? a with
    | none => rfl
    | some o =>
      obtain ⟨o', e'⟩ := J.base.there a o e (by rw [hex]; exact fun z => nomatch z)
      exact (ground.2 a o' e' (by rw [hs]; exact nofr) rfl).elim
  have nop : ∀ p ∈ X.pn ++ pins, p.1 ≠ a := fun p hp z => ground.2 a p.2 (by rw [← z]; exact (J0.pin p (List.mem_append_left _ hp)).1) (by rw [hs]; exact nofr) rfl
  have S3 := J3.suite e3 d3 na nL nF
  refine wpAny_handleBy_cons (codeAny_handlers_test ?_) fun q => nomatch q
  have look : PySem.W.Looks (model X.prog X.w) g3 (typeOf (.ref a)) cls := fun A Q E s k q => wpAny_typeOf_ref (k _ _ e3) (z3.1.symm ▸ q)
  have good := PySem.W.exm_one (M := model X.prog X.w) J3.kIn look hex1
  have asked : ∀ {Q : Value → Shared → Prop} {E : Value → Shared → Prop}, Q c { s1 with heap := g3 } → wpAny (model X.prog X.w) (X.A.mark (some (.ref a))) (eval (.Name x np) X.env) Q E { s1 with heap := g3 } := fun q => by
    obtain ⟨m1, m2, m3 | ⟨m3, m4, m5⟩⟩ := hc
    · exact ld_glob (X := X.suite a _) S3 m1 m3 q m2
    · exact ld_blt (X := X.suite a _) S3 m1 m3 m4 q m5 m2
  refine asked (good.here (codeAny_handlers_suite_as (HandSPX.lands_againZ f3 fun g4 f4 u4 => ?_)))
  have J4 : Inv X pins σ1 H1 { s1 with heap := g4 } := J.landed nb f4.1 ((up.trans u3).trans u4) os ag
  obtain ⟨o4, w4, e4, z4, d4⟩ := f4.there
  have S4 := J4.suite e4 d4 na nL nF
  refine store_ok (X := X.suite a ((a, o4) :: (X.pn ++ pins))) (v := .ref a) S4 hN hi lc rfl (fun s5 S5 => ?_) (.inr hln)
  have hlen : σ1.length = X.N.length := J.len
  have run := (pss_one (ps_set (X := X.suite a ((a, o4) :: (X.pn ++ pins))) (i := j) (pos' := p2) (pos := p3) hN hj (.inl hly) (pe_var (X := X.suite a ((a, o4) :: (X.pn ++ pins))) (pos := p1) hi (.inl hln) hd1 hd2) (hsw _ _) (.inr hly))).run [] s5 (σ1.set i (some (.ref a))) H1 { nx := fun σ6 H6 => σ6 = (σ1.set i (some (V.ref a))).set j (some (V.ref a)) ∧ H6 = H1, rt := fun _ _ => False } S5 ⟨.ref a, List.getElem?_set_self (hil σ1 hlen), rfl, rfl⟩
  refine wpAny_mono run (fun f s6 z => ?_) fun _ _ z => z.elim
  cases f with
  | next =>
    obtain ⟨σ6, H6, S6, rfl, rfl⟩ := z
    have K6 : Inv X pins _ H6 s6 := S6.unsuite ok
    have e6 : s6.heap.get? a = some o4 := (S6.pin (a, o4) (List.mem_append_left _ List.mem_cons_self)).1
    have T6 := track (o := ExL cls d a) K6 e6 d4 na nL new nop (exL_ok e6 z4 d4)
    exact gone_ok T6 hN hi hln fun s7 J7 => ⟨_, _, J7, hnx a na⟩
  | brk => obtain ⟨_, _, _, q⟩ := z; exact q.elim
  | cont => obtain ⟨_, _, _, q⟩ := z; exact q.elim
  | ret v => obtain ⟨_, _, _, _, _, q⟩ := z; exact q.elim
end
end Th

set_option Elab.async false
set_option linter.all false
set_option maxRecDepth 100000
namespace Th
open PySem PySem.Spec PyProof.Rows L2

/-! isinstance of an error that is kept -/
def rIsL (K : PySem.W.Frag) : List V → Hp → VK → Prop := fun xs H Q => ∃ (a D : Addr) (c : V) (cv : Value) (b : Bool), xs = [.ref a, c] ∧ H a = some (ExL (.ref D) none a) ∧ ExcC K D ∧ ClsV c cv ∧ PySem.W.kitOne K (.ref D) cv = some b ∧ Q (.bl b) H
def rIsLT (K : PySem.W.Frag) : List V → Hp → VK → Prop := fun xs H Q => ∃ (a D tp : Addr) (cs : List V) (us : List Value) (b : Bool), xs = [.ref a, .ref tp] ∧ H a = some (ExL (.ref D) none a) ∧ ExcC K D ∧ H tp = some (.tup cs) ∧ Paired ClsV cs us ∧ PySem.W.kitAny K (.ref D) us = some b ∧ Q (.bl b) H
theorem instL {X : Cx} {pins : List (Addr × Obj)} {σ : L2.St} {H : Hp} {s : Shared} {a D : Addr} (I : Inv X pins σ H s) (e : H a = some (ExL (.ref D) none a)) : ∃ oe, PySem.W.InstAt s.heap a oe D none := by
  obtain ⟨⟨oe, vs, h1, h2, h3⟩, _⟩ := (show ObjOk X.prog X.w H s.heap a (ExL (.ref D) none a) from I.hok a _ e)
  obtain ⟨oc, od, oda, osl⟩ := oe
  obtain ⟨k1, k2⟩ := h2
  dsimp only at k1 k2 h3
  subst k1 k2 h3
  exact ⟨_, h1, rfl, rfl, trivial⟩
theorem call_isL {X : Cx} : CallR X (.builtin "isinstance") (rIsL X.K) := by
  intro pins s σ H xs us Q I r h
  obtain ⟨a, D, c, cv, b, rfl, ha, C, hc, e, q⟩ := h
  cases r with
  | cons rx rr =>
    cases rr with
    | cons rt rr =>
      cases rr
      cases rx
      have := hc.eq rt
      subst this
      obtain ⟨oe, J⟩ := instL I ha
      exact PySem.W.kia_one (PySem.W.handS_kitx_exc C.hg C.hk C.hs C.hd C.ha C.hn C.ht C.hm) I.kIn J e (fun z => nomatch z) fun tk => ⟨.bl b, H, I.tok tk, rfl, q⟩
theorem call_isLT {X : Cx} : CallR X (.builtin "isinstance") (rIsLT X.K) := by
  intro pins s σ H xs us Q I r h
  obtain ⟨a, D, tp, cs, ws, b, rfl, ha, C, hT, hc, e, q⟩ := h
  cases r with
  | cons rx rr =>
    cases rr with
    | cons rt rr =>
      cases rr
      cases rx
      cases rt
      obtain ⟨oe, J⟩ := instL I ha
      obtain ⟨_, its, rv, o, h1, h2, n, h3⟩ := (show ObjOk X.prog X.w H s.heap tp (.tup cs) from I.hok tp _ hT)
      have := ClsV.all hc rv
      subst this
      obtain ⟨oc, od, dt, sl⟩ := o
      simp only at h2 h3
      subst h2
      subst h3
      exact PySem.W.kia_tup (PySem.W.handS_kitx_exc C.hg C.hk C.hs C.hd C.ha C.hn C.ht C.hm) I.kIn J h1 e (fun z => nomatch z) fun tk => ⟨.bl b, H, I.tok tk, rfl, q⟩

/-- a class above -/
structure SupT (K : PySem.W.Frag) (mg : Str → Option Value) (x : Str) (C D : Addr) : Prop where
  g : mg x = some (.ref C)
  sb : PySem.W.subIn K (.ref C) (.type "BaseException") = some true
  ty : PySem.W.typeIn K (.ref C) = some (.type "type")
  cl : PySem.W.isClsIn K C = true
  sd : PySem.W.subIn K (.ref D) (.ref C) = some true
/-- a class beside -/
structure OthT (K : PySem.W.Frag) (mg : Str → Option Value) (x : Str) (C D : Addr) : Prop where
  g : mg x = some (.ref C)
  ty : PySem.W.typeIn K (.ref C) = some (.type "type")
  cl : PySem.W.isClsIn K C = true
  sd : PySem.W.subIn K (.ref D) (.ref C) = some false
  ss : PySem.W.subIn K (.ref D) (.ref D) = some true
theorem SupT.exm {K : PySem.W.Frag} {mg : Str → Option Value} {x : Str} {C D : Addr} (T : SupT K mg x C D) : PySem.W.exmOne K (.ref D) (.ref C) = some true := by
  have h2 : (PySem.W.clsIn K C).isSome = true := T.cl
  show (if (PySem.W.subIn K (.ref C) (.type "BaseException") == some true) = true then (if ((PySem.W.clsIn K C).isSome && PySem.W.typeIn K (.ref C) == some (.type "type")) = true then PySem.W.subIn K (.ref D) (.ref C) else none) else none) = some true
  rw [T.sb, h2, T.ty, T.sd] <;> rfl
theorem OthT.kit {K : PySem.W.Frag} {mg : Str → Option Value} {x : Str} {C D : Addr} (T : OthT K mg x C D) : PySem.W.kitOne K (.ref D) (.ref C) = some false := by
  have hne : ¬ (Value.ref D == Value.ref C) = true := fun z => by
    have e : D = C := Value.ref.inj (beq_iff_eq.mp z)
    have h1 := T.sd
    rw [← e, T.ss] at h1
    cases h1
  have h2 : (PySem.W.clsIn K C).isSome = true := T.cl
  unfold PySem.W.kitOne
  rw [if_neg hne]
  show (if ((PySem.W.clsIn K C).isSome && PySem.W.typeIn K (.ref C) == some (.type "type")) = true then PySem.W.subIn K (.ref D) (.ref C) else none) = some false
  rw [h2, T.ty, T.sd] <;> rfl
theorem kit_own {K : PySem.W.Frag} {D : Addr} : PySem.W.kitOne K (.ref D) (.ref D) = some true := by
  unfold PySem.W.kitOne
  rw [if_pos (beq_self_eq_true _)]
theorem kit_ve {K : PySem.W.Frag} {D : Addr} (h : PySem.W.subIn K (.ref D) (.type "ValueError") = some true) : PySem.W.kitOne K (.ref D) (.type "ValueError") = some true := by
  have hne : ¬ (Value.ref D == Value.type "ValueError") = true := fun z => by cases (beq_iff_eq.mp z)
  unfold PySem.W.kitOne
  rw [if_neg hne]
  show (if PySem.W.kitMeta "ValueError" = true then PySem.W.subIn K (.ref D) (.type "ValueError") else none) = some true
  rw [if_pos (by decide +kernel), h]

/-! slot j holds such an error -/
structure TdIn (D : Addr) (j : Nat) (ρ : Rho) (σ : L2.St) (H : Hp) : Prop where
  ex : ∃ a, σ[j]? = some (some (V.ref a)) ∧ H a = some (ExL (.ref D) none a) ∧ ¬ OwnAt ρ σ a
section
variable {X : Cx} {B : Bs} {P : Pst} {ρ ρ1 ρ2 : Rho} {e c e1 e2 : Expr} {es rest sts : List Stmt} {s1 : List Stmt} {pos pos' p1 p2 p3 pn pt : Pos} {D : Addr} {j : Nat} {x y : Str} {b b2 : Bool} {l : List (List PyData ⊕ PyData)} {i : Nat}
def Td (X : Cx) (B : Bs) (j : Nat) (D : Addr) (sts : List Stmt) (ρ : Rho) (P : Pst) : Prop := ∀ σ HF H, Sl X.K ρ σ HF H → Bn B ρ σ HF H → TdIn D j ρ σ H → ∀ Dd, Ok X.K B HF Dd P → wSs X sts Dd σ H
theorem td_end (h : Ss X B sts ρ P) : Td X B j D sts ρ P := fun σ HF H S b _ Dd o => h σ HF H S b Dd o
def ETd (X : Cx) (j : Nat) (D : Addr) (c : Expr) (ρ : Rho) (b : Bool) : Prop := ∀ σ HF H, Sl X.K ρ σ HF H → TdIn D j ρ σ H → ∀ Q : Bool → Hp → Prop, (∀ HF' H', Sl X.K ρ σ HF' H' → Fw ρ ρ σ HF H HF' H' → Q b H') → wT X c σ H Q
def EWd (X : Cx) (j : Nat) (D : Addr) (c : Expr) (ρ : Rho) (b : Bool) : Prop := ∀ σ HF H, Sl X.K ρ σ HF H → TdIn D j ρ σ H → ∀ Q : Bool → Hp → Prop, (∀ HF' H', Sl X.K ρ σ HF' H' → Fw ρ ρ σ HF H HF' H' → Q b H') → wW X c σ H Q
theorem TdIn.fw {σ : L2.St} {HF H HF' H' : Hp} (t : TdIn D j ρ σ H) (f : Fw ρ ρ σ HF H HF' H') : TdIn D j ρ σ H' := by
  obtain ⟨a, h1, h2, h3⟩ := t.ex
  exact ⟨a, h1, f.keep a _ h2 h3, h3⟩
theorem td_if (hc : ETd X j D c ρ false) (h : Td X B j D rest ρ P) : Td X B j D (.If c s1 [] pos :: rest) ρ P := fun σ HF H S b t Dd o =>
  ⟨_, pss_cons (ps_if pt_w pss_w pss_nil) pss_w, hc σ HF H S t _ fun HF1 H1 S1 f1 => h σ HF1 H1 S1 (b.fw f1) (t.fw f1) Dd (o.up f1.hf)⟩
theorem td_isN {k : Nat} {p0 : Pos} (hj : X.N[j]? = some y := by rfl) (hv : Vis X.env.scope y := by first | exact Or.inl rfl | exact Or.inr (Or.inl rfl) | exact Or.inr (Or.inr rfl)) (hd : (y == ("__debug__" : Str)) = false := by decide) (hcd : (y == ("__classdict__" : Str)) = false := by decide) : ETd X j D (.Compare (.Name y pos') [.Is] [.Constant .none k p0] pos) ρ false := fun σ HF H S t Q q =>
  ⟨_, pt_cmpR op_isN (pe_var hj hv hd hcd) pe_non (nomark _), by
    obtain ⟨a, h1, h2, h3⟩ := t.ex
    exact ⟨.ref a, h1, rfl, false, rfl, q HF H S (.refl ..)⟩⟩
theorem td_is {T : Expr} {v : V} {cv : Value} (hT : PE X T (tC v)) (hc : ClsV v cv) (C : ExcC X.K D) (hk : PySem.W.kitOne X.K (.ref D) cv = some b) (hm : X.mg "isinstance" = none) (hj : X.N[j]? = some y := by rfl) (hg : Gl X "isinstance" := by rfl)
    (hv : Vis X.env.scope y := by first | exact Or.inl rfl | exact Or.inr (Or.inl rfl) | exact Or.inr (Or.inr rfl)) (hd : (y == ("__debug__" : Str)) = false := by decide) (hcd : (y == ("__classdict__" : Str)) = false := by decide)
    (he : starEach [.Name y pos', T] X.env = (false, eval (.Name y pos') X.env) :: starEach [T] X.env := by rfl) (he2 : starEach [T] X.env = (false, eval T X.env) :: starEach [] X.env := by rfl) (hpl : (backTo pos (starEach [T] X.env)).any (·.1) = false := by rfl)
    (ht : ∀ whole, isTrue (.Call (.Name "isinstance" pn) [.Name y pos', T] [] pos) X.env whole = (do let v ← whole; standAt (Expr.Call (.Name "isinstance" pn) [.Name y pos', T] [] pos).pos; holding [v] (truthy v)) := by intro _; rfl) : ETd X j D (.Call (.Name "isinstance" pn) [.Name y pos', T] [] pos) ρ b := fun σ HF H S t Q q =>
  ⟨_, pt_val (pe_callB call_isL hg hm (by decide +kernel) (pa_cons (pe_var hj hv hd hcd) (pa_cons hT pa_nil he2) he) (by decide) (by decide) he hpl) ht, by
    obtain ⟨a, h1, h2, h3⟩ := t.ex
    exact ⟨.ref a, h1, a, D, v, cv, b, rfl, h2, C, hc, hk, b, rfl, q HF H S (.refl ..)⟩⟩
def tCs : List V → TA
  | [] => tNil
  | v :: vs => tCons (tC v) (tCs vs)
theorem tCs_go : ∀ (vs : List V) (σ : L2.St) (H : Hp) (Q : List V → Hp → Prop), Q vs H → tCs vs σ H Q
  | [], _, _, _, q => q
  | v :: vs, σ, H, Q, q => tCs_go vs σ H (fun xs H1 => Q (v :: xs) H1) q
theorem td_isT {Ts : List Expr} {n : Nat} {vs : List V} {us : List Value} (hT : PA X Ts (tCs vs)) (hc : Paired ClsV vs us) (C : ExcC X.K D) (hk : PySem.W.kitAny X.K (.ref D) us = some b) (hm : X.mg "isinstance" = none) (hj : X.N[j]? = some y := by rfl) (hg : Gl X "isinstance" := by rfl) (hz : vs.length ≤ sizeLine := by exact Nat.le_of_ble_eq_true rfl)
    (hv : Vis X.env.scope y := by first | exact Or.inl rfl | exact Or.inr (Or.inl rfl) | exact Or.inr (Or.inr rfl)) (hd : (y == ("__debug__" : Str)) = false := by decide) (hcd : (y == ("__classdict__" : Str)) = false := by decide)
    (he : starEach [.Name y pos', .Tuple Ts n pt] X.env = (false, eval (.Name y pos') X.env) :: starEach [.Tuple Ts n pt] X.env := by rfl) (he2 : starEach [.Tuple Ts n pt] X.env = (false, eval (.Tuple Ts n pt) X.env) :: starEach [] X.env := by rfl) (hpl : (backTo pos (starEach [.Tuple Ts n pt] X.env)).any (·.1) = false := by rfl)
    (ht : ∀ whole, isTrue (.Call (.Name "isinstance" pn) [.Name y pos', .Tuple Ts n pt] [] pos) X.env whole = (do let v ← whole; standAt (Expr.Call (.Name "isinstance" pn) [.Name y pos', .Tuple Ts n pt] [] pos).pos; holding [v] (truthy v)) := by intro _; rfl) : ETd X j D (.Call (.Name "isinstance" pn) [.Name y pos', .Tuple Ts n pt] [] pos) ρ b := fun σ HF H S t Q q =>
  ⟨_, pt_val (pe_callB call_isLT hg hm (by decide +kernel) (pa_cons (pe_var hj hv hd hcd) (pa_cons (pe_tup hT) pa_nil he2) he) (by decide) (by decide) he hpl) ht, by
    obtain ⟨a, h1, h2, h3⟩ := t.ex
    refine ⟨.ref a, h1, tCs_go vs σ H _ ⟨hz, fun tp hp => ?_⟩⟩
    obtain ⟨S2, f2⟩ := S.allocD hp (.tup vs)
    exact ⟨a, D, tp, vs, us, b, rfl, f2.keep a _ h2 h3, C, upd_same, hc, hk, b, rfl, q _ _ S2 f2⟩⟩
theorem td_not (h : ETd X j D c ρ b) : ETd X j D (.UnaryOp .Not c pos) ρ (!b) := fun σ HF H S t Q q => ⟨_, pt_not pt_w, h σ HF H S t _ fun HF1 H1 S1 f1 => q HF1 H1 S1 f1⟩
theorem td_w (h : EWd X j D c ρ b) : ETd X j D c ρ b := fun σ HF H S t Q q => ⟨_, PW.pt pw_w, h σ HF H S t Q q⟩
theorem td_or1 (h : ETd X j D c ρ b) : EWd X j D (.BoolOp .Or [c] pos) ρ b := fun σ HF H S t Q q => ⟨_, pw_or1 pt_w, h σ HF H S t Q q⟩
theorem td_or {cs : List Expr} (h : ETd X j D c ρ b) (h2 : EWd X j D (.BoolOp .Or (e1 :: cs) pos) ρ b2) : EWd X j D (.BoolOp .Or (c :: e1 :: cs) pos) ρ (b || b2) := fun σ HF H S t Q q => ⟨_, pw_or pt_w pw_w, h σ HF H S t _ fun HF1 H1 S1 f1 => by
  cases b with
  | false => exact h2 σ HF1 H1 S1 (t.fw f1) Q fun HF2 H2 S2 f2 => q HF2 H2 S2 (f1.trans f2)
  | true => exact q HF1 H1 S1 f1⟩
/-- try: z = e; except x as n: y = n , e raises -/
theorem Bn.wipe1 {σ : L2.St} {HF H : Hp} (b : Bn B ρ σ HF H) (hl : ∀ q ∈ B.L, q.1 ≠ i) : Bn B (ρ.set i .any) (σ.set i none) HF H := by
  refine ⟨b.hf, b.keep, b.new, b.pres, fun k a p h1 h2 h3 => ?_, fun q hq => ?_⟩
  · by_cases hk : i = k
    · subst hk
      have hi : i < ρ.length := by
        have := (List.getElem?_eq_some_iff.mp h1).1
        rw [List.length_set] at this
        exact this
      rw [List.getElem?_set_self hi] at h1
      cases h1
      cases h2
    · rw [List.getElem?_set_ne hk] at h1 h3
      exact b.mine k a p h1 h2 h3
  · rw [List.getElem?_set_ne (hl q hq).symm]
    exact b.lent q hq
theorem s_tryTd (i j z : Nat) {n zn : Str} {C : Addr} {np pz pq : Pos} (T : SupT X.K X.mg x C D) (he : ∀ (W : WX) (pn : List (Addr × Obj)) (xe : Value → Shared → Prop), Takes (X.tr pn xe) W → EX (X.tr pn xe) D W e ρ ρ1) (h : Td X B j D sts (((ρ1.set i .any).set j .any).set i .any) P)
    (hli : ∀ q ∈ B.L, q.1 ≠ i) (hlj : ∀ q ∈ B.L, q.1 ≠ j) (hN : X.N.Nodup) (hij : i ≠ j := by decide) (hi : X.N[i]? = some n := by rfl) (hj : X.N[j]? = some y := by rfl) (hzn : X.N[z]? = some zn := by rfl) (hs : X.stack = X.env :: X.outer := by rfl) (hf : X.env.frame = some X.env.locals := by rfl) (hex : X.ex = [] := by rfl)
    (hln : X.env.kindOf n = some .local := by rfl) (hly : X.env.kindOf y = some .local := by rfl) (hlz : Loc X.env.scope zn := by exact Or.inl rfl) (hfz : X.fn zn = true ∨ X.env.scope.names.lookup zn = some .local := by first | exact .inl rfl | exact .inr rfl) (hg : Gl X x := by rfl) (hdb : (x == ("__debug__" : Str)) = false := by decide) (hd1 : (n == ("__debug__" : Str)) = false := by decide) (hd2 : (n == ("__classdict__" : Str)) = false := by decide)
    (hlen : j < ρ1.length ∧ i < X.N.length := by exact ⟨Nat.le_of_ble_eq_true rfl, Nat.le_of_ble_eq_true rfl⟩) (hsw : ∀ (a : Addr) (pn : List (Addr × Obj)), swapsWith (.Name n p1) (some (.Name y p2)) p3.line (X.suite a pn).env = pure false := by intro _ _; rfl) (hsz : swapsWith e (some (.Name zn pz)) pq.line X.env = pure false := by rfl) :
    Ss X B (.Try [.Assign [.Name zn pz] e pq] [.ExceptHandler (some (.Name x np)) (some n) [.Assign [.Name y p2] (.Name n p1) p3] pos'] [] [] pos :: sts) ρ P := fun σ HF H S1 b Dd o =>
  ⟨_, pss_cons (ps_try_told (tb := fun W Dx σ H => ∀ pn xe, Takes (X.tr pn xe) W → wSs (X.tr pn xe) [.Assign [.Name zn pz] e pq] Dx σ H) hs hf hN hi hj hln hly ⟨hg, hdb, .inl T.g⟩ hex hd1 hd2 (fun σ hl => by rw [hl]; exact hlen.2)
    (fun W pn xe tk => ⟨fun pins s σ H Dx I h => (pss_w (X := X.tr pn xe) (st := [.Assign [.Name zn pz] e pq])).run pins s σ H Dx I (h pn xe tk)⟩) hsw) pss_w, fun pn xe tk =>
    ⟨_, pss_one (ps_set (X := X.tr pn xe) hN hzn hlz pe_w hsz hfz), he _ pn xe tk σ HF H S1 (fun HF' H' S' f => ⟨T.exm, fun a na => by
      obtain ⟨S2, f2⟩ := S'.allocO na (ExL (.ref D) none a)
      have b2 := (b.fw f).fw f2
      have r0 : ∀ Hb, RRel X.K Hb HF' (upd H' a (ExL (.ref D) none a)) (V.ref a) .any := fun _ => trivial
      have S3 := S2.set (i := i) (Hb := upd H' a (ExL (.ref D) none a)) (r0 _) fun p hp w => S2.notOwn hp w
      have b3 := b2.set S2 (r0 _) hli
      have S4 := S3.set (i := j) (Hb := upd H' a (ExL (.ref D) none a)) (r0 _) fun p hp w => S3.notOwn hp w
      have b4 := b3.set S3 (r0 _) hlj
      have S5 : Th.Sl X.K (((ρ1.set i .any).set j .any).set i .any) (((σ.set i (some (V.ref a))).set j (some (V.ref a))).set i none) HF' (upd H' a (ExL (.ref D) none a)) := S4.wipe [i]
      have b5 := b4.wipe1 hli
      refine h _ HF' _ S5 b5 ⟨a, ?_, upd_same, ?_⟩ Dd (o.up f.hf)
      · rw [List.getElem?_set_ne hij, List.getElem?_set_self (by rw [List.length_set, S'.len]; exact hlen.1)]
      · rintro ⟨k, c, k1, k2, k3⟩
        by_cases e1 : i = k
        · subst e1
          have hk := (List.getElem?_eq_some_iff.mp k1).1
          rw [List.length_set] at hk
          rw [List.getElem?_set_self hk] at k1
          cases k1
          cases k2
        · rw [List.getElem?_set_ne e1] at k1 k3
          by_cases e2 : j = k
          · subst e2
            have hk := (List.getElem?_eq_some_iff.mp k1).1
            rw [List.length_set] at hk
            rw [List.getElem?_set_self hk] at k1
            cases k1
            cases k2
          · rw [List.getElem?_set_ne e2, List.getElem?_set_ne e1] at k1 k3
            obtain ⟨_, u, q⟩ := S'.ownAt' ⟨k, c, k1, k2, k3⟩
            rw [na] at q
            cases q⟩) _⟩⟩
end
end Th

set_option Elab.async false
set_option linter.all false
set_option maxRecDepth 100000
namespace Th
open PySem PySem.Spec PyProof.Rows L2

/-! slot i holds a new tuple with new lists, all of it known -/
def TwQ (K : PySem.W.Frag) (B : Bs) (ρ : Rho) (σ : L2.St) (HF H : Hp) (x : V) : List PyData ⊕ PyData → Prop
  | .inl zs => ∃ q us, x = .ref q ∧ B.H0 q = none ∧ HF q = none ∧ ¬ OwnAt ρ σ q ∧ H q = some (.lst us) ∧ DpAll K HF us zs
  | .inr v => Dp K HF x v
structure TwAt (K : PySem.W.Frag) (B : Bs) (i : Nat) (l : List (List PyData ⊕ PyData)) (ρ : Rho) (σ : L2.St) (HF H : Hp) : Prop where
  ex : ∃ t ys, σ[i]? = some (some (V.ref t)) ∧ B.H0 t = none ∧ HF t = none ∧ ¬ OwnAt ρ σ t ∧ H t = some (.tup ys) ∧ Paired (TwQ K B ρ σ HF H) ys l
theorem TwAt.fw {K : PySem.W.Frag} {B : Bs} {i : Nat} {l : List (List PyData ⊕ PyData)} {ρ : Rho} {σ : L2.St} {HF H HF' H' : Hp} (t : TwAt K B i l ρ σ HF H) (f : Fw ρ ρ σ HF H HF' H') : TwAt K B i l ρ σ HF' H' := by
  obtain ⟨t, ys, h1, h2, h3, h4, h5, h6⟩ := t.ex
  refine ⟨t, ys, h1, h2, f.hfn h3 h5, h4, f.keep t _ h5 h4, Paired.mapP h6 fun y a z => ?_⟩
  cases a with
  | inl zs => obtain ⟨q, us, g1, g2, g3, g4, g5, g6⟩ := z; exact ⟨q, us, g1, g2, f.hfn g3 g5, g4, f.keep q _ g5 g4, dpa_mono f.hf g6⟩
  | inr v => exact dp_mono f.hf z
section
variable {X : Cx} {B : Bs} {P : Pst} {ρ ρ1 ρ2 : Rho} {e c e1 e2 : Expr} {rest sts s1 s2 : List Stmt} {pos pos' : Pos} {x : Str} {b : Bool} {l : List (List PyData ⊕ PyData)} {i : Nat}
def Swl (X : Cx) (B : Bs) (i : Nat) (l : List (List PyData ⊕ PyData)) (sts : List Stmt) (ρ : Rho) (P : Pst) : Prop := ∀ σ HF H, Sl X.K ρ σ HF H → Bn B ρ σ HF H → TwAt X.K B i l ρ σ HF H → ∀ D, Ok X.K B HF D P → wSs X sts D σ H
theorem swl_end (h : Ss X B sts ρ P) : Swl X B i l sts ρ P := fun σ HF H S b _ D o => h σ HF H S b D o
theorem swl_sw (N : Nat) (hlen : ∀ z ∈ l, ∀ zs, z = .inl zs → zs.length ≤ N) (h : Sw X B i N (l.map isL) sts ρ P) : Swl X B i l sts ρ P := fun σ HF H S b t D o => by
  obtain ⟨t, ys, h1, h2, h3, h4, h5, h6⟩ := t.ex
  refine h σ HF H S b ⟨t, ys, h1, h2, h3, h4, h5, ?_⟩ D o
  have key : ∀ {ys : List V} {l : List (List PyData ⊕ PyData)}, Paired (TwQ X.K B ρ σ HF H) ys l → (∀ z ∈ l, ∀ zs, z = .inl zs → zs.length ≤ N) → Paired (fun y k => k = true → ∃ q us, y = V.ref q ∧ B.H0 q = none ∧ HF q = none ∧ ¬ OwnAt ρ σ q ∧ H q = some (.lst us) ∧ us.length ≤ N) ys (l.map isL) := fun hp => by
    induction hp with
    | nil => intro _; exact .nil
    | @cons y a ys l z _ ih =>
      intro hall
      refine .cons (fun hk => ?_) (ih fun b hb => hall b (List.mem_cons_of_mem _ hb))
      have h0 := hall a List.mem_cons_self
      cases a with
      | inl zs => obtain ⟨q, us, g1, g2, g3, g4, g5, g6⟩ := z; exact ⟨q, us, g1, g2, g3, g4, g5, by rw [dpa_len g6]; exact h0 zs rfl⟩
      | inr v => exact nomatch hk
  exact key h6 hlen
/-- what a stored one is -/
theorem tw_stored {σ : L2.St} {HF H HF1 H1 : Hp} {y : V} (S0 : Th.Sl X.K ρ σ HF H) (b : Bn B ρ σ HF H) (S1 : Th.Sl X.K ρ1 σ HF1 H1) (f1 : Fw ρ ρ1 σ HF H HF1 H1) (r1 : RRel X.K H HF1 H1 y (.tw l)) (hl : ∀ q ∈ B.L, q.1 ≠ i) (hir : i < ρ1.length) :
    Th.Sl X.K (ρ1.set i .any) (σ.set i (some y)) HF1 H1 ∧ Bn B (ρ1.set i .any) (σ.set i (some y)) HF1 H1 ∧ TwAt X.K B i l (ρ1.set i .any) (σ.set i (some y)) HF1 H1 := by
  obtain ⟨t, ys, rfl, h0, h1, h2, h3⟩ := r1
  have r0 : ∀ Hb, RRel X.K Hb HF1 H1 (V.ref t) .any := fun _ => trivial
  have no : ∀ p, H p = none → ¬ OwnAt (ρ1.set i .any) (σ.set i (some (V.ref t))) p := fun p hp => by
    rintro ⟨j, c, g1, g2, g3⟩
    by_cases hj : i = j
    · subst hj
      rw [List.getElem?_set_self hir] at g1
      cases g1
      cases g2
    · rw [List.getElem?_set_ne hj] at g1 g3
      exact S0.notOwn hp (f1.sh.own.mp ⟨j, c, g1, g2, g3⟩)
  refine ⟨S1.set (Hb := H) (r0 H) fun p hp z => S0.notOwn hp (f1.sh.own.mp z), (b.fw f1).set S1 (r0 B.H0) hl, ⟨t, ys, ?_, b.free h0, h1, no t h0, h2, Paired.mapP h3 fun y a z => ?_⟩⟩
  · rw [List.getElem?_set_self (by rw [S1.len]; exact hir)]
  · cases a with
    | inl zs => obtain ⟨q, us, g1, g2, g3, g4, g5⟩ := z; exact ⟨q, us, g1, b.free g2, g3, no q g2, g4, g5⟩
    | inr v => exact z
theorem swl_set (i : Nat) (he : E X e ρ (.tw l) ρ1) (h : Swl X B i l sts (ρ1.set i .any) P) (hl : ∀ q ∈ B.L, q.1 ≠ i) (hN : X.N.Nodup) (hi : X.N[i]? = some x := by rfl) (hx : Loc X.env.scope x := by first | exact Or.inl rfl | exact Or.inr rfl)
    (hir : i < ρ1.length := by exact Nat.le_of_ble_eq_true rfl) (hs : swapsWith e (some (.Name x pos')) pos.line X.env = pure false := by rfl) (hf : X.fn x = true ∨ X.env.scope.names.lookup x = some .local := by first | exact .inl rfl | exact .inr rfl) : Ss X B (.Assign [.Name x pos'] e pos :: sts) ρ P := fun σ HF H Sl b D o =>
  ⟨_, pss_cons (ps_set hN hi hx pe_w hs hf) pss_w, he σ HF H Sl _ fun y HF1 H1 S1 f1 r1 => by
    obtain ⟨a1, a2, a3⟩ := tw_stored Sl b S1 f1 r1 hl hir
    exact h _ HF1 H1 a1 a2 a3 D (o.up f1.hf)⟩
/-- try: x = e; except ..: .. , e raises nothing -/
theorem swl_try (i : Nat) {h0 : ExceptHandler} {hs0 : List ExceptHandler} {pt : Pos} (he : E X.nox e ρ (.tw l) ρ1) (h : Swl X B i l sts (ρ1.set i .any) P) (hl : ∀ q ∈ B.L, q.1 ≠ i) (hN : X.N.Nodup) (hi : X.N[i]? = some x := by rfl) (hx : Loc X.env.scope x := by first | exact Or.inl rfl | exact Or.inr rfl)
    (hir : i < ρ1.length := by exact Nat.le_of_ble_eq_true rfl) (hs : swapsWith e (some (.Name x pos')) pos.line X.nox.env = pure false := by rfl) (hf : X.nox.fn x = true ∨ X.nox.env.scope.names.lookup x = some .local := by first | exact .inl rfl | exact .inr rfl) : Ss X B (.Try [.Assign [.Name x pos'] e pos] (h0 :: hs0) [] [] pt :: sts) ρ P := fun σ HF H Sl b D o =>
  ⟨_, pss_cons (ps_try_thru0 (pss_one (ps_set (X := X.nox) hN hi hx pe_w hs hf))) pss_w, he σ HF H Sl _ fun y HF1 H1 S1 f1 r1 => by
    obtain ⟨a1, a2, a3⟩ := tw_stored (X := X) Sl b S1 f1 r1 hl hir
    exact h _ HF1 H1 a1 a2 a3 D (o.up f1.hf)⟩
theorem swl_ifT (hc : ET X c ρ true ρ) (h : Swl X B i l s1 ρ ⟨fun _ => False, P.rt, P.bk, P.ct⟩) : Swl X B i l (.If c s1 s2 pos :: rest) ρ P := fun σ HF H S b t D o =>
  ⟨_, pss_cons (ps_if pt_w pss_w pss_w) pss_w, hc σ HF H S _ fun HF1 H1 S1 f1 => h σ HF1 H1 S1 (b.fw f1) (t.fw f1) _ ⟨fun _ _ _ _ p => p.elim, o.rt, fun ρ σ HF' H p S b e => o.bk ρ σ HF' H p S b (f1.hf.trans e), fun ρ σ HF' H p S b e => o.ct ρ σ HF' H p S b (f1.hf.trans e)⟩⟩
theorem swl_ifF (hc : ET X c ρ false ρ) (h : Swl X B i l rest ρ P) : Swl X B i l (.If c s1 [] pos :: rest) ρ P := fun σ HF H S b t D o =>
  ⟨_, pss_cons (ps_if pt_w pss_w pss_nil) pss_w, hc σ HF H S _ fun HF1 H1 S1 f1 => h σ HF1 H1 S1 (b.fw f1) (t.fw f1) D (o.up f1.hf)⟩
theorem swl_ret (h : P.rt (.tw l) ρ) (hN : X.N[i]? = some x := by rfl) (hv : Vis X.env.scope x := by first | exact Or.inl rfl | exact Or.inr (Or.inl rfl) | exact Or.inr (Or.inr rfl)) (hd : (x == ("__debug__" : Str)) = false := by decide) (hcd : (x == ("__classdict__" : Str)) = false := by decide) : Swl X B i l [.Return (some (.Name x pos')) pos] ρ P := fun σ HF H S b t D o =>
  ⟨_, pss_one (ps_ret (pe_var hN hv hd hcd)), by
    obtain ⟨t, ys, h1, h2, h3, h4, h5, h6⟩ := t.ex
    refine ⟨.ref t, h1, o.rt _ ρ σ HF H _ h S b ⟨t, ys, rfl, h2, h3, h5, Paired.mapP h6 fun y a z => ?_⟩⟩
    cases a with
    | inl zs => obtain ⟨q, us, g1, g2, g3, g4, g5, g6⟩ := z; exact ⟨q, us, g1, g2, g3, g5, g6⟩
    | inr v => exact z⟩
/-- a test that reads it, no own objects about -/
def noOwnR (ρ : Rho) : Bool := ρ.all fun a => !a.own
theorem no_ownR {ρ : Rho} (h : noOwnR ρ = true) {k : Nat} {a : A} (e : ρ[k]? = some a) : a.own = false := by
  have := List.all_eq_true.mp h a (List.mem_of_getElem? e)
  simpa using this
theorem tw_view {K : PySem.W.Frag} {σ : L2.St} {HF H : Hp} (S : Th.Sl K ρ σ HF H) (hn : noOwnR ρ = true) : ∀ {ys : List V} {l : List (List PyData ⊕ PyData)} {HF0 : Hp}, Same HF HF0 → Same HF0 H → Paired (TwQ K B ρ σ HF H) ys l → ∃ HF1, Same HF0 HF1 ∧ Same HF1 H ∧ DpAll K HF1 ys (l.map twD)
  | _, _, HF0, h0, h1, .nil => ⟨HF0, .refl _, h1, .nil⟩
  | _, _, HF0, h0, h1, .cons (a := y) (b := a) z t => by
    cases a with
    | inr v =>
      obtain ⟨HF1, k1, k2, k3⟩ := tw_view S hn h0 h1 t
      exact ⟨HF1, k1, k2, .cons (dp_mono (h0.trans k1) z) k3⟩
    | inl zs =>
      obtain ⟨q, us, rfl, g2, g3, g4, g5, g6⟩ := z
      have s1 : Same HF0 (fun b => if b = q then some (.lst us) else HF0 b) := fun b u e => by
        show (if b = q then some (.lst us) else HF0 b) = some u
        by_cases hb : b = q
        · subst hb
          rw [if_pos rfl]
          have := h1 b u e
          rw [g5] at this
          exact this
        · rw [if_neg hb]; exact e
      have s2 : Same (fun b => if b = q then some (HO.lst us) else HF0 b) H := fun b u e => by
        have e : (if b = q then some (HO.lst us) else HF0 b) = some u := e
        by_cases hb : b = q
        · subst hb
          rw [if_pos rfl] at e
          exact g5.trans e
        · rw [if_neg hb] at e
          exact h1 b u e
      obtain ⟨HF1, k1, k2, k3⟩ := tw_view S hn (h0.trans s1) s2 t
      exact ⟨HF1, s1.trans k1, k2, .cons (.lst (.inl (.inl (k1 _ _ (by show (if q = q then _ else _) = _; rw [if_pos rfl])))) (dpa_mono (h0.trans (s1.trans k1)) g6)) k3⟩
theorem swl_ifD (hn : noOwnR ρ = true) (hc : ET X c (ρ.set i (.d (.tuple (l.map twD)))) false (ρ.set i (.d (.tuple (l.map twD))))) (h : Swl X B i l rest ρ P) (hir : i < ρ.length := by exact Nat.le_of_ble_eq_true rfl) (hri : ρ[i]? = some .any := by rfl) : Swl X B i l (.If c s1 [] pos :: rest) ρ P := fun σ HF H S b t D o =>
  ⟨_, pss_cons (ps_if pt_w pss_w pss_nil) pss_w, by
    obtain ⟨t0, ys, h1, h2, h3, h4, h5, h6⟩ := t.ex
    have nown : ∀ p, ¬ OwnAt ρ σ p := fun p ⟨k, a, k1, k2, _⟩ => by rw [no_ownR hn k1] at k2; cases k2
    have hn2 : noOwnR (ρ.set i (.d (.tuple (l.map twD)))) = true := List.all_eq_true.mpr fun a ha => by
      rcases List.mem_or_eq_of_mem_set ha with z | z
      · exact List.all_eq_true.mp hn a z
      · rw [z]; rfl
    obtain ⟨HF1, k1, k2, k3⟩ := tw_view S hn (.refl HF) S.sub h6
    have s3 : Same HF1 (fun b => if b = t0 then some (.tup ys) else HF1 b) := fun b u e => by
      show (if b = t0 then some (HO.tup ys) else HF1 b) = some u
      by_cases hb : b = t0
      · subst hb
        rw [if_pos rfl]
        have := k2 b u e
        rw [h5] at this
        exact this
      · rw [if_neg hb]; exact e
    have s4 : Same (fun b => if b = t0 then some (HO.tup ys) else HF1 b) H := fun b u e => by
      have e : (if b = t0 then some (HO.tup ys) else HF1 b) = some u := e
      by_cases hb : b = t0
      · subst hb
        rw [if_pos rfl] at e
        exact h5.trans e
      · rw [if_neg hb] at e
        exact k2 b u e
    have S2 : Th.Sl X.K (ρ.set i (.d (.tuple (l.map twD)))) σ (fun b => if b = t0 then some (.tup ys) else HF1 b) H := by
      refine ⟨by rw [List.length_set]; exact S.len, s4, fun k a e => ?_, fun j k a _ p e1 _ o1 _ _ _ => ?_⟩
      · by_cases hk : i = k
        · subst hk
          rw [List.getElem?_set_self hir] at e
          cases e
          exact ⟨_, h1, .ref t0, rfl, .tup (.inl (.inl (by show (if t0 = t0 then _ else _) = _; rw [if_pos rfl]))) (dpa_mono s3 k3)⟩
        · rw [List.getElem?_set_ne hk] at e
          obtain ⟨s, g1, g2⟩ := S.slot k a e
          exact ⟨s, g1, arel_mono g2 (k1.trans s3) fun _ _ _ _ _ o => by rw [no_ownR hn e] at o; cases o⟩
      · rw [no_ownR hn2 e1] at o1
        cases o1
    refine hc σ _ H S2 _ fun HF' H' S' f' => ?_
    have hs : Same HF H' := ((k1.trans s3).trans f'.hf).trans S'.sub
    have f0 : Fw ρ ρ σ HF H HF H' := ⟨.refl _, .refl _, fun b u e _ => f'.keep b u e (fun ⟨k, a, e1, e2, _⟩ => by rw [no_ownR hn2 e1] at e2; exact nomatch e2), fun b u e => .inl e, f'.pres⟩
    have S0 : Th.Sl X.K ρ σ HF H' := by
      refine ⟨S.len, hs, fun k a e => ?_, S.apart⟩
      obtain ⟨s, g1, g2⟩ := S.slot k a e
      exact ⟨s, g1, arel_mono g2 (.refl _) fun _ _ _ _ _ o => by rw [no_ownR hn e] at o; cases o⟩
    exact h σ HF H' S0 (b.fw f0) (t.fw f0) D o⟩
end
end Th

set_option Elab.async false
set_option linter.all false
set_option maxRecDepth 100000
namespace Th
open PySem PySem.Spec PyProof.Rows L2
section
variable {X : Cx} {ρ ρ1 ρ2 : Rho} {e e1 e2 : Expr} {pos p1 p2 p3 : Pos} {v : PyData}
theorem t_isN {j : Nat} {p0 : Pos} (h : E X e ρ (.d v) ρ1) : ET X (.Compare e [.Is] [.Constant .none j p0] pos) ρ (!someB v) ρ1 :=
  t_cmp op_isN (ev_op h e_non fun HF H x y Q hx hy _ q => by
    cases hy
    refine ⟨rfl, ?_⟩
    have : decide (x = V.non) = !someB v := by cases hx <;> rfl
    rw [this]
    exact q _ (.bl _)) (nomark _)
/-- list(range(m, n)) -/
theorem e_lrange2 {m n : Int} (h : E X e1 ρ (.d (.int m)) ρ1) (h2 : E X e2 ρ1 (.d (.int n)) ρ2) (hm : X.mg "list" = none) (hr : X.mg "range" = none) (hn : -1000000 ≤ m ∧ m ≤ n ∧ n ≤ 1000000) (hg : Gl X "list" := by rfl) (hgr : Gl X "range" := by rfl) (hc : X.calm = true := by rfl)
    (na : starEach [e1, e2] X.env = (false, eval e1 X.env) :: starEach [e2] X.env := by rfl) (nc : starEach [e2] X.env = (false, eval e2 X.env) :: starEach [] X.env := by rfl) (hp : (backTo p3 (starEach [e2] X.env)).any (·.1) = false := by rfl)
    (nb : starEach [.Call (.Name "range" p2) [e1, e2] [] p3] X.env = (false, eval (.Call (.Name "range" p2) [e1, e2] [] p3) X.env) :: starEach [] X.env := by rfl) : E X (.Call (.Name "list" p1) [.Call (.Name "range" p2) [e1, e2] [] p3] [] pos) ρ (.ml ((List.range (n - m).toNat).map fun i => PyData.int (m + (i : Nat)))) ρ2 :=
  .of (pe_listRg hc hg hm (prg_2 hgr hr pe_w pe_w na nc hp) nb) fun σ HF H S1 Q q => h σ HF H S1 _ fun x HF1 H1 S2 f1 r1 => h2 σ HF1 H1 S2 _ fun y HF2 H2 S3 f2 r2 => by
    cases r1
    cases r2
    refine ⟨m, n, rfl, rfl, ⟨by omega, by omega, by omega, by omega, by omega⟩, fun r hr => ?_⟩
    obtain ⟨S4, f4⟩ := S3.allocO hr (.lst (rgV m n))
    have hd : DpAll X.K HF2 (rgV m n) ((List.range (n - m).toNat).map fun i => PyData.int (m + (i : Nat))) := by
      unfold rgV
      exact dpa_encN (fun i => m + (i : Int)) _
    have f12 := f1.trans f2
    exact q _ _ _ S4 (f12.trans f4) ⟨r, _, rfl, f12.fresh hr, S3.hfNone hr, upd_same, hd⟩
theorem kitAny_f {K : PySem.W.Frag} {t c : Value} {r : List Value} {b : Bool} (h : PySem.W.kitOne K t c = some false) (h2 : PySem.W.kitAny K t r = some b) : PySem.W.kitAny K t (c :: r) = some b := by
  unfold PySem.W.kitAny
  rw [h]
  exact h2
end
def fToldA : List PyData → A → Prop := fun ds r => ∃ (l : List Int) (w : Wd) (i : Int) (l' : List Int) (h : Int), (l.length ≤ 1000 ∧ stepF l w i = some (l', h)) ∧ ds = [encL l, encSt (w, i)] ∧ r = stepRes l' h
def fToldB : List PyData → A → Prop := fun ds r => GStepR ds ∧ r = .d (.str "refused")
def fGood : List PyData → A → Prop := fun ds r => ∃ (l : List Int) (w : Wd) (i : Int), l.length ≤ 1000 ∧ ds = [encL l, encSt (w, i)] ∧ r = .d (.bool true)
theorem eqE_str1 (x : Str) : PyData.eqv (.str x) (.str x) = true := by unfold PyData.eqv; simp
end Th
namespace Th
open PySem PySem.Spec PyProof.Rows L2
theorem td_ifB {X : Cx} {B : Bs} {P : Pst} {ρ : Rho} {c : Expr} {rest s1 : List Stmt} {pos : Pos} {D : Addr} {j : Nat} {b : Bool} (hc : ETd X j D c ρ b) (hb : b = false) (h : Td X B j D rest ρ P) : Td X B j D (.If c s1 [] pos :: rest) ρ P := by
  subst hb
  exact td_if hc h
theorem td_isC {X : Cx} {ρ : Rho} {pos pos' pn pT : Pos} {D C : Addr} {j : Nat} {x y : Str} {b : Bool} (hg : X.mg x = some (.ref C)) (E : ExcC X.K D) (hk : PySem.W.kitOne X.K (.ref D) (.ref C) = some b) (hm : X.mg "isinstance" = none) (hgl : Gl X x := by rfl) (hdx : (x == ("__debug__" : Str)) = false := by decide) (hj : X.N[j]? = some y := by rfl) (hgi : Gl X "isinstance" := by rfl)
    (hv : Vis X.env.scope y := by first | exact Or.inl rfl | exact Or.inr (Or.inl rfl) | exact Or.inr (Or.inr rfl)) (hd : (y == ("__debug__" : Str)) = false := by decide) (hcd : (y == ("__classdict__" : Str)) = false := by decide)
    (he : starEach [.Name y pos', .Name x pT] X.env = (false, eval (.Name y pos') X.env) :: starEach [.Name x pT] X.env := by rfl) (he2 : starEach [.Name x pT] X.env = (false, eval (.Name x pT) X.env) :: starEach [] X.env := by rfl) (hpl : (backTo pos (starEach [.Name x pT] X.env)).any (·.1) = false := by rfl)
    (ht : ∀ whole, isTrue (.Call (.Name "isinstance" pn) [.Name y pos', .Name x pT] [] pos) X.env whole = (do let v ← whole; standAt (Expr.Call (.Name "isinstance" pn) [.Name y pos', .Name x pT] [] pos).pos; holding [v] (truthy v)) := by intro _; rfl) : ETd X j D (.Call (.Name "isinstance" pn) [.Name y pos', .Name x pT] [] pos) ρ b :=
  td_is (v := .ref C) (pe_glob hgl hg rfl hdx) (.own C) E hk hm hj hgi hv hd hcd he he2 hpl ht
theorem td_isV {X : Cx} {ρ : Rho} {pos pos' pn pT : Pos} {D : Addr} {j : Nat} {y : Str} (hg : X.mg "ValueError" = none) (E : ExcC X.K D) (hk : PySem.W.subIn X.K (.ref D) (.type "ValueError") = some true) (hm : X.mg "isinstance" = none) (hgl : Gl X "ValueError" := by rfl) (hj : X.N[j]? = some y := by rfl) (hgi : Gl X "isinstance" := by rfl)
    (hv : Vis X.env.scope y := by first | exact Or.inl rfl | exact Or.inr (Or.inl rfl) | exact Or.inr (Or.inr rfl)) (hd : (y == ("__debug__" : Str)) = false := by decide) (hcd : (y == ("__classdict__" : Str)) = false := by decide)
    (he : starEach [.Name y pos', .Name "ValueError" pT] X.env = (false, eval (.Name y pos') X.env) :: starEach [.Name "ValueError" pT] X.env := by rfl) (he2 : starEach [.Name "ValueError" pT] X.env = (false, eval (.Name "ValueError" pT) X.env) :: starEach [] X.env := by rfl) (hpl : (backTo pos (starEach [.Name "ValueError" pT] X.env)).any (·.1) = false := by rfl)
    (ht : ∀ whole, isTrue (.Call (.Name "isinstance" pn) [.Name y pos', .Name "ValueError" pT] [] pos) X.env whole = (do let v ← whole; standAt (Expr.Call (.Name "isinstance" pn) [.Name y pos', .Name "ValueError" pT] [] pos).pos; holding [v] (truthy v)) := by intro _; rfl) : ETd X j D (.Call (.Name "isinstance" pn) [.Name y pos', .Name "ValueError" pT] [] pos) ρ true :=
  td_is (v := .ty "ValueError") (pe_bltn (u := .type "ValueError") hgl hg (by decide +kernel) rfl) (.ty _) E (kit_ve hk) hm hj hgi hv hd hcd he he2 hpl ht
end Th

set_option Elab.async false
set_option linter.all false
set_option maxRecDepth 100000
namespace Th
open PySem PySem.Spec PyProof.Rows L2
/-! ### own errors with a field: made, raised, caught and looked at in the clause -/
/-- the name in the clause: the error at a, whose dict at d holds fs -/
def errG (a d : Addr) (fs : List (Str × V)) : Gn := ⟨fun _ HF x => x = .ref a ∧ HF d = some (.xd fs), fun s h => ⟨h.1, s _ _ h.2⟩⟩
/-- what an error's own __init__ keeps: it sets the one field -/
def spI (K : PySem.W.Frag) (C : Addr) (f : Str) : Sp := fun vs H Q _ => ∃ (a : Addr) (n : Int), vs = [.ref a, .int n] ∧ OexC K C ∧ PySem.W.findIn K (.ref C) f = some none ∧ H a = some (exo a C none) ∧ ∀ dx, H dx = none → dx ≠ a → Q .non (upd (upd H dx (exd dx [(f, .int n)])) a (exo a C (some dx)))
section
variable {P : Program} {w : World} {K : PySem.W.Frag} {mg : Str → Option Value} {base : Heap}
theorem fn_init {f qual : Str} {C fI : Addr} {fd : FuncData} {st : Stmt} {k : Nat} {q1 q2 q3 q4 : Pos} (F : Fun K "__init__" qual st fI fd) (S0 : FnScope ["self", f] ["self", f] (defScope st)) (hb : defBody st = [.Assign [.Attribute (.Name "self" q1) f q2] (.Name f q3) q4])
    (hl1 : List.lookup ("self" : Str) (defScope st).names = some NameKind.local := by rfl) (hl2 : List.lookup f (defScope st).names = some NameKind.local := by rfl) (hd : (f == ("__debug__" : Str)) = false := by decide) (hcd : (f == ("__classdict__" : Str)) = false := by decide)
    (hs : ∀ env : Env, swapsWith (.Name f q3) (some (.Attribute (.Name "self" q1) f q2)) q4.line env = pure false := by intro _; rfl) : FnOk P w K mg base (L2.CX P w) (k + 1) fI fd ["self", f] (spI K C f) := by
  refine F.okX S0 (fun vs H Q E h => by obtain ⟨_, _, rfl, _⟩ := h; rfl) fun cdv A outer s H vs Q E hr hsp => ?_
  obtain ⟨a, n, rfl, T, hno, ha, q⟩ := hsp
  rw [hb]
  refine ⟨_, pss_one (ps_ost (pe_var (i := 0) rfl (.inl hl1)) (pe_var (i := 1) rfl (.inl hl2) hd hcd) (hs _)), ?_⟩
  exact ⟨.int n, rfl, .ref a, rfl, a, C, rfl, T, hno, .inl ⟨ha, fun dx h1 h2 => q dx h1 h2⟩⟩
end
section
variable {X : Cx} {B : Bs} {P : Pst} {ρ ρ1 ρ2 : Rho} {e e1 e2 : Expr} {es : List Expr} {pos pos' : Pos} {ds : List PyData} {C D : Addr} {W : WX} {x y : Str} {fs : List (Str × V)}
/-- an expression that raises an error with a field -/
def EXf (X : Cx) (C : Addr) (fs : List (Str × V)) (W : WX) (e : Expr) (ρ ρ1 : Rho) : Prop := ∀ σ HF H, Sl X.K ρ σ HF H → (∀ HF' H' d, Sl X.K ρ1 σ HF' H' → Fw ρ ρ1 σ HF H HF' H' → HF' d = some (.xd fs) → W (.ref C) (some d) σ H') → ∀ Q : VK, wE X e σ H Q
/-- a def that raises such an error -/
def spRF (K : PySem.W.Frag) (C : Addr) (G : List PyData → Prop) (g : List PyData → List (Str × V)) : Sp := fun vs H _ E => ∃ HF ds, Sl K (ds.map A.d) (vs.map some) HF H ∧ G ds ∧
  ∀ HF' H' d, Sl K (ds.map A.d) (vs.map some) HF' H' → Fw (ds.map A.d) (ds.map A.d) (vs.map some) HF H HF' H' → HF' d = some (.xd (g ds)) → E (.ref C) (some d) H'
theorem s_raiseF {f : Str} {fI : Addr} {fd : FuncData} {k : Nat} {n : Int} {p pos2 : Pos} (he : E X e ρ (.d (.int n)) ρ1) (T : OexC X.K C) (hno : PySem.W.findIn X.K (.ref C) f = some none) (iC : PySem.W.findIn X.K (.ref C) "__init__" = some (some (.ref fI))) (tI : PySem.W.typeIn X.K (.ref fI) = some (.type "function"))
    (F1 : FnOk X.prog X.w X.K X.mg X.base (L2.CX X.prog X.w) k fI fd ["self", f] (spI X.K C f)) (hr : Room (k + 1) X.A) (hb : Binds X.K fd ["self", f] []) (hm : X.mg x = some (.ref C)) (tk : Takes X W) (hW : ∀ σ HF H d, Sl X.K ρ1 σ HF H → Bn B ρ1 σ HF H → HF d = some (.xd [(f, .int n)]) → W (.ref C) (some d) σ H)
    (hg : Gl X x := by rfl) (hc : X.calm = true := by rfl) (hdb : (x == ("__debug__" : Str)) = false := by decide) (h1 : starEach [e] X.env = (false, eval e X.env) :: starEach [] X.env := by rfl) (hpl : (backTo pos (starEach ([] : List Expr) X.env)).any (·.1) = false := by rfl) :
    S X B (.Raise (some (.Call (.Name x p) [e] [] pos)) none pos2) ρ P :=
  .of (ps_raise hc tk (pmk_oex (ds := []) (dvs := []) T iC tI F1 hr hb .nil passL hg hm (pa_cons pe_w pa_nil h1) hdb h1 hpl)) fun σ HF H Sl0 b D o => he σ HF H Sl0 _ fun v HF1 H1 S2 f1 r1 => by
    cases r1
    refine ⟨by show 1 ≤ 1000; decide, fun a ha => ⟨a, n, rfl, T, hno, upd_same, fun dx hdx hne => ⟨rfl, dx, [(f, .int n)], upd_same, by rw [upd_ne hne]; exact upd_same, by rw [upd_ne hne] at hdx; exact hdx, ?_⟩⟩⟩
    have hdx0 : H1 dx = none := by rw [upd_ne hne] at hdx; exact hdx
    have e : upd (del (upd (upd (upd H1 a (exo a C none)) dx (exd dx [(f, .int n)])) a (exo a C (some dx))) a) dx (.xd [(f, .int n)]) = upd H1 dx (.xd [(f, .int n)]) := by
      funext b
      by_cases h : b = dx
      · subst h
        rw [upd_same, upd_same]
      · rw [upd_ne h, upd_ne h]
        by_cases h2 : b = a
        · subst h2
          rw [del_same, ha]
        · rw [del_ne h2, upd_ne h2, upd_ne h, upd_ne h2]
    rw [e]
    obtain ⟨S3, f3⟩ := S2.allocD hdx0 (.xd [(f, .int n)])
    exact hW σ _ _ dx S3 ((b.fw f1).fw f3) upd_same
theorem e_callRF {G : List PyData → Prop} {g : List PyData → List (Str × V)} {n : Nat} {f : Addr} {fd : FuncData} {ps : List Str} {p : Pos} (F : FnOk X.prog X.w X.K X.mg X.base (L2.CX X.prog X.w) n f fd ps (spRF X.K C G g)) (hr : Room n X.A) (hm : X.mg x = some (.ref f)) (hk : PySem.W.keepIn X.K (.ref f) = true) (hb : Binds X.K fd ps [])
    (ha : ED X (e :: es) ρ ds ρ1) (hG : G ds) (hfs : g ds = fs) (tk : Takes X W) (hg : Gl X x := by rfl) (hdb : (x == ("__debug__" : Str)) = false := by decide) (he : starEach (e :: es) X.env = (false, eval e X.env) :: starEach es X.env := by rfl) (hpl : (backTo pos (starEach es X.env)).any (·.1) = false := by rfl) :
    EXf X C fs W (.Call (.Name x p) (e :: es) [] pos) ρ ρ1 := fun σ HF H S1 hW Q =>
  ⟨_, pe_callS F hr hg hm hk hb (fun σ => passAt tk σ) pa_w hdb he hpl, ha σ HF H S1 _ fun xs HF1 H1 S2 f1 r1 => by
    have nd : (lents (ds.map Arg.dat)).Nodup := by rw [lents_dat]; exact List.nodup_nil
    have r2 := dat_args (ρ := ρ1) (σ := σ) r1
    have S3 := args_in S2 nd r2
    rw [toA_dat] at S3
    refine ⟨HF1, ds, S3, hG, fun HF' H' d S4 f4 hd => ?_⟩
    have f5 : Fw ((ds.map Arg.dat).map (toA ρ1)) (ds.map A.d) (xs.map some) HF1 H1 HF' H' := by rw [toA_dat]; exact f4
    obtain ⟨S6, f6⟩ := args_out S2 nd r2 S4 f5
    rw [back_dat] at S6 f6
    rw [hfs] at hd
    exact hW HF' H' d S6 (f1.trans f6) hd⟩
end
section
variable {P : Program} {w : World} {K : PySem.W.Frag} {mg : Str → Option Value} {base : Heap}
theorem fn_raiseF {x qual : Str} {st : Stmt} {f : Addr} {fd : FuncData} {N ps : List Str} {k : Nat} {C : Addr} {G : List PyData → Prop} {g : List PyData → List (Str × V)} (F : Fun K x qual st f fd) (S0 : FnScope N ps (defScope st)) (hn : ps.length ≤ N.length) (hG : ∀ ds, G ds → ds.length = ps.length)
    (hbody : ∀ (cdv : Value) (A1 : Around) (outer : List Env) (s : Shared) (H : Hp) (E : XK) (B : Bs) (ds : List PyData), Room k (A1.deeper (envOfC qual (defScope st) s.heap.objs.size f cdv)) → G ds → (∀ q ∈ B.L, q.1 ∈ ([] : List Nat)) →
      Takes (cxOf (L2.CX P w) P w K mg base N qual (defScope st) f cdv A1 outer s H E) (fun cls d _ H => E cls d H) → PassesOwn (model P w) (cxOf (L2.CX P w) P w K mg base N qual (defScope st) f cdv A1 outer s H E).A (cxOf (L2.CX P w) P w K mg base N qual (defScope st) f cdv A1 outer s H E).env (cxOf (L2.CX P w) P w K mg base N qual (defScope st) f cdv A1 outer s H E).xe →
      (∀ ρ σ HF H d, Sl K ρ σ HF H → Bn B ρ σ HF H → HF d = some (.xd (g ds)) → E (.ref C) (some d) H) →
      Ss (cxOf (L2.CX P w) P w K mg base N qual (defScope st) f cdv A1 outer s H E) B (defBody st) (ds.map A.d ++ List.replicate (N.length - ps.length) .any) PN) : FnOk P w K mg base (L2.CX P w) (k + 1) f fd ps (spRF K C G g) := by
  have len : ∀ vs H Q E, spRF K C G g vs H Q E → vs.length = ps.length := fun vs H Q E ⟨HF, ds, S1, h, _⟩ => by
    have := S1.len
    rw [List.length_map, List.length_map] at this
    exact this.trans (hG _ h)
  refine F.okX S0 len fun cdv A1 outer s H vs Q E hr hsp => ?_
  have hlen := len vs H Q E hsp
  obtain ⟨HF, ds, S1, hf, q⟩ := hsp
  have hal := hG _ hf
  let B : Bs := ⟨HF, H, []⟩
  have noOwnM : ∀ (i : Nat) (a : A), (ds.map A.d ++ List.replicate (N.length - ps.length) A.any)[i]? = some a → a.own = false := fun i a h => by
    rcases getElem?_app_rep h with h | ⟨_, rfl⟩
    · exact own_map a (List.mem_of_getElem? h)
    · rfl
  have Sl0 : Sl K (ds.map A.d ++ List.replicate (N.length - ps.length) .any) (L2.start N vs) HF H := by
    refine ⟨?_, S1.sub, fun i a h => ?_, fun i j a b p h1 h2 o1 o2 e1 e2 => ?_⟩
    · unfold L2.start
      rw [List.length_append, List.length_append, List.length_map, List.length_replicate, List.length_replicate, List.length_map, hlen, hal]
    · unfold L2.start
      rcases getElem?_app_rep h with h | ⟨hi, rfl⟩
      · obtain ⟨u, e, z⟩ := S1.slot i a h
        refine ⟨u, ?_, z⟩
        rw [List.getElem?_append_left (List.getElem?_eq_some_iff.mp e).1]
        exact e
      · have hlt := (List.getElem?_eq_some_iff.mp h).1
        rw [List.length_append, List.length_replicate, List.length_map] at hlt
        rw [List.length_map] at hi
        refine ⟨none, ?_, trivial⟩
        rw [List.getElem?_append_right (by rw [List.length_map]; omega), List.getElem?_replicate, if_pos (by rw [List.length_map]; omega)]
    · rw [noOwnM i a h1] at o1
      cases o1
  have Bn0 : Bn B (ds.map A.d ++ List.replicate (N.length - ps.length) .any) (L2.start N vs) HF H := by
    refine ⟨.refl _, fun b o _ h => h, fun b o h => .inl h, fun b o h => ⟨o, h⟩, fun i a p h o e => ?_, fun z hz => nomatch hz⟩
    rw [noOwnM i a h] at o
    cases o
  refine ⟨_, pss_w, hbody cdv A1 outer s H E B ds hr hf (fun _ z => nomatch z) (takes_of rfl rfl rfl rfl) (passes_of rfl) (fun ρ σ HF' H' d S2 b2 hd => ?_) _ HF H Sl0 Bn0 _ ⟨fun _ _ _ _ p => p.elim, fun _ _ _ _ _ _ p => p.elim, fun _ _ _ _ p => p.elim, fun _ _ _ _ p => p.elim⟩⟩
  refine q HF' H' d ⟨S1.len, S2.sub, fun i c h => ?_, fun i j a b p h1 _ o1 _ _ _ => ?_⟩ ⟨.refl _, b2.hf, fun b o h _ => b2.keep b o (fun _ z => nomatch z) h, b2.new, b2.pres⟩ hd
  · obtain ⟨u, e, z⟩ := S1.slot i c h
    have hc := own_map c (List.mem_of_getElem? h)
    exact ⟨u, e, arel_mono z b2.hf fun _ _ _ _ _ o => by rw [hc] at o; cases o⟩
  · rw [own_map a (List.mem_of_getElem? h1)] at o1
    cases o1
end
/-! ### isinstance and the field, in the clause -/
def rIsF (K : PySem.W.Frag) (D a d : Addr) : List V → Hp → VK → Prop := fun xs H Q => ∃ (fs : List (Str × V)) (c : V) (cv : Value) (b : Bool), xs = [.ref a, c] ∧ H d = some (.xd fs) ∧ ClsV c cv ∧ PySem.W.kitOne K (.ref D) cv = some b ∧ Q (.bl b) H
def rIsFT (K : PySem.W.Frag) (D a d : Addr) : List V → Hp → VK → Prop := fun xs H Q => ∃ (fs : List (Str × V)) (tp : Addr) (cs : List V) (us : List Value) (b : Bool), xs = [.ref a, .ref tp] ∧ H d = some (.xd fs) ∧ H tp = some (.tup cs) ∧ Paired ClsV cs us ∧ PySem.W.kitAny K (.ref D) us = some b ∧ Q (.bl b) H
section
variable {X : Cx} {a d D : Addr} {oe : Obj} {pn : List (Addr × Obj)}
theorem instF {Y : Cx} {pins : List (Addr × Obj)} {σ : L2.St} {H : Hp} {s : Shared} {fs : List (Str × V)} (I : Inv Y pins σ H s) (hp : (a, oe) ∈ Y.pn ++ pins) (hz : Zc (.ref D) (some d) oe) (hf : ∃ vs, oe.data = .fields vs) (hd : H d = some (.xd fs)) : ∃ od, PySem.W.InstAt s.heap a oe D (some od) := by
  obtain ⟨ha, _⟩ := I.pin (a, oe) hp
  obtain ⟨vs, hv⟩ := hf
  obtain ⟨mA, hns, _⟩ := (show ObjOk Y.prog Y.w H s.heap d (.xd fs) from I.hok d _ hd)
  obtain ⟨od, ho, _⟩ := lookIn_ns hns
  exact ⟨od, ha, hz.1, by unfold PySem.W.notCls; rw [hv] <;> rfl, by rw [hz.2]; exact ho⟩
theorem call_isF (C : ExcC X.K D) (hz : Zc (.ref D) (some d) oe) (hf : ∃ vs, oe.data = .fields vs) : CallR (X.suite a ((a, oe) :: pn)) (.builtin "isinstance") (rIsF X.K D a d) := by
  intro pins s σ H xs us Q I r h
  obtain ⟨fs, c, cv, b, rfl, hd, hc, e, q⟩ := h
  obtain ⟨cd, hcl, _⟩ := PySem.W.any_some C.hd
  cases r with
  | cons rx rr =>
    cases rr with
    | cons rt rr =>
      cases rr
      cases rx
      have := hc.eq rt
      subst this
      obtain ⟨od, J⟩ := instF I (List.mem_append.mpr (.inl List.mem_cons_self)) hz hf hd
      exact PySem.W.kia_one (PySem.W.kitx_exc (by rw [hcl]; rfl) C.hg C.hk C.hs C.ha C.hn C.ht C.hm) I.kIn J e (fun z => nomatch z) fun tk => ⟨.bl b, H, I.tok tk, rfl, q⟩
theorem call_isFT (C : ExcC X.K D) (hz : Zc (.ref D) (some d) oe) (hf : ∃ vs, oe.data = .fields vs) : CallR (X.suite a ((a, oe) :: pn)) (.builtin "isinstance") (rIsFT X.K D a d) := by
  intro pins s σ H xs us Q I r h
  obtain ⟨fs, tp, cs, ws, b, rfl, hd, hT, hc, e, q⟩ := h
  obtain ⟨cd, hcl, _⟩ := PySem.W.any_some C.hd
  cases r with
  | cons rx rr =>
    cases rr with
    | cons rt rr =>
      cases rr
      cases rx
      cases rt
      obtain ⟨od, J⟩ := instF I (List.mem_append.mpr (.inl List.mem_cons_self)) hz hf hd
      obtain ⟨_, its, rv, o, h1, h2, n, h3⟩ := (show ObjOk X.prog X.w H s.heap tp (.tup cs) from I.hok tp _ hT)
      have := ClsV.all hc rv
      subst this
      obtain ⟨oc, od2, dt, sl⟩ := o
      simp only at h2 h3
      subst h2
      subst h3
      exact PySem.W.kia_tup (PySem.W.kitx_exc (by rw [hcl]; rfl) C.hg C.hk C.hs C.ha C.hn C.ht C.hm) I.kIn J h1 e (fun z => nomatch z) fun tk => ⟨.bl b, H, I.tok tk, rfl, q⟩
variable {ρ : Rho} {T : Expr} {v : V} {cv : Value} {b : Bool} {pos pos' pi pt : Pos} {y : Str} {fs : List (Str × V)}
theorem err_at {K : PySem.W.Frag} {ρ : Rho} {σ : L2.St} {HF H : Hp} {i : Nat} (S : Sl K ρ σ HF H) (h0 : ρ[i]? = some (.gn (errG a d fs))) : σ[i]? = some (some (V.ref a)) ∧ H d = some (.xd fs) := by
  obtain ⟨s, e, x, rfl, rfl, h⟩ := S.slot i _ h0
  exact ⟨e, S.sub _ _ h⟩
theorem e_isF (i : Nat) (hT : PE (X.suite a ((a, oe) :: pn)) T (tC v)) (hc : ClsV v cv) (C : ExcC X.K D) (hz : Zc (.ref D) (some d) oe) (hf : ∃ vs, oe.data = .fields vs) (hk : PySem.W.kitOne X.K (.ref D) cv = some b) (h0 : ρ[i]? = some (.gn (errG a d fs))) (hm : X.mg "isinstance" = none) (hj : X.N[i]? = some y := by rfl) (hg : Gl X "isinstance" := by rfl)
    (hv : Vis X.env.scope y := by first | exact Or.inl rfl | exact Or.inr (Or.inl rfl) | exact Or.inr (Or.inr rfl)) (hd : (y == ("__debug__" : Str)) = false := by decide) (hcd : (y == ("__classdict__" : Str)) = false := by decide)
    (he : starEach [.Name y pos', T] X.env = (false, eval (.Name y pos') X.env) :: starEach [T] X.env := by rfl) (he2 : starEach [T] X.env = (false, eval T X.env) :: starEach [] X.env := by rfl) (hpl : (backTo pos (starEach [T] X.env)).any (·.1) = false := by rfl) :
    E (X.suite a ((a, oe) :: pn)) (.Call (.Name "isinstance" pi) [.Name y pos', T] [] pos) ρ (.d (.bool b)) ρ :=
  .of (pe_callB (call_isF C hz hf) hg hm (by decide +kernel) (pa_cons (pe_var hj hv hd hcd) (pa_cons hT pa_nil he2) he) (by decide) (by decide) he hpl) fun σ HF H S Q q => by
    obtain ⟨h1, h2⟩ := err_at S h0
    exact ⟨.ref a, h1, fs, v, cv, b, rfl, h2, hc, hk, q (.bl b) HF H S (.refl ..) (.bl b)⟩
theorem e_isFT (i : Nat) {Ts : List Expr} {n : Nat} {vs : List V} {us : List Value} (hT : PA (X.suite a ((a, oe) :: pn)) Ts (tCs vs)) (hc : Paired ClsV vs us) (C : ExcC X.K D) (hz : Zc (.ref D) (some d) oe) (hf : ∃ vs, oe.data = .fields vs) (hk : PySem.W.kitAny X.K (.ref D) us = some b) (h0 : ρ[i]? = some (.gn (errG a d fs))) (hm : X.mg "isinstance" = none) (hj : X.N[i]? = some y := by rfl) (hg : Gl X "isinstance" := by rfl) (hzl : vs.length ≤ sizeLine := by exact Nat.le_of_ble_eq_true rfl)
    (hv : Vis X.env.scope y := by first | exact Or.inl rfl | exact Or.inr (Or.inl rfl) | exact Or.inr (Or.inr rfl)) (hd : (y == ("__debug__" : Str)) = false := by decide) (hcd : (y == ("__classdict__" : Str)) = false := by decide)
    (he : starEach [.Name y pos', .Tuple Ts n pt] X.env = (false, eval (.Name y pos') X.env) :: starEach [.Tuple Ts n pt] X.env := by rfl) (he2 : starEach [.Tuple Ts n pt] X.env = (false, eval (.Tuple Ts n pt) X.env) :: starEach [] X.env := by rfl) (hpl : (backTo pos (starEach [.Tuple Ts n pt] X.env)).any (·.1) = false := by rfl) :
    E (X.suite a ((a, oe) :: pn)) (.Call (.Name "isinstance" pi) [.Name y pos', .Tuple Ts n pt] [] pos) ρ (.d (.bool b)) ρ :=
  .of (pe_callB (call_isFT C hz hf) hg hm (by decide +kernel) (pa_cons (pe_var hj hv hd hcd) (pa_cons (pe_tup hT) pa_nil he2) he) (by decide) (by decide) he hpl) fun σ HF H S Q q => by
    obtain ⟨h1, h2⟩ := err_at S h0
    refine ⟨.ref a, h1, tCs_go vs σ H _ ⟨hzl, fun tp hp => ?_⟩⟩
    obtain ⟨S2, f2⟩ := S.allocD hp (.tup vs)
    obtain ⟨_, h3⟩ := err_at S2 h0
    exact ⟨fs, tp, vs, us, b, rfl, h3, upd_same, hc, hk, q (.bl b) _ _ S2 f2 (.bl b)⟩
theorem e_fldF (i : Nat) {f : Str} {n : Int} (C : ExcC X.K D) (hz : Zc (.ref D) (some d) oe) (hf : ∃ vs, oe.data = .fields vs) (hno : PySem.W.findIn X.K (.ref D) f = some none) (h0 : ρ[i]? = some (.gn (errG a d fs))) (hl : fs.lookup f = some (.int n)) (hj : X.N[i]? = some y := by rfl)
    (hv : Vis X.env.scope y := by first | exact Or.inl rfl | exact Or.inr (Or.inl rfl) | exact Or.inr (Or.inr rfl)) (hd : (y == ("__debug__" : Str)) = false := by decide) (hcd : (y == ("__classdict__" : Str)) = false := by decide)
    (hb : attributeBase (.Name y pos') f X.env (eval (.Name y pos') X.env) = eval (.Name y pos') X.env := by rfl) : E (X.suite a ((a, oe) :: pn)) (.Attribute (.Name y pos') f pos) ρ (.d (.int n)) ρ :=
  .of (pe_xf (cls := .ref D) (d := some d) ⟨C.hg, C.hk, C.hs, C.hd⟩ hno hz hf (pe_var hj hv hd hcd) hb) fun σ HF H S Q q => by
    obtain ⟨h1, h2⟩ := err_at S h0
    exact ⟨.ref a, h1, rfl, rfl, d, fs, .int n, rfl, h2, hl, q (.int n) HF H S (.refl ..) (.int n)⟩
end
section
variable {X : Cx} {B : Bs} {P : Pst} {ρ ρ1 : Rho} {e : Expr} {pos : Pos} {C D : Addr} {x n : Str} {fs : List (Str × V)}
/-- try: e; except x as n: .. , e raises an error with a field -/
theorem s_tryAs (i : Nat) {b0 : Stmt} {suite : List Stmt} {np p1 p2 : Pos} (T : SupT X.K X.mg x C D) (he : ∀ (W : WX) (pn : List (Addr × Obj)) (xe : Value → Shared → Prop), Takes (X.tr pn xe) W → EXf (X.tr pn xe) D fs W e ρ ρ1)
    (hsu : ∀ (a : Addr) (oe : Obj) (d : Addr) (pn : List (Addr × Obj)), Zc (.ref D) (some d) oe → (∃ vs, oe.data = .fields vs) → Ss (X.suite a ((a, oe) :: pn)) B (b0 :: suite) (ρ1.set i (.gn (errG a d fs))) ⟨fun ρ' => P.nx (ρ'.set i .any), P.rt, fun ρ' => P.bk (ρ'.set i .any), fun ρ' => P.ct (ρ'.set i .any)⟩)
    (hli : ∀ q ∈ B.L, q.1 ≠ i) (hN : X.N.Nodup) (hi : X.N[i]? = some n := by rfl) (hln : X.env.kindOf n = some .local := by rfl) (hs : X.stack = X.env :: X.outer := by rfl) (hf : X.env.frame = some X.env.locals := by rfl) (hg : Gl X x := by rfl) (hdb : (x == ("__debug__" : Str)) = false := by decide)
    (hsw : swapsWith e none p1.line X.env = pure false := by rfl) : S X B (.Try [.Expr e p1] [.ExceptHandler (some (.Name x np)) (some n) (b0 :: suite) p2] [] [] pos) ρ P :=
  .of (ps_try_as (Wout := fun _ _ _ _ => False) (tb := fun W Dx σ H => ∀ pn xe, Takes (X.tr pn xe) W → wSs (X.tr pn xe) [.Expr e p1] Dx σ H) (ts := fun a cls d Dx σ H => ∀ oe pn, Zc cls d oe → (∃ vs, oe.data = .fields vs) → wSs (X.suite a ((a, oe) :: pn)) (b0 :: suite) Dx σ H) hs hf hN hi hln ⟨hg, hdb, .inl T.g⟩ takes0
    (fun W pn xe tk _ => ⟨fun pins s σ H Dx I h => (pss_w (X := X.tr pn xe) (st := [.Expr e p1])).run pins s σ H Dx I (h pn xe tk)⟩)
    (fun a oe cls d pn hz hfl => ⟨fun pins s σ H Dx I h => (pss_w (X := X.suite a ((a, oe) :: pn)) (st := b0 :: suite)).run pins s σ H Dx I (h oe pn hz hfl)⟩)) fun σ HF H S1 b Dd o => fun pn xe tk =>
  ⟨_, pss_one (ps_expr pe_w hsw), he _ pn xe tk σ HF H S1 (fun HF' H' d S' f hd => ⟨true, T.exm, fun _ a na oe pn' hz hfl => by
    have r0 : ∀ Hb, RRel X.K Hb HF' H' (V.ref a) (.gn (errG a d fs)) := fun _ => ⟨rfl, hd⟩
    have S2 := S'.set (i := i) (Hb := H') (r0 _) fun q hq w => S'.notOwn hq w
    have b2 := (b.fw f).set S' (i := i) (r0 _) hli
    refine hsu a oe d pn' hz hfl _ HF' H' S2 b2 _ ⟨fun ρ' σ' HF2 H2 p S3 b3 s => ?_, fun a ρ' σ' HF2 H2 v p S3 b3 r => o.rt a ρ' σ' HF2 H2 v p S3 b3 r, fun ρ' σ' HF2 H2 p S3 b3 s => ?_, fun ρ' σ' HF2 H2 p S3 b3 s => ?_⟩
    · exact o.nx (ρ'.set i .any) (σ'.set i none) HF2 H2 p (S3.wipe [i]) (b3.wipe1 hli) (f.hf.trans s)
    · exact o.bk (ρ'.set i .any) (σ'.set i none) HF2 H2 p (S3.wipe [i]) (b3.wipe1 hli) (f.hf.trans s)
    · exact o.ct (ρ'.set i .any) (σ'.set i none) HF2 H2 p (S3.wipe [i]) (b3.wipe1 hli) (f.hf.trans s), fun z => nomatch z⟩) _⟩
end
end Th

set_option Elab.async false
set_option linter.all false
set_option maxRecDepth 100000
namespace Th
open PySem PySem.Spec PyProof.Rows L2
/-! ### defs that tell or refuse, by the data they are given -/
structure Er where
  C : Addr
  fs : Option (List (Str × V))
def ErAt (HF : Hp) (er : Er) (d : Option Addr) : Prop := match er.fs with
  | none => d = none
  | some fs => ∃ a, d = some a ∧ HF a = some (.xd fs)
/-- kinds that are handed on as they are -/
def A.still : A → Bool
  | .d _ => true
  | .rk _ => true
  | .fk _ => true
  | .ft _ => true
  | .gn _ => true
  | .pin _ => true
  | _ => false
def stillA (as : List A) : Bool := as.all A.still
theorem still_own {as : List A} (h : stillA as = true) {i : Nat} {a : A} (e : as[i]? = some a) : a.own = false := by
  have := List.all_eq_true.mp h a (List.mem_of_getElem? e)
  cases a <;> first | rfl | cases this
theorem still_d (ds : List PyData) : stillA (ds.map A.d) = true := by
  unfold stillA
  rw [List.all_map]
  exact List.all_eq_true.mpr fun _ _ => rfl
def spX (K : PySem.W.Frag) (R : List A → A ⊕ Er → Prop) : Sp := fun vs H Q E => ∃ HF as res, Sl K as (vs.map some) HF H ∧ stillA as = true ∧ R as res ∧
  (∀ a, res = .inl a → ∀ x HF' H', Sl K as (vs.map some) HF' H' → Fw as as (vs.map some) HF H HF' H' → RRel K H HF' H' x a → Q x H') ∧
  (∀ er, res = .inr er → ∀ HF' H' d, Sl K as (vs.map some) HF' H' → Fw as as (vs.map some) HF H HF' H' → ErAt HF' er d → E (.ref er.C) d H')
/-- by data -/
def RD (R : List PyData → A ⊕ Er → Prop) : List A → A ⊕ Er → Prop := fun as r => ∃ ds, as = ds.map A.d ∧ R ds r
def PX (res : A ⊕ Er) : Pst := ⟨fun _ => res = .inl (.d .none), fun a _ => res = .inl a, fun _ => False, fun _ => False⟩
/-- where a body may refuse -/
structure Rz (X : Cx) (B : Bs) (res : A ⊕ Er) where
  W : WX
  tk : Takes X W
  ps : PassesOwn (model X.prog X.w) X.A X.env X.xe
  hW : ∀ er, res = .inr er → ∀ ρ σ HF H d, Sl X.K ρ σ HF H → Bn B ρ σ HF H → ErAt HF er d → W (.ref er.C) d σ H
section
variable {P : Program} {w : World} {K : PySem.W.Frag} {mg : Str → Option Value} {base : Heap}
theorem fn_x {x qual : Str} {st : Stmt} {f : Addr} {fd : FuncData} {N ps : List Str} {k : Nat} {R : List A → A ⊕ Er → Prop} (F : Fun K x qual st f fd) (S0 : FnScope N ps (defScope st)) (hn : ps.length ≤ N.length) (hG : ∀ as r, R as r → as.length = ps.length)
    (hbody : ∀ (cdv : Value) (A1 : Around) (outer : List Env) (s : Shared) (H : Hp) (E : XK) (B : Bs) (as : List A) (res : A ⊕ Er), Room k (A1.deeper (envOfC qual (defScope st) s.heap.objs.size f cdv)) → R as res → (∀ q ∈ B.L, q.1 ∈ ([] : List Nat)) →
      Rz (cxOf (L2.CX P w) P w K mg base N qual (defScope st) f cdv A1 outer s H E) B res →
      Ss (cxOf (L2.CX P w) P w K mg base N qual (defScope st) f cdv A1 outer s H E) B (defBody st) (as ++ List.replicate (N.length - ps.length) .any) (PX res)) : FnOk P w K mg base (L2.CX P w) (k + 1) f fd ps (spX K R) := by
  have len : ∀ vs H Q E, spX K R vs H Q E → vs.length = ps.length := fun vs H Q E ⟨HF, as, r, S1, _, h, _⟩ => by
    have := S1.len
    rw [List.length_map] at this
    exact this.trans (hG _ _ h)
  refine F.okX S0 len fun cdv A1 outer s H vs Q E hr hsp => ?_
  have hlen := len vs H Q E hsp
  obtain ⟨HF, as, res, S1, hst, hf, q1, q2⟩ := hsp
  have hal := hG _ _ hf
  let B : Bs := ⟨HF, H, []⟩
  have noOwnM : ∀ (i : Nat) (a : A), (as ++ List.replicate (N.length - ps.length) A.any)[i]? = some a → a.own = false := fun i a h => by
    rcases getElem?_app_rep h with h | ⟨_, rfl⟩
    · exact still_own hst h
    · rfl
  have Sl0 : Sl K (as ++ List.replicate (N.length - ps.length) .any) (L2.start N vs) HF H := by
    refine ⟨?_, S1.sub, fun i a h => ?_, fun i j a b p h1 h2 o1 o2 e1 e2 => ?_⟩
    · unfold L2.start
      rw [List.length_append, List.length_append, List.length_replicate, List.length_replicate, List.length_map, hlen, hal]
    · unfold L2.start
      rcases getElem?_app_rep h with h | ⟨hi, rfl⟩
      · obtain ⟨u, e, z⟩ := S1.slot i a h
        refine ⟨u, ?_, z⟩
        rw [List.getElem?_append_left (List.getElem?_eq_some_iff.mp e).1]
        exact e
      · have hlt := (List.getElem?_eq_some_iff.mp h).1
        rw [List.length_append, List.length_replicate] at hlt
        refine ⟨none, ?_, trivial⟩
        rw [List.getElem?_append_right (by rw [List.length_map]; omega), List.getElem?_replicate, if_pos (by rw [List.length_map]; omega)]
    · rw [noOwnM i a h1] at o1
      cases o1
  have Bn0 : Bn B (as ++ List.replicate (N.length - ps.length) .any) (L2.start N vs) HF H := by
    refine ⟨.refl _, fun b o _ h => h, fun b o h => .inl h, fun b o h => ⟨o, h⟩, fun i a p h o e => ?_, fun z hz => nomatch hz⟩
    rw [noOwnM i a h] at o
    cases o
  have back : ∀ {ρ : Rho} {σ : L2.St} {HF' H' : Hp}, Sl K ρ σ HF' H' → Bn B ρ σ HF' H' → Sl K as (vs.map some) HF' H' ∧ Fw as as (vs.map some) HF H HF' H' := fun {ρ σ HF' H'} S2 b2 => by
    refine ⟨⟨S1.len, S2.sub, fun i c h => ?_, fun i j a b p h1 _ o1 _ _ _ => ?_⟩, ⟨.refl _, b2.hf, fun b o h _ => b2.keep b o (fun _ z => nomatch z) h, b2.new, b2.pres⟩⟩
    · obtain ⟨u, e, z⟩ := S1.slot i c h
      have hc := still_own hst h
      exact ⟨u, e, arel_mono z b2.hf fun _ _ _ _ _ o => by rw [hc] at o; cases o⟩
    · rw [still_own hst h1] at o1
      cases o1
  have fin : ∀ a ρ σ HF' H' x, res = .inl a → Sl K ρ σ HF' H' → Bn B ρ σ HF' H' → RRel K B.H0 HF' H' x a → Q x H' := fun a ρ σ HF' H' x e S2 b2 rr => by
    obtain ⟨S3, f3⟩ := back S2 b2
    exact q1 a e x HF' H' S3 f3 rr
  refine ⟨_, pss_w, hbody cdv A1 outer s H E B as res hr hf (fun _ z => nomatch z) ⟨_, takes_of rfl rfl rfl rfl, passes_of rfl, fun er e ρ σ HF' H' d S2 b2 hd => ?_⟩ _ HF H Sl0 Bn0 _ ⟨fun ρ σ HF' H' p S2 b2 _ => fin _ ρ σ HF' H' .non p S2 b2 .non, fun a ρ σ HF' H' x p S2 b2 rr => fin a ρ σ HF' H' x p S2 b2 rr, fun _ _ _ _ p => p.elim, fun _ _ _ _ p => p.elim⟩⟩
  obtain ⟨S3, f3⟩ := back S2 b2
  exact q2 er e HF' H' d S3 f3 hd
end
/-! ### calls that tell, calls that refuse -/
section
variable {X : Cx} {B : Bs} {P : Pst} {ρ ρ1 ρ2 : Rho} {e e1 e2 : Expr} {es : List Expr} {pos pos' : Pos} {ds : List PyData} {W : WX} {x y : Str} {er : Er} {a : A} {R : List A → A ⊕ Er → Prop} {res : A ⊕ Er} {u : PyData}
def EXr (X : Cx) (er : Er) (W : WX) (e : Expr) (ρ ρ1 : Rho) : Prop := ∀ σ HF H, Sl X.K ρ σ HF H → (∀ HF' H' d, Sl X.K ρ1 σ HF' H' → Fw ρ ρ1 σ HF H HF' H' → ErAt HF' er d → W (.ref er.C) d σ H') → ∀ Q : VK, wE X e σ H Q
def EDr (X : Cx) (er : Er) (W : WX) (es : List Expr) (ρ ρ1 : Rho) : Prop := ∀ σ HF H, Sl X.K ρ σ HF H → (∀ HF' H' d, Sl X.K ρ1 σ HF' H' → Fw ρ ρ1 σ HF H HF' H' → ErAt HF' er d → W (.ref er.C) d σ H') → ∀ Q, wA X es σ H Q
theorem EXr.f {C : Addr} {fs : List (Str × V)} (h : EXr X ⟨C, some fs⟩ W e ρ ρ1) : EXf X C fs W e ρ ρ1 := fun σ HF H S hW Q => h σ HF H S (fun HF' H' d S' f' ⟨a, h1, h2⟩ => by
  subst h1
  exact hW HF' H' a S' f' h2) Q
theorem EXr.n {C : Addr} (h : EXr X ⟨C, none⟩ W e ρ ρ1) : EX X C W e ρ ρ1 := fun σ HF H S hW Q => h σ HF H S (fun HF' H' d S' f' hd => by
  have hd : d = none := hd
  subst hd
  exact hW HF' H' S' f') Q
theorem call_in {n : Nat} {f : Addr} {fd : FuncData} {ps : List Str} {p : Pos} {E : L2.St → XK} (F : FnOk X.prog X.w X.K X.mg X.base (L2.CX X.prog X.w) n f fd ps (spX X.K R)) (hr : Room n X.A) (hm : X.mg x = some (.ref f)) (hk : PySem.W.keepIn X.K (.ref f) = true) (hb : Binds X.K fd ps [])
    (hx : ∀ σ, PassesAt (L2.CX X.prog X.w) X σ (E σ)) (hg : Gl X x) (hdb : (x == ("__debug__" : Str)) = false) (he : starEach (e :: es) X.env = (false, eval e X.env) :: starEach es X.env) (hpl : (backTo pos (starEach es X.env)).any (·.1) = false) {t : TA} (ha : PA X (e :: es) t) :
    PE X (.Call (.Name x p) (e :: es) [] pos) (fun σ H Q => t σ H fun xs H1 => spX X.K R xs H1 Q (E σ)) := pe_callS F hr hg hm hk hb hx ha hdb he hpl
theorem passA0 {X : Cx} (σ : L2.St) : PassesAt (L2.CX X.prog X.w) X σ E0 := fun _ _ _ _ _ _ h => by
  obtain ⟨_, _, _, _, _, _, _, _, _, _, _, _, z⟩ := h
  exact z.elim
theorem sl_keep {K : PySem.W.Frag} {σ : L2.St} {HF H HF' H' : Hp} (S : Sl K ρ σ HF H) (hf : Same HF HF') (keep : ∀ b o, H b = some o → H' b = some o) (new : ∀ b o, HF' b = some o → HF b = some o ∨ H b = none) (sub : Same HF' H') : Sl K ρ σ HF' H' ∧ Fw ρ ρ σ HF H HF' H' := by
  refine ⟨⟨S.len, sub, fun i c h => ?_, S.apart⟩, ⟨.refl _, hf, fun b o h _ => keep b o h, new, fun b o h => ⟨o, keep b o h⟩⟩⟩
  obtain ⟨u, e, z⟩ := S.slot i c h
  refine ⟨u, e, arel_mono z hf fun p o _ h1 h2 _ => ⟨?_, keep p o h2⟩⟩
  cases q : HF' p with
  | none => rfl
  | some u =>
    rcases new p u q with z | z
    · rw [h1] at z; cases z
    · rw [h2] at z; cases z
theorem args_still {K : PySem.W.Frag} {σ : L2.St} {H HF1 H1 : Hp} {xs : List V} {as : List A} (S : Sl K ρ1 σ HF1 H1) (r : Paired (RRel K H HF1 H1) xs as) (h : stillA as = true) : Sl K as (xs.map some) HF1 H1 := by
  have hl : xs.length = as.length := Paired.length r
  refine ⟨by rw [List.length_map]; exact hl, S.sub, fun i c e1 => ?_, fun i j a b p h1 _ o1 _ _ _ => ?_⟩
  · have hi : i < xs.length := by rw [hl]; exact (List.getElem?_eq_some_iff.mp e1).1
    have g1 := List.getElem?_eq_getElem hi
    have g2 := paired_get? r g1 e1
    refine ⟨some xs[i], by rw [List.getElem?_map, g1]; rfl, ?_⟩
    have := List.all_eq_true.mp h c (List.mem_of_getElem? e1)
    cases c with
    | d v => exact ⟨_, rfl, g2⟩
    | rk v => exact ⟨_, rfl, g2⟩
    | pin z => exact congrArg some g2
    | fk v => exact ⟨_, rfl, g2⟩
    | ft v => exact ⟨_, rfl, g2⟩
    | gn v => exact ⟨_, rfl, g2⟩
    | _ => cases this
  · rw [still_own h h1] at o1
    cases o1
theorem fw_still {K : PySem.W.Frag} {σ : L2.St} {HF H HF' H' : Hp} {xs : List V} {as : List A} (S : Sl K ρ1 σ HF H) (h : stillA as = true) (S4 : Sl K as (xs.map some) HF' H') (f4 : Fw as as (xs.map some) HF H HF' H') : Sl K ρ1 σ HF' H' ∧ Fw ρ1 ρ1 σ HF H HF' H' :=
  sl_keep S f4.hf (fun b o e => f4.keep b o e fun ⟨i, a, h1, h2, _⟩ => by rw [still_own h h1] at h2; cases h2) f4.new S4.sub
/-- a call that tells -/
theorem e_okM {n : Nat} {f : Addr} {fd : FuncData} {ps : List Str} {p : Pos} {as : List A} (F : FnOk X.prog X.w X.K X.mg X.base (L2.CX X.prog X.w) n f fd ps (spX X.K R)) (hr : Room n X.A) (hm : X.mg x = some (.ref f)) (hk : PySem.W.keepIn X.K (.ref f) = true) (hb : Binds X.K fd ps [])
    (ha : EM X (e :: es) ρ as ρ1) (hst : stillA as = true) (hR : R as (.inl a)) (hg : Gl X x := by rfl) (hdb : (x == ("__debug__" : Str)) = false := by decide) (he : starEach (e :: es) X.env = (false, eval e X.env) :: starEach es X.env := by rfl) (hpl : (backTo pos (starEach es X.env)).any (·.1) = false := by rfl) :
    E X (.Call (.Name x p) (e :: es) [] pos) ρ a ρ1 := .of (call_in F hr hm hk hb (E := fun _ => E0) (fun σ => passA0 σ) hg hdb he hpl pa_w) fun σ HF H S Q q => ha σ HF H S _ fun xs HF1 H1 S2 f1 r1 => by
    refine ⟨HF1, as, .inl a, args_still S2 r1 hst, hst, hR, fun a' ea y HF' H' S4 f4 rr => ?_, fun _ z => nomatch z⟩
    cases ea
    obtain ⟨S6, f6⟩ := fw_still S2 hst S4 f4
    exact q y HF' H' S6 (f1.trans f6) (rrel_fresh (fun p h => f1.fresh h) rr)
theorem em_d (h : ED X es ρ ds ρ1) : EM X es ρ (ds.map A.d) ρ1 := fun σ HF H S Q q => h σ HF H S _ fun xs HF1 H1 S1 f1 r1 => q xs HF1 H1 S1 f1 (by
  have key : ∀ {xs : List V} {ds : List PyData}, DpAll X.K HF1 xs ds → Paired (RRel X.K H HF1 H1) xs (ds.map A.d) := fun {xs ds} r => by
    induction ds generalizing xs with
    | nil => cases r; exact .nil
    | cons d ds ih => cases r with | cons h t => exact .cons h (ih t)
  exact key r1)
theorem e_okX {R : List PyData → A ⊕ Er → Prop} {n : Nat} {f : Addr} {fd : FuncData} {ps : List Str} {p : Pos} (F : FnOk X.prog X.w X.K X.mg X.base (L2.CX X.prog X.w) n f fd ps (spX X.K (RD R))) (hr : Room n X.A) (hm : X.mg x = some (.ref f)) (hk : PySem.W.keepIn X.K (.ref f) = true) (hb : Binds X.K fd ps [])
    (ha : ED X (e :: es) ρ ds ρ1) (hR : R ds (.inl a)) (hg : Gl X x := by rfl) (hdb : (x == ("__debug__" : Str)) = false := by decide) (he : starEach (e :: es) X.env = (false, eval e X.env) :: starEach es X.env := by rfl) (hpl : (backTo pos (starEach es X.env)).any (·.1) = false := by rfl) :
    E X (.Call (.Name x p) (e :: es) [] pos) ρ a ρ1 := e_okM F hr hm hk hb (em_d ha) (still_d ds) ⟨ds, rfl, hR⟩ hg hdb he hpl
/-- a call that refuses -/
theorem r_callM {n : Nat} {f : Addr} {fd : FuncData} {ps : List Str} {p : Pos} {as : List A} (F : FnOk X.prog X.w X.K X.mg X.base (L2.CX X.prog X.w) n f fd ps (spX X.K R)) (hr : Room n X.A) (hm : X.mg x = some (.ref f)) (hk : PySem.W.keepIn X.K (.ref f) = true) (hb : Binds X.K fd ps [])
    (ha : EM X (e :: es) ρ as ρ1) (hst : stillA as = true) (hR : R as (.inr er)) (tk : Takes X W) (hg : Gl X x := by rfl) (hdb : (x == ("__debug__" : Str)) = false := by decide) (he : starEach (e :: es) X.env = (false, eval e X.env) :: starEach es X.env := by rfl) (hpl : (backTo pos (starEach es X.env)).any (·.1) = false := by rfl) :
    EXr X er W (.Call (.Name x p) (e :: es) [] pos) ρ ρ1 := fun σ HF H S1 hW Q =>
  ⟨_, call_in F hr hm hk hb (fun σ => passAt tk σ) hg hdb he hpl pa_w, ha σ HF H S1 _ fun xs HF1 H1 S2 f1 r1 => by
    refine ⟨HF1, as, .inr er, args_still S2 r1 hst, hst, hR, (fun _ z => nomatch z), fun er' ee HF' H' d S4 f4 hd => ?_⟩
    cases ee
    obtain ⟨S6, f6⟩ := fw_still S2 hst S4 f4
    exact hW HF' H' d S6 (f1.trans f6) hd⟩
theorem r_call {R : List PyData → A ⊕ Er → Prop} {n : Nat} {f : Addr} {fd : FuncData} {ps : List Str} {p : Pos} (F : FnOk X.prog X.w X.K X.mg X.base (L2.CX X.prog X.w) n f fd ps (spX X.K (RD R))) (hr : Room n X.A) (hm : X.mg x = some (.ref f)) (hk : PySem.W.keepIn X.K (.ref f) = true) (hb : Binds X.K fd ps [])
    (ha : ED X (e :: es) ρ ds ρ1) (hR : R ds (.inr er)) (tk : Takes X W) (hg : Gl X x := by rfl) (hdb : (x == ("__debug__" : Str)) = false := by decide) (he : starEach (e :: es) X.env = (false, eval e X.env) :: starEach es X.env := by rfl) (hpl : (backTo pos (starEach es X.env)).any (·.1) = false := by rfl) :
    EXr X er W (.Call (.Name x p) (e :: es) [] pos) ρ ρ1 := r_callM F hr hm hk hb (em_d ha) (still_d ds) ⟨ds, rfl, hR⟩ tk hg hdb he hpl
/-- .. one of its arguments refuses -/
theorem r_callA {n : Nat} {f : Addr} {fd : FuncData} {ps : List Str} {p : Pos} (F : FnOk X.prog X.w X.K X.mg X.base (L2.CX X.prog X.w) n f fd ps (spX X.K R)) (hr : Room n X.A) (hm : X.mg x = some (.ref f)) (hk : PySem.W.keepIn X.K (.ref f) = true) (hb : Binds X.K fd ps [])
    (ha : EDr X er W (e :: es) ρ ρ1) (tk : Takes X W) (hg : Gl X x := by rfl) (hdb : (x == ("__debug__" : Str)) = false := by decide) (he : starEach (e :: es) X.env = (false, eval e X.env) :: starEach es X.env := by rfl) (hpl : (backTo pos (starEach es X.env)).any (·.1) = false := by rfl) :
    EXr X er W (.Call (.Name x p) (e :: es) [] pos) ρ ρ1 := fun σ HF H S1 hW Q => ⟨_, call_in F hr hm hk hb (fun σ => passAt tk σ) hg hdb he hpl pa_w, ha σ HF H S1 hW _⟩
theorem d_r0 (h : EXr X er W e ρ ρ1) (hs : starEach (e :: es) X.env = (false, eval e X.env) :: starEach es X.env := by rfl) : EDr X er W (e :: es) ρ ρ1 := fun σ HF H S hW Q => ⟨_, pa_cons pe_w pa_w hs, h σ HF H S hW _⟩
theorem d_r1 (h : E X e ρ a ρ1) (hr : EDr X er W es ρ1 ρ2) (hs : starEach (e :: es) X.env = (false, eval e X.env) :: starEach es X.env := by rfl) : EDr X er W (e :: es) ρ ρ2 := fun σ HF H S hW Q =>
  ⟨_, pa_cons pe_w pa_w hs, h σ HF H S _ fun x HF1 H1 S1 f1 _ => hr σ HF1 H1 S1 (fun HF' H' d S' f' hd => hW HF' H' d S' (f1.trans f') hd) _⟩
theorem r_op2 {op : Operator} {r : R2} (ho : OpR X (binaryOp op) r) (ha : E X e1 ρ a ρ1) (hb : EXr X er W e2 ρ1 ρ2) : EXr X er W (.BinOp e1 op e2 pos) ρ ρ2 := fun σ HF H S hW Q =>
  ⟨_, pe_op ho pe_w pe_w, ha σ HF H S _ fun x HF1 H1 S1 f1 _ => hb σ HF1 H1 S1 (fun HF' H' d S' f' hd => hW HF' H' d S' (f1.trans f') hd) _⟩
theorem r_tup {n : Nat} (h : EDr X er W es ρ ρ1) : EXr X er W (.Tuple es n pos) ρ ρ1 := fun σ HF H S hW Q => ⟨_, pe_tup pa_w, h σ HF H S hW _⟩
theorem r_lst (h : EDr X er W es ρ ρ1) : EXr X er W (.List es pos) ρ ρ1 := fun σ HF H S hW Q => ⟨_, pe_lst pa_w, h σ HF H S hW _⟩
theorem r_app (i : Nat) {apos : Pos} (he : EXr X er W e ρ ρ1) (hi0 : ∃ x0, ρ[i]? = some (.ml x0)) (hN : X.N[i]? = some x := by rfl)
    (hv : Vis X.env.scope x := by first | exact Or.inl rfl | exact Or.inr (Or.inl rfl) | exact Or.inr (Or.inr rfl)) (hd : (x == ("__debug__" : Str)) = false := by decide) (hcd : (x == ("__classdict__" : Str)) = false := by decide)
    (hbase : attributeBase (.Name x pos') "append" X.env (eval (.Name x pos') X.env) = eval (.Name x pos') X.env := by rfl)
    (hfew : ((backTo pos (starEach [e] X.env)).all (fun x => !x.1) && (backToKw pos (keywordEach [] X.env)).all (fun x => x.1.isSome) && decide (([e] : List Expr).length + ([] : List Keyword).length + (if ([] : List Keyword).isEmpty then 0 else 1) < 30)) = true := by rfl)
    (hline : (apos.endLine == pos.line) = true := by rfl) (hs : starEach [e] X.env = (false, eval e X.env) :: starEach [] X.env := by rfl) :
    EXr X er W (.Call (.Attribute (.Name x pos') "append" apos) [e] [] pos) ρ ρ1 := fun σ HF H S1 hW Q => by
  obtain ⟨k0, hk0⟩ := hi0
  obtain ⟨p, o0, e0, _, k2, k3⟩ := S1.ownAt hk0 rfl
  cases o0 <;> first | exact k3.elim | skip
  refine ⟨_, pe_bm PySem.F.plainAttrs_list PySem.F.slot_list_append PySem.F.type_list_append mt_append (pe_var hN hv hd hcd) (pa_cons pe_w pa_nil hs) hbase hfew hline hs, ?_⟩
  exact ⟨.ref p, e0, .inl ⟨rfl, _, .inl (.inl k2)⟩, he σ HF H S1 hW _⟩
/-! statements -/
theorem s_exprZ (Z : Rz X B res) (hr : res = .inr er) (he : EXr X er Z.W e ρ ρ1) (hs : swapsWith e none pos.line X.env = pure false := by rfl) : S X B (.Expr e pos) ρ P := .of (ps_expr pe_w hs) fun σ HF H Sl b D o => he σ HF H Sl (fun HF' H' d S' f hd => Z.hW er hr _ σ HF' H' d S' (b.fw f) hd) _
theorem s_setZ (Z : Rz X B res) (hr : res = .inr er) (i : Nat) {y : Str} (he : EXr X er Z.W e ρ ρ1) (hN : X.N.Nodup) (hi : X.N[i]? = some y := by rfl) (hx : Loc X.env.scope y := by first | exact Or.inl rfl | exact Or.inr rfl)
    (hs : swapsWith e (some (.Name y pos')) pos.line X.env = pure false := by rfl) (hf : X.fn y = true ∨ X.env.scope.names.lookup y = some .local := by first | exact .inl rfl | exact .inr rfl) : S X B (.Assign [.Name y pos'] e pos) ρ P :=
  .of (ps_set hN hi hx pe_w hs hf) fun σ HF H Sl b D o => he σ HF H Sl (fun HF' H' d S' f hd => Z.hW er hr _ σ HF' H' d S' (b.fw f) hd) _
theorem s_asgZ {tg : Expr} (Z : Rz X B res) (hr : res = .inr er) (he : EXr X er Z.W e ρ ρ1) (hs : swapsWithSole [tg] e pos.line X.env = pure false := by rfl) (hw : swappedStores [tg] e X.env = pure none := by rfl)
    (h1 : (assignEach [tg] X.env).map (·.2) = [assign tg X.env] := by rfl) : S X B (.Assign [tg] e pos) ρ P := .of (ps_asg pe_w pg_w hs hw h1) fun σ HF H Sl b D o => he σ HF H Sl (fun HF' H' d S' f hd => Z.hW er hr _ σ HF' H' d S' (b.fw f) hd) _
theorem s_retZ (Z : Rz X B res) (hr : res = .inr er) (he : EXr X er Z.W e ρ ρ1) : S X B (.Return (some e) pos) ρ P := .of (ps_ret pe_w) fun σ HF H Sl b D o => he σ HF H Sl (fun HF' H' d S' f hd => Z.hW er hr _ σ HF' H' d S' (b.fw f) hd) _
/-- raise C(n), by the class's own __init__ -/
theorem s_raiseZ {C fI : Addr} {f : Str} {fd : FuncData} {k : Nat} {n : Int} {p pos2 : Pos} (Z : Rz X B res) (hres : res = .inr ⟨C, some [(f, .int n)]⟩) (he : E X e ρ (.d (.int n)) ρ1) (T : OexC X.K C) (hno : PySem.W.findIn X.K (.ref C) f = some none) (iC : PySem.W.findIn X.K (.ref C) "__init__" = some (some (.ref fI))) (tI : PySem.W.typeIn X.K (.ref fI) = some (.type "function"))
    (F1 : FnOk X.prog X.w X.K X.mg X.base (L2.CX X.prog X.w) k fI fd ["self", f] (spI X.K C f)) (hr : Room (k + 1) X.A) (hb : Binds X.K fd ["self", f] []) (hm : X.mg x = some (.ref C)) (hg : Gl X x := by rfl) (hc : X.calm = true := by rfl) (hdb : (x == ("__debug__" : Str)) = false := by decide) (h1 : starEach [e] X.env = (false, eval e X.env) :: starEach [] X.env := by rfl) (hpl : (backTo pos (starEach ([] : List Expr) X.env)).any (·.1) = false := by rfl) :
    S X B (.Raise (some (.Call (.Name x p) [e] [] pos)) none pos2) ρ P :=
  s_raiseF he T hno iC tI F1 hr hb hm Z.tk (fun σ HF H d S b hd => Z.hW _ hres _ σ HF H (some d) S b ⟨d, rfl, hd⟩) hg hc hdb h1 hpl
/-- raise C("..") -/
theorem s_raiseM {C : Addr} {m : Str} {j : Nat} {p p2 pos2 : Pos} (Z : Rz X B res) (hres : res = .inr ⟨C, none⟩) (T : ExcT X.K X.mg x C) (hg : Gl X x := by rfl) (hc : X.calm = true := by rfl) (hdb : (x == ("__debug__" : Str)) = false := by decide) :
    S X B (.Raise (some (.Call (.Name x p) [.Constant (.str m) j p2] [] pos)) none pos2) ρ P := s_raise T Z.tk (fun σ HF H S b => Z.hW _ hres _ σ HF H none S b rfl) hg hc hdb
end
end Th

set_option Elab.async false
set_option linter.all false
set_option maxRecDepth 100000
namespace Th
open PySem PySem.Spec PyProof.Rows L2

/-! objects that stand in no slot of their own, told by a relation R of the heap; no own slots about -/
def GR := Hp → Hp → Prop
/-- such a relation bears whatever is made anew -/
def Kept (R : GR) : Prop := ∀ HF H HF' H', R HF H → Same HF HF' → (∀ b o, H b = some o → H' b = some o) → (∀ b o, HF' b = some o → HF b = some o ∨ H b = none) → R HF' H'
structure OkG (K : PySem.W.Frag) (B : Bs) (HF : Hp) (D : Ends) (P : Pst) (R : GR) : Prop where
  nx : ∀ ρ σ HF' H, P.nx ρ → Sl K ρ σ HF' H → Bn B ρ σ HF' H → Same HF HF' → R HF' H → D.nx σ H
  rt : ∀ a ρ σ HF' H x, P.rt a ρ → Sl K ρ σ HF' H → Bn B ρ σ HF' H → RRel K B.H0 HF' H x a → D.rt x H
theorem OkG.up {K : PySem.W.Frag} {B : Bs} {HF HF1 : Hp} {D : Ends} {P : Pst} {R : GR} (o : OkG K B HF D P R) (s : Same HF HF1) : OkG K B HF1 D P R := ⟨fun ρ σ HF' H p S b e r => o.nx ρ σ HF' H p S b (s.trans e) r, o.rt⟩
def Gj (X : Cx) (B : Bs) (R : GR) (sts : List Stmt) (ρ : Rho) (P : Pst) (R' : GR) : Prop := ∀ σ HF H, Sl X.K ρ σ HF H → Bn B ρ σ HF H → R HF H → ∀ D, OkG X.K B HF D P R' → wSs X sts D σ H
def G1 (X : Cx) (B : Bs) (R : GR) (st : Stmt) (ρ : Rho) (P : Pst) (R' : GR) : Prop := ∀ σ HF H, Sl X.K ρ σ HF H → Bn B ρ σ HF H → R HF H → ∀ D, OkG X.K B HF D P R' → wS X st D σ H
section
variable {X : Cx} {B : Bs} {P : Pst} {ρ ρ1 ρ2 : Rho} {tg iter e : Expr} {es : List Expr} {pos : Pos} {ds : List PyData} {R R1 R2 : GR} {st : Stmt} {sts : List Stmt}
theorem no_ownAt {σ : L2.St} {p : Addr} (hn : noOwnR ρ = true) : ¬ OwnAt ρ σ p := fun ⟨k, a, k1, k2, _⟩ => by rw [no_ownR hn k1] at k2; cases k2
theorem Kept.fw {σ : L2.St} {HF H HF' H' : Hp} (k : Kept R) (hn : noOwnR ρ = true) (f : Fw ρ ρ1 σ HF H HF' H') (r : R HF H) : R HF' H' := k HF H HF' H' r f.hf (fun b o e => f.keep b o e (no_ownAt hn)) f.new
theorem gj_cons (h : G1 X B R st ρ ⟨fun ρ' => Gj X B R1 sts ρ' P R2, P.rt, fun _ => False, fun _ => False⟩ R1) : Gj X B R (st :: sts) ρ P R2 := fun σ HF H Sl b r D o =>
  ⟨_, pss_cons ps_w pss_w, h σ HF H Sl b r _ ⟨fun ρ' σ' HF' H' p S' b' e r' => p σ' HF' H' S' b' r' D (o.up e), o.rt⟩⟩
theorem gj_one (h : G1 X B R st ρ P R1) : Gj X B R [st] ρ P R1 := fun σ HF H Sl b r D o => ⟨_, pss_one ps_w, h σ HF H Sl b r D o⟩
theorem gj_nil (h : P.nx ρ) : Gj X B R [] ρ P R := fun σ HF H Sl b r D o => ⟨_, pss_nil, o.nx ρ σ HF H h Sl b (.refl _) r⟩
theorem Gj.toLe (h : Gj X B R sts ρ1 P R1) (l : Le ρ ρ1) : Gj X B R sts ρ P R1 := fun σ HF H S b r D o => h σ HF H (S.le l) (b.le l) r D o
/-- a for that folds -/
theorem g_forF {body : List Stmt} {α T : Type} {xs : List α} (enc : α → PyData) (hi : Src X tg iter ρ (xs.map enc) ρ1 none) (t0 : T) (step : T → α → T) (emb : Rho) (Rt : T → GR) (J : T → Nat → Prop) (hJ : J t0 0) (h0 : Le ρ1 emb) (hno : noOwnR emb = true) (hnρ : noOwnR ρ = true) (hk : ∀ t, Kept (Rt t))
    (hb : ∀ t (i : Nat) x, xs[i]? = some x → J t i → J (step t x) (i + 1) ∧ ∃ ρ2, GT X B tg (enc x) emb ρ2 ∧ Gj X B (Rt t) body ρ2 ⟨fun ρ' => Le ρ' emb, P.rt, fun _ => False, fun _ => False⟩ (Rt (step t x))) (hd : ∀ ρ', Le ρ' emb → P.nx ρ')
    (hp : PassesOwn (model X.prog X.w) X.A X.env X.xe := by exact PassesOwn.never) (hc : X.calm = true := by rfl) (hs : ∀ x, foldedSetIterable iter X.env x = pure x := by intro _; rfl) : G1 X B (Rt t0) (.For tg iter body [] pos) ρ P (Rt (xs.foldl step t0)) := by
  have hJall : ∀ i, i ≤ xs.length → J ((xs.take i).foldl step t0) i := fun i => by
    induction i with
    | zero => intro _; exact hJ
    | succ i ih =>
      intro hi
      have e := List.getElem?_eq_getElem (show i < xs.length by omega)
      rw [List.take_add_one, e, List.foldl_append]
      exact (hb _ i _ e (ih (by omega))).1
  obtain ⟨wi, h1, h2⟩ := hi
  intro σ HF H S1 b r D o
  refine ⟨_, ps_for hp hc h1 pg_w pss_w hs, h2 σ HF H S1 _ fun J1 HF1 H1 S2 f1 src => ?_⟩
  have r1 := (hk t0).fw hnρ f1 r
  refine ⟨fun i m σ' H' => m = xs.length - i ∧ i ≤ xs.length ∧ ∃ HF', Sl X.K emb σ' HF' H' ∧ Bn B emb σ' HF' H' ∧ Same HF1 HF' ∧ Rt ((xs.take i).foldl step t0) HF' H', ⟨xs.length, by simp, Nat.zero_le _, HF1, S2.le h0, (b.fw f1).le h0, .refl _, r1⟩, ?_⟩
  rintro i m σ' H' ⟨rfl, hle, HF', S', b', s', r'⟩
  have sr := src σ' emb HF' H' (fun _ z => nomatch z) trivial S' s'
  by_cases hlt : i < xs.length
  · have hltm : i < (xs.map enc).length := by rw [List.length_map]; exact hlt
    refine .inr ⟨sr.go i hltm, fun σ3 H3 => ∃ HF3, Sl X.K emb σ3 HF3 H3 ∧ Bn B emb σ3 HF3 H3 ∧ Same HF1 HF3 ∧ Rt ((xs.take (i + 1)).foldl step t0) HF3 H3, fun σ3 H3 n3 => ⟨xs.length - (i + 1), by omega, rfl, hlt, n3⟩, fun x H2 y => ?_⟩
    obtain ⟨v, e, y⟩ := sr.yld i x H2 hltm y
    obtain ⟨u, hu, rfl⟩ := map_get e
    obtain ⟨HF2, S2', f2, r2⟩ := yld_d S' y
    have rk := (hk _).fw hno f2 r'
    obtain ⟨_, ρ2, hg, hbd⟩ := hb _ i u hu (hJall i (by omega))
    refine hg x σ' HF2 H2 S2' r2 _ fun σ2 S3 b3 => hbd σ2 HF2 H2 S3 (b3 (b'.fw f2)) rk _ ?_
    have e2 : (xs.take (i + 1)).foldl step t0 = step ((xs.take i).foldl step t0) u := by rw [List.take_add_one, hu, List.foldl_append]; rfl
    refine ⟨fun ρ3 σ3 HF3 H3 l S4 b4 s4 r4 => ⟨HF3, S4.le l, b4.le l, (s'.trans f2.hf).trans s4, by rw [e2]; exact r4⟩, o.rt⟩
  · have e : i = xs.length := by omega
    subst e
    rw [List.take_length] at r'
    exact .inl ⟨by have := sr.stop; rwa [List.length_map] at this, o.nx emb σ' HF' H' (hd emb (.refl _)) S' b' (f1.hf.trans s') r'⟩
end
end Th
namespace Th
open PySem PySem.Spec PyProof.Rows L2
/-! a dict of lists of one's own, in the making: found.setdefault(k, []).append(v) -/
abbrev PlI (K : PySem.W.Frag) (B : Bs) (HF H : Hp) (w : Key × V) (kv : Int × List PyData) : Prop := DlI K B.H0 HF H w kv
abbrev PlK (K : PySem.W.Frag) (B : Bs) (p : Addr) (kws : List (Key × V)) (m : List (Int × List PyData)) (HF H : Hp) : Prop := DlK K B.H0 p kws m HF H
def PlR (K : PySem.W.Frag) (B : Bs) (p : Addr) (m : List (Int × List PyData)) : GR := fun HF H => ∃ kws, PlK K B p kws m HF H
theorem plI_mono {K : PySem.W.Frag} {B : Bs} {HF H HF' H' : Hp} {w : Key × V} {kv : Int × List PyData} (h : PlI K B HF H w kv) (s : Same HF HF') (k : ∀ q us, H q = some (.lst us) → HF q = none → w.2 = .ref q → H' q = some (.lst us) ∧ HF' q = none) : PlI K B HF' H' w kv := by
  obtain ⟨e, q, us, g1, g2, g3, g4, g5⟩ := h
  obtain ⟨k1, k2⟩ := k q us g4 g3 g1
  exact ⟨e, q, us, g1, g2, k2, k1, dpa_mono s g5⟩
theorem DlK.keep {K : PySem.W.Frag} {B : Bs} {p : Addr} {kws : List (Key × V)} {m : List (Int × List PyData)} {HF H HF' H' : Hp} (r : PlK K B p kws m HF H) (s : Same HF HF') (k : ∀ b o, H b = some o → H' b = some o) (n : ∀ b o, HF' b = some o → HF b = some o ∨ H b = none) : PlK K B p kws m HF' H' := by
  have fresh : ∀ b o, H b = some o → HF b = none → HF' b = none := fun b o e1 e2 => by
    cases q : HF' b with
    | none => rfl
    | some u =>
      rcases n b u q with z | z
      · rw [e2] at z; cases z
      · rw [e1] at z; cases z
  exact ⟨k _ _ r.at_, r.base, fresh p _ r.at_ r.fr, Paired.mapP r.its fun w kv h => plI_mono h s fun q us g1 g2 _ => ⟨k _ _ g1, fresh q _ g1 g2⟩, r.nk, r.na⟩
theorem plR_kept {K : PySem.W.Frag} {B : Bs} {p : Addr} {m : List (Int × List PyData)} : Kept (PlR K B p m) := fun _ _ _ _ ⟨kws, r⟩ s k n => ⟨kws, r.keep s k n⟩
def addP (m : List (Int × List PyData)) (k : Int) (v : PyData) : List (Int × List PyData) := setI m k ((getI m k).getD [] ++ [v])
theorem pl_val {K : PySem.W.Frag} {B : Bs} {HF H : Hp} {k : Int} : ∀ {kws : List (Key × V)} {m : List (Int × List PyData)}, Paired (PlI K B HF H) kws m → (valV kws (Sum.inl k) = none ∧ getI m k = none) ∨ ∃ q us vs, valV kws (Sum.inl k) = some (.ref q) ∧ getI m k = some vs ∧ B.H0 q = none ∧ HF q = none ∧ H q = some (.lst us) ∧ DpAll K HF us vs ∧ (k, vs) ∈ m
  | _, _, .nil => .inl ⟨rfl, rfl⟩
  | _, _, .cons (a := w) (b := kv) h t => by
    obtain ⟨e, q, us, g1, g2, g3, g4, g5⟩ := h
    by_cases hk : kv.1 = k
    · refine .inr ⟨q, us, kv.2, ?_, ?_, g2, g3, g4, g5, ?_⟩
      · rw [valV_pos (by rw [e, hk]), g1]
      · rw [getI_cons, if_pos hk]
      · rw [← hk]; exact List.mem_cons_self
    · have hw : ¬ w.1 = Sum.inl k := fun z => by rw [e] at z; exact hk (Sum.inl.inj z)
      rw [valV_neg hw, getI_cons, if_neg hk]
      rcases pl_val (k := k) t with z | ⟨q', us', vs', z1, z2, z3, z4, z5, z6, z7⟩
      · exact .inl z
      · exact .inr ⟨q', us', vs', z1, z2, z3, z4, z5, z6, List.mem_cons_of_mem _ z7⟩
theorem pl_off {K : PySem.W.Frag} {B : Bs} {HF H : Hp} {q : Addr} {o : HO} {k : Int} {vs : List PyData} : ∀ {kws : List (Key × V)} {m : List (Int × List PyData)}, Paired (PlI K B HF H) kws m → V.ref q ∉ kws.map (·.2) → k ∉ m.map (·.1) → Paired (PlI K B HF (upd H q o)) kws (m.map fun kv => if kv.1 = k then (kv.1, vs) else kv)
  | _, _, .nil, _, _ => .nil
  | _, _, .cons (a := w) (b := kv) h t, hq, hk => by
    rw [List.map_cons, List.mem_cons, not_or] at hq hk
    rw [List.map_cons, if_neg fun z => hk.1 z.symm]
    exact .cons (plI_mono h (.refl _) fun q' us g1 g2 g3 => ⟨by rw [upd_ne fun z => hq.1 (by rw [← z, g3])]; exact g1, g2⟩) (pl_off t hq.2 hk.2)
theorem valV_mem {kws : List (Key × V)} {k : Key} {v : V} (h : valV kws k = some v) : v ∈ kws.map (·.2) := by
  unfold valV at h
  cases q : kws.find? fun kv => decide (kv.1 = k) with
  | none => rw [q] at h; cases h
  | some w =>
    rw [q] at h
    cases h
    exact List.mem_map.mpr ⟨w, List.mem_of_find?_eq_some q, rfl⟩
theorem pl_set {K : PySem.W.Frag} {B : Bs} {HF H : Hp} {q : Addr} {k : Int} {us' : List V} {vs' : List PyData} (h0 : B.H0 q = none) (hf : HF q = none) (hd : DpAll K HF us' vs') : ∀ {kws : List (Key × V)} {m : List (Int × List PyData)}, Paired (PlI K B HF H) kws m → (m.map (·.1)).Nodup → (kws.map (·.2)).Nodup → valV kws (Sum.inl k) = some (.ref q) →
    Paired (PlI K B HF (upd H q (.lst us'))) kws (m.map fun kv => if kv.1 = k then (kv.1, vs') else kv)
  | _, _, .nil, _, _, hv => by cases hv
  | _, _, .cons (a := w) (b := kv) h t, nk, na, hv => by
    rw [List.map_cons, List.nodup_cons] at nk na
    rw [List.map_cons]
    by_cases hk : kv.1 = k
    · rw [valV_pos (by rw [h.1, hk])] at hv
      have hw : w.2 = .ref q := Option.some.inj hv
      rw [if_pos hk]
      refine .cons ⟨h.1, q, us', hw, h0, hf, upd_same, hd⟩ (pl_off t (by rw [← hw]; exact na.1) (by rw [← hk]; exact nk.1))
    · have hw : ¬ w.1 = Sum.inl k := fun z => by rw [h.1] at z; exact hk (Sum.inl.inj z)
      rw [valV_neg hw] at hv
      rw [if_neg hk]
      refine .cons (plI_mono h (.refl _) fun q' us g1 g2 g3 => ⟨?_, g2⟩) (pl_set h0 hf hd t nk.2 na.2 hv)
      rw [upd_ne fun z => na.1 (by rw [g3, z]; exact valV_mem hv)]
      exact g1
section
variable {K : PySem.W.Frag} {B : Bs} {ρ : Rho} {σ : L2.St} {HF HF' H H' : Hp}
theorem sl_no (S : Sl K ρ σ HF H) (hn : noOwnR ρ = true) (s : Same HF HF') (s2 : Same HF' H') : Sl K ρ σ HF' H' := by
  refine ⟨S.len, s2, fun k a e => ?_, fun i j a b p h1 _ o1 _ _ _ => ?_⟩
  · obtain ⟨u, g1, g2⟩ := S.slot k a e
    exact ⟨u, g1, arel_mono g2 s fun _ _ _ _ _ o => by rw [no_ownR hn e] at o; cases o⟩
  · rw [no_ownR hn h1] at o1
    cases o1
theorem bn_no (b : Bn B ρ σ HF H) (hn : noOwnR ρ = true) (s : Same HF HF') (hk : ∀ c o, B.H0 c = some o → H c = some o → H' c = some o) (hp : ∀ c o, H c = some o → ∃ o', H' c = some o') (hne : ∀ c o, HF' c = some o → HF c = some o ∨ B.H0 c = none) : Bn B ρ σ HF' H' where
  hf := b.hf.trans s
  keep := fun c o n e => hk c o e (b.keep c o n e)
  new := fun c o e => by
    rcases hne c o e with z | z
    · exact b.new c o z
    · exact .inr z
  pres := fun c o e => by
    obtain ⟨o', e'⟩ := b.pres c o e
    exact hp c o' e'
  mine := fun i a p h o _ => by rw [no_ownR hn h] at o; cases o
  lent := b.lent
end
end Th

set_option Elab.async false
set_option linter.all false
set_option maxRecDepth 100000
namespace Th
open PySem PySem.Spec PyProof.Rows L2
/-! ### defs of which just something about the result is told -/
def spN (K : PySem.W.Frag) (pre : List A → Prop) (F : List A → A → List A → Prop) : Sp := fun vs H Q _ => ∃ HF as, Sl K as (vs.map some) HF H ∧ pre as ∧
  ∀ r as', F as r as' → Shape as as' → ∀ x HF' H', Sl K as' (vs.map some) HF' H' → Fw as as' (vs.map some) HF H HF' H' → RRel K H HF' H' x r → Q x H'
/-- what a body that tells just something is to reach -/
def PN2 (F : List A → A → List A → Prop) (as : List A) (a : A) (ρ : Rho) : Prop := ∃ as', F as a as' ∧ Shape as as' ∧ ∀ (i : Nat) (a' : A), as'[i]? = some a' → a'.own = true → ρ[i]? = some a'
def PFN (F : List A → A → List A → Prop) (as : List A) : Pst := ⟨PN2 F as (.d .none), PN2 F as, fun _ => False, fun _ => False⟩
section
variable {P : Program} {w : World} {K : PySem.W.Frag} {mg : Str → Option Value} {base : Heap}
theorem fn_n {x qual : Str} {st : Stmt} {f : Addr} {fd : FuncData} {N ps : List Str} {k : Nat} {pre : List A → Prop} {F : List A → A → List A → Prop} (G : Fun K x qual st f fd) (S0 : FnScope N ps (defScope st)) (hF : ∀ as, pre as → as.length = ps.length) (hn : ps.length ≤ N.length) (L : List Nat) (hL : ∀ as, pre as → ∀ (i : Nat) (a : A), as[i]? = some a → a.own = true → i ∈ L)
    (hbody : ∀ (cdv : Value) (A1 : Around) (outer : List Env) (s : Shared) (H : Hp) (E : XK) (B : Bs) (as : List A), Room k (A1.deeper (envOfC qual (defScope st) s.heap.objs.size f cdv)) → pre as → (∀ q ∈ B.L, q.1 ∈ L) →
      Ss (cxOf CX0 P w K mg base N qual (defScope st) f cdv A1 outer s H E).nox B (defBody st) (as ++ List.replicate (N.length - ps.length) .any) (PFN F as)) : FnOk P w K mg base CX0 (k + 1) f fd ps (spN K pre F) := by
  have len : ∀ vs H Q E, spN K pre F vs H Q E → vs.length = ps.length := fun vs H Q E ⟨HF, as, S1, h, _⟩ => by
    have := S1.len
    rw [List.length_map] at this
    exact this.trans (hF _ h)
  refine G.ok S0 len fun cdv A1 outer s H vs Q E hr hsp => ?_
  have hlen := len vs H Q E hsp
  obtain ⟨HF, as, S1, hf, q⟩ := hsp
  have hal := hF _ hf
  let B : Bs := ⟨HF, H, lentOf 0 as vs⟩
  have vmap : ∀ {i : Nat} {v : V}, (vs.map some)[i]? = some (some v) ↔ vs[i]? = some v := fun {i v} => by
    rw [List.getElem?_map]
    cases vs[i]? <;> simp
  have hB : ∀ z ∈ B.L, z.1 ∈ L := fun z hz => by
    obtain ⟨j, a, e1, e2, e3, _⟩ := lentOf_mem.mp (show (z.1, z.2) ∈ lentOf 0 as vs from hz)
    rw [show z.1 = j by omega]
    exact hL _ hf j a e2 e3
  have Sl0 : Sl K (as ++ List.replicate (N.length - ps.length) .any) (L2.start N vs) HF H := by
    refine ⟨?_, S1.sub, fun i a h => ?_, fun i j a b p h1 h2 o1 o2 e1 e2 => ?_⟩
    · unfold L2.start
      rw [List.length_append, List.length_append, List.length_map, List.length_replicate, List.length_replicate, hlen, hal]
    · unfold L2.start
      rcases getElem?_app_rep h with h | ⟨hi, rfl⟩
      · obtain ⟨u, e, z⟩ := S1.slot i a h
        refine ⟨u, ?_, z⟩
        rw [List.getElem?_append_left (List.getElem?_eq_some_iff.mp e).1]
        exact e
      · have hlt := (List.getElem?_eq_some_iff.mp h).1
        rw [List.length_append, List.length_replicate] at hlt
        refine ⟨none, ?_, trivial⟩
        rw [List.getElem?_append_right (by rw [List.length_map]; omega), List.getElem?_replicate, if_pos (by rw [List.length_map]; omega)]
    · have back : ∀ (i : Nat) (a : A), (as ++ List.replicate (N.length - ps.length) A.any)[i]? = some a → a.own = true → (L2.start N vs)[i]? = some (some (V.ref p)) → as[i]? = some a ∧ (vs.map some)[i]? = some (some (V.ref p)) := fun i a h o e => by
        rcases getElem?_app_rep h with h | ⟨_, rfl⟩
        · refine ⟨h, ?_⟩
          unfold L2.start at e
          rw [List.getElem?_append_left (by rw [List.length_map]; have := (List.getElem?_eq_some_iff.mp h).1; omega)] at e
          exact e
        · cases o
      obtain ⟨g1, g2⟩ := back i a h1 o1 e1
      obtain ⟨g3, g4⟩ := back j b h2 o2 e2
      exact S1.apart i j a b p g1 g3 o1 o2 g2 g4
  have Bn0 : Bn B (as ++ List.replicate (N.length - ps.length) .any) (L2.start N vs) HF H := by
    refine ⟨.refl _, fun b o _ h => h, fun b o h => .inl h, fun b o h => ⟨o, h⟩, fun i a p h o e => ?_, fun z hz => ?_⟩
    · rcases getElem?_app_rep h with h | ⟨_, rfl⟩
      · unfold L2.start at e
        rw [List.getElem?_append_left (by rw [List.length_map]; have := (List.getElem?_eq_some_iff.mp h).1; omega)] at e
        exact .inl (lentOf_mem.mpr ⟨i, a, by omega, h, o, vmap.mp e⟩)
      · cases o
    · obtain ⟨j, a, e1, e2, e3, e4⟩ := lentOf_mem.mp (show (z.1, z.2) ∈ lentOf 0 as vs from hz)
      unfold L2.start
      rw [show z.1 = j by omega, List.getElem?_append_left (by rw [List.length_map]; exact (List.getElem?_eq_some_iff.mp e4).1)]
      exact vmap.mpr e4
  refine ⟨_, pss_w, hbody cdv A1 outer s H E B as hr hf hB _ HF H Sl0 Bn0 _ ?_⟩
  have fin : ∀ a ρ σ HF' H' x, PN2 F as a ρ → Sl K ρ σ HF' H' → Bn B ρ σ HF' H' → RRel K B.H0 HF' H' x a → Q x H' := fun a ρ σ HF' H' x pr S2 b2 rr => by
    obtain ⟨as', hFa, hsh, hro⟩ := pr
    have onlyL : ∀ b, OwnAt as (vs.map some) b ↔ ∃ z ∈ B.L, z.2 = b := fun b => by
      constructor
      · rintro ⟨i, c, h1, h2, h3⟩
        exact ⟨(i, b), lentOf_mem.mpr ⟨i, c, by omega, h1, h2, vmap.mp h3⟩, rfl⟩
      · rintro ⟨z, hz, rfl⟩
        obtain ⟨j, c, e1, e2, e3, e4⟩ := lentOf_mem.mp (show (z.1, z.2) ∈ lentOf 0 as vs from hz)
        exact ⟨j, c, e2, e3, vmap.mpr e4⟩
    refine q a as' hFa hsh x HF' H' ⟨?_, S2.sub, fun i c h => ?_, fun i j c d p h1 h2 o1 o2 e1 e2 => ?_⟩ ⟨hsh, b2.hf, fun b o h n => b2.keep b o (fun z hz e => n ((onlyL b).mpr ⟨z, hz, e⟩)) h, b2.new, b2.pres⟩ rr
    · rw [S1.len, hsh.1]
    · obtain ⟨c0, g1, g2, g3⟩ := hsh.back h
      obtain ⟨u, e, z⟩ := S1.slot i c0 g1
      refine ⟨u, e, ?_⟩
      cases ho : c.own with
      | true =>
        obtain ⟨v, rfl, p, o, rfl, _⟩ := (arel_own (g2 ▸ ho)).mp z
        have hm : (i, p) ∈ B.L := lentOf_mem.mpr ⟨i, c0, by omega, g1, g2 ▸ ho, vmap.mp e⟩
        obtain ⟨p2, o2, e2, k1, k2, k3⟩ := S2.ownAt (hro i c h ho) ho
        rw [b2.lent _ hm] at e2
        cases e2
        exact (arel_own ho).mpr ⟨_, rfl, p, o2, rfl, k1, k2, k3⟩
      | false =>
        have := g3 (by rw [← g2]; exact ho)
        subst this
        exact arel_mono z b2.hf fun _ _ _ _ _ o => by rw [ho] at o; cases o
    · obtain ⟨c0, g1, g2, _⟩ := hsh.back h1
      obtain ⟨d0, k1, k2, _⟩ := hsh.back h2
      exact S1.apart i j c0 d0 p g1 k1 (by rw [← g2]; exact o1) (by rw [← k2]; exact o2) e1 e2
  exact ⟨fun ρ σ HF' H' p S2 b2 _ => fin _ ρ σ HF' H' .non p S2 b2 .non, fun a ρ σ HF' H' x p S2 b2 rr => fin a ρ σ HF' H' x p S2 b2 rr, fun _ _ _ _ p => p.elim, fun _ _ _ _ p => p.elim⟩
end
section
variable {X : Cx} {B : Bs} {P : Pst} {ρ ρ1 ρ2 ρc : Rho} {e e1 e2 : Expr} {es : List Expr} {pos pos' : Pos} {as : List A} {x y : Str} {a : A} {l : List Arg} {Φ : A → Rho → Prop} {kvs : List (Key × PyData)}
/-- an expression of whose value just something is known -/
def Eo (X : Cx) (e : Expr) (ρ : Rho) (Φ : A → Rho → Prop) : Prop := ∀ σ HF H, Sl X.K ρ σ HF H → ∀ Q : VK, (∀ a ρ1, Φ a ρ1 → ∀ x HF' H', Sl X.K ρ1 σ HF' H' → Fw ρ ρ1 σ HF H HF' H' → RRel X.K H HF' H' x a → Q x H') → wE X e σ H Q
theorem E.n (h : E X e ρ a ρ1) : Eo X e ρ fun b ρ' => b = a ∧ ρ' = ρ1 := fun σ HF H S Q q => h σ HF H S Q (q a ρ1 ⟨rfl, rfl⟩)
theorem Eo.imp {Ψ : A → Rho → Prop} (h : Eo X e ρ Φ) (hi : ∀ a ρ1, Φ a ρ1 → Ψ a ρ1) : Eo X e ρ Ψ := fun σ HF H S Q q => h σ HF H S Q fun a ρ1 p => q a ρ1 (hi a ρ1 p)
theorem e_callN {k : Nat} {f : Addr} {fd : FuncData} {ps : List Str} {p : Pos} {pre : List A → Prop} {F : List A → A → List A → Prop} (G : FnOk X.prog X.w X.K X.mg X.base CX0 k f fd ps (spN X.K pre F)) (hr : Room k X.A) (hm : X.mg x = some (.ref f)) (hk : PySem.W.keepIn X.K (.ref f) = true) (hb : Binds X.K fd ps [])
    (ha : EA X (e :: es) ρ l ρ1) (hp : pre (l.map (toA ρ1))) (nd : (lents l).Nodup) (hg : Gl X x := by rfl) (hdb : (x == ("__debug__" : Str)) = false := by decide) (he : starEach (e :: es) X.env = (false, eval e X.env) :: starEach es X.env := by rfl) (hpl : (backTo pos (starEach es X.env)).any (·.1) = false := by rfl) :
    Eo X (.Call (.Name x p) (e :: es) [] pos) ρ fun r ρ' => ∃ as', F (l.map (toA ρ1)) r as' ∧ Shape (l.map (toA ρ1)) as' ∧ ρ' = back l as' ρ1 := fun σ HF H S Q q =>
  ⟨_, pe_call (E := fun _ _ _ => False) G hr hg hm hk hb .nil (fun _ _ _ _ _ _ _ h => h.elim) pa_w hdb he hpl, ha σ HF H S _ fun vs HF1 H1 S1 f1 r1 => by
    show spN X.K pre F (vs ++ []) H1 Q _
    rw [List.append_nil]
    refine ⟨HF1, _, args_in S1 nd r1, hp, fun r as' hF hsh y HF2 H2 S2 f2 rr => ?_⟩
    obtain ⟨S3, f3⟩ := args_out S1 nd r1 S2 f2
    exact q r _ ⟨as', hF, hsh, rfl⟩ y HF2 H2 S3 (f1.trans f3) (rrel_fresh (fun p h => f1.fresh h) rr)⟩
/-- .. an own object made there among its arguments -/
theorem e_callNM {k : Nat} {f : Addr} {fd : FuncData} {ps : List Str} {p : Pos} {pre : List A → Prop} {F : List A → A → List A → Prop} (G : FnOk X.prog X.w X.K X.mg X.base CX0 k f fd ps (spN X.K pre F)) (hr : Room k X.A) (hm : X.mg x = some (.ref f)) (hk : PySem.W.keepIn X.K (.ref f) = true) (hb : Binds X.K fd ps [])
    (hM : EM X (e :: es) ρ as ρ1) (h1 : ∀ (i j : Nat) (a b : A), as[i]? = some a → as[j]? = some b → a.own = true → b.own = true → i = j) (hp : pre as) (hg : Gl X x := by rfl) (hdb : (x == ("__debug__" : Str)) = false := by decide) (hs : starEach (e :: es) X.env = (false, eval e X.env) :: starEach es X.env := by rfl) (hpl : (backTo pos (starEach es X.env)).any (·.1) = false := by rfl) :
    Eo X (.Call (.Name x p) (e :: es) [] pos) ρ fun r ρ' => ∃ as', F as r as' ∧ ρ' = ρ1 := fun σ HF H S0 Q q =>
  ⟨_, pe_call (E := fun _ _ _ => False) G hr hg hm hk hb .nil (fun _ _ _ _ _ _ _ h => h.elim) pa_w hdb hs hpl, hM σ HF H S0 _ fun xs HF2 H2 S2 f12 rs => by
    show spN X.K pre F (xs ++ []) H2 Q _
    rw [List.append_nil]
    have hl : xs.length = as.length := Paired.length rs
    have at_ : ∀ (i : Nat) (c : A), as[i]? = some c → ∃ y, xs[i]? = some y ∧ RRel X.K H HF2 H2 y c := fun i c e => by
      have hi : i < xs.length := by rw [hl]; exact (List.getElem?_eq_some_iff.mp e).1
      exact ⟨_, List.getElem?_eq_getElem hi, paired_get? rs (List.getElem?_eq_getElem hi) e⟩
    have vmap : ∀ {i : Nat} {v : V}, (xs.map some)[i]? = some (some v) ↔ xs[i]? = some v := fun {i v} => by
      rw [List.getElem?_map]
      cases xs[i]? <;> simp
    have fresh : ∀ b, OwnAt as (xs.map some) b → H b = none ∧ ¬ OwnAt ρ1 σ b := by
      rintro b ⟨i, c, e1, e2, e3⟩
      obtain ⟨y, g1, g2⟩ := at_ i c e1
      rw [vmap.mp e3] at g1
      cases g1
      obtain ⟨p, o, ep, h0, _⟩ := (rrel_own e2).mp g2
      cases ep
      exact ⟨h0, fun z => S0.notOwn h0 (f12.sh.own.mp z)⟩
    have SA : Sl X.K as (xs.map some) HF2 H2 := by
      refine ⟨by rw [List.length_map]; exact hl, S2.sub, fun i c e1 => ?_, fun i j c d b e1 e2 o1 o2 e3 e4 => h1 i j c d e1 e2 o1 o2⟩
      obtain ⟨y, g1, g2⟩ := at_ i c e1
      refine ⟨some y, vmap.mpr g1, ?_⟩
      cases ho : c.own with
      | true =>
        obtain ⟨p, o, ep, h0, k1, k2, k3⟩ := (rrel_own ho).mp g2
        exact (arel_own ho).mpr ⟨y, rfl, p, o, ep, k1, k2, k3⟩
      | false =>
        cases c with
        | d v => exact ⟨y, rfl, g2⟩
        | any => trivial
        | tw _ => trivial
        | dl _ => trivial
        | nw _ => trivial
        | rk v => exact ⟨y, rfl, g2⟩
        | pin z => exact congrArg some g2
        | fk v => exact ⟨y, rfl, g2⟩
        | ft v => exact ⟨y, rfl, g2⟩
        | gn v => exact ⟨y, rfl, g2⟩
        | go _ => cases ho
        | ml _ => cases ho
        | mk _ => cases ho
        | mt _ => cases ho
    refine ⟨HF2, _, SA, hp, fun r as' hF hsh y HF3 H3 S3 f3 rr => ?_⟩
    have keep3 : ∀ b o', H2 b = some o' → H b ≠ none ∨ OwnAt ρ1 σ b → H3 b = some o' := fun b o' e n => f3.keep b o' e fun z => by
      obtain ⟨z1, z2⟩ := fresh b z
      exact n.elim (fun n => n z1) z2
    refine q r ρ1 ⟨as', hF, rfl⟩ y HF3 H3 ⟨S2.len, S3.sub, fun i c e => ?_, S2.apart⟩ ⟨f12.sh, f12.hf.trans f3.hf, fun b o' e n => ?_, fun b o' e => ?_, fun b o' e => ?_⟩ (rrel_fresh (fun b e => f12.fresh e) rr)
    · obtain ⟨s, e2, g⟩ := S2.slot i c e
      exact ⟨s, e2, arel_mono g f3.hf fun b o' e3 g1 g2 oc => ⟨f3.hfn g1 g2, keep3 b o' g2 (.inr ⟨i, c, e, oc, by rw [e2, e3]⟩)⟩⟩
    · exact keep3 b o' (f12.keep b o' e n) (.inl fun z => by rw [z] at e; cases e)
    · rcases f3.new b o' e with z | z
      · exact f12.new b o' z
      · exact .inr (f12.fresh z)
    · obtain ⟨o2, e2⟩ := f12.pres b o' e
      exact f3.pres b o2 e2⟩
/-- x = e -/
theorem s_setN (i : Nat) {y : Str} (he : Eo X e ρ Φ) (h : ∀ a ρ1, Φ a ρ1 → P.nx (ρ1.set i a)) (hl : ∀ q ∈ B.L, q.1 ≠ i) (hN : X.N.Nodup) (hi : X.N[i]? = some y := by rfl) (hx : Loc X.env.scope y := by first | exact Or.inl rfl | exact Or.inr rfl)
    (hs : swapsWith e (some (.Name y pos')) pos.line X.env = pure false := by rfl) (hf : X.fn y = true ∨ X.env.scope.names.lookup y = some .local := by first | exact .inl rfl | exact .inr rfl) : S X B (.Assign [.Name y pos'] e pos) ρ P :=
  .of (ps_set hN hi hx pe_w hs hf) fun σ HF H Sl b D o => he σ HF H Sl _ fun a ρ1 p y HF1 H1 S1 f1 r1 =>
    o.nx _ _ HF1 H1 (h a ρ1 p) (S1.set r1 fun p hp z => Sl.notOwn hp (f1.sh.own.mp z)) ((b.fw f1).set S1 (rrel_base b r1) hl) f1.hf
theorem s_retN2 (he : Eo X e ρ Φ) (h : ∀ a ρ1, Φ a ρ1 → P.rt a ρ1) : S X B (.Return (some e) pos) ρ P := .of (ps_ret pe_w) fun σ HF H Sl b D o => he σ HF H Sl _ fun a ρ1 p y HF1 H1 S1 f1 r1 => o.rt a ρ1 σ HF1 H1 y (h a ρ1 p) S1 (b.fw f1) (rrel_base b r1)
/-- an own dict made there, only read from then on -/
theorem E.rk (h : E X e ρ (.mk kvs) ρ1) : E X e ρ (.rk kvs) ρ1 := fun σ HF H S Q q => h σ HF H S Q fun x HF1 H1 S1 f1 r1 => by
  obtain ⟨p, o, rfl, h0, h1, h2, h3⟩ := r1
  cases o <;> first | exact h3.elim | skip
  rename_i kws
  have nw : ¬ OwnAt ρ1 σ p := fun z => S.notOwn h0 (f1.sh.own.mp z)
  have S2 := S1.frz h2 h1 nw
  refine q (.ref p) (upd HF1 p (.dK kws)) H1 S2 ⟨f1.sh, f1.hf.trans (same_upd h1), f1.keep, fun b u e => ?_, f1.pres⟩ ⟨p, kws, rfl, upd_same, dpkv_mono (same_upd h1) h3⟩
  by_cases hb : b = p
  · subst hb
    exact .inr h0
  · rw [upd_ne hb] at e
    exact f1.new b u e
/-- isinstance(x, T), x such a dict -/
theorem e_isRk (T : Ty) (j : Nat) {pt pn : Pos} (hi : ρ[j]? = some (.rk kvs)) (hm : X.mg "isinstance" = none) (hmt : X.mg (Str.ofString T.nm) = none) (hg : Gl X "isinstance" := by rfl) (hgt : Gl X (Str.ofString T.nm) := by rfl) (hn : (Str.ofString T.nm) ≠ "__name__" := by decide) (hd : ((Str.ofString T.nm) == ("__debug__" : Str)) = false := by decide)
    (hN : X.N[j]? = some x := by rfl) (hv : Vis X.env.scope x := by first | exact Or.inl rfl | exact Or.inr (Or.inl rfl) | exact Or.inr (Or.inr rfl)) (hdx : (x == ("__debug__" : Str)) = false := by decide) (hcd : (x == ("__classdict__" : Str)) = false := by decide)
    (he : starEach [.Name x pos', .Name (Str.ofString T.nm) pt] X.env = (false, eval (.Name x pos') X.env) :: starEach [.Name (Str.ofString T.nm) pt] X.env := by rfl) (he2 : starEach [.Name (Str.ofString T.nm) pt] X.env = (false, eval (.Name (Str.ofString T.nm) pt) X.env) :: starEach [] X.env := by rfl) (hpl : (backTo pos (starEach [.Name (Str.ofString T.nm) pt] X.env)).any (·.1) = false := by rfl) :
    E X (.Call (.Name "isinstance" pn) [.Name x pos', .Name (Str.ofString T.nm) pt] [] pos) ρ (.d (.bool (isi (.dict []) T))) ρ :=
  .of (pe_callB call_isi hg hm (by decide +kernel) (pa_cons (pe_var hN hv hdx hcd) (pa_cons (pe_bltn (v := .ty T.nm) hgt hmt (boot_ty T) rfl hn hd) pa_nil he2) he) (by decide) (by decide) he hpl) fun σ HF H S1 Q q => by
    obtain ⟨s0, e, v, rfl, p, kws, rfl, h2, h3⟩ := S1.slot j _ hi
    exact ⟨.ref p, e, .ref p, .ty T.nm, _, _, isi (.dict []) T, rfl, .ty T.nm, .base (.dK (S1.sub _ _ h2)), kit_ty (kit_isi (.dict []) T), q _ HF H S1 (.refl ..) (.bl _)⟩
theorem still_rrel {K : PySem.W.Frag} {H HF H1 Hb HF' H' : Hp} {v : V} (h : a.still = true) (s : Same HF HF') (r : RRel K H HF H1 v a) : RRel K Hb HF' H' v a := by
  cases a with
  | d v => exact dp_mono s r
  | rk v => exact rk_mono s r
  | pin z => exact r
  | fk v => exact fk_mono s r
  | ft v => exact ft_mono s r
  | gn g => exact g.mono s r
  | _ => cases h
/-- for y in [e, ..]: items of any kind, handed on as they are -/
theorem s_forM (i : Nat) {body : List Stmt} {py pl : Pos} (h : EM X es ρ as ρ1) (hst : stillA as = true) (h0 : Le ρ1 ρc) (hb : ∀ (m : Nat) (a : A), as[m]? = some a → Ss X B body (ρc.set i a) (bodyP P fun ρ => Le ρ ρc)) (hd : P.nx ρc) (hl : ∀ q ∈ B.L, q.1 ≠ i) (hz : as.length ≤ 1000 := by exact Nat.le_of_ble_eq_true rfl)
    (hN : X.N.Nodup) (hi : X.N[i]? = some y := by rfl) (hx : Loc X.env.scope y := by first | exact Or.inl rfl | exact Or.inr rfl) (hf : X.fn y = true ∨ X.env.scope.names.lookup y = some .local := by first | exact .inl rfl | exact .inr rfl)
    (hp : PassesOwn (model X.prog X.w) X.A X.env X.xe := by exact PassesOwn.never) (hc : X.calm = true := by rfl) (hs : ∀ x, foldedSetIterable (.List es pl) X.env x = pure x := by intro _; rfl) : S X B (.For (.Name y py) (.List es pl) body [] pos) ρ P := by
  refine .of (ps_for hp hc (pi_list (pe_lst pa_w)) (pg_name hN hi hx hf) pss_w hs) fun σ HF H S1 b D o => h σ HF H S1 _ fun xs HF1 H1 S2 f1 r1 => ?_
  have hxl := Paired.length r1
  refine ⟨by rw [hxl]; exact Nat.le_of_lt (small1000 hz), fun p hpn => ?_⟩
  obtain ⟨S3, f3⟩ := S2.allocD hpn (.lst xs)
  have hpl : upd HF1 p (.lst xs) p = some (.lst xs) := upd_same
  generalize upd HF1 p (.lst xs) = HF2 at *
  generalize upd H1 p (.lst xs) = H2 at *
  have f13 := f1.trans f3
  refine ⟨p, rfl, ⟨xs, .inl (.inl (S3.sub _ _ hpl))⟩, ?_⟩
  refine ⟨fun k m σ' H' => m = xs.length - k ∧ k ≤ xs.length ∧ ∃ HF', Sl X.K ρc σ' HF' H' ∧ Bn B ρc σ' HF' H' ∧ Same HF2 HF', ⟨xs.length, by simp, Nat.zero_le _, HF2, S3.le h0, (b.fw f13).le h0, .refl _⟩, ?_⟩
  rintro k m σ' H' ⟨rfl, hle, HF', S', b', s'⟩
  have hq : SqL X.K H' p xs := .inl (.inl (S'.sub _ _ (s' _ _ hpl)))
  by_cases hlt : k < xs.length
  · refine .inr ⟨⟨xs, xs[k], hq, List.getElem?_eq_getElem hlt⟩, fun σ3 H3 => ∃ HF3, Sl X.K ρc σ3 HF3 H3 ∧ Bn B ρc σ3 HF3 H3 ∧ Same HF2 HF3, fun σ3 H3 n3 => ⟨xs.length - (k + 1), by omega, rfl, hlt, n3⟩, fun x H2' ⟨e, y⟩ => ?_⟩
    subst e
    have hxk := y xs hq
    have hal : k < as.length := by rw [← hxl]; exact hlt
    have ha := List.getElem?_eq_getElem hal
    have hsa := List.all_eq_true.mp hst as[k] (List.getElem_mem hal)
    have r2 := paired_get? r1 hxk ha
    have r3 : ∀ Hb, RRel X.K Hb HF' H2' x as[k] := fun Hb => still_rrel hsa (f3.hf.trans s') r2
    have S4 := S'.set (i := i) (Hb := H2') (r3 _) fun q hq w => S'.notOwn hq w
    have b4 := b'.set S' (i := i) (r3 _) hl
    exact hb k as[k] ha _ HF' H2' S4 b4 _ ⟨fun ρ3 σ3 HF3 H3 l S5 b5 s5 => ⟨HF3, S5.le l, b5.le l, s'.trans s5⟩, o.up (f13.hf.trans s') |>.rt, fun ρ3 σ3 HF3 H3 l S5 b5 s5 => (o.up (f13.hf.trans s')).nx ρ3 σ3 HF3 H3 l S5 b5 s5, fun ρ3 σ3 HF3 H3 l S5 b5 s5 => ⟨HF3, S5.le l, b5.le l, s'.trans s5⟩⟩
  · have e : k = xs.length := by omega
    subst e
    exact .inl ⟨⟨xs, hq, Nat.le_refl _⟩, o.nx ρc σ' HF' H' hd S' b' (f13.hf.trans s')⟩
end
end Th

set_option Elab.async false
set_option linter.all false
set_option maxRecDepth 100000
namespace Th
open PySem PySem.Spec PyProof.Rows L2 TL
/-! ### texts: any text by its blanks, by its first sign of a kind -/
theorem pre_1 (s : Nat) (c : Nat) (r : List Nat) : pre [s] (c :: r) = decide (c = s) := by
  by_cases h : c = s
  · subst h
    rw [decide_eq_true rfl]
    exact pre_self [c] r
  · rw [decide_eq_false h, pre_of_head [] r h]
/-- the parts between blanks -/
def splB (l : List Nat) : List (List Nat) := spl [32] 0 [] l
theorem spl_acc : ∀ (l acc : List Nat), 32 ∉ acc → spl [32] 0 acc l ≠ [] ∧ (∀ w ∈ spl [32] 0 acc l, 32 ∉ w) ∧ joinL [32] (spl [32] 0 acc l) = acc ++ l ∧ (spl [32] 0 acc l).length ≤ l.length + 1
  | [], acc, h => by
    rw [spl_nil]
    refine ⟨(fun z => nomatch z), fun w hw => by rw [List.mem_singleton.mp hw]; exact h, ?_, Nat.le_refl _⟩
    show acc = acc ++ []
    rw [List.append_nil]
  | c :: r, acc, h => by
    by_cases hc : c = 32
    · subst hc
      obtain ⟨h1, h2, h3, h4⟩ := spl_acc r [] (fun z => nomatch z)
      rw [spl_hit (show pre [32] (32 :: r) = true by rw [pre_1]; exact decide_eq_true rfl)]
      have e : ([32] : List Nat).length - 1 = 0 := rfl
      rw [e]
      refine ⟨(fun z => nomatch z), fun w hw => ?_, ?_, by rw [List.length_cons, List.length_cons]; omega⟩
      · rcases List.mem_cons.mp hw with rfl | hw
        · exact h
        · exact h2 w hw
      · cases q : spl [32] 0 [] r with
        | nil => exact absurd q h1
        | cons a b =>
          rw [q] at h3
          show acc ++ ([32] ++ joinL [32] (a :: b)) = _
          rw [h3]
          rfl
    · obtain ⟨h1, h2, h3, h4⟩ := spl_acc r (acc ++ [c]) (fun z => (List.mem_append.mp z).elim h fun z => hc (List.mem_singleton.mp z).symm)
      rw [spl_miss (by rw [pre_1]; exact decide_eq_false hc)]
      refine ⟨h1, h2, by rw [h3, List.append_assoc]; rfl, by rw [List.length_cons]; omega⟩
theorem splB_ok (l : List Nat) : splB l ≠ [] ∧ (∀ w ∈ splB l, 32 ∉ w) ∧ joinL [32] (splB l) = l ∧ (splB l).length ≤ l.length + 1 := spl_acc l [] (fun z => nomatch z)
theorem split_B (l : List Nat) : Txt.split (mkS l) (" " : Str) = (splB l).map mkS := by
  refine map_tl_inj ?_
  rw [split_spl _ _ (by rw [show tl (" " : Str) = [32] from tl_mkS [32]]; exact fun z => nomatch z) (kind_ok (by decide +kernel)), show tl (" " : Str) = [32] from tl_mkS [32], tl_mkS, map_tl]
  rfl
/-- parts without blanks, joined, are found again -/
theorem splB_join {W : List (List Nat)} (hne : W ≠ []) (h : ∀ w ∈ W, 32 ∉ w) : splB (joinL [32] W) = W := spl_join hne h
theorem mem_joinL {c : Nat} : ∀ {W : List (List Nat)} {w : List Nat}, w ∈ W → c ∈ w → c ∈ joinL [32] W
  | [a], w, h, hc => by rw [List.mem_singleton.mp h] at hc; exact hc
  | a :: b :: r, w, h, hc => by
    show c ∈ a ++ ([32] ++ joinL [32] (b :: r))
    rcases List.mem_cons.mp h with rfl | h
    · exact List.mem_append_left _ hc
    · exact List.mem_append_right _ (List.mem_append_right _ (mem_joinL h hc))
theorem asc_splB {l : List Nat} (h : Asc l) : ∀ w ∈ splB l, Asc w := fun w hw c hc => by
  refine h c ?_
  have := (splB_ok l).2.2.1
  rw [← this]
  exact mem_joinL hw hc
theorem len_joinL : ∀ {W : List (List Nat)} {w : List Nat}, w ∈ W → w.length ≤ (joinL [32] W).length
  | [a], w, h => by rw [List.mem_singleton.mp h]; exact Nat.le_refl _
  | a :: b :: r, w, h => by
    have e : (joinL [32] (a :: b :: r)).length = a.length + (1 + (joinL [32] (b :: r)).length) := by
      show (a ++ ([32] ++ joinL [32] (b :: r))).length = _
      rw [List.length_append, List.length_append]
      rfl
    rcases List.mem_cons.mp h with rfl | h
    · omega
    · have := len_joinL h
      omega
theorem splB_len {l w : List Nat} (h : w ∈ splB l) : w.length ≤ l.length := by
  have := len_joinL h
  rw [(splB_ok l).2.2.1] at this
  exact this
/-- what stands before and behind the first sign s -/
def cutX (s : Nat) : List Nat → Option (List Nat × List Nat)
  | [] => none
  | c :: r => if c = s then some ([], r) else (cutX s r).map fun p => (c :: p.1, p.2)
theorem cutX_none {s : Nat} : ∀ {l : List Nat}, cutX s l = none → s ∉ l
  | [], _ => fun z => nomatch z
  | c :: r, h => by
    unfold cutX at h
    split at h
    · cases h
    · rename_i hc
      have h2 := cutX_none (Option.map_eq_none_iff.mp h)
      exact fun z => (List.mem_cons.mp z).elim (fun e => hc e.symm) h2
theorem cutX_some {s : Nat} : ∀ {l a b : List Nat}, cutX s l = some (a, b) → l = a ++ s :: b ∧ s ∉ a
  | c :: r, a, b, h => by
    unfold cutX at h
    split at h
    · rename_i hc
      cases h
      exact ⟨by rw [hc]; rfl, fun z => nomatch z⟩
    · rename_i hc
      obtain ⟨⟨a', b'⟩, h1, h2⟩ := Option.map_eq_some_iff.mp h
      cases h2
      obtain ⟨h3, h4⟩ := cutX_some h1
      exact ⟨by rw [h3]; rfl, fun z => (List.mem_cons.mp z).elim (fun e => hc e.symm) h4⟩
theorem cutX_app {s : Nat} : ∀ {a : List Nat} (b : List Nat), s ∉ a → cutX s (a ++ s :: b) = some (a, b)
  | [], b, _ => by
    show (if s = s then _ else _) = _
    rw [if_pos rfl]
  | c :: a, b, h => by
    have h1 : c ≠ s := fun z => h (by rw [z]; exact List.mem_cons_self)
    show (if c = s then _ else _) = _
    rw [if_neg h1]
    show (cutX s (a ++ s :: b)).map _ = _
    rw [cutX_app b fun z => h (List.mem_cons_of_mem _ z)]
    rfl
theorem cutX_free {s : Nat} {l : List Nat} (h : s ∉ l) : cutX s l = none := by
  cases q : cutX s l with
  | none => rfl
  | some p =>
    obtain ⟨a, b⟩ := p
    exact absurd (by rw [(cutX_some q).1]; exact List.mem_append_right _ List.mem_cons_self) h
theorem part_cut (s : Nat) (l : List Nat) : Txt.partition (mkS l) (mkS [s]) = (match cutX s l with | none => (mkS l, mkS [], mkS []) | some (a, b) => (mkS a, mkS [s], mkS b)) := by
  cases q : cutX s l with
  | none => exact partition_none (tl_mkS [s]) (by rw [tl_mkS]; exact cutX_none q)
  | some p =>
    obtain ⟨a, b⟩ := p
    obtain ⟨h1, h2⟩ := cutX_some q
    have e : mkS l = mkS a ++ mkS [s] ++ mkS b := by
      rw [mkS_app, mkS_app, h1, List.append_assoc]
      rfl
    rw [e]
    exact partition_app (tl_mkS [s]) (by rw [tl_mkS]; exact h2)
theorem find_cut (s : Nat) (l : List Nat) : Txt.find (mkS l) (mkS [s]) = (match cutX s l with | none => -1 | some (a, _) => (a.length : Int)) := by
  have hy : tl (mkS [s]) ≠ [] := by rw [tl_mkS]; exact fun z => nomatch z
  have at_ : ∀ i, StrLaws.At (mkS l) (mkS [s]) (mkS l).length i ↔ l[i]? = some s := fun i => by
    rw [at_iff hy, tl_mkS, tl_mkS]
    cases q : l[i]? with
    | none =>
      have : l.length ≤ i := List.getElem?_eq_none_iff.mp q
      rw [List.drop_of_length_le this, pre_nil (S := [s]) (List.cons_ne_nil _ _)]
      exact ⟨(fun z => nomatch z), (fun z => nomatch z)⟩
    | some c =>
      have hi := (List.getElem?_eq_some_iff.mp q)
      obtain ⟨hi, hc⟩ := hi
      rw [List.drop_eq_getElem_cons hi, pre_1, decide_eq_true_iff, hc]
      exact ⟨fun h => by rw [h], fun h => Option.some.inj h⟩
  cases q : cutX s l with
  | none =>
    have hn := cutX_none q
    rcases find_whole (mkS l) (mkS [s]) with ⟨h, _⟩ | ⟨i, _, h, _⟩
    · exact h
    · exact absurd (List.mem_of_getElem? ((at_ i).mp h)) hn
  | some p =>
    obtain ⟨a, b⟩ := p
    obtain ⟨h1, h2⟩ := cutX_some q
    have ha : l[a.length]? = some s := by rw [h1, List.getElem?_append_right (Nat.le_refl _), Nat.sub_self]; rfl
    rcases find_whole (mkS l) (mkS [s]) with ⟨_, h⟩ | ⟨i, e, h, hm⟩
    · exact absurd ((at_ a.length).mpr ha) (h _)
    · have hi := (at_ i).mp h
      have : i = a.length := by
        by_cases hlt : i < a.length
        · rw [h1, List.getElem?_append_left hlt] at hi
          exact absurd (List.mem_of_getElem? hi) h2
        · by_cases hgt : a.length < i
          · exact absurd ((at_ a.length).mpr ha) (hm _ hgt)
          · omega
      rw [e, this]
theorem cut_len (l : List Nat) (k j : Nat) : cutS (mkS l) (some (k : Int)) (some (j : Int)) = mkS ((l.drop k).take (j - k)) := by
  unfold cutS
  rw [HT.sIx_nat, HT.sIx_nat, mkS_len]
  show mkS (((tl (mkS l)).drop (min k l.length)).take (min j l.length - min k l.length)) = _
  rw [tl_mkS]
  by_cases hk : k ≤ l.length
  · rw [Nat.min_eq_left hk]
    by_cases hj : j ≤ l.length
    · rw [Nat.min_eq_left hj]
    · rw [Nat.min_eq_right (by omega), List.take_of_length_le (by rw [List.length_drop]; exact Nat.le_refl _), List.take_of_length_le (by rw [List.length_drop]; omega)]
  · rw [List.drop_of_length_le (show l.length ≤ min k l.length by omega), List.drop_of_length_le (show l.length ≤ k by omega), List.take_nil, List.take_nil]
theorem cut_head (l : List Nat) (k : Nat) : cutS (mkS l) none (some (k : Int)) = mkS (l.take k) := by
  have := cut_len l 0 k
  rw [List.drop_zero, Nat.sub_zero] at this
  rw [← this]
  unfold cutS
  rw [HT.sIx_none, HT.sIx_nat (k := 0)]
  simp
theorem cut_tail (l : List Nat) (k : Nat) : cutS (mkS l) (some (k : Int)) none = mkS (l.drop k) := by
  have := cut_len l k l.length
  rw [List.take_of_length_le (by rw [List.length_drop]; exact Nat.le_refl _)] at this
  rw [← this]
  unfold cutS
  rw [HT.sIx_none, HT.sIx_nat, HT.sIx_nat, mkS_len]
  simp
section
variable {X : Cx} {ρ ρ1 ρ2 : Rho} {e e1 e2 e3 o : Expr} {pos apos : Pos} {a b : Str} {i j l : Int}
/-- text.find(b) -/
theorem e_findS (ho : E X o ρ (.d (.str a)) ρ1) (he : E X e ρ1 (.d (.str b)) ρ2) (hs : starEach [e] X.env = [(false, eval e X.env)] := by rfl) (hbase : attributeBase o "find" X.env (eval o X.env) = eval o X.env := by rfl) (hline : (apos.endLine == pos.line) = true := by rfl) :
    E X (.Call (.Attribute o "find" apos) [e] [] pos) ρ (.d (.int (Txt.find a b))) ρ2 :=
  .of (pe_m1 PySem.F.slot_str_find PySem.F.type_str_find mt_find pe_w pe_w hs hbase hline) fun σ HF H S1 Q q => ho σ HF H S1 _ fun x HF1 H1 S2 f1 r1 => by
    cases r1
    refine ⟨⟨a, rfl⟩, he σ HF1 H1 S2 _ fun y HF2 H2 S3 f2 r2 => ?_⟩
    cases r2
    exact ⟨a, b, rfl, rfl, q _ HF2 H2 S3 (f1.trans f2) (.int _)⟩
/-- a < b < c -/
theorem t_chLL (ha : E X e1 ρ (.d (.int i)) ρ1) (hb : E X e2 ρ1 (.d (.int j)) ρ2) (hc : E X e3 ρ2 (.d (.int l)) ρ2) (hm : lastMarks [.Lt, .Lt] [e2, e3] = false := by with_unfolding_all rfl) : ET X (.Compare e1 [.Lt, .Lt] [e2, e3] pos) ρ (decide (i < j) && decide (j < l)) ρ2 :=
  .of (pt_chain op_lt op_lt pe_w pe_w pe_w hm) fun σ HF H S1 Q q => ha σ HF H S1 _ fun x HF1 H1 S2 f1 r1 => hb σ HF1 H1 S2 _ fun y HF2 H2 S3 f2 r2 => by
    cases r1
    cases r2
    refine ⟨i, j, rfl, rfl, decide (i < j), rfl, ?_⟩
    by_cases h : i < j
    · rw [if_pos (decide_eq_true h), decide_eq_true h, Bool.true_and] at *
      refine hc σ HF2 H2 S3 _ fun z HF3 H3 S4 f3 r3 => ?_
      cases r3
      exact ⟨j, l, rfl, rfl, _, rfl, q HF3 H3 S4 ((f1.trans f2).trans f3)⟩
    · rw [if_neg (by rw [decide_eq_false h]; exact Bool.false_ne_true), decide_eq_false h, Bool.false_and] at *
      exact ⟨_, rfl, q HF2 H2 S3 (f1.trans f2)⟩
/-- s not in ("..", ..) -/
theorem t_ninT {s : Str} {ss : List Str} (h1 : E X e1 ρ (.d (.str s)) ρ1) (h2 : E X e2 ρ1 (.d (.tuple (ss.map .str))) ρ2) (hb : behindInMarks .NotIn e2 = false := by rfl) : ET X (.Compare e1 [.NotIn] [e2] pos) ρ (!decide (s ∈ ss)) ρ2 :=
  t_cmp op_notIn_seq (ev_op h1 h2 fun HF H x y Q hx hy s2 q => by
    cases hx
    cases hy with
    | tup g1 g2 =>
      have := dpa_strs g2
      subst this
      refine ⟨_, _, rfl, .inr (same_t s2 g1), rfl, List.all_eq_true.mpr fun z hz => by obtain ⟨n', _, rfl⟩ := List.mem_map.mp hz; rfl, ?_⟩
      have e : inV (.str s) (ss.map V.str) = decide (s ∈ ss) := by
        unfold inV
        rw [List.any_map]
        by_cases h : s ∈ ss
        · rw [decide_eq_true h]
          exact List.any_eq_true.mpr ⟨s, h, by simp [eqV]⟩
        · rw [decide_eq_false h]
          refine Bool.eq_false_iff.mpr fun z => ?_
          obtain ⟨t, ht, e⟩ := List.any_eq_true.mp z
          have : t = s := by simpa [eqV] using e
          exact h (this ▸ ht)
      rw [e]
      exact q _ (.bl _)) hb
end
end Th

set_option Elab.async false
set_option linter.all false
set_option maxRecDepth 100000
set_option maxHeartbeats 4000000
set_option pp.maxSteps 300
namespace K25
open PySem PySem.Spec PyProof.Rows L2 Th
def topS (i : Nat) : Stmt := PySem.Challenge.pw_tanglehouse_k25_whole_any_text_read_or_n.main.body.getD i (.Pass ⟨0, 0, 0, 0⟩)
abbrev sLaw : Stmt := topS 32
abbrev nLaw : List Str := ["_law_script", "_law_cell", "_law_text_here", "_law_due_here", "_law_thing"]
theorem scLaw : FnScope nLaw ["_law_script"] (defScope sLaw) := ⟨rfl, rfl, rfl, by decide +kernel, rfl, by decide +kernel, by decide +kernel⟩
abbrev sText : Stmt := topS 26
abbrev nText : List Str := ["_law_row", "_law_menu", "_law_found", "_law_k", "_law_at", "_law_sign", "_law_some"]
theorem scText : FnScope nText ["_law_row"] (defScope sText) := ⟨rfl, rfl, rfl, by decide +kernel, rfl, by decide +kernel, by decide +kernel⟩
abbrev sDue : Stmt := topS 30
abbrev nDue : List Str := ["_law_text_here", "_law_words", "_law_sign", "_law_found", "_law_k", "_law_term_here"]
theorem scDue : FnScope nDue ["_law_text_here"] (defScope sDue) := ⟨rfl, rfl, rfl, by decide +kernel, rfl, by decide +kernel, by decide +kernel⟩
abbrev sRefused : Stmt := topS 31
abbrev nRefused : List Str := ["_law_text_here", "_law_word", "error"]
theorem scRefused : FnScope nRefused ["_law_text_here"] (defScope sRefused) := ⟨rfl, rfl, rfl, by decide +kernel, rfl, by decide +kernel, by decide +kernel⟩
abbrev sReadPolynomial : Stmt := topS 20
abbrev nReadPolynomial : List Str := ["text", "found"]
theorem scReadPolynomial : FnScope nReadPolynomial ["text"] (defScope sReadPolynomial) := ⟨rfl, rfl, rfl, by decide +kernel, rfl, by decide +kernel, by decide +kernel⟩
abbrev sShownPolynomial : Stmt := topS 15
abbrev nShownPolynomial : List Str := ["one", "found", "power", "number", "sign"]
theorem scShownPolynomial : FnScope nShownPolynomial ["one"] (defScope sShownPolynomial) := ⟨rfl, rfl, rfl, by decide +kernel, rfl, by decide +kernel, by decide +kernel⟩
abbrev sTake : Stmt := topS 23
abbrev nTake : List Str := ["_law_row", "_law_base", "_law_rest", "_law_number_here"]
theorem scTake : FnScope nTake ["_law_row", "_law_base"] (defScope sTake) := ⟨rfl, rfl, rfl, by decide +kernel, rfl, by decide +kernel, by decide +kernel⟩
abbrev sPolynomial : Stmt := topS 25
abbrev nPolynomial : List Str := ["_law_row", "_law_most", "_law_terms", "_law_found", "_law_power_here", "_law_k", "_law_number_here"]
theorem scPolynomial : FnScope nPolynomial ["_law_row", "_law_most", "_law_terms"] (defScope sPolynomial) := ⟨rfl, rfl, rfl, by decide +kernel, rfl, by decide +kernel, by decide +kernel⟩
abbrev sTerm : Stmt := topS 29
abbrev nTerm : List Str := ["_law_word", "_law_at", "_law_number_here", "_law_power_here"]
theorem scTerm : FnScope nTerm ["_law_word"] (defScope sTerm) := ⟨rfl, rfl, rfl, by decide +kernel, rfl, by decide +kernel, by decide +kernel⟩
abbrev sTermsOf : Stmt := topS 19
abbrev nTermsOf : List Str := ["text", "sign", "words", "found", "mark", "word"]
theorem scTermsOf : FnScope nTermsOf ["text"] (defScope sTermsOf) := ⟨rfl, rfl, rfl, by decide +kernel, rfl, by decide +kernel, by decide +kernel⟩
abbrev sIsPolynomial : Stmt := topS 9
abbrev nIsPolynomial : List Str := ["thing", "term", "one", "other"]
theorem scIsPolynomial : FnScope nIsPolynomial ["thing"] (defScope sIsPolynomial) := ⟨rfl, rfl, rfl, by decide +kernel, rfl, by decide +kernel, by decide +kernel⟩
abbrev sShownTerm : Stmt := topS 14
abbrev nShownTerm : List Str := ["power", "number", "letter"]
theorem scShownTerm : FnScope nShownTerm ["power", "number"] (defScope sShownTerm) := ⟨rfl, rfl, rfl, by decide +kernel, rfl, by decide +kernel, by decide +kernel⟩
abbrev sNumber : Stmt := topS 24
abbrev nNumber : List Str := ["_law_row", "_law_most", "_law_number_here", "_law_part"]
theorem scNumber : FnScope nNumber ["_law_row", "_law_most"] (defScope sNumber) := ⟨rfl, rfl, rfl, by decide +kernel, rfl, by decide +kernel, by decide +kernel⟩
abbrev sFigures : Stmt := topS 27
abbrev nFigures : List Str := ["_law_word", "_law_least", "_law_sign"]
theorem scFigures : FnScope nFigures ["_law_word", "_law_least"] (defScope sFigures) := ⟨rfl, rfl, rfl, by decide +kernel, rfl, by decide +kernel, by decide +kernel⟩
abbrev sPower : Stmt := topS 28
abbrev nPower : List Str := ["_law_rest", "_law_number_here"]
theorem scPower : FnScope nPower ["_law_rest"] (defScope sPower) := ⟨rfl, rfl, rfl, by decide +kernel, rfl, by decide +kernel, by decide +kernel⟩
abbrev sTermOf : Stmt := topS 18
abbrev nTermOf : List Str := ["word", "sign", "head", "letter", "rest"]
theorem scTermOf : FnScope nTermOf ["word", "sign"] (defScope sTermOf) := ⟨rfl, rfl, rfl, by decide +kernel, rfl, by decide +kernel, by decide +kernel⟩
abbrev sIsTerm : Stmt := topS 8
abbrev nIsTerm : List Str := ["thing"]
theorem scIsTerm : FnScope nIsTerm ["thing"] (defScope sIsTerm) := ⟨rfl, rfl, rfl, by decide +kernel, rfl, by decide +kernel, by decide +kernel⟩
abbrev sPowerOf : Stmt := topS 17
abbrev nPowerOf : List Str := ["word"]
theorem scPowerOf : FnScope nPowerOf ["word"] (defScope sPowerOf) := ⟨rfl, rfl, rfl, by decide +kernel, rfl, by decide +kernel, by decide +kernel⟩
abbrev sNumberOf : Stmt := topS 16
abbrev nNumberOf : List Str := ["word", "sign"]
theorem scNumberOf : FnScope nNumberOf ["word"] (defScope sNumberOf) := ⟨rfl, rfl, rfl, by decide +kernel, rfl, by decide +kernel, by decide +kernel⟩
abbrev sIsWhole : Stmt := topS 7
abbrev nIsWhole : List Str := ["thing"]
theorem scIsWhole : FnScope nIsWhole ["thing"] (defScope sIsWhole) := ⟨rfl, rfl, rfl, by decide +kernel, rfl, by decide +kernel, by decide +kernel⟩
def clsS (i j : Nat) : Stmt := match topS i with | .ClassDef (body := b) .. => b.getD j (.Pass ⟨0, 0, 0, 0⟩) | _ => .Pass ⟨0, 0, 0, 0⟩
abbrev sINoText : Stmt := clsS 4 0
theorem scINoText : FnScope ["self", "at"] ["self", "at"] (defScope sINoText) := ⟨rfl, rfl, rfl, by decide +kernel, rfl, by decide +kernel, by decide +kernel⟩
structure Txt (K : PySem.W.Frag) (mg : Str → Option Value) where
  aText : Addr
  dText : FuncData
  FText : Fun K "_law_text" "_law_text" sText aText dText
  gText : mg "_law_text" = some (.ref aText)
  aDue : Addr
  dDue : FuncData
  FDue : Fun K "_law_due" "_law_due" sDue aDue dDue
  gDue : mg "_law_due" = some (.ref aDue)
  aRefused : Addr
  dRefused : FuncData
  FRefused : Fun K "_law_refused" "_law_refused" sRefused aRefused dRefused
  gRefused : mg "_law_refused" = some (.ref aRefused)
  aReadPolynomial : Addr
  dReadPolynomial : FuncData
  FReadPolynomial : Fun K "read_polynomial" "read_polynomial" sReadPolynomial aReadPolynomial dReadPolynomial
  gReadPolynomial : mg "read_polynomial" = some (.ref aReadPolynomial)
  aShownPolynomial : Addr
  dShownPolynomial : FuncData
  FShownPolynomial : Fun K "shown_polynomial" "shown_polynomial" sShownPolynomial aShownPolynomial dShownPolynomial
  gShownPolynomial : mg "shown_polynomial" = some (.ref aShownPolynomial)
  aTake : Addr
  dTake : FuncData
  FTake : Fun K "_law_take" "_law_take" sTake aTake dTake
  gTake : mg "_law_take" = some (.ref aTake)
  aPolynomial : Addr
  dPolynomial : FuncData
  FPolynomial : Fun K "_law_polynomial" "_law_polynomial" sPolynomial aPolynomial dPolynomial
  gPolynomial : mg "_law_polynomial" = some (.ref aPolynomial)
  aTerm : Addr
  dTerm : FuncData
  FTerm : Fun K "_law_term" "_law_term" sTerm aTerm dTerm
  gTerm : mg "_law_term" = some (.ref aTerm)
  aTermsOf : Addr
  dTermsOf : FuncData
  FTermsOf : Fun K "terms_of" "terms_of" sTermsOf aTermsOf dTermsOf
  gTermsOf : mg "terms_of" = some (.ref aTermsOf)
  aIsPolynomial : Addr
  dIsPolynomial : FuncData
  FIsPolynomial : Fun K "is_polynomial" "is_polynomial" sIsPolynomial aIsPolynomial dIsPolynomial
  gIsPolynomial : mg "is_polynomial" = some (.ref aIsPolynomial)
  aShownTerm : Addr
  dShownTerm : FuncData
  FShownTerm : Fun K "shown_term" "shown_term" sShownTerm aShownTerm dShownTerm
  gShownTerm : mg "shown_term" = some (.ref aShownTerm)
  aNumber : Addr
  dNumber : FuncData
  FNumber : Fun K "_law_number" "_law_number" sNumber aNumber dNumber
  gNumber : mg "_law_number" = some (.ref aNumber)
  aFigures : Addr
  dFigures : FuncData
  FFigures : Fun K "_law_figures" "_law_figures" sFigures aFigures dFigures
  gFigures : mg "_law_figures" = some (.ref aFigures)
  aPower : Addr
  dPower : FuncData
  FPower : Fun K "_law_power" "_law_power" sPower aPower dPower
  gPower : mg "_law_power" = some (.ref aPower)
  aTermOf : Addr
  dTermOf : FuncData
  FTermOf : Fun K "term_of" "term_of" sTermOf aTermOf dTermOf
  gTermOf : mg "term_of" = some (.ref aTermOf)
  aIsTerm : Addr
  dIsTerm : FuncData
  FIsTerm : Fun K "is_term" "is_term" sIsTerm aIsTerm dIsTerm
  gIsTerm : mg "is_term" = some (.ref aIsTerm)
  aPowerOf : Addr
  dPowerOf : FuncData
  FPowerOf : Fun K "power_of" "power_of" sPowerOf aPowerOf dPowerOf
  gPowerOf : mg "power_of" = some (.ref aPowerOf)
  aNumberOf : Addr
  dNumberOf : FuncData
  FNumberOf : Fun K "number_of" "number_of" sNumberOf aNumberOf dNumberOf
  gNumberOf : mg "number_of" = some (.ref aNumberOf)
  aIsWhole : Addr
  dIsWhole : FuncData
  FIsWhole : Fun K "is_whole" "is_whole" sIsWhole aIsWhole dIsWhole
  gIsWhole : mg "is_whole" = some (.ref aIsWhole)
  z_range : mg "range" = none
  z_len : mg "len" = none
  z_int : mg "int" = none
  z_tuple : mg "tuple" = none
  z_isinstance : mg "isinstance" = none
  z_ValueError : mg "ValueError" = none
  z_str : mg "str" = none
  z_zip : mg "zip" = none
  z_all : mg "all" = none
  z_abs : mg "abs" = none
  z_bool : mg "bool" = none
  c_MOST_FIGURES : GCst K mg "MOST_FIGURES" (.int (60))
  c_FIGURES : GCst K mg "FIGURES" (.str "0123456789")
  CNoText : Addr
  gNoText : mg "NoText" = some (.ref CNoText)
  oNoText : OexC K CNoText
  aNoText : Addr
  dNoText : FuncData
  FNoText : Fun K "__init__" "NoText.__init__" sINoText aNoText dNoText
  jNoText : PySem.W.findIn K (.ref CNoText) "__init__" = some (some (.ref aNoText))
  tNoText : PySem.W.typeIn K (.ref aNoText) = some (.type "function")
  nNoText : PySem.W.findIn K (.ref CNoText) "at" = some none
  eNoText : ExcC K CNoText
  vNoText : PySem.W.subIn K (.ref CNoText) (.type "ValueError") = some true
  CTangleError : Addr
  xTangleError : SupT K mg "TangleError" CTangleError CNoText
  CNoWeb : Addr
  xNoWeb : OthT K mg "NoWeb" CNoWeb CNoText
  COdd : Addr
  xOdd : OthT K mg "Odd" COdd CNoText
  CNotFlat : Addr
  xNotFlat : OthT K mg "NotFlat" CNotFlat CNoText
theorem Txt.bNoText {K : PySem.W.Frag} {mg : Str → Option Value} (T : Txt K mg) : Binds K T.dNoText ["self", "at"] [] := T.FNoText.binds (ps := ["self", "at"]) fun _ _ _ _ _ _ us hl => match us, hl with | [_, _], _ => rfl
theorem Txt.bText {K : PySem.W.Frag} {mg : Str → Option Value} (T : Txt K mg) : Binds K T.dText ["_law_row"] [] := T.FText.binds (ps := ["_law_row"]) fun _ _ _ _ _ _ us hl => match us, hl with | [_], _ => rfl
theorem Txt.bDue {K : PySem.W.Frag} {mg : Str → Option Value} (T : Txt K mg) : Binds K T.dDue ["_law_text_here"] [] := T.FDue.binds (ps := ["_law_text_here"]) fun _ _ _ _ _ _ us hl => match us, hl with | [_], _ => rfl
theorem Txt.bRefused {K : PySem.W.Frag} {mg : Str → Option Value} (T : Txt K mg) : Binds K T.dRefused ["_law_text_here"] [] := T.FRefused.binds (ps := ["_law_text_here"]) fun _ _ _ _ _ _ us hl => match us, hl with | [_], _ => rfl
theorem Txt.bReadPolynomial {K : PySem.W.Frag} {mg : Str → Option Value} (T : Txt K mg) : Binds K T.dReadPolynomial ["text"] [] := T.FReadPolynomial.binds (ps := ["text"]) fun _ _ _ _ _ _ us hl => match us, hl with | [_], _ => rfl
theorem Txt.bShownPolynomial {K : PySem.W.Frag} {mg : Str → Option Value} (T : Txt K mg) : Binds K T.dShownPolynomial ["one"] [] := T.FShownPolynomial.binds (ps := ["one"]) fun _ _ _ _ _ _ us hl => match us, hl with | [_], _ => rfl
theorem Txt.bTake {K : PySem.W.Frag} {mg : Str → Option Value} (T : Txt K mg) : Binds K T.dTake ["_law_row", "_law_base"] [] := T.FTake.binds (ps := ["_law_row", "_law_base"]) fun _ _ _ _ _ _ us hl => match us, hl with | [_, _], _ => rfl
theorem Txt.bPolynomial {K : PySem.W.Frag} {mg : Str → Option Value} (T : Txt K mg) : Binds K T.dPolynomial ["_law_row", "_law_most", "_law_terms"] [] := T.FPolynomial.binds (ps := ["_law_row", "_law_most", "_law_terms"]) fun _ _ _ _ _ _ us hl => match us, hl with | [_, _, _], _ => rfl
theorem Txt.bTerm {K : PySem.W.Frag} {mg : Str → Option Value} (T : Txt K mg) : Binds K T.dTerm ["_law_word"] [] := T.FTerm.binds (ps := ["_law_word"]) fun _ _ _ _ _ _ us hl => match us, hl with | [_], _ => rfl
theorem Txt.bTermsOf {K : PySem.W.Frag} {mg : Str → Option Value} (T : Txt K mg) : Binds K T.dTermsOf ["text"] [] := T.FTermsOf.binds (ps := ["text"]) fun _ _ _ _ _ _ us hl => match us, hl with | [_], _ => rfl
theorem Txt.bIsPolynomial {K : PySem.W.Frag} {mg : Str → Option Value} (T : Txt K mg) : Binds K T.dIsPolynomial ["thing"] [] := T.FIsPolynomial.binds (ps := ["thing"]) fun _ _ _ _ _ _ us hl => match us, hl with | [_], _ => rfl
theorem Txt.bShownTerm {K : PySem.W.Frag} {mg : Str → Option Value} (T : Txt K mg) : Binds K T.dShownTerm ["power", "number"] [] := T.FShownTerm.binds (ps := ["power", "number"]) fun _ _ _ _ _ _ us hl => match us, hl with | [_, _], _ => rfl
theorem Txt.bNumber {K : PySem.W.Frag} {mg : Str → Option Value} (T : Txt K mg) : Binds K T.dNumber ["_law_row", "_law_most"] [] := T.FNumber.binds (ps := ["_law_row", "_law_most"]) fun _ _ _ _ _ _ us hl => match us, hl with | [_, _], _ => rfl
theorem Txt.bFigures {K : PySem.W.Frag} {mg : Str → Option Value} (T : Txt K mg) : Binds K T.dFigures ["_law_word", "_law_least"] [] := T.FFigures.binds (ps := ["_law_word", "_law_least"]) fun _ _ _ _ _ _ us hl => match us, hl with | [_, _], _ => rfl
theorem Txt.bPower {K : PySem.W.Frag} {mg : Str → Option Value} (T : Txt K mg) : Binds K T.dPower ["_law_rest"] [] := T.FPower.binds (ps := ["_law_rest"]) fun _ _ _ _ _ _ us hl => match us, hl with | [_], _ => rfl
theorem Txt.bTermOf {K : PySem.W.Frag} {mg : Str → Option Value} (T : Txt K mg) : Binds K T.dTermOf ["word", "sign"] [] := T.FTermOf.binds (ps := ["word", "sign"]) fun _ _ _ _ _ _ us hl => match us, hl with | [_, _], _ => rfl
theorem Txt.bIsTerm {K : PySem.W.Frag} {mg : Str → Option Value} (T : Txt K mg) : Binds K T.dIsTerm ["thing"] [] := T.FIsTerm.binds (ps := ["thing"]) fun _ _ _ _ _ _ us hl => match us, hl with | [_], _ => rfl
theorem Txt.bPowerOf {K : PySem.W.Frag} {mg : Str → Option Value} (T : Txt K mg) : Binds K T.dPowerOf ["word"] [] := T.FPowerOf.binds (ps := ["word"]) fun _ _ _ _ _ _ us hl => match us, hl with | [_], _ => rfl
theorem Txt.bNumberOf {K : PySem.W.Frag} {mg : Str → Option Value} (T : Txt K mg) : Binds K T.dNumberOf ["word"] [] := T.FNumberOf.binds (ps := ["word"]) fun _ _ _ _ _ _ us hl => match us, hl with | [_], _ => rfl
theorem Txt.bIsWhole {K : PySem.W.Frag} {mg : Str → Option Value} (T : Txt K mg) : Binds K T.dIsWhole ["thing"] [] := T.FIsWhole.binds (ps := ["thing"]) fun _ _ _ _ _ _ us hl => match us, hl with | [_], _ => rfl
open TL
section
variable {P : Program} {w : World} {K : PySem.W.Frag} {mg : Str → Option Value} {base : Heap}
theorem lg {n : Nat} (h : n < 10 ^ 60) : n.log2 < 1920 := by
  by_cases h0 : n = 0
  · subst h0
    decide
  · have : n < 2 ^ 200 := Nat.lt_trans h (by decide)
    have := (Nat.log2_lt h0).mpr this
    omega
def TmB (t : Th.Tm) : Prop := t.1.natAbs < 10 ^ 60 ∧ t.2.natAbs < 10 ^ 60
def fShownTerm : List PyData → A → Prop := fun ds r => ∃ t : Th.Tm, TmB t ∧ ds = [.int t.1, .int t.2] ∧ r = .d (.str (mkS (bodyL t.1 t.2)))
def fShown : List PyData → A → Prop := fun ds r => ∃ l : List Th.Tm, l.length ≤ 1000 ∧ (∀ t ∈ l, TmB t) ∧ ds = [encP l] ∧ r = .d (.str (mkS (shownL l)))
theorem numL_60 {n : Nat} (h : n < 10 ^ 60) : (numL n).length ≤ 60 := numL_len (by decide) h
theorem intL_61 {p : Int} (h : p.natAbs < 10 ^ 60) : (intL p).length ≤ 61 := by
  have := numL_60 h
  unfold intL
  split
  · rw [List.length_cons]; omega
  · omega
theorem bodyL_len {t : Th.Tm} (h : TmB t) : (bodyL t.1 t.2).length ≤ 130 := by
  have h1 := intL_61 h.1
  have h2 := numL_60 h.2
  have h3 : (headL t.1 t.2).length ≤ 60 := by
    unfold headL
    split
    · exact Nat.zero_le _
    · exact h2
  have h4 : (powL t.1).length ≤ 62 := by
    unfold powL
    split
    · exact Nat.zero_le _
    · rw [List.length_cons]; omega
  unfold bodyL
  rw [List.length_append]
  split
  · rw [List.length_nil]; omega
  · rw [List.length_cons]; omega
def shStep (f : List Nat) (t : Th.Tm) : List Nat := f ++ (if f = [] then (if t.2 < 0 then [45] else []) else [32, sgL t.2, 32]) ++ bodyL t.1 t.2
theorem bodyL_ne (t : Th.Tm) : bodyL t.1 t.2 ≠ [] := by
  unfold bodyL headL
  by_cases h : t.1 = 0
  · rw [if_neg (by rintro ⟨z, _⟩; exact z h), if_pos h, List.append_nil]
    exact numL_ne _
  · rw [if_neg h]
    exact fun z => nomatch (List.append_eq_nil_iff.mp z).2
theorem sh_rest : ∀ (l : List Th.Tm) (f : List Nat), f ≠ [] → l.foldl shStep f = f ++ restL l
  | [], f, _ => by
    show f = f ++ []
    rw [List.append_nil]
  | t :: l, f, h => by
    have hs : shStep f t = f ++ [32, sgL t.2, 32] ++ bodyL t.1 t.2 := by
      unfold shStep
      rw [if_neg h]
    rw [List.foldl_cons, hs, sh_rest l _ fun z => bodyL_ne t (List.append_eq_nil_iff.mp z).2]
    show _ = f ++ (32 :: sgL t.2 :: 32 :: bodyL t.1 t.2 ++ restL l)
    simp
theorem sh_all (t : Th.Tm) (l : List Th.Tm) : (t :: l).foldl shStep [] = shownL (t :: l) := by
  have hs : shStep [] t = (if t.2 < 0 then [45] else []) ++ bodyL t.1 t.2 := by
    unfold shStep
    rw [if_pos rfl, List.nil_append]
  rw [List.foldl_cons, hs, sh_rest l _ fun z => bodyL_ne t (List.append_eq_nil_iff.mp z).2]
  rfl
theorem sh_len : ∀ (l : List Th.Tm) (f : List Nat) (n : Nat), (∀ t ∈ l, TmB t) → f.length ≤ n → (l.foldl shStep f).length ≤ n + 133 * l.length
  | [], f, n, _, h => h
  | t :: l, f, n, hb, h => by
    have h1 := bodyL_len (hb t List.mem_cons_self)
    have h2 : (shStep f t).length ≤ n + 133 := by
      unfold shStep
      rw [List.length_append, List.length_append]
      have : (if f = [] then (if t.2 < 0 then [45] else []) else [32, sgL t.2, 32] : List Nat).length ≤ 3 := by
        split
        · split <;> decide
        · exact Nat.le_refl _
      omega
    have := sh_len l (shStep f t) (n + 133) (fun u hu => hb u (List.mem_cons_of_mem _ hu)) h2
    rw [List.foldl_cons, List.length_cons]
    omega
theorem asc_int (p : Int) : Asc (intL p) := by
  unfold intL
  split
  · exact asc_cons (by decide) (asc_num _)
  · exact asc_num _
theorem asc_body (p n : Int) : Asc (bodyL p n) := by
  unfold bodyL headL powL
  refine asc_app ?_ ?_
  · split
    · exact asc_nil
    · exact asc_num _
  · split
    · exact asc_nil
    · refine asc_cons (by decide) ?_
      split
      · exact asc_nil
      · exact asc_cons (by decide) (asc_int _)
theorem asc_sg (n : Int) : sgL n < 128 := by
  unfold sgL
  split <;> decide
theorem asc_step {f : List Nat} (h : Asc f) (t : Th.Tm) : Asc (shStep f t) := by
  unfold shStep
  refine asc_app (asc_app h ?_) (asc_body _ _)
  split
  · split
    · exact asc_cons (by decide) asc_nil
    · exact asc_nil
  · exact asc_cons (by decide) (asc_cons (asc_sg _) (asc_cons (by decide) asc_nil))
theorem figs (n : Nat) : (numL n).map (fun c => PyData.bool (decide (c ∈ (("0123456789" : Str)).cps.toList))) = ((numL n).map fun _ => true).map .bool := by
  rw [List.map_map]
  refine List.map_congr_left fun c hc => ?_
  have h := numL_digits n c hc
  have e : (("0123456789" : Str)).cps.toList = [48, 49, 50, 51, 52, 53, 54, 55, 56, 57] := by decide +kernel
  rw [e]
  refine congrArg PyData.bool (decide_eq_true ?_)
  simp only [List.mem_cons, List.not_mem_nil, or_false]
  omega
theorem all_true (l : List Nat) : (l.map fun _ => true).all id = true := by
  rw [List.all_map]
  exact List.all_eq_true.mpr fun _ _ => rfl
theorem intL_head {p : Int} (h : 0 ≤ p) : ∃ c r, intL p = c :: r ∧ c ≠ 45 := by
  unfold intL
  rw [if_neg (by omega)]
  have h1 := numL_ne p.natAbs
  have h2 := numL_digits p.natAbs
  cases e : numL p.natAbs with
  | nil => exact absurd e h1
  | cons c r =>
    rw [e] at h2
    have := h2 c List.mem_cons_self
    exact ⟨c, r, rfl, by omega⟩
theorem asc_pow (p : Int) : Asc (powL p) := by
  unfold powL
  split
  · exact asc_nil
  · exact asc_cons (by decide) (asc_int _)
theorem asc_head (p n : Int) : Asc (headL p n) := by
  unfold headL
  split
  · exact asc_nil
  · exact asc_num _
theorem sg_mul {n s : Int} (h : s = (if n < 0 then -1 else 1)) : s * (n.natAbs : Int) = n := by
  subst h
  split <;> omega
theorem gapV_hi {s : Int × Int} {m : Int} (hm : 0 ≤ m) : gapV s m ≤ m / 1000 + 3 := by
  unfold gapV
  have h1 := tkV_hi (s := s) (b := 4) (by decide)
  have h2 := tkV_hi (s := tkS s 4) (b := 1 + m / 1000) (by omega)
  have h3 := tkV_lo (s := tkS (tkS s 4) (1 + m / 1000)) (b := 4) (by decide)
  have h4 := tkV_hi (s := tkS (tkS s 4) (1 + m / 1000)) (b := 4) (by decide)
  generalize tkV (tkS (tkS s 4) (1 + m / 1000)) 4 = i at *
  have : i = 0 ∨ i = 1 ∨ i = 2 ∨ i = 3 := by omega
  rcases this with rfl | rfl | rfl | rfl
  · exact show (0 : Int) ≤ m / 1000 + 3 by omega
  · exact show (1 : Int) ≤ m / 1000 + 3 by omega
  · exact show tkV s 4 ≤ m / 1000 + 3 by omega
  · exact show tkV (tkS s 4) (1 + m / 1000) ≤ m / 1000 + 3 by omega
structure Sg (K : PySem.W.Frag) (w : World) (mg : Str → Option Value) where
  sd : Addr
  es : Array DictEntry
  sn : Nat
  D : KDict K w sd es sn
  gS : mg "SIGNS" = some (.ref sd)
  t1 : Tok
  t2 : Tok
  p1 : PySem.W.nsIn K sd (mkS [43]) = some (some (.int 1 t1))
  p2 : PySem.W.nsIn K sd (mkS [45]) = some (some (.int (-1) t2))
  kk : es.toList.map He.keyOf = He.keysIn w.params ["+", "-"]
theorem shownL_len {l : List Th.Tm} (hl : l.length ≤ 1000) (hb : ∀ t ∈ l, TmB t) : (shownL l).length ≤ 133001 := by
  cases l with
  | nil => decide
  | cons t l =>
    have := sh_len (t :: l) [] 0 hb (Nat.le_refl _)
    rw [← sh_all]
    omega
theorem shownL_asc (l : List Th.Tm) : Asc (shownL l) := by
  cases l with
  | nil => exact asc_cons (by decide) asc_nil
  | cons t l =>
    rw [← sh_all]
    have : ∀ (l : List Th.Tm) (f : List Nat), Asc f → Asc (l.foldl shStep f) := fun l => by
      induction l with
      | nil => exact fun f h => h
      | cons u l ih => exact fun f h => ih _ (asc_step h u)
    exact this _ _ asc_nil
theorem bodyL_head (t : Th.Tm) : ∃ c r, bodyL t.1 t.2 = c :: r ∧ c ≠ 45 ∧ 0 < (bodyL t.1 t.2).length := by
  have hne := bodyL_ne t
  cases e : bodyL t.1 t.2 with
  | nil => exact absurd e hne
  | cons c r =>
    refine ⟨c, r, rfl, fun z => ?_, Nat.zero_lt_succ _⟩
    subst z
    have h2 := numL_digits t.2.natAbs
    unfold bodyL headL at e
    split at e
    · rename_i h
      rw [if_neg h.1] at e
      cases e
    · have h1 := numL_ne t.2.natAbs
      cases e3 : numL t.2.natAbs with
      | nil => exact absurd e3 h1
      | cons d q =>
        rw [e3] at e h2
        have e : d :: (q ++ _) = 45 :: r := e
        injection e with e _
        have := h2 d List.mem_cons_self
        omega
theorem shown_ne0 {t : Th.Tm} {l : List Th.Tm} (h : t.2 ≠ 0) (z : shownL (t :: l) = [48]) : False := by
  have hb : (bodyL t.1 t.2).length = 1 ∧ bodyL t.1 t.2 = [48] := by
    have z : (if t.2 < 0 then [45] else []) ++ bodyL t.1 t.2 ++ restL l = [48] := z
    obtain ⟨c, r, e, _, _⟩ := bodyL_head t
    rw [e] at z ⊢
    split at z
    · cases z
    · have z : c :: (r ++ restL l) = [48] := z
      injection z with z1 z2
      have := (List.append_eq_nil_iff.mp z2).1
      subst z1 this
      exact ⟨rfl, rfl⟩
  obtain ⟨_, e⟩ := hb
  unfold bodyL at e
  by_cases h0 : t.1 = 0
  · rw [if_pos h0, List.append_nil] at e
    unfold headL at e
    rw [if_neg (by rintro ⟨z, _⟩; exact z h0)] at e
    have h2 := numL_inj (m := t.2.natAbs) (n := 0) (e.trans (by decide))
    omega
  · rw [if_neg h0] at e
    have h3 : 120 ∈ ([48] : List Nat) := by
      rw [← e]
      exact List.mem_append_right _ List.mem_cons_self
    revert h3
    decide
theorem flat2_len {α β : Type} (f g : α → β) : ∀ l : List α, (l.flatMap fun t => [f t, g t]).length = 2 * l.length
  | [] => rfl
  | t :: l => by
    simp only [List.flatMap_cons, List.length_append, List.length_cons, List.length_nil, flat2_len f g l]
    omega
theorem flat2_get {α β : Type} (f g : α → β) : ∀ (l : List α) (i : Nat), (l.flatMap fun t => [f t, g t])[2 * i]? = (l[i]?).map f ∧ (l.flatMap fun t => [f t, g t])[2 * i + 1]? = (l[i]?).map g
  | [], i => ⟨rfl, rfl⟩
  | t :: l, 0 => ⟨rfl, rfl⟩
  | t :: l, i + 1 => flat2_get f g l i
theorem range_fm {α β : Type} (f : α → β) : ∀ l : List α, (List.range l.length).filterMap (fun i => (l[i]?).map f) = l.map f := fun l => by
  have h : (List.range l.length).map (fun i => (l[i]?).map f) = l.map fun t => some (f t) := by
    refine List.ext_getElem? fun i => ?_
    rw [List.getElem?_map, List.getElem?_map]
    by_cases hi : i < l.length
    · rw [List.getElem?_range hi, List.getElem?_eq_getElem hi]
      show some ((l[i]?).map f) = _
      rw [List.getElem?_eq_getElem hi]
      rfl
    · rw [List.getElem?_eq_none (by rw [List.length_range]; omega), List.getElem?_eq_none (by omega)]
      rfl
  have e : ∀ m : List Nat, m.filterMap (fun i => (l[i]?).map f) = (m.map fun i => (l[i]?).map f).filterMap id := fun m => by
    rw [List.filterMap_map]
    rfl
  rw [e, h, List.filterMap_map]
  show l.filterMap (fun t => some (f t)) = _
  rw [List.filterMap_eq_map']
theorem fm_congr {α β : Type} {f g : α → Option β} : ∀ {l : List α}, (∀ x ∈ l, f x = g x) → l.filterMap f = l.filterMap g
  | [], _ => rfl
  | x :: l, h => by
    rw [List.filterMap_cons, List.filterMap_cons, h x List.mem_cons_self, fm_congr fun y hy => h y (List.mem_cons_of_mem _ hy)]
theorem src_zl2 {X : Cx} {ρ ρ1 ρ2 : Rho} {e1 e2 : Expr} {pos : Pos} {xs ys zs : List PyData} {p : Pos} {elts : List Expr} {kk : Nat} {tpos : Pos} (h : Th.E X e1 ρ (.d (.list xs)) ρ1) (h2 : Th.E X e2 ρ1 (.d (.list ys)) ρ2) (q : zipD xs ys = zs) (hm : X.mg "zip" = none) (hg : Gl X "zip" := by rfl) (hs : starEach [e1, e2] X.env = (false, eval e1 X.env) :: starEach [e2] X.env := by rfl)
    (hs2 : starEach [e2] X.env = (false, eval e2 X.env) :: starEach [] X.env := by rfl) (hpl : (backTo pos (starEach [e2] X.env)).any (·.1) = false := by rfl) : Src X (.Tuple elts kk tpos) (.Call (.Name "zip" p) [e1, e2] [] pos) ρ zs ρ2 none := q ▸ src_zipL h h2 hm hg hs hs2 hpl
/-! bounds of what is drawn -/
structure PBd (m : Int) (i : Nat) (t : PSt) : Prop where
  pw : ∀ u ∈ t.acc, u.1.natAbs ≤ (i + 1) * (m.natAbs / 1000 + 4)
  nm : ∀ u ∈ t.acc, u.2.natAbs ≤ max m.natAbs 4
  p : t.p.natAbs ≤ (i + 1) * (m.natAbs / 1000 + 4)
theorem numV_max {s : Int × Int} {m : Int} (hm : 0 ≤ m) : (numV s m).natAbs ≤ max m.natAbs 4 := by
  unfold numV
  split
  · have := tkV_lo (s := tkS s 3) (b := 9) (by decide)
    have := tkV_hi (s := tkS s 3) (b := 9) (by decide)
    omega
  · have h1 := emod_lo (a := (nm7 s).1) (b := m + 1) (by omega)
    have h2 := emod_hi (a := (nm7 s).1) (b := m + 1) (by omega)
    have hd := (nmDiv_pos (tkV_lo (s := (nm7 s).2) (b := 3) (by decide)) (tkV_hi (by decide))).1
    have h3 : 0 ≤ nmQ s m := Int.ediv_nonneg h1 (by omega)
    have h4 : nmQ s m ≤ m := by
      unfold nmQ
      refine Int.le_trans (Int.ediv_le_self _ h1) (by omega)
    have hi0 := tkV_lo (s := tkS (nm7 s).2 3) (b := 2) (by decide)
    have hi1 := tkV_hi (s := tkS (nm7 s).2 3) (b := 2) (by decide)
    generalize tkV (tkS (nm7 s).2 3) 2 = i at *
    have : i = 0 ∨ i = 1 := by omega
    rcases this with rfl | rfl
    · show (nmQ s m).natAbs ≤ _
      omega
    · show (0 - nmQ s m).natAbs ≤ _
      omega
theorem pbd_step {m : Int} {i : Nat} {t : PSt} (hm : 0 ≤ m) (h : PBd m i t) : PBd m (i + 1) (polyStep m t) := by
  have hg := gapV_lo (s := numS t.s m) (m := m) (by omega)
  have hg2 := gapV_hi (s := numS t.s m) (m := m) (by omega)
  have hv := numV_max (s := t.s) (m := m) (by omega)
  have hp := h.p
  have e : (i + 1 + 1) * (m.natAbs / 1000 + 4) = (i + 1) * (m.natAbs / 1000 + 4) + (m.natAbs / 1000 + 4) := Nat.succ_mul _ _
  have hmn : ((m.natAbs / 1000 : Nat) : Int) = m / 1000 := by omega
  refine ⟨?_, ?_, ?_⟩
  · show ∀ u ∈ (if numV t.s m = 0 then t.acc else t.acc ++ [(t.p, numV t.s m)]), _
    rw [e]
    split
    · intro u hu
      have := h.pw u hu
      omega
    · intro u hu
      rcases List.mem_append.mp hu with hu | hu
      · have := h.pw u hu
        omega
      · rw [List.mem_singleton.mp hu]
        show t.p.natAbs ≤ _
        omega
  · show ∀ u ∈ (if numV t.s m = 0 then t.acc else t.acc ++ [(t.p, numV t.s m)]), _
    split
    · exact h.nm
    · intro u hu
      rcases List.mem_append.mp hu with hu | hu
      · exact h.nm u hu
      · rw [List.mem_singleton.mp hu]
        exact hv
  · show (t.p + 1 + gapV (numS t.s m) m).natAbs ≤ _
    rw [e]
    omega
theorem pbd_fold {m : Int} (hm : 0 ≤ m) {t0 : PSt} (h : PBd m 0 t0) : ∀ n : Nat, PBd m n ((List.range n).foldl (fun u _ => polyStep m u) t0)
  | 0 => h
  | n + 1 => by
    rw [List.range_succ, List.foldl_append]
    exact pbd_step hm (pbd_fold hm h n)
theorem pbd_poly0 (s : Int × Int) {m : Int} (t : Int) (hm : 0 ≤ m) : PBd m 0 (poly0 s m t) := by
  have hv := numV_max (s := s) (m := m / 1000) (by omega)
  refine ⟨(fun _ z => nomatch z), (fun _ z => nomatch z), ?_⟩
  show (numV s (m / 1000)).natAbs ≤ _
  omega
theorem polyL_tm {s : Int × Int} {m : Int} (h0 : 0 ≤ m) (hm : m ≤ 10 ^ 60 - 1) : ∀ u ∈ polyL s m 5, TmB u := fun u hu => by
  have h := pbd_fold h0 (pbd_poly0 s 5 h0) (polyN s m 5)
  have hn := polyN_le (s := s) (m := m) (t := 5) (by decide)
  have h1 := h.pw u hu
  have h2 := h.nm u hu
  have hma : m.natAbs ≤ 10 ^ 60 - 1 := by omega
  have hn2 : polyN s m 5 + 1 ≤ 6 := by omega
  have h3 := Nat.le_trans h1 (Nat.mul_le_mul hn2 (Nat.add_le_add_right (Nat.div_le_div_right hma) 4))
  exact ⟨Nat.lt_of_le_of_lt h3 (by decide), by omega⟩
/-! what read_polynomial does with any text -/
def isDig (c : Nat) : Bool := decide (48 ≤ c ∧ c ≤ 57)
def numF (l : List Nat) : Option Nat := if (1 ≤ l.length ∧ l.length ≤ 60) ∧ l.all isDig = true then some (NumText.digitsVal l) else none
def powF (l : List Nat) : Option Int := if l = [] then some 1 else if l.take 1 ≠ [94] then none else if (l.drop 1).take 1 = [45] then (numF (l.drop 2)).map fun n : Nat => 0 - (n : Int) else (numF (l.drop 1)).map fun n : Nat => (n : Int)
def termF (w : List Nat) (s : Int) : Option Th.Tm := match cutX 120 w with
  | none => (numF w).map fun n : Nat => ((0 : Int), s * (n : Int))
  | some (a, b) => if a = [] then (powF b).map fun p => (p, s) else match powF b with
    | none => none
    | some p => (numF a).map fun n : Nat => (p, s * (n : Int))
def markF (m : List Nat) : Option Int := if m = [43] then some 1 else if m = [45] then some (-1) else none
abbrev PrW := List Nat × List Nat
def pairF (p : PrW) : Option Th.Tm := match markF p.1 with
  | none => none
  | some s => termF p.2 s
def allF : List PrW → Option (List Th.Tm)
  | [] => some []
  | p :: r => match pairF p with
    | none => none
    | some t => (allF r).map fun l => t :: l
def prs : List (List Nat) → List PrW
  | a :: b :: r => (a, b) :: prs r
  | _ => []
def sgF (l : List Nat) : Nat := if l.take 1 = [45] then 45 else 43
def bdF (l : List Nat) : List Nat := if l.take 1 = [45] then l.drop 1 else l
def wdF (l : List Nat) : List (List Nat) := [sgF l] :: splB (bdF l)
def termsF (l : List Nat) : Option (List Th.Tm) := if (wdF l).length % 2 = 1 then none else allF (prs (wdF l))
def readF (l : List Nat) : Option (List Th.Tm) := if l = [48] then some [] else match termsF l with
  | none => none
  | some f => if isPolyD (encP f) = true ∧ shownL f = l then some f else none
theorem numF_lt {l : List Nat} {n : Nat} (h : numF l = some n) : n < 10 ^ 60 ∧ (1 ≤ l.length ∧ l.length ≤ 60) ∧ NumText.AllDigits l ∧ n = NumText.digitsVal l := by
  unfold numF at h
  split at h
  · rename_i hc
    have hd : NumText.AllDigits l := fun c hc2 => of_decide_eq_true (List.all_eq_true.mp hc.2 c hc2)
    have e := (Option.some.inj h).symm
    refine ⟨?_, hc.1, hd, e⟩
    have key : ∀ (l : List Nat) (a : Nat), NumText.AllDigits l → l.foldl (fun acc c => acc * 10 + (c - 48)) a < (a + 1) * 10 ^ l.length := fun l => by
      induction l with
      | nil => intro a _; show a < (a + 1) * 1; omega
      | cons c r ih =>
        intro a h
        have hc := h c List.mem_cons_self
        have := ih (a * 10 + (c - 48)) fun x hx => h x (List.mem_cons_of_mem _ hx)
        rw [List.foldl_cons, List.length_cons, Nat.pow_succ]
        refine Nat.lt_of_lt_of_le this ?_
        rw [Nat.mul_comm (10 ^ r.length) 10, ← Nat.mul_assoc]
        exact Nat.mul_le_mul_right _ (by omega)
    rw [e]
    have h1 := key l 0 hd
    rw [Nat.zero_add, Nat.one_mul] at h1
    refine Nat.lt_of_lt_of_le h1 (Nat.pow_le_pow_right (by decide) hc.1.2)
  · cases h
theorem num_all (n : Nat) : (numL n).all isDig = true := List.all_eq_true.mpr fun c hc => decide_eq_true (numL_digits n c hc)
theorem numF_num {n : Nat} (h : n < 10 ^ 60) : numF (numL n) = some n := by
  obtain ⟨_, h2, h3⟩ := num_text h
  unfold numF
  rw [if_pos ⟨⟨h3, h2⟩, num_all n⟩, numL_val]
theorem powF_lt {l : List Nat} {p : Int} (h : powF l = some p) : p.natAbs < 10 ^ 60 := by
  unfold powF at h
  split at h
  · cases h; decide
  · split at h
    · cases h
    · split at h
      · obtain ⟨n, h1, h2⟩ := Option.map_eq_some_iff.mp h
        have := (numF_lt h1).1
        omega
      · obtain ⟨n, h1, h2⟩ := Option.map_eq_some_iff.mp h
        have := (numF_lt h1).1
        omega
theorem powF_pow {p : Int} (h : p.natAbs < 10 ^ 60) : powF (powL p) = some p := by
  unfold powL
  by_cases h1 : p = 1
  · rw [if_pos h1, h1]
    rfl
  rw [if_neg h1]
  unfold powF
  rw [if_neg (List.cons_ne_nil _ _), if_neg (fun z => z rfl)]
  by_cases hn : p < 0
  · have e : intL p = 45 :: numL p.natAbs := by unfold intL; rw [if_pos hn]
    rw [e, if_pos (show ((94 :: 45 :: numL p.natAbs).drop 1).take 1 = [45] from rfl)]
    show (numF (numL p.natAbs)).map _ = _
    rw [numF_num h]
    refine congrArg some ?_
    show 0 - ((p.natAbs : Nat) : Int) = p
    omega
  · obtain ⟨c, r, e, hc⟩ := intL_head (p := p) (by omega)
    have e2 : intL p = numL p.natAbs := by unfold intL; rw [if_neg hn]
    rw [if_neg (by rw [e]; intro z; injection z with z _; exact hc z)]
    show (numF (intL p)).map _ = _
    rw [e2, numF_num h]
    show some ((p.natAbs : Nat) : Int) = some _
    congr 1
    omega
theorem sg_sgn {s : Int} (h : s = 1 ∨ s = -1) {n : Nat} (hn : n < 10 ^ 60) : (s * (n : Int)).natAbs < 10 ^ 60 := by
  rcases h with rfl | rfl <;> omega
theorem termF_tm {w : List Nat} {s : Int} (hs : s = 1 ∨ s = -1) {t : Th.Tm} (h : termF w s = some t) : TmB t := by
  unfold termF at h
  split at h
  · obtain ⟨n, h1, h2⟩ := Option.map_eq_some_iff.mp h
    subst h2
    exact ⟨show (0 : Int).natAbs < 10 ^ 60 by decide, sg_sgn hs (numF_lt h1).1⟩
  · split at h
    · obtain ⟨p, h1, h2⟩ := Option.map_eq_some_iff.mp h
      subst h2
      exact ⟨powF_lt h1, by
        rcases hs with rfl | rfl
        · exact show (1 : Int).natAbs < 10 ^ 60 by decide
        · exact show (-1 : Int).natAbs < 10 ^ 60 by decide⟩
    · split at h
      · cases h
      · rename_i p hp
        obtain ⟨n, h1, h2⟩ := Option.map_eq_some_iff.mp h
        subst h2
        exact ⟨powF_lt hp, sg_sgn hs (numF_lt h1).1⟩
theorem termF_body {t : Th.Tm} (hb : TmB t) (h0 : t.2 ≠ 0) : termF (bodyL t.1 t.2) (if t.2 < 0 then -1 else 1) = some t := by
  obtain ⟨p, n⟩ := t
  obtain ⟨hp, hn⟩ := hb
  have hp : p.natAbs < 10 ^ 60 := hp
  have hn : n.natAbs < 10 ^ 60 := hn
  have hsn : (if n < 0 then -1 else 1 : Int) * (n.natAbs : Int) = n := sg_mul rfl
  unfold termF
  show (match cutX 120 (bodyL p n) with | none => _ | some (a, b) => _) = _
  by_cases h : p = 0
  · have e : bodyL p n = numL n.natAbs := by
      unfold bodyL headL
      rw [if_neg (by rintro ⟨z, _⟩; exact z h), if_pos h, List.append_nil]
    rw [e, cutX_free (numL_free (.inr (by decide)))]
    show (numF (numL n.natAbs)).map _ = _
    rw [numF_num hn]
    show some (0, _) = some (p, n)
    rw [h, hsn]
  · have e : bodyL p n = headL p n ++ 120 :: powL p := by
      unfold bodyL
      rw [if_neg h]
    rw [e, cutX_app _ (headL_free (.inr (by decide)))]
    show (if headL p n = [] then _ else _) = _
    rw [powF_pow hp]
    by_cases hh : headL p n = []
    · rw [if_pos hh]
      have h1 : n.natAbs = 1 := by
        unfold headL at hh
        split at hh
        · rename_i z; exact z.2
        · exact absurd hh (numL_ne _)
      show some (p, _) = some (p, n)
      rw [← hsn, h1]
      congr 2
      split <;> omega
    · rw [if_neg hh]
      have e2 : headL p n = numL n.natAbs := by
        unfold headL at hh ⊢
        split at hh
        · exact absurd rfl hh
        · rename_i z; rw [if_neg z]
      rw [e2]
      show (numF (numL n.natAbs)).map _ = _
      rw [numF_num hn]
      show some (p, _) = some (p, n)
      rw [hsn]
theorem allF_body : ∀ (l : List Th.Tm), (∀ t ∈ l, TmB t ∧ t.2 ≠ 0) → allF (l.map fun t => ([sgL t.2], bodyL t.1 t.2)) = some l
  | [], _ => rfl
  | t :: l, h => by
    have ht := h t List.mem_cons_self
    have e : pairF ([sgL t.2], bodyL t.1 t.2) = some t := by
      unfold pairF
      have : markF [sgL t.2] = some (if t.2 < 0 then -1 else 1) := by
        unfold sgL
        split <;> rfl
      show (match markF [sgL t.2] with | none => none | some s => termF (bodyL t.1 t.2) s) = _
      rw [this]
      exact termF_body ht.1 ht.2
    show (match pairF ([sgL t.2], bodyL t.1 t.2) with | none => none | some t => _) = _
    rw [e]
    show (allF (l.map _)).map _ = _
    rw [allF_body l fun u hu => h u (List.mem_cons_of_mem _ hu)]
    rfl
theorem prs_flat : ∀ l : List Th.Tm, prs (l.flatMap fun t => [[sgL t.2], bodyL t.1 t.2]) = l.map fun t => ([sgL t.2], bodyL t.1 t.2)
  | [] => rfl
  | t :: l => by
    show ([sgL t.2], bodyL t.1 t.2) :: prs (List.flatMap _ l) = _
    rw [prs_flat l]
    rfl
theorem bodyL_45 (t : Th.Tm) : (bodyL t.1 t.2 ++ []).take 1 ≠ [45] := by
  obtain ⟨c, r, e, h, _⟩ := bodyL_head t
  rw [e]
  intro z
  injection z with z _
  exact h z
theorem wdF_shown (t : Th.Tm) (l : List Th.Tm) : wdF (shownL (t :: l)) = (t :: l).flatMap fun t => [[sgL t.2], bodyL t.1 t.2] := by
  obtain ⟨c, r, e, h, _⟩ := bodyL_head t
  have hsp : splB (bodyL t.1 t.2 ++ restL l) = wordsL (t :: l) := by
    have : bodyL t.1 t.2 ++ restL l = joinL [32] (wordsL (t :: l)) := (join_rest l (bodyL t.1 t.2)).symm
    rw [this]
    exact splB_join (fun z => nomatch z) (words_free t l)
  unfold wdF sgF bdF
  by_cases hn : t.2 < 0
  · have e1 : shownL (t :: l) = 45 :: (bodyL t.1 t.2 ++ restL l) := by
      show (if t.2 < 0 then [45] else []) ++ bodyL t.1 t.2 ++ restL l = _
      rw [if_pos hn]
      rfl
    have e3 : (45 :: (bodyL t.1 t.2 ++ restL l)).take 1 = [45] := rfl
    rw [e1, if_pos e3, if_pos e3, List.drop_succ_cons, List.drop_zero, hsp]
    have : sgL t.2 = 45 := by unfold sgL; rw [if_pos hn]
    show [45] :: bodyL t.1 t.2 :: List.flatMap _ l = [sgL t.2] :: bodyL t.1 t.2 :: List.flatMap _ l
    rw [this]
  · have e1 : shownL (t :: l) = bodyL t.1 t.2 ++ restL l := by
      show (if t.2 < 0 then [45] else []) ++ bodyL t.1 t.2 ++ restL l = _
      rw [if_neg hn]
      rfl
    have e2 : (bodyL t.1 t.2 ++ restL l).take 1 ≠ [45] := by
      rw [e]
      intro z
      injection z with z _
      exact h z
    rw [e1, if_neg e2, if_neg e2, hsp]
    have : sgL t.2 = 43 := by unfold sgL; rw [if_neg hn]
    show [43] :: bodyL t.1 t.2 :: List.flatMap _ l = [sgL t.2] :: bodyL t.1 t.2 :: List.flatMap _ l
    rw [this]
theorem allF_tm : ∀ {q : List PrW} {f : List Th.Tm}, allF q = some f → (∀ t ∈ f, TmB t) ∧ f.length = q.length
  | [], f, h => by cases h; exact ⟨(fun _ z => nomatch z), rfl⟩
  | p :: q, f, h => by
    unfold allF at h
    split at h
    · cases h
    · rename_i t ht
      obtain ⟨g, h1, h2⟩ := Option.map_eq_some_iff.mp h
      subst h2
      obtain ⟨h3, h4⟩ := allF_tm h1
      have htb : TmB t := by
        unfold pairF at ht
        split at ht
        · cases ht
        · rename_i s hs
          refine termF_tm ?_ ht
          unfold markF at hs
          split at hs
          · exact .inl (Option.some.inj hs).symm
          · split at hs
            · exact .inr (Option.some.inj hs).symm
            · cases hs
      exact ⟨fun u hu => (List.mem_cons.mp hu).elim (fun e => by rw [e]; exact htb) (h3 u), by rw [List.length_cons, List.length_cons, h4]⟩
theorem prs_len : ∀ W : List (List Nat), 2 * (prs W).length ≤ W.length
  | [] => Nat.le_refl _
  | [_] => Nat.zero_le _
  | a :: b :: r => by
    have := prs_len r
    show 2 * ((prs r).length + 1) ≤ r.length + 1 + 1
    omega
/-- a polynomial whose figures are at most sixty -/
def Good (l : List Th.Tm) : Prop := Can l ∧ ∀ t ∈ l, TmB t
theorem can_poly {l : List Th.Tm} (h : isPolyD (encP l) = true) : Can l := by
  have key : ∀ (l : List Th.Tm) (p : Option Int), chk p (l.map encT) = true → Can l ∧ ∀ q, p = some q → ∀ u ∈ l, q < u.1 := fun l => by
    induction l with
    | nil => exact fun p _ => ⟨⟨List.Pairwise.nil, (fun _ z => nomatch z)⟩, fun _ _ _ z => nomatch z⟩
    | cons t l ih =>
      intro p hc
      have hc : (isTermD (encT t) && leO p (encT t) && chk (some t.1) (l.map encT)) = true := hc
      rw [Bool.and_eq_true, Bool.and_eq_true] at hc
      obtain ⟨⟨h1, h2⟩, h3⟩ := hc
      obtain ⟨h4, h5⟩ := ih _ h3
      have h6 := h5 t.1 rfl
      have h0 : t.2 ≠ 0 := by
        have h1 : (!decide (t.2 = 0)) = true := h1
        simpa using h1
      refine ⟨⟨?_, fun u hu => (List.mem_cons.mp hu).elim (fun e => by rw [e]; exact h0) (h4.2 u)⟩, fun q hq u hu => ?_⟩
      · rw [List.map_cons, List.pairwise_cons]
        refine ⟨fun x hx => ?_, h4.1⟩
        obtain ⟨u, hu, rfl⟩ := List.mem_map.mp hx
        exact h6 u hu
      · subst hq
        have h2 : decide (q < t.1) = true := h2
        have h2 := of_decide_eq_true h2
        rcases List.mem_cons.mp hu with rfl | hu
        · exact h2
        · have := h6 u hu
          omega
  have h : ((l.map encT).all isTermD && riseD (l.map encT)) = true := h
  rw [chk_none] at h
  exact (key l none h).1
theorem readF_iff {l : List Nat} {f : List Th.Tm} : readF l = some f ↔ Good f ∧ shownL f = l := by
  unfold readF
  constructor
  · intro h
    split at h
    · rename_i hl
      cases h
      exact ⟨⟨can_nil, (fun _ z => nomatch z)⟩, hl.symm⟩
    · split at h
      · cases h
      · rename_i g hg
        split at h
        · rename_i hc
          cases h
          refine ⟨⟨can_poly hc.1, ?_⟩, hc.2⟩
          unfold termsF at hg
          split at hg
          · cases hg
          · exact (allF_tm hg).1
        · cases h
  · rintro ⟨⟨hc, hb⟩, rfl⟩
    cases f with
    | nil => rw [if_pos (show shownL [] = [48] from rfl)]
    | cons t r =>
      rw [if_neg (fun z => shown_ne0 (hc.2 t List.mem_cons_self) z)]
      have e : termsF (shownL (t :: r)) = some (t :: r) := by
        unfold termsF
        rw [wdF_shown, if_neg (by rw [flat2_len]; omega), prs_flat]
        exact allF_body _ fun u hu => ⟨hb u hu, hc.2 u hu⟩
      rw [e]
      show (if _ then _ else _) = _
      rw [if_pos ⟨isPoly_can hc, rfl⟩]
/-! the due reading, word by word -/
def figF (w : List Nat) (least : Int) : Option Nat := if (1 ≤ w.length ∧ w.length ≤ 60) ∧ w.head? ≠ some 48 then (if w.all isDig = true then (if (NumText.digitsVal w : Int) < least then none else some (NumText.digitsVal w)) else none) else none
def dpowF (b : List Nat) : Option Int := if b = [] then some 1 else if b.take 2 = [94, 45] then (figF (b.drop 2) 1).map fun n : Nat => 0 - (n : Int) else if b.head? = some 94 then (figF (b.drop 1) 2).map fun n : Nat => (n : Int) else none
def dnumF (w : List Nat) : Option Nat := match cutX 120 w with
  | none => figF w 1
  | some (a, _) => if a = [] then some 1 else figF a 2
def dexpF (w : List Nat) : Option Int := match cutX 120 w with
  | none => some 0
  | some (_, b) => dpowF b
def dtermF (w : List Nat) : Option (Int × Int) := match dnumF w with
  | none => none
  | some n => (dexpF w).map fun p => (p, (n : Int))
def lastP (f : List Th.Tm) : Int := ((f.getLast?).map (·.1)).getD 0
def dueG : Bool → Int → List Th.Tm → List (List Nat) → Option (List Th.Tm)
  | true, _, _, [] => none
  | true, s, f, w :: ws => match dtermF w with
    | none => none
    | some t => if f ≠ [] ∧ t.1 ≤ lastP f then none else dueG false s (f ++ [(t.1, s * t.2)]) ws
  | false, _, f, [] => some f
  | false, _, f, m :: ws => if m = [43] then dueG true 1 f ws else if m = [45] then dueG true (-1) f ws else none
def dueF (l : List Nat) : Option (List Th.Tm) := if l = [48] then some [] else match splB l with
  | [] => none
  | w :: ws => if w.take 1 = [45] then dueG true (-1) [] (w.drop 1 :: ws) else dueG true 1 [] (w :: ws)
theorem digs_num {l : List Nat} (hne : l ≠ []) (h0 : l.head? ≠ some 48) (hd : NumText.AllDigits l) : numL (NumText.digitsVal l) = l := by
  have key : ∀ (n : Nat) (l : List Nat), l.length = n → l ≠ [] → l.head? ≠ some 48 → NumText.AllDigits l → numL (NumText.digitsVal l) = l ∧ 1 ≤ NumText.digitsVal l := fun n => by
    induction n using Nat.strongRecOn with
    | _ n ih =>
      intro l hl hne h0 hd
      have hsn := List.dropLast_concat_getLast hne
      generalize hv : l.dropLast = v at hsn
      generalize hc : l.getLast hne = c at hsn
      have hcd := hd c (by rw [← hsn]; exact List.mem_append_right _ (List.mem_singleton.mpr rfl))
      have hval : NumText.digitsVal l = NumText.digitsVal v * 10 + (c - 48) := by
        rw [← hsn]
        unfold NumText.digitsVal
        rw [List.foldl_append]
        rfl
      cases hv2 : v with
      | nil =>
        rw [hv2, List.nil_append] at hsn
        have h48 : c ≠ 48 := fun z => h0 (by rw [← hsn, z]; rfl)
        have e : NumText.digitsVal l = c - 48 := by rw [hval, hv2]; show 0 * 10 + _ = _; omega
        rw [e, ← hsn, numL_lt (by omega)]
        refine ⟨?_, by omega⟩
        congr 1
        omega
      | cons a r =>
        rw [hv2] at hsn hval
        have hlen : (a :: r).length < n := by
          rw [← hl, ← hsn, List.length_append, List.length_singleton]
          omega
        have hhd : (a :: r).head? ≠ some 48 := fun z => h0 (by rw [← hsn]; exact z)
        obtain ⟨i1, i2⟩ := ih _ hlen (a :: r) rfl (List.cons_ne_nil _ _) hhd fun x hx => hd x (by rw [← hsn]; exact List.mem_append_left _ hx)
        rw [hval]
        refine ⟨?_, by omega⟩
        rw [numL_step (by omega), show (NumText.digitsVal (a :: r) * 10 + (c - 48)) / 10 = NumText.digitsVal (a :: r) by omega, show (NumText.digitsVal (a :: r) * 10 + (c - 48)) % 10 = c - 48 by omega, i1]
        conv => rhs; rw [← hsn]
        congr 2
        omega
  exact (key l.length l rfl hne h0 hd).1
theorem figF_iff {w : List Nat} {least : Int} {n : Nat} (hl : 1 ≤ least) : figF w least = some n ↔ w = numL n ∧ n < 10 ^ 60 ∧ least ≤ (n : Int) := by
  unfold figF
  constructor
  · intro h
    split at h
    · rename_i h1
      split at h
      · rename_i h2
        split at h
        · cases h
        · rename_i h3
          have e := (Option.some.inj h).symm
          have hd : NumText.AllDigits w := fun c hc => of_decide_eq_true (List.all_eq_true.mp h2 c hc)
          have hne : w ≠ [] := fun z => by rw [z] at h1; exact absurd h1.1.1 (by decide)
          have hn := digs_num hne h1.2 hd
          have hlt := (numF_lt (l := w) (n := NumText.digitsVal w) (by unfold numF; rw [if_pos ⟨h1.1, h2⟩])).1
          subst e
          exact ⟨hn.symm, hlt, by omega⟩
      · cases h
    · cases h
  · rintro ⟨rfl, h1, h2⟩
    obtain ⟨_, h3, h4⟩ := num_text h1
    obtain ⟨c, r, e, hc⟩ := numL_head n
    rw [if_pos ⟨⟨h4, h3⟩, by rw [e]; intro z; have := (hc (Option.some.inj z)).1; omega⟩, if_pos (num_all n), numL_val, if_neg (by omega)]
theorem dpowF_iff {b : List Nat} {p : Int} : dpowF b = some p ↔ b = powL p ∧ p ≠ 0 ∧ p.natAbs < 10 ^ 60 := by
  unfold dpowF
  constructor
  · intro h
    split at h
    · rename_i hb
      cases h
      rw [hb]
      exact ⟨rfl, by decide, by decide⟩
    · rename_i hb
      split at h
      · rename_i h2
        obtain ⟨n, h3, h4⟩ := Option.map_eq_some_iff.mp h
        obtain ⟨h5, h6, h7⟩ := (figF_iff (by decide)).mp h3
        subst h4
        refine ⟨?_, by omega, by omega⟩
        have e := List.take_append_drop 2 b
        rw [h2, h5] at e
        unfold powL intL
        rw [if_neg (by omega), if_pos (by omega), ← e]
        have : (0 - (n : Int)).natAbs = n := by omega
        rw [this]
        rfl
      · split at h
        · rename_i h2
          obtain ⟨n, h3, h4⟩ := Option.map_eq_some_iff.mp h
          obtain ⟨h5, h6, h7⟩ := (figF_iff (by decide)).mp h3
          subst h4
          refine ⟨?_, by omega, by omega⟩
          cases b with
          | nil => exact absurd rfl hb
          | cons c r =>
            have hc : c = 94 := Option.some.inj h2
            have h5 : r = numL n := h5
            unfold powL intL
            rw [if_neg (by omega), if_neg (by omega), hc, h5]
            rfl
        · cases h
  · rintro ⟨rfl, h0, h1⟩
    by_cases hp : p = 1
    · rw [hp]
      rfl
    have e : powL p = 94 :: intL p := by unfold powL; rw [if_neg hp]
    rw [e, if_neg (List.cons_ne_nil _ _)]
    by_cases hn : p < 0
    · have e2 : intL p = 45 :: numL p.natAbs := by unfold intL; rw [if_pos hn]
      rw [e2, if_pos (show (94 :: 45 :: numL p.natAbs).take 2 = [94, 45] from rfl)]
      show (figF (numL p.natAbs) 1).map _ = _
      rw [(figF_iff (by decide)).mpr ⟨rfl, h1, by omega⟩]
      refine congrArg some ?_
      show 0 - ((p.natAbs : Nat) : Int) = p
      omega
    · have e2 : intL p = numL p.natAbs := by unfold intL; rw [if_neg hn]
      obtain ⟨c, r, e3, hc⟩ := intL_head (p := p) (by omega)
      rw [if_neg (by rw [e3]; intro z; injection z with _ z; injection z with z _; exact hc z), if_pos (show (94 :: intL p).head? = some 94 from rfl)]
      show (figF (intL p) 2).map _ = _
      rw [e2, (figF_iff (by decide)).mpr ⟨rfl, h1, by omega⟩]
      refine congrArg some ?_
      show ((p.natAbs : Nat) : Int) = p
      omega
theorem dtermF_iff {w : List Nat} {t : Int × Int} : dtermF w = some t ↔ w = bodyL t.1 t.2 ∧ 1 ≤ t.2 ∧ t.2 < 10 ^ 60 ∧ t.1.natAbs < 10 ^ 60 := by
  obtain ⟨p, n⟩ := t
  unfold dtermF dnumF dexpF
  constructor
  · intro h
    cases q : cutX 120 w with
    | none =>
      rw [q] at h
      cases hn : figF w 1 with
      | none => rw [hn] at h; cases h
      | some m =>
        rw [hn] at h
        obtain ⟨h5, h6, h7⟩ := (figF_iff (by decide)).mp hn
        have h : some ((0 : Int), (m : Int)) = some (p, n) := h
        injection h with h
        injection h with hp hm
        subst hp hm
        refine ⟨?_, h7, by show (m : Int) < 10 ^ 60; omega, show (0 : Int).natAbs < 10 ^ 60 by decide⟩
        unfold bodyL headL
        rw [if_neg (by rintro ⟨z, _⟩; exact z rfl), if_pos rfl, List.append_nil, h5]
        rfl
    | some ab =>
      obtain ⟨a, b⟩ := ab
      obtain ⟨hw, _⟩ := cutX_some q
      rw [q] at h
      by_cases ha : a = []
      · have h : (match (if a = [] then some 1 else figF a 2 : Option Nat) with | none => none | some n => (dpowF b).map fun p => (p, (n : Int))) = some (p, n) := h
        rw [if_pos ha] at h
        obtain ⟨p', h1, h2⟩ := Option.map_eq_some_iff.mp h
        injection h2 with h2 h3
        subst h2
        obtain ⟨h4, h5, h6⟩ := dpowF_iff.mp h1
        subst h3
        refine ⟨?_, show (1 : Int) ≤ 1 by decide, show (1 : Int) < 10 ^ 60 by decide, h6⟩
        have e : headL p' 1 = [] := by unfold headL; rw [if_pos ⟨h5, rfl⟩]
        show w = bodyL p' 1
        unfold bodyL
        rw [e, if_neg h5, hw, ha, h4]
      · have h : (match (if a = [] then some 1 else figF a 2 : Option Nat) with | none => none | some n => (dpowF b).map fun p => (p, (n : Int))) = some (p, n) := h
        rw [if_neg ha] at h
        cases hn : figF a 2 with
        | none => rw [hn] at h; cases h
        | some m =>
          rw [hn] at h
          obtain ⟨p', h1, h2⟩ := Option.map_eq_some_iff.mp h
          injection h2 with h2 h3
          subst h2
          obtain ⟨h4, h5, h6⟩ := dpowF_iff.mp h1
          obtain ⟨h7, h8, h9⟩ := (figF_iff (by decide)).mp hn
          subst h3
          refine ⟨?_, by show (1 : Int) ≤ (m : Int); omega, by show (m : Int) < 10 ^ 60; omega, h6⟩
          unfold bodyL headL
          rw [if_neg (by rintro ⟨_, z⟩; have z : m = 1 := z; omega), if_neg h5, hw, h4, h7]
          rfl
  · rintro ⟨hw, h1, h2, h3⟩
    have hw : w = bodyL p n := hw
    have h1 : 1 ≤ n := h1
    have h2 : n < 10 ^ 60 := h2
    have h3 : p.natAbs < 10 ^ 60 := h3
    subst hw
    have hnn : ((n.natAbs : Nat) : Int) = n := by omega
    by_cases hp : p = 0
    · have e : bodyL p n = numL n.natAbs := by
        unfold bodyL headL
        rw [if_neg (by rintro ⟨z, _⟩; exact z hp), if_pos hp, List.append_nil]
      rw [e, cutX_free (numL_free (.inr (by decide)))]
      show (match figF (numL n.natAbs) 1 with | none => none | some n => (some (0 : Int)).map fun p => (p, (n : Int))) = _
      rw [(figF_iff (by decide)).mpr ⟨rfl, by omega, by omega⟩]
      show some ((0 : Int), ((n.natAbs : Nat) : Int)) = _
      rw [hnn, hp]
    · have e : bodyL p n = headL p n ++ 120 :: powL p := by
        unfold bodyL
        rw [if_neg hp]
      rw [e, cutX_app _ (headL_free (.inr (by decide)))]
      show (match (if headL p n = [] then some 1 else figF (headL p n) 2 : Option Nat) with | none => none | some n => (dpowF (powL p)).map fun p => (p, (n : Int))) = _
      rw [dpowF_iff.mpr ⟨rfl, hp, h3⟩]
      by_cases h : n.natAbs = 1
      · have eh : headL p n = [] := by unfold headL; rw [if_pos ⟨hp, h⟩]
        rw [eh, if_pos rfl]
        show some (p, ((1 : Nat) : Int)) = _
        congr 2
        omega
      · have eh : headL p n = numL n.natAbs := by unfold headL; rw [if_neg (by rintro ⟨_, z⟩; exact h z)]
        rw [eh, if_neg (numL_ne _), (figF_iff (by decide)).mpr ⟨rfl, by omega, by omega⟩]
        show some (p, ((n.natAbs : Nat) : Int)) = _
        rw [hnn]
theorem bodyL_sg {s : Int} (hs : s = 1 ∨ s = -1) (p n : Int) : bodyL p (s * n) = bodyL p n := by
  have : (s * n).natAbs = n.natAbs := by rcases hs with rfl | rfl <;> omega
  unfold bodyL headL
  rw [this]
theorem lastP_lt {f : List Th.Tm} (h : Can f) {p : Int} (hl : ¬ (f ≠ [] ∧ p ≤ lastP f)) : ∀ u ∈ f, u.1 < p := fun u hu => by
  have hne : f ≠ [] := fun z => by rw [z] at hu; cases hu
  have hsn := List.dropLast_concat_getLast hne
  have hlast : lastP f = (f.getLast hne).1 := by
    unfold lastP
    rw [List.getLast?_eq_some_getLast hne]
    rfl
  have hp : lastP f < p := by
    by_cases z : p ≤ lastP f
    · exact absurd ⟨hne, z⟩ hl
    · omega
  have hpw := h.1
  rw [← hsn, List.map_append, List.pairwise_append] at hpw
  rw [← hsn] at hu
  rcases List.mem_append.mp hu with hu | hu
  · have := hpw.2.2 u.1 (List.mem_map_of_mem hu) (f.getLast hne).1 (List.mem_singleton.mpr rfl)
    omega
  · rw [List.mem_singleton.mp hu]
    omega
abbrev flatW (r : List Th.Tm) : List (List Nat) := r.flatMap fun t => [[sgL t.2], bodyL t.1 t.2]
theorem due_sound : ∀ (ws : List (List Nat)) (b : Bool) (s : Int) (f g : List Th.Tm), (s = 1 ∨ s = -1) → Good f → dueG b s f ws = some g → Good g ∧ ∃ r, g = f ++ r ∧ match b with
    | true => ∃ t r', r = t :: r' ∧ ws = bodyL t.1 t.2 :: flatW r' ∧ (t.2 < 0 ↔ s = -1)
    | false => ws = flatW r
  | [], true, s, f, g, hs, hf, h => by cases h
  | [], false, s, f, g, hs, hf, h => by
    cases h
    exact ⟨hf, [], (List.append_nil _).symm, rfl⟩
  | m :: ws, false, s, f, g, hs, hf, h => by
    have h : (if m = [43] then dueG true 1 f ws else if m = [45] then dueG true (-1) f ws else none) = some g := h
    have step : ∀ s', (s' = 1 ∨ s' = -1) → m = [if s' = -1 then 45 else 43] → dueG true s' f ws = some g → Good g ∧ ∃ r, g = f ++ r ∧ m :: ws = flatW r := fun s' hs' hm h => by
      obtain ⟨h1, r, h2, t, r', rfl, h3, h4⟩ := due_sound ws true s' f g hs' hf h
      refine ⟨h1, t :: r', h2, ?_⟩
      have : [sgL t.2] = m := by
        rw [hm]
        unfold sgL
        by_cases hn : t.2 < 0
        · rw [if_pos hn, if_pos (h4.mp hn)]
        · rw [if_neg hn, if_neg fun z => hn (h4.mpr z)]
      show m :: ws = [sgL t.2] :: bodyL t.1 t.2 :: flatW r'
      rw [this, h3]
    split at h
    · rename_i hm
      exact step 1 (.inl rfl) (by rw [hm]; rfl) h
    · split at h
      · rename_i hm
        exact step (-1) (.inr rfl) (by rw [hm]; rfl) h
      · cases h
  | w :: ws, true, s, f, g, hs, hf, h => by
    have h : (match dtermF w with | none => none | some t => if f ≠ [] ∧ t.1 ≤ lastP f then none else dueG false s (f ++ [(t.1, s * t.2)]) ws) = some g := h
    cases q : dtermF w with
    | none => rw [q] at h; cases h
    | some t =>
      rw [q] at h
      have h : (if f ≠ [] ∧ t.1 ≤ lastP f then none else dueG false s (f ++ [(t.1, s * t.2)]) ws) = some g := h
      obtain ⟨e1, e2, e3, e4⟩ := dtermF_iff.mp q
      split at h
      · cases h
      · rename_i hl
        have hsn : s * t.2 ≠ 0 := by rcases hs with rfl | rfl <;> omega
        have hg : Good (f ++ [(t.1, s * t.2)]) := ⟨can_snoc hf.1 (lastP_lt hf.1 hl) hsn, fun u hu => by
          rcases List.mem_append.mp hu with hu | hu
          · exact hf.2 u hu
          · rw [List.mem_singleton.mp hu]
            exact ⟨e4, by show (s * t.2).natAbs < 10 ^ 60; rcases hs with rfl | rfl <;> omega⟩⟩
        obtain ⟨h1, r, h2, h3⟩ := due_sound ws false s _ g hs hg h
        refine ⟨h1, (t.1, s * t.2) :: r, by rw [h2, List.append_assoc]; rfl, _, _, rfl, ?_, ?_⟩
        · have h3 : ws = flatW r := h3
          rw [bodyL_sg hs, ← e1, h3]
        · show s * t.2 < 0 ↔ s = -1
          rcases hs with rfl | rfl
          · omega
          · omega
theorem lastP_no {f : List Th.Tm} {p : Int} (h : ∀ u ∈ f, u.1 < p) : ¬ (f ≠ [] ∧ p ≤ lastP f) := by
  rintro ⟨hne, hl⟩
  have : lastP f = (f.getLast hne).1 := by
    unfold lastP
    rw [List.getLast?_eq_some_getLast hne]
    rfl
  have := h (f.getLast hne) (List.getLast_mem hne)
  omega
theorem due_complete : ∀ (r : List Th.Tm) (t : Th.Tm) (f : List Th.Tm), Good (f ++ t :: r) → dueG true (if t.2 < 0 then -1 else 1) f (bodyL t.1 t.2 :: flatW r) = some (f ++ t :: r) := fun r => by
  have step : ∀ (r : List Th.Tm) (t : Th.Tm) (f : List Th.Tm), Good (f ++ t :: r) → dueG true (if t.2 < 0 then -1 else 1) f (bodyL t.1 t.2 :: flatW r) = dueG false (if t.2 < 0 then -1 else 1) (f ++ [t]) (flatW r) := fun r t f hg => by
    have hm : t ∈ f ++ t :: r := List.mem_append_right _ List.mem_cons_self
    have h0 := hg.1.2 t hm
    have hb := hg.2 t hm
    have hd : dtermF (bodyL t.1 t.2) = some (t.1, (t.2.natAbs : Int)) := by
      refine dtermF_iff.mpr ⟨?_, by show (1 : Int) ≤ (t.2.natAbs : Int); omega, by show (t.2.natAbs : Int) < 10 ^ 60; have := hb.2; omega, hb.1⟩
      show bodyL t.1 t.2 = bodyL t.1 (t.2.natAbs : Int)
      unfold bodyL headL
      rw [Int.natAbs_natCast]
    have hlt : ∀ u ∈ f, u.1 < t.1 := fun u hu => by
      have := hg.1.1
      rw [List.map_append, List.pairwise_append] at this
      exact this.2.2 u.1 (List.mem_map_of_mem hu) t.1 (List.mem_map_of_mem List.mem_cons_self)
    show (match dtermF (bodyL t.1 t.2) with | none => none | some t' => if f ≠ [] ∧ t'.1 ≤ lastP f then none else dueG false _ (f ++ [(t'.1, _ * t'.2)]) (flatW r)) = _
    rw [hd]
    show (if f ≠ [] ∧ t.1 ≤ lastP f then none else dueG false _ (f ++ [(t.1, _ * (t.2.natAbs : Int))]) (flatW r)) = _
    rw [if_neg (lastP_no hlt), sg_mul (n := t.2) rfl]
  induction r with
  | nil =>
    intro t f hg
    rw [step [] t f hg]
    rfl
  | cons u r ih =>
    intro t f hg
    rw [step (u :: r) t f hg]
    have e : dueG false (if t.2 < 0 then -1 else 1) (f ++ [t]) (flatW (u :: r)) = dueG true (if u.2 < 0 then -1 else 1) (f ++ [t]) (bodyL u.1 u.2 :: flatW r) := by
      show (if [sgL u.2] = [43] then dueG true 1 (f ++ [t]) (bodyL u.1 u.2 :: flatW r) else if [sgL u.2] = [45] then dueG true (-1) (f ++ [t]) (bodyL u.1 u.2 :: flatW r) else none) = _
      unfold sgL
      by_cases hn : u.2 < 0
      · rw [if_pos hn, if_pos hn, if_neg (by decide), if_pos rfl]
      · rw [if_neg hn, if_neg hn, if_pos rfl]
    rw [e, ih u (f ++ [t]) (by rw [List.append_assoc]; exact hg), List.append_assoc]
    rfl
theorem join_head (c : Nat) (w : List Nat) : ∀ ws : List (List Nat), joinL [32] ((c :: w) :: ws) = c :: joinL [32] (w :: ws)
  | [] => rfl
  | _ :: _ => rfl
theorem dueF_iff {l : List Nat} {f : List Th.Tm} : dueF l = some f ↔ Good f ∧ shownL f = l := by
  unfold dueF
  constructor
  · intro h
    split at h
    · rename_i hl
      cases h
      exact ⟨⟨can_nil, (fun _ z => nomatch z)⟩, hl.symm⟩
    · obtain ⟨s1, s2, s3, _⟩ := splB_ok l
      split at h
      · cases h
      · rename_i w ws hsp
        rw [hsp] at s3
        have g0 : Good [] := ⟨can_nil, (fun _ z => nomatch z)⟩
        split at h
        · rename_i hw
          obtain ⟨h1, r, h2, t, r', h3, h4, h5⟩ := due_sound _ true (-1) [] f (.inr rfl) g0 h
          rw [List.nil_append] at h2
          subst h2 h3
          refine ⟨h1, ?_⟩
          have hn : t.2 < 0 := h5.mpr rfl
          injection h4 with h4 h6
          have hw2 : w = 45 :: bodyL t.1 t.2 := by
            rw [← h4]
            have := List.take_append_drop 1 w
            rw [hw] at this
            exact this.symm
          rw [hw2, join_head, h6] at s3
          rw [← s3]
          show (if t.2 < 0 then [45] else []) ++ bodyL t.1 t.2 ++ restL r' = _
          rw [if_pos hn, List.append_assoc, ← join_rest r' (bodyL t.1 t.2)]
          rfl
        · obtain ⟨h1, r, h2, t, r', h3, h4, h5⟩ := due_sound _ true 1 [] f (.inl rfl) g0 h
          rw [List.nil_append] at h2
          subst h2 h3
          refine ⟨h1, ?_⟩
          have hn : ¬ t.2 < 0 := fun z => absurd (h5.mp z) (by decide)
          rw [h4] at s3
          rw [← s3]
          show (if t.2 < 0 then [45] else []) ++ bodyL t.1 t.2 ++ restL r' = _
          rw [if_neg hn, List.nil_append, ← join_rest r' (bodyL t.1 t.2)]
  · rintro ⟨hg, rfl⟩
    cases f with
    | nil => rw [if_pos (show shownL [] = [48] from rfl)]
    | cons t r =>
      rw [if_neg (fun z => shown_ne0 (hg.1.2 t List.mem_cons_self) z)]
      have hdc := due_complete r t [] hg
      rw [List.nil_append] at hdc
      obtain ⟨c, q, e, h45, _⟩ := bodyL_head t
      have hfree : ∀ w ∈ flatW r, 32 ∉ w := fun w hw => words_free t r w (List.mem_cons_of_mem _ hw)
      have hb32 : 32 ∉ bodyL t.1 t.2 := words_free t r _ List.mem_cons_self
      by_cases hn : t.2 < 0
      · have e1 : shownL (t :: r) = joinL [32] ((45 :: bodyL t.1 t.2) :: flatW r) := by
          rw [join_head, join_rest r (bodyL t.1 t.2)]
          show (if t.2 < 0 then [45] else []) ++ bodyL t.1 t.2 ++ restL r = _
          rw [if_pos hn]
          rfl
        rw [e1, splB_join (List.cons_ne_nil _ _) fun w hw => (List.mem_cons.mp hw).elim (fun z => by rw [z]; exact fun y => (List.mem_cons.mp y).elim (fun x => nomatch x) hb32) (hfree w)]
        show (if (45 :: bodyL t.1 t.2).take 1 = [45] then dueG true (-1) [] (bodyL t.1 t.2 :: flatW r) else _) = _
        rw [if_pos (show (45 :: bodyL t.1 t.2).take 1 = [45] from rfl)]
        rw [if_pos hn] at hdc
        exact hdc
      · have e1 : shownL (t :: r) = joinL [32] (bodyL t.1 t.2 :: flatW r) := by
          rw [join_rest r (bodyL t.1 t.2)]
          show (if t.2 < 0 then [45] else []) ++ bodyL t.1 t.2 ++ restL r = _
          rw [if_neg hn]
          rfl
        rw [e1, splB_join (List.cons_ne_nil _ _) fun w hw => (List.mem_cons.mp hw).elim (fun z => by rw [z]; exact hb32) (hfree w)]
        show (if (bodyL t.1 t.2).take 1 = [45] then _ else dueG true 1 [] (bodyL t.1 t.2 :: flatW r)) = _
        rw [if_neg (by rw [e]; intro z; injection z with z _; exact h45 z)]
        rw [if_neg hn] at hdc
        exact hdc
theorem read_due (l : List Nat) : readF l = dueF l := by
  cases h : dueF l with
  | some f => exact readF_iff.mpr (dueF_iff.mp h)
  | none =>
    cases q : readF l with
    | none => rfl
    | some f =>
      rw [dueF_iff.mpr (readF_iff.mp q)] at h
      cases h
def noT (C : Addr) : Er := ⟨C, some [("at", .int 0)]⟩
def ans (C : Addr) (o : Option PyData) : A ⊕ Er := match o with
  | some v => .inl (.d v)
  | none => .inr (noT C)
def rNum (C : Addr) : List PyData → A ⊕ Er → Prop := fun ds r => ∃ l, Asc l ∧ l.length ≤ 4000 ∧ ds = [.str (mkS l)] ∧ r = ans C ((numF l).map fun n : Nat => .int (n : Int))
def rPow (C : Addr) : List PyData → A ⊕ Er → Prop := fun ds r => ∃ l, Asc l ∧ l.length ≤ 4000 ∧ ds = [.str (mkS l)] ∧ r = ans C ((powF l).map .int)
def rTerm (C : Addr) : List PyData → A ⊕ Er → Prop := fun ds r => ∃ l s, Asc l ∧ l.length ≤ 4000 ∧ (s = 1 ∨ s = -1) ∧ ds = [.str (mkS l), .int s] ∧ r = ans C ((termF l s).map encT)
def rTerms (C : Addr) : List PyData → A ⊕ Er → Prop := fun ds r => ∃ l, Asc l ∧ l.length ≤ 1900 ∧ ds = [.str (mkS l)] ∧ r = ans C ((termsF l).map encP)
def rRead (C : Addr) : List A → A ⊕ Er → Prop := fun as r => (∃ l, Asc l ∧ l.length ≤ 1900 ∧ as = [.d (.str (mkS l))] ∧ r = ans C ((readF l).map encP)) ∨ (∃ v, isi v .str = false ∧ as = [.d v] ∧ r = .inr (noT C)) ∨ (as = [.rk []] ∧ r = .inr (noT C))
theorem dig_in (c : Nat) : decide (c ∈ (("0123456789" : Str)).cps.toList) = isDig c := by
  have e : (("0123456789" : Str)).cps.toList = [48, 49, 50, 51, 52, 53, 54, 55, 56, 57] := by decide +kernel
  rw [e]
  unfold isDig
  rw [Bool.eq_iff_iff, decide_eq_true_iff, decide_eq_true_iff]
  simp only [List.mem_cons, List.not_mem_nil, or_false]
  omega
theorem map_all (l : List Nat) : (l.map isDig).all id = l.all isDig := by
  rw [List.all_map]
  rfl
theorem prs_even : ∀ {W : List (List Nat)}, W.length % 2 = 0 → W = (prs W).flatMap fun p => [p.1, p.2]
  | [], _ => rfl
  | [_], h => by cases h
  | a :: b :: r, h => by
    have ih := prs_even (W := r) (by rw [List.length_cons, List.length_cons] at h; omega)
    show a :: b :: r = [a, b] ++ (prs r).flatMap _
    rw [← ih]
    rfl
theorem prs_mem : ∀ {W : List (List Nat)} {p : PrW}, p ∈ prs W → p.1 ∈ W ∧ p.2 ∈ W
  | a :: b :: r, p, h => by
    rcases List.mem_cons.mp h with rfl | h
    · exact ⟨List.mem_cons_self, List.mem_cons_of_mem _ List.mem_cons_self⟩
    · obtain ⟨h1, h2⟩ := prs_mem h
      exact ⟨List.mem_cons_of_mem _ (List.mem_cons_of_mem _ h1), List.mem_cons_of_mem _ (List.mem_cons_of_mem _ h2)⟩
def encPW (p : PrW) : PyData := .tuple [eS p.1, eS p.2]
theorem pw_zip (Q : List PrW) : zipD (pickL ((Q.flatMap fun p => [p.1, p.2]).map eS) none 2) (pickL ((Q.flatMap fun p => [p.1, p.2]).map eS) (some 1) 2) = Q.map encPW := by
  have hm : (Q.flatMap fun p => [p.1, p.2]).map eS = Q.flatMap fun p => [eS p.1, eS p.2] := by rw [List.map_flatMap]; rfl
  rw [hm]
  have hlen := flat2_len (fun p : PrW => eS p.1) (fun p : PrW => eS p.2) Q
  rw [pick_even hlen, pick_odd hlen]
  have e1 : (List.range Q.length).filterMap (fun i => (Q.flatMap fun p => [eS p.1, eS p.2])[2 * i]?) = Q.map fun p => eS p.1 := by
    rw [← range_fm]
    exact fm_congr fun i _ => (flat2_get _ _ Q i).1
  have e2 : (List.range Q.length).filterMap (fun i => (Q.flatMap fun p => [eS p.1, eS p.2])[2 * i + 1]?) = Q.map fun p => eS p.2 := by
    rw [← range_fm]
    exact fm_congr fun i _ => (flat2_get _ _ Q i).2
  rw [e1, e2]
  unfold zipD
  rw [List.zip_map', List.map_map]
  rfl
theorem key_str {e : DictEntry} {x : Str} {h : Int} (q : He.keyOf e = some (x, h)) : ∃ t, e.key = .str x t := by
  unfold He.keyOf at q
  split at q
  · rename_i y t z
    injection q with q
    injection q with q1 _
    exact ⟨t, by rw [z, q1]⟩
  · cases q
theorem Sg.no {K : PySem.W.Frag} {w : World} {mg : Str → Option Value} (Z : Sg K w mg) {m : List Nat} (h : markF m = none) : PySem.W.nsIn K Z.sd (mkS m) = some none := by
  have h1 : m ≠ [43] := fun z => by rw [z] at h; cases h
  have h2 : m ≠ [45] := fun z => by rw [z] at h; cases h
  have hk := Z.kk
  unfold PySem.W.nsIn
  rw [Z.D.at_]
  dsimp only
  cases hl : Z.es.toList with
  | nil => rw [hl] at hk; exact absurd (congrArg List.length hk) (by decide : ¬ (0 = 2))
  | cons e1 r1 =>
    cases r1 with
    | nil => rw [hl] at hk; exact absurd (congrArg List.length hk) (by decide : ¬ (1 = 2))
    | cons e2 r2 =>
      cases r2 with
      | cons e3 r3 =>
        rw [hl] at hk
        have := congrArg List.length hk
        rw [List.length_map] at this
        have : r3.length + 1 + 1 + 1 = 2 := this
        omega
      | nil =>
        rw [hl] at hk
        have hk : [He.keyOf e1, He.keyOf e2] = [some (("+" : Str), _), some (("-" : Str), _)] := hk
        have k1 := (List.cons.inj hk).1
        have k2 := (List.cons.inj (List.cons.inj hk).2).1
        obtain ⟨t1, q1⟩ := key_str k1
        obtain ⟨t2, q2⟩ := key_str k2
        have n1 : e1.key.isStr (mkS m) = false := by
          rw [q1]
          show (("+" : Str) == mkS m) = false
          exact beq_false_of_ne fun z => h1 (mkS_inj (a := m) (b := [43]) z.symm)
        have n2 : e2.key.isStr (mkS m) = false := by
          rw [q2]
          show (("-" : Str) == mkS m) = false
          exact beq_false_of_ne fun z => h2 (mkS_inj (a := m) (b := [45]) z.symm)
        have f : [e1, e2].find? (fun x => x.key.isStr (mkS m)) = none := by
          rw [List.find?_cons, n1, List.find?_cons, n2]
          rfl
        rw [f]
        have r : [e1, e2].any (fun x => x.refKey) = false := by
          rw [List.any_cons, List.any_cons]
          unfold PySem.DictEntry.refKey
          rw [q1, q2]
          rfl
        rw [r]
        rfl
theorem Sg.yes {K : PySem.W.Frag} {w : World} {mg : Str → Option Value} (Z : Sg K w mg) {m : List Nat} {s : Int} (h : markF m = some s) : (s = 1 ∨ s = -1) ∧ ∃ t, PySem.W.nsIn K Z.sd (mkS m) = some (some (.int s t)) := by
  unfold markF at h
  split at h
  · rename_i hm
    cases h
    rw [hm]
    exact ⟨.inl rfl, _, Z.p1⟩
  · split at h
    · rename_i hm
      cases h
      rw [hm]
      exact ⟨.inr rfl, _, Z.p2⟩
    · cases h
def optN (o : Option PyData) : PyData := o.getD .none
theorem isN_some (v : PyData) (h : v ≠ .none) : someB v = true := by
  cases v <;> first | rfl | exact absurd rfl h
def fFig : List PyData → A → Prop := fun ds r => ∃ (w : List Nat) (m : Int), Asc w ∧ w.length ≤ 4000 ∧ ds = [eS w, .int m] ∧ r = .d (optN ((figF w m).map fun n : Nat => .int (n : Int)))
def fPow2 : List PyData → A → Prop := fun ds r => ∃ b : List Nat, Asc b ∧ b.length ≤ 4000 ∧ ds = [eS b] ∧ r = .d (optN ((dpowF b).map .int))
def fTerm2 : List PyData → A → Prop := fun ds r => ∃ w : List Nat, Asc w ∧ w.length ≤ 4000 ∧ ds = [eS w] ∧ r = .d (optN ((dtermF w).map encT))
def fDueT : List PyData → A → Prop := fun ds r => ∃ l : List Nat, Asc l ∧ l.length ≤ 1900 ∧ ds = [eS l] ∧ r = .d (optN ((dueF l).map encP))
/-! drawn texts -/
def menuL : List (List Nat) := [[120], [94], [45], [43], [32], [48], [49], [49, 50], [120, 94, 50], [32, 43, 32], [32, 45, 32], [51, 120], [120, 94, 45, 49], [45, 120], [48, 49], [120, 94, 48], [121], [88]]
theorem menu_ok : ∀ w ∈ menuL, Asc w ∧ w.length ≤ 4 := by
  have : menuL.all (fun w => w.all (fun c => decide (c < 128)) && decide (w.length ≤ 4)) = true := by decide +kernel
  intro w hw
  have := List.all_eq_true.mp this w hw
  rw [Bool.and_eq_true, decide_eq_true_iff] at this
  exact ⟨fun c hc => of_decide_eq_true (List.all_eq_true.mp this.1 c hc), this.2⟩
theorem at_eS {W : List (List Nat)} {i : Int} (h0 : 0 ≤ i) (h : i < W.length) : atI (W.map eS) i = some (eS (W.getD i.toNat [])) := by
  rw [atI_nat' h0, List.getElem?_map, List.getD_eq_getElem?_getD, List.getElem?_eq_getElem (show i.toNat < W.length by omega)]
  rfl
theorem getD_mem {W : List (List Nat)} {i : Int} (h0 : 0 ≤ i) (h : i < W.length) : W.getD i.toNat [] ∈ W := by
  rw [List.getD_eq_getElem?_getD, List.getElem?_eq_getElem (show i.toNat < W.length by omega)]
  exact List.getElem_mem _
def preT : List A → Prop := fun as => ∃ s : Int × Int, (0 ≤ s.2 ∧ s.2 ≤ 100) ∧ as = [rowA s]
def outT : List A → A → List A → Prop := fun _ r as' => ∃ l : List Nat, Asc l ∧ l.length ≤ 1900 ∧ r = .d (eS l) ∧ ∃ s' : Int × Int, as' = [rowA s']
def signL : List Nat := [48, 49, 50, 51, 52, 53, 54, 55, 56, 57, 120, 94, 45, 43, 32]
theorem sign_at : (("0123456789x^-+ " : Str)) = mkS signL := by decide +kernel
theorem sign_ok : Asc signL := by
  have : signL.all (fun c => decide (c < 128)) = true := by decide +kernel
  exact fun c hc => of_decide_eq_true (List.all_eq_true.mp this c hc)
theorem mostT_at {i : Int} (h0 : 0 ≤ i) (h : i < 2) : atI [PyData.int 50, .int (10 ^ 60 - 1)] i = some (.int ([50, 10 ^ 60 - 1].getD i.toNat 0)) := at_i2 h0 h
theorem mostT_bd {i : Int} (h0 : 0 ≤ i) (h : i < 2) : 0 ≤ ([50, 10 ^ 60 - 1] : List Int).getD i.toNat 0 ∧ ([50, 10 ^ 60 - 1] : List Int).getD i.toNat 0 ≤ 10 ^ 60 - 1 := by
  have : i = 0 ∨ i = 1 := by omega
  rcases this with rfl | rfl
  · exact ⟨by decide, by decide⟩
  · exact ⟨by decide, by decide⟩
theorem shown_5 {l : List Th.Tm} (hl : l.length ≤ 5) (hb : ∀ t ∈ l, TmB t) : (shownL l).length ≤ 670 := by
  cases l with
  | nil => decide
  | cons t l =>
    have := sh_len (t :: l) [] 0 hb (Nat.le_refl _)
    rw [← sh_all]
    omega
def fRef : List A → A ⊕ Er → Prop := fun as r => ((∃ l, Asc l ∧ l.length ≤ 1900 ∧ readF l = none ∧ as = [.d (eS l)]) ∨ (∃ v, isi v .str = false ∧ as = [.d v]) ∨ as = [.rk []]) ∧ r = .inl (.d (.bool true))
theorem ok_take {f : Addr} {fd : FuncData} {k : Nat} (F : Fun K "_law_take" "_law_take" sTake f fd) (T : Txt K mg) : FnOk P w K mg base CX0 (k + 1) f fd ["_law_row", "_law_base"] (spA K fTake) := by
  refine fn_ok F scTake (fun as r as' h => by obtain ⟨_, _, _, _, rfl, _⟩ := h; rfl) (by decide) [0] (fun as r as' h i a e o => by
    obtain ⟨_, _, _, _, rfl, _⟩ := h
    exact own_1 (ds := [_]) e o) (fun cdv A1 outer s H W B as r as' hr hf hB => ?_)
  obtain ⟨p, b, hn, ⟨hb, hb2⟩, rfl, rfl, rfl⟩ := hf
  have hu := hr.units
  refine ss_cons (s_setL 0 (xs := [.int p.1, .int p.2]) (e_add (e_ixL (o_slot 0 rfl) e_int (v := .int p.2) rfl) e_int) e_int ⟨_, rfl⟩ rfl (j := 1) rfl ?_)
  refine ss_cons (s_if (t_gt (e_ixL (o_slot 0 rfl) e_int (v := .int p.1) rfl) (e_pow e_int e_int ⟨by decide, by decide, by decide⟩)) (fun hc => ?_) (fun hc => ?_))
  · have hc' : (10 : Int) ^ 18 < p.1 := of_decide_eq_true hc
    refine ss_cons (s_set 2 (e_sub (e_ixL (o_slot 0 rfl) e_int (v := .int p.1) rfl) (e_pow e_int e_int ⟨by decide, by decide, by decide⟩)) ?_ (nl hB) scTake.nd)
    refine ss_cons (s_setL 0 (e_add (e_pow e_int e_int ⟨by decide, by decide, by decide⟩) (e_div (e_var 2 rfl) (e_var 1 rfl) (wide_div hb hb2 (by decide) (by decide)))) e_int ⟨_, rfl⟩ rfl (j := 0) rfl ?_)
    refine ss_one (s_ret (e_mod (e_var 2 rfl) (e_var 1 rfl) hb) (pr_1 (ds := [.int b]) ?_ ?_))
    · unfold tkV
      rw [if_pos hc']
      rfl
    · unfold tkS tkC
      rw [if_pos hc']
      rfl
  · have hc' : ¬ (10 : Int) ^ 18 < p.1 := of_decide_eq_false hc
    refine ss_nil ?_
    refine ss_cons (s_set 3 (e_mod (e_add (e_add (e_mulS (e_ixL (o_slot 0 rfl) e_int (v := .int p.1) rfl) e_int (.inr ⟨by decide, by decide⟩)) (e_mulS (e_mulS e_int (e_ixL (o_slot 0 rfl) e_int (v := .int (p.2 + 1)) rfl) (.inl ⟨by decide, by decide⟩)) (e_ixL (o_slot 0 rfl) e_int (v := .int (p.2 + 1)) rfl) (.inr ⟨by omega, by omega⟩))) e_int) e_int (by decide)) ?_ (nl hB) scTake.nd)
    have h1 := tkU_lo p
    have h2 := tkU_hi p
    refine ss_cons (s_set 3 (e_mod (e_add (e_add (e_mulS (i := tkU p) (e_var 3 rfl) (e_var 3 rfl) (.inr ⟨by omega, by omega⟩)) (e_mulS e_int (e_ixL (o_slot 0 rfl) e_int (v := .int (p.2 + 1)) rfl) (.inl ⟨by decide, by decide⟩))) e_int) e_int (by decide)) ?_ (nl hB) scTake.nd)
    refine ss_one (s_ret (e_mod (e_div (e_var 3 rfl) e_int ⟨by decide, by decide⟩) (e_var 1 rfl) hb) (pr_1 (ds := [.int b]) ?_ ?_))
    · unfold tkV
      rw [if_neg hc']
      rfl
    · unfold tkS tkC
      rw [if_neg hc']
      rfl
theorem ok_number {f : Addr} {fd : FuncData} {k : Nat} (F : Fun K "_law_number" "_law_number" sNumber f fd) (T : Txt K mg) : FnOk P w K mg base CX0 (k + 2) f fd ["_law_row", "_law_most"] (spA K fNumber) := by
  have GTake := ok_take (P := P) (w := w) (base := base) (k := 0) T.FTake T
  refine fn_ok F scNumber (fun as r as' h => by obtain ⟨_, _, _, _, rfl, _⟩ := h; rfl) (by decide) [0] (fun as r as' h i a e o => by
    obtain ⟨_, _, _, _, rfl, _⟩ := h
    exact own_1 (ds := [_]) e o) (fun cdv A1 outer s H W B as r as' hr hf hB => ?_)
  obtain ⟨p, m, hn, hm, rfl, rfl, rfl⟩ := hf
  have hm1 := hm.1
  refine ss_cons (s_if (t_gt (e_take 0 (s := p) GTake (hr.mono (by omega)) T.gTake T.FTake.kp T.bTake e_int ⟨_, rfl, rfl⟩ rfl) e_int) (fun hc => ?_) (fun hc => ?_))
  · have hc' : 0 < tkV p 3 := of_decide_eq_true hc
    refine ss_one (s_ret (e_sub (e_take 0 (s := tkS p 3) GTake (hr.mono (by omega)) T.gTake T.FTake.kp T.bTake e_int ⟨_, rfl, rfl⟩ rfl) e_int) (pr_1 (ds := [.int m]) ?_ ?_))
    · unfold numV
      rw [if_pos hc']
    · unfold numS
      rw [if_pos hc']
      rfl
  have hc' : ¬ 0 < tkV p 3 := of_decide_eq_false hc
  refine ss_nil ?_
  refine ss_cons (s_set 2 e_int ?_ (nl hB) scNumber.nd)
  refine ss_cons (s_forF encN (xs := List.range 7) (src_rN (n := 7) e_int T.z_range (by decide)) ((0, tkS p 3) : Int × (Int × Int)) (fun t _ => nmStep t) (fun t => [rowA t.2, .d (.int m), .d (.int t.1), .any]) (fun t i => t.2.2 = p.2 + 1 + i) (by rw [tkS_n]; omega) (Le.refl _) (fun t i x hi hJ => ?_) (fun ρ' hJ l => ?_))
  · have hj := (range_get hi).1
    refine ⟨?_, _, g_name 3 (nl hB) scNumber.nd, ?_⟩
    · unfold nmStep
      rw [tkS_n]
      omega
    refine ss_one (s_set 2 (e_add (e_mulS (e_var 2 rfl) (e_pow e_int e_int ⟨by decide, by decide, by decide⟩) (.inr ⟨by decide, by decide⟩)) (e_take 0 (s := t.2) GTake (hr.mono (by omega)) T.gTake T.FTake.kp T.bTake (e_pow e_int e_int ⟨by decide, by decide, by decide⟩) ⟨_, rfl, rfl⟩ rfl)) ?_ (nl hB) scNumber.nd)
    exact .eq (.eq (.eq (.any .nil)))
  refine Ex.toLe ?_ l
  have e7 : List.foldl (fun t x => nmStep t) (0, tkS p 3) (List.range 7) = nm7 p := rfl
  rw [e7]
  have h7 := nm7_n p
  have hd := nmDiv_pos (tkV_lo (s := (nm7 p).2) (b := 3) (by decide)) (tkV_hi (by decide))
  refine ss_cons (s_set 2 (e_div (j := nmDiv (tkV (nm7 p).2 3)) (e_mod (e_var 2 rfl) (e_add (e_var 1 rfl) e_int) (by omega)) (e_ixL (E.ol (e_lst (d_cons e_int (d_cons (e_pow e_int e_int ⟨by decide, by decide, by decide⟩) (d_cons (e_pow e_int e_int ⟨by decide, by decide, by decide⟩) d_nil))))) (e_take 0 (s := (nm7 p).2) GTake (hr.mono (by omega)) T.gTake T.FTake.kp T.bTake e_int ⟨_, rfl, rfl⟩ rfl) (at_i3 (tkV_lo (by decide)) (tkV_hi (by decide)))) (wide_div (by omega) hd.2 (by decide) (by decide))) ?_ (nl hB) scNumber.nd)
  refine ss_one (s_ret (e_ixL (E.ol (e_lst (d_cons (e_var 2 rfl) (d_cons (e_sub e_int (e_var 2 rfl)) d_nil)))) (e_take 0 (s := tkS (nm7 p).2 3) GTake (hr.mono (by omega)) T.gTake T.FTake.kp T.bTake e_int ⟨_, rfl, rfl⟩ rfl) (at_i2 (tkV_lo (by decide)) (tkV_hi (by decide)))) (pr_1 (ds := [.int m]) ?_ ?_))
  · unfold numV
    rw [if_neg hc']
    rfl
  · unfold numS
    rw [if_neg hc']
    rfl
theorem ok_polynomial {f : Addr} {fd : FuncData} {k : Nat} (F : Fun K "_law_polynomial" "_law_polynomial" sPolynomial f fd) (T : Txt K mg) : FnOk P w K mg base CX0 (k + 3) f fd ["_law_row", "_law_most", "_law_terms"] (spA K fPolynomial) := by
  have GNumber := ok_number (P := P) (w := w) (base := base) (k := 0) T.FNumber T
  have GTake := ok_take (P := P) (w := w) (base := base) (k := 0) T.FTake T
  refine fn_ok F scPolynomial (fun as r as' h => by obtain ⟨_, _, _, _, _, _, rfl, _⟩ := h; rfl) (by decide) [0] (fun as r as' h i a e o => by
    obtain ⟨_, _, _, _, _, _, rfl, _⟩ := h
    exact own_1 (ds := [_, _]) e o) (fun cdv A1 outer s H W B as r as' hr hf hB => ?_)
  obtain ⟨p, m, n, hn, hm, ⟨ht0, ht1⟩, rfl, rfl, rfl⟩ := hf
  have hm1 := hm.1
  have hm2 := hm.2
  have hmd : mostOk (m / 1000) := ⟨by omega, by omega⟩
  refine ss_cons (s_set 3 (e_lst d_nil) ?_ (nl hB) scPolynomial.nd)
  have hq := numS_n p (m / 1000)
  refine ss_cons (s_set 4 (e_call GNumber (hr.mono (by omega)) T.gNumber T.FNumber.kp T.bNumber (a_lent 0 rfl rfl (a_dat (e_div (e_var 1 rfl) e_int ⟨by decide, by decide⟩) a_nil)) ⟨p, m / 1000, ⟨by omega, by omega⟩, hmd, rfl, rfl, rfl⟩ shape_1 (show [0].Nodup by decide) (fun _ _ z => z.elim)) ?_ (nl hB) scPolynomial.nd)
  have hN := polyN_le (s := p) (m := m) ht0
  have h0 := pok_poly0 p m n
  refine ss_cons (s_forF encN (xs := List.range (polyN p m n)) (src_rN (E.to (e_take 0 (s := numS p (m / 1000)) GTake (hr.mono (by omega)) T.gTake T.FTake.kp T.bTake (e_add (e_var 2 rfl) e_int) ⟨_, rfl, rfl⟩ rfl (h0 := ⟨by omega, by omega⟩)) (congrArg PyData.int (Int.toNat_of_nonneg (tkV_lo (by omega))).symm)) T.z_range (by first | omega | (unfold polyN at hN; omega))) (poly0 p m n) (fun u _ => polyStep m u) (fun u => [rowA u.s, .d (.int m), .d (.int n), .ml (u.acc.map encT), .d (.int u.p), .any, .any]) (fun u i => POk m ((numS p (m / 1000)).2 + 1) i u) h0 (.eq (.eq (.eq (.eq (.eq (.eq (.eq .nil))))))) (fun u i x hi hJ => ?_) (fun ρ' hJ l => ?_))
  · have hj := (range_get hi).1
    have hl := hJ.len
    have hs := hJ.sn
    have hg := numS_n u.s m
    refine ⟨pok_step hm1 hJ, _, g_name 5 (nl hB) scPolynomial.nd, ?_⟩
    refine ss_cons (s_set 6 (e_call GNumber (hr.mono (by omega)) T.gNumber T.FNumber.kp T.bNumber (a_lent 0 rfl rfl (a_dat (e_var 1 rfl) a_nil)) ⟨u.s, m, ⟨by omega, by omega⟩, hm, rfl, rfl, rfl⟩ shape_1 (show [0].Nodup by decide) (fun _ _ z => z.elim)) ?_ (nl hB) scPolynomial.nd)
    refine ss_cons (s_ifR [rowA (numS u.s m), .d (.int m), .d (.int n), .ml ((if numV u.s m = 0 then u.acc else u.acc ++ [(u.p, numV u.s m)]).map encT), .d (.int u.p), .any, .any] (t_neI (e_var 6 rfl) e_int) (fun hc => ?_) (fun hc => ?_) (fun ρ' l => ?_))
    · refine ss_one (s_expr (e_app 3 (e_tup (d_cons (e_var 4 rfl) (d_cons (e_var 6 rfl) d_nil))) ⟨_, rfl⟩ rfl (by rw [List.length_map]; omega)) ?_)
      refine .eq (.eq (.eq (.ll ?_ (.eq (.any (.any .nil))))))
      rw [if_neg (by simpa using hc), List.map_append]
      rfl
    · refine ss_nil (.eq (.eq (.eq (.ll ?_ (.eq (.any (.any .nil)))))))
      rw [if_pos (by simpa using hc)]
    refine Ex.toLe ?_ l
    refine ss_one (s_set 4 (e_add (e_add (e_var 4 rfl) e_int) (e_ixL (v := .int (gapV (numS u.s m) m)) (E.ol (e_lst (d_cons e_int (d_cons e_int (d_cons (e_take 0 (s := numS u.s m) GTake (hr.mono (by omega)) T.gTake T.FTake.kp T.bTake e_int ⟨_, rfl, rfl⟩ rfl) (d_cons (e_take 0 (s := tkS (numS u.s m) 4) GTake (hr.mono (by omega)) T.gTake T.FTake.kp T.bTake (e_add e_int (e_div (e_var 1 rfl) e_int ⟨by decide, by decide⟩)) ⟨_, rfl, rfl⟩ rfl (h0 := ⟨by omega, by omega⟩)) d_nil)))))) (e_take 0 (s := tkS (tkS (numS u.s m) 4) (1 + m / 1000)) GTake (hr.mono (by omega)) T.gTake T.FTake.kp T.bTake e_int ⟨_, rfl, rfl⟩ rfl) (at_i4 (tkV_lo (by decide)) (tkV_hi (by decide))))) ?_ (nl hB) scPolynomial.nd)
    exact .eq (.eq (.eq (.eq (.eq (.any (.any .nil))))))
  refine Ex.toLe ?_ l
  exact ss_one (s_ret (e_tupL (o_slot 3 rfl) T.z_tuple) (pr_1 (ds := [.int m, .int n]) rfl rfl))
theorem ok_is_whole {f : Addr} {fd : FuncData} {k : Nat} (F : Fun K "is_whole" "is_whole" sIsWhole f fd) (T : Txt K mg) : FnOk P w K mg base CX0 (k + 1) f fd ["thing"] (spA K (pure_ fIsWhole)) := by
  refine fn_pure F scIsWhole (by decide) (fun ds r h => by obtain ⟨_, rfl, _⟩ := h; rfl) (fun cdv A1 outer s H W B ds r hr hf hB => ?_)
  obtain ⟨v, rfl, rfl⟩ := hf
  exact ss_one (s_ret (e_and (e_is .int (E.o (e_var 0 rfl)) T.z_isinstance T.z_int) (fun _ => e_one (e_not (e_is .bool (E.o (e_var 0 rfl)) T.z_isinstance T.z_bool)))) (pr_is (by rw [isWhole_eq])))
theorem ok_is_term {f : Addr} {fd : FuncData} {k : Nat} (F : Fun K "is_term" "is_term" sIsTerm f fd) (T : Txt K mg) : FnOk P w K mg base CX0 (k + 2) f fd ["thing"] (spA K (pure_ fIsTerm)) := by
  have GIsWhole := ok_is_whole (P := P) (w := w) (base := base) (k := 0) T.FIsWhole T
  refine fn_pure F scIsTerm (by decide) (fun ds r h => by obtain ⟨_, rfl, _⟩ := h; rfl) (fun cdv A1 outer s H W B ds r hr hf hB => ?_)
  obtain ⟨v, rfl, rfl⟩ := hf
  by_cases hv : ∃ x y : PyData, v = .tuple [x, y]
  · obtain ⟨x, y, rfl⟩ := hv
    refine ss_one (s_ret (e_and (e_is .tuple (E.o (e_var 0 rfl)) T.z_isinstance T.z_tuple) (fun _ => e_and (e_eqI (e_lenT (e_var 0 rfl) T.z_len) e_int) (fun _ => e_and (e_callP GIsWhole (hr.mono (by omega)) T.gIsWhole T.FIsWhole.kp T.bIsWhole (d_cons (e_ixT (v := x) (e_var 0 rfl) e_int rfl) d_nil) ⟨x, rfl, rfl⟩) (fun hx => e_and (c := isTermD (.tuple [x, y])) (e_callP GIsWhole (hr.mono (by omega)) T.gIsWhole T.FIsWhole.kp T.bIsWhole (d_cons (e_ixT (v := y) (e_var 0 rfl) e_int rfl) d_nil) ⟨y, rfl, rfl⟩) (fun hy => ?_))))) (pr_is ?_))
    · cases x <;> first | exact absurd hx Bool.false_ne_true | skip
      cases y <;> first | exact absurd hy Bool.false_ne_true | skip
      exact e_one (e_neI (e_ixT (e_var 0 rfl) e_int rfl) e_int)
    · cases x <;> cases y <;> first | rfl | (show A.d (.bool (true && (true && (true && (true && _))))) = _; simp only [Bool.true_and])
  · have hr : isTermD v = false := by
      unfold isTermD
      split
      · exact absurd ⟨_, _, rfl⟩ hv
      · rfl
    rw [hr]
    by_cases ht : ∃ xs, v = .tuple xs
    · obtain ⟨xs, rfl⟩ := ht
      have hl : ¬ (xs.length : Int) = 2 := fun z => by
        match xs, z with
        | [x, y], _ => exact hv ⟨x, y, rfl⟩
        | [], z => cases z
        | [_], z => cases z
        | _ :: _ :: _ :: l, z => simp at z; omega
      refine ss_one (s_ret (e_and (e_is .tuple (E.o (e_var 0 rfl)) T.z_isinstance T.z_tuple) (fun _ => e_and (c := false) (e_eqI (e_lenT (e_var 0 rfl) T.z_len) e_int) (fun z => absurd (of_decide_eq_true z) hl))) (pr_is ?_))
      rw [decide_eq_false hl]
      rfl
    · have hi : isi v .tuple = false := by
        cases v <;> first | rfl | exact absurd ⟨_, rfl⟩ ht
      refine ss_one (s_ret (e_and (c := false) (e_is .tuple (E.o (e_var 0 rfl)) T.z_isinstance T.z_tuple) (fun z => by rw [hi] at z; cases z)) (pr_is ?_))
      rw [hi]
      rfl
theorem ok_is_polynomial {f : Addr} {fd : FuncData} {k : Nat} (F : Fun K "is_polynomial" "is_polynomial" sIsPolynomial f fd) (T : Txt K mg) : FnOk P w K mg base CX0 (k + 3) f fd ["thing"] (spA K (pure_ fIsPoly)) := by
  have GIsTerm := ok_is_term (P := P) (w := w) (base := base) (k := 0) T.FIsTerm T
  refine fn_pure F scIsPolynomial (by decide) (fun ds r h => by obtain ⟨_, _, rfl, _⟩ := h; rfl) (fun cdv A1 outer s H W B ds r hr hf hB => ?_)
  obtain ⟨v, hlen, rfl, rfl⟩ := hf
  by_cases ht : ∃ xs, v = .tuple xs
  · obtain ⟨ds, rfl⟩ := ht
    have hlen := hlen ds rfl
    have hall : (ds.map isTermD).all id = ds.all isTermD := by rw [List.all_map]; rfl
    refine ss_cons (s_if (t_w (w_or (t_not (t_val (e_is .tuple (E.o (e_var 0 rfl)) T.z_isinstance T.z_tuple))) (fun _ => w_or1 (t_not (t_val (e_all (bs := ds.map isTermD) (EO.tol (E.ol (e_lcM (k := none) [("term", 1)] id (xs := ds) (fun d => .bool (isTermD d)) (by rw [List.map_id]; exact src_t (e_var 0 rfl)) scIsPolynomial.nd hlen (fun j u hu2 => ⟨_, fun s H C cl fp => gcn 1 rfl (by decide) scIsPolynomial.nd, fun s H C cl fp => e_callP GIsTerm (hr.mono (by omega)) T.gIsTerm T.FIsTerm.kp T.bIsTerm (d_cons (e_var 1 rfl) d_nil) ⟨u, rfl, rfl⟩, rfl⟩) rfl (fun _ z => nomatch z) (blkOk_by (N := nIsPolynomial) (sc := defScope sIsPolynomial) (by decide +kernel)))) (by rw [List.map_map]; rfl)) T.z_all)))))) (fun hc => ?_) (fun hc => ?_))
    · have hc : (!(ds.map isTermD).all id) = true := hc
      rw [hall] at hc
      refine ss_one (s_ret e_bl (pr_is ?_))
      show _ = A.d (.bool (ds.all isTermD && riseD ds))
      rw [show ds.all isTermD = false by simpa using hc]
      rfl
    have hc : (!(ds.map isTermD).all id) = false := hc
    rw [hall] at hc
    have hc : ds.all isTermD = true := by simpa using hc
    refine ss_nil ?_
    refine ss_cons (s_forS (fun p : PyData × PyData => .tuple [p.1, p.2]) (xs := ds.zip (ds.drop 1)) (src_zipT (e_var 0 rfl) (E.to (e_slT (e_var 0 rfl) (p_some e_int) p_none) (show PyData.tuple (cut ds (some ((1 : Nat) : Int)) none) = PyData.tuple (ds.drop 1) by rw [drop_cut])) T.z_zip) () (fun t => [.d (.tuple ds), .any, .any, .any]) (fun t i => ∀ j p, j < i → (ds.zip (ds.drop 1))[j]? = some p → powD p.1 < powD p.2) (fun j p z => absurd z (Nat.not_lt_zero j)) (Le.refl _) (fun t i x hi hJ => ?_) (fun t ρ' hJ l => ?_))
    · have hx := List.of_mem_zip (a := x.1) (b := x.2) (List.mem_of_getElem? hi)
      obtain ⟨a1, b1, e1, _⟩ := isTerm_of (List.all_eq_true.mp hc _ hx.1)
      obtain ⟨a2, b2, e2, _⟩ := isTerm_of (List.all_eq_true.mp hc _ (List.mem_of_mem_drop hx.2))
      obtain ⟨x1, x2⟩ := x
      dsimp only at e1 e2
      subst e1 e2
      refine ⟨_, g_tup (gs_cons (g_name 2 (nl hB) scIsPolynomial.nd) (gs_cons (g_name 3 (nl hB) scIsPolynomial.nd) gs_nil)), ?_⟩
      refine ss_one (s_if (t_ge (i := a1) (j := a2) (e_ixT (e_var 2 rfl) e_int rfl) (e_ixT (e_var 3 rfl) e_int rfl)) (fun hd => ?_) (fun hd => ?_))
      · have hge : a2 ≤ a1 := of_decide_eq_true hd
        refine ss_one (s_ret e_bl (pr_is ?_))
        show _ = A.d (.bool (ds.all isTermD && riseD ds))
        have : riseD ds = false := by
          cases hrs : riseD ds with
          | false => rfl
          | true =>
            unfold riseD at hrs
            rw [List.all_eq_true] at hrs
            have := of_decide_eq_true (hrs _ (List.mem_of_getElem? hi))
            have : a1 < a2 := this
            omega
        rw [this, Bool.and_false]
      · have hlt : ¬ a2 ≤ a1 := of_decide_eq_false hd
        refine ss_nil ⟨(), fun j p hj hp => ?_, .eq (.any (.any (.any .nil)))⟩
        by_cases hji : j = i
        · subst hji
          rw [hi] at hp
          cases hp
          exact show a1 < a2 by omega
        · exact hJ j p (by omega) hp
    refine Ex.toLe ?_ l
    refine ss_one (s_ret e_bl (pr_is ?_))
    show _ = A.d (.bool (ds.all isTermD && riseD ds))
    rw [hc]
    have : riseD ds = true := by
      unfold riseD
      rw [List.all_eq_true]
      intro p hp
      obtain ⟨j, hj⟩ := List.getElem?_of_mem hp
      exact decide_eq_true (hJ j p (List.getElem?_eq_some_iff.mp hj).1 hj)
    rw [this]
    rfl
  · have hi : isi v .tuple = false := by
      cases v <;> first | rfl | exact absurd ⟨_, rfl⟩ ht
    have hp : isPolyD v = false := by
      cases v <;> first | rfl | exact absurd ⟨_, rfl⟩ ht
    rw [hp]
    refine ss_cons (s_if (t_w (w_or (c := true) (t_not (t_val (e_is .tuple (E.o (e_var 0 rfl)) T.z_isinstance T.z_tuple))) (fun z => by rw [hi] at z; cases z))) (fun hc => ?_) (fun hc => ?_))
    · exact ss_one (s_ret e_bl (pr_is rfl))
    · rw [hi] at hc
      cases hc
theorem ok_shown_term {f : Addr} {fd : FuncData} {k : Nat} (F : Fun K "shown_term" "shown_term" sShownTerm f fd) (T : Txt K mg) : FnOk P w K mg base CX0 (k + 1) f fd ["power", "number"] (spA K (pure_ fShownTerm)) := by
  refine fn_pure F scShownTerm (by decide) (fun ds r h => by obtain ⟨_, _, rfl, _⟩ := h; rfl) (fun cdv A1 outer s H W B ds r hr hf hB => ?_)
  obtain ⟨⟨p, n⟩, hb, rfl, rfl⟩ := hf
  obtain ⟨hp, hn⟩ := hb
  have hp : p.natAbs < 10 ^ 60 := hp
  have hn : n.natAbs < 10 ^ 60 := hn
  have hnz : (((n.natAbs : Nat) : Int)).natAbs.log2 < 1920 := by rw [Int.natAbs_natCast]; exact lg hn
  have l1 := intL_61 hp
  have l2 := numL_60 hn
  refine ss_cons (s_if (t_eqI (e_var 0 rfl) e_int) (fun hc => ?_) (fun hc => ss_nil ?_))
  · have hc : p = 0 := of_decide_eq_true hc
    subst hc
    refine ss_one (s_ret (E.to (e_strI (e_abs (e_var 1 rfl) T.z_abs) hnz T.z_str) (congrArg PyData.str (natS_eq n.natAbs))) (pr_is ?_))
    have e : bodyL 0 n = numL n.natAbs := by
      unfold bodyL headL
      rw [if_neg (by rintro ⟨h, _⟩; exact h rfl), if_pos rfl, List.append_nil]
    show _ = A.d (.str (mkS (bodyL 0 n)))
    rw [e]
  have hc : p ≠ 0 := of_decide_eq_false hc
  refine ss_cons (s_set 2 e_str ?_ (nl hB) scShownTerm.nd)
  refine ss_cons (s_ifR [.d (.int p), .d (.int n), .d (.str (mkS (120 :: powL p)))] (t_neI (e_var 0 rfl) e_int) (fun hc1 => ?_) (fun hc1 => ?_) (fun ρ' l => ?_))
  · have h1 : p ≠ 1 := by simpa using hc1
    refine ss_one (s_set 2 (E.to (e_addS e_str (E.to (e_strI (e_var 0 rfl) (lg hp) T.z_str) (congrArg PyData.str (str_int p))) (by rw [mkS_len]; show 2 + _ ≤ _; omega)) (w := .str (mkS (120 :: powL p))) (congrArg PyData.str ?he)) (Le.refl _) (nl hB) scShownTerm.nd)
    case he =>
      unfold powL
      rw [if_neg h1]
      exact mkS_app [120, 94] (intL p)
  · have h1 : p = 1 := by simpa using hc1
    refine ss_nil (.eq (.eq (.dd ?_ .nil)))
    unfold powL
    rw [if_pos h1]
    rfl
  refine Ex.toLe ?_ l
  have l3 : (powL p).length ≤ 62 := by
    unfold powL
    split
    · exact Nat.zero_le _
    · rw [List.length_cons]; omega
  refine ss_cons (s_if (t_eqI (e_abs (e_var 1 rfl) T.z_abs) e_int) (fun hc2 => ?_) (fun hc2 => ss_nil ?_))
  · have h2 : n.natAbs = 1 := by have := of_decide_eq_true hc2; omega
    refine ss_one (s_ret (e_var 2 rfl) (pr_is ?_))
    show _ = A.d (.str (mkS (bodyL p n)))
    unfold bodyL headL
    rw [if_pos ⟨hc, h2⟩, if_neg hc]
    rfl
  · have h2 : n.natAbs ≠ 1 := by have := of_decide_eq_false hc2; omega
    refine ss_one (s_ret (E.to (e_addS (E.to (e_strI (e_abs (e_var 1 rfl) T.z_abs) hnz T.z_str) (congrArg PyData.str (natS_eq n.natAbs))) (e_var 2 rfl) (by rw [mkS_len, mkS_len, List.length_cons]; omega)) (w := .str (mkS (bodyL p n))) (congrArg PyData.str ?he)) (pr_is rfl))
    case he =>
      rw [mkS_app]
      unfold bodyL headL
      rw [if_neg (by rintro ⟨_, z⟩; exact h2 z), if_neg hc]
theorem ok_shown {f : Addr} {fd : FuncData} {k : Nat} (F : Fun K "shown_polynomial" "shown_polynomial" sShownPolynomial f fd) (T : Txt K mg) : FnOk P w K mg base CX0 (k + 2) f fd ["one"] (spA K (pure_ fShown)) := by
  have GShownTerm := ok_shown_term (P := P) (w := w) (base := base) (k := 0) T.FShownTerm T
  refine fn_pure F scShownPolynomial (by decide) (fun ds r h => by obtain ⟨_, _, _, rfl, _⟩ := h; rfl) (fun cdv A1 outer s H W B ds r hr hf hB => ?_)
  obtain ⟨l, hl, hb, rfl, rfl⟩ := hf
  have hu := hr.units
  have heq : PyData.eqv (encP l) (.tuple []) = decide (l = []) := eqE_P l []
  refine ss_cons (s_if (t_eqD (hr := hu) (E.o (e_var 0 rfl)) (E.o (e_tup d_nil)) (fit_P (n := 0) l).shaped rfl) (fun hc => ?_) (fun hc => ss_nil ?_))
  · rw [heq] at hc
    have hc := of_decide_eq_true hc
    subst hc
    exact ss_one (s_ret e_str (pr_is rfl))
  rw [heq] at hc
  have hne : l ≠ [] := of_decide_eq_false hc
  refine ss_cons (s_set 1 e_str ?_ (nl hB) scShownPolynomial.nd)
  refine ss_cons (s_forF encT (xs := l) (src_t (e_var 0 rfl)) ([] : List Nat) shStep (fun t => [.d (encP l), .d (.str (mkS t)), .any, .any, .any]) (fun t i => t.length ≤ 133 * i ∧ Asc t) ⟨Nat.le_refl _, asc_nil⟩ (.eq (.eq (.any (.any (.any .nil))))) (fun t i x hi hJ => ?_) (fun ρ' hJ l2 => ?_))
  · have hi' := (List.getElem?_eq_some_iff.mp hi).1
    have hx := hb x (List.mem_of_getElem? hi)
    have h1 := sh_len [x] t (133 * i) (fun u hu => by rw [List.mem_singleton] at hu; rw [hu]; exact hx) hJ.1
    have h2 := bodyL_len hx
    have hA : Asc t := hJ.2
    have hJ : t.length ≤ 133 * i := hJ.1
    refine ⟨⟨by show (shStep t x).length ≤ 133 * (i + 1); have : (List.foldl shStep t [x]).length = (shStep t x).length := rfl; rw [List.length_singleton] at h1; omega, asc_step hA x⟩, _, g_tup (gs_cons (g_name 2 (nl hB) scShownPolynomial.nd) (gs_cons (g_name 3 (nl hB) scShownPolynomial.nd) gs_nil)), ?_⟩
    refine ss_cons (s_set 4 (e_if (t_lt (e_var 3 rfl) e_int) (fun hb => E.to e_str (w := .str (mkS (if x.2 < 0 then [45] else []))) (by rw [if_pos (of_decide_eq_true hb)]; rfl)) (fun hb => E.to e_str (by rw [if_neg (of_decide_eq_false hb)]; rfl))) ?_ (nl hB) scShownPolynomial.nd)
    have hst : PyData.eqv (.str (mkS t)) (.str (mkS [])) = decide (t = []) := by
      rw [eqE_str (mkS t) (mkS [])]
      rw [Bool.eq_iff_iff, decide_eq_true_iff, decide_eq_true_iff]
      exact ⟨fun h => mkS_inj h, fun h => by rw [h]⟩
    refine ss_cons (s_ifR [.d (encP l), .d (.str (mkS t)), .d (.int x.1), .d (.int x.2), .d (.str (mkS (if t = [] then (if x.2 < 0 then [45] else []) else [32, sgL x.2, 32])))] (t_neD (hr := hu) (E.o (e_var 1 rfl)) (E.o e_str) (asc_ok hA) (asc_ok asc_nil)) (fun hc => ?_) (fun hc => ?_) (fun ρ' l2 => ?_))
    · have hc : (!PyData.eqv (.str (mkS t)) (.str (mkS []))) = true := hc
      rw [hst, Bool.not_eq_true', decide_eq_false_iff_not] at hc
      rw [if_neg hc]
      exact ss_one (s_set 4 (e_if (t_lt (e_var 3 rfl) e_int) (fun hb => E.to e_str (w := .str (mkS [32, sgL x.2, 32])) (by unfold sgL; rw [if_pos (of_decide_eq_true hb)]; rfl)) (fun hb => E.to e_str (by unfold sgL; rw [if_neg (of_decide_eq_false hb)]; rfl))) (Le.refl _) (nl hB) scShownPolynomial.nd)
    · have hc : (!PyData.eqv (.str (mkS t)) (.str (mkS []))) = false := hc
      rw [hst, Bool.not_eq_false', decide_eq_true_iff] at hc
      rw [if_pos hc]
      exact ss_nil (Le.refl _)
    refine Ex.toLe ?_ l2
    have h3 : (if t = [] then (if x.2 < 0 then [45] else []) else [32, sgL x.2, 32] : List Nat).length ≤ 3 := by
      split
      · split <;> decide
      · exact Nat.le_refl _
    refine ss_one (s_set 1 (E.to (e_addS (E.to (e_addS (e_var 1 rfl) (e_var 4 rfl) (by rw [mkS_len, mkS_len]; omega)) (congrArg PyData.str (mkS_app _ _))) (e_callP GShownTerm (hr.mono (by omega)) T.gShownTerm T.FShownTerm.kp T.bShownTerm (d_cons (e_var 2 rfl) (d_cons (e_var 3 rfl) d_nil)) ⟨x, hx, rfl, rfl⟩) (by rw [mkS_len, mkS_len, List.length_append]; omega)) (w := .str (mkS (shStep t x))) (congrArg PyData.str (mkS_app _ _))) ?_ (nl hB) scShownPolynomial.nd)
    exact .eq (.eq (.any (.any (.any .nil))))
  refine Ex.toLe ?_ l2
  refine ss_one (s_ret (e_var 1 rfl) (pr_is ?_))
  cases l with
  | nil => exact absurd rfl hne
  | cons t l => rw [sh_all]
theorem ok_init {f : Addr} {fd : FuncData} {k : Nat} {C : Addr} (F : Fun K "__init__" "NoText.__init__" sINoText f fd) : FnOk P w K mg base (L2.CX P w) (k + 1) f fd ["self", "at"] (spI K C "at") := fn_init F scINoText rfl
theorem ok_number_of {f : Addr} {fd : FuncData} {k : Nat} (F : Fun K "number_of" "number_of" sNumberOf f fd) (T : Txt K mg) : FnOk P w K mg base (L2.CX P w) (k + 3) f fd ["word"] (spX K (RD (rNum T.CNoText))) := by
  have GInit := ok_init (P := P) (w := w) (mg := mg) (base := base) (k := 0) (C := T.CNoText) T.FNoText
  refine fn_x F scNumberOf (by decide) (fun as r h => by obtain ⟨_, rfl, _, _, _, rfl, _⟩ := h; rfl) (fun cdv A1 outer s H W0 B as res hr hf hB Z => ?_)
  obtain ⟨_, rfl, l, hA, hl, rfl, hres⟩ := hf
  have hp := Z.ps
  have hall : (l.map fun c => decide (c ∈ (("0123456789" : Str)).cps.toList)) = l.map isDig := List.map_congr_left fun c _ => dig_in c
  refine ss_cons (s_if (t_w (w_or (t_not (t_chII e_int (E.to (e_lenS (e_var 0 rfl) (by rw [mkS_len]; omega) T.z_len) (congrArg (fun n : Nat => PyData.int (n : Int)) (mkS_len l))) (e_glob T.c_MOST_FIGURES))) (fun _ => w_or1 (t_not (t_val (e_all (bs := l.map isDig) (E.ol (E.toA (e_lcM [("sign", 1)] (fun c : Nat => PyData.str ⟨#[c]⟩) (xs := l) (fun c => PyData.bool (decide (c ∈ (("0123456789" : Str)).cps.toList))) (src_str (e_var 0 rfl)) scNumberOf.nd (by omega) (fun i c hc => ⟨_, fun s H C cl fp => gcn 1 rfl (by decide) scNumberOf.nd, fun s H C cl fp => e_in1 (e_var 1 rfl) (e_glob T.c_FIGURES), rfl⟩) rfl (fun _ z => nomatch z) (blkOk_by (N := nNumberOf) (sc := defScope sNumberOf) (by decide +kernel))) (by rw [← hall, List.map_map]; rfl))) T.z_all)))))) (fun hc => ?_) (fun hc => ss_nil ?_))
  · refine ss_one (s_raiseZ Z ?_ e_int T.oNoText T.nNoText T.jNoText T.tNoText GInit (hr.mono (by omega)) T.bNoText T.gNoText)
    rw [hres]
    have hc : (!(decide ((1 : Int) ≤ (l.length : Nat)) && decide (((l.length : Nat) : Int) ≤ 60)) || !(l.map isDig).all id) = true := hc
    rw [map_all] at hc
    have : numF l = none := by
      unfold numF
      rw [if_neg]
      rintro ⟨⟨h1, h2⟩, h3⟩
      rw [decide_eq_true (show (1 : Int) ≤ (l.length : Nat) by omega), decide_eq_true (show ((l.length : Nat) : Int) ≤ 60 by omega), h3] at hc
      cases hc
    rw [this]
    rfl
  · have hc : (!(decide ((1 : Int) ≤ (l.length : Nat)) && decide (((l.length : Nat) : Int) ≤ 60)) || !(l.map isDig).all id) = false := hc
    rw [map_all, Bool.or_eq_false_iff, Bool.not_eq_false', Bool.not_eq_false', Bool.and_eq_true, decide_eq_true_iff, decide_eq_true_iff] at hc
    obtain ⟨⟨h1, h2⟩, h3⟩ := hc
    have hn : numF l = some (NumText.digitsVal l) := by
      unfold numF
      rw [if_pos ⟨⟨by omega, by omega⟩, h3⟩]
    have hd : NumText.AllDigits (mkS l).cps.toList := fun c hc => of_decide_eq_true (List.all_eq_true.mp h3 c hc)
    have hi : PySem.intText? (mkS l) = some ((NumText.digitsVal l : Nat) : Int) := PySem.intText_digits (x := mkS l) hd (fun z => by have z : l = [] := z; rw [z] at h1; exact absurd h1 (by decide)) (by rw [mkS_len]; omega)
    refine ss_one (s_ret (e_intS (e_var 0 rfl) hi (by rw [mkS_len]; omega) T.z_int) ?_)
    show res = _
    rw [hres, hn]
    rfl
theorem ok_power_of {f : Addr} {fd : FuncData} {k : Nat} (F : Fun K "power_of" "power_of" sPowerOf f fd) (T : Txt K mg) : FnOk P w K mg base (L2.CX P w) (k + 4) f fd ["word"] (spX K (RD (rPow T.CNoText))) := by
  have GInit := ok_init (P := P) (w := w) (mg := mg) (base := base) (k := 0) (C := T.CNoText) T.FNoText
  have GNumberOf := ok_number_of (P := P) (w := w) (base := base) (k := 0) T.FNumberOf T
  refine fn_x F scPowerOf (by decide) (fun as r h => by obtain ⟨_, rfl, _, _, _, rfl, _⟩ := h; rfl) (fun cdv A1 outer s H W0 B as res hr hf hB Z => ?_)
  obtain ⟨_, rfl, l, hA, hl, rfl, hres⟩ := hf
  have hu := hr.units
  have hcl : (mkS l).length ≤ 16777216 := by rw [mkS_len]; omega
  refine ss_cons (s_if (t_eqD (hr := hu) (E.o (e_var 0 rfl)) (E.o e_str) (asc_ok hA) (asc_ok asc_nil)) (fun hc => ?_) (fun hc => ss_nil ?_))
  · have hc : PyData.eqv (.str (mkS l)) (.str (mkS [])) = true := hc
    rw [eqv_str, decide_eq_true_iff] at hc
    refine ss_one (s_ret e_int ?_)
    show res = _
    rw [hres, hc]
    rfl
  have hc : PyData.eqv (.str (mkS l)) (.str (mkS [])) = false := hc
  rw [eqv_str, decide_eq_false_iff_not] at hc
  obtain ⟨c, r, rfl⟩ : ∃ c r, l = c :: r := by
    cases l with
    | nil => exact absurd rfl hc
    | cons c r => exact ⟨c, r, rfl⟩
  have hp : powF (c :: r) = if c ≠ 94 then none else if r.take 1 = [45] then (numF (r.drop 1)).map fun n : Nat => 0 - (n : Int) else (numF r).map fun n : Nat => (n : Int) := by
    unfold powF
    rw [if_neg (List.cons_ne_nil _ _)]
    by_cases h : c = 94
    · subst h
      rw [if_neg (show ¬ List.take 1 (94 :: r) ≠ [94] from fun z => z rfl), if_neg (show ¬ (94 : Nat) ≠ 94 from fun z => z rfl)]
      rfl
    · rw [if_pos (fun z => by injection z with z _; exact h z), if_pos h]
  have hAr : Asc r := fun x hx => hA x (List.mem_cons_of_mem _ hx)
  have hlr : r.length ≤ 4000 := by rw [List.length_cons] at hl; omega
  refine ss_cons (s_if (t_neD (hr := hu) (E.o (E.to (e_ixS (c := c) (e_var 0 rfl) e_int (by decide) (by rw [mkS_len, List.length_cons]; omega) hcl rfl) (w := .str (mkS [c])) rfl)) (E.o e_str) (asc_ok (l := [c]) (asc_cons (hA c List.mem_cons_self) asc_nil)) (asc_ok (l := [94]) (asc_cons (by decide) asc_nil))) (fun hc => ?_) (fun hc => ss_nil ?_))
  · have hc : (!PyData.eqv (.str (mkS [c])) (.str (mkS [94]))) = true := hc
    rw [eqv_str, Bool.not_eq_true', decide_eq_false_iff_not] at hc
    refine ss_one (s_raiseZ Z ?_ e_int T.oNoText T.nNoText T.jNoText T.tNoText GInit (hr.mono (by omega)) T.bNoText T.gNoText)
    rw [hres, hp, if_pos fun z => hc (by rw [z])]
    rfl
  have hc : (!PyData.eqv (.str (mkS [c])) (.str (mkS [94]))) = false := hc
  rw [eqv_str, Bool.not_eq_false', decide_eq_true_iff] at hc
  have hc94 : c = 94 := by injection hc
  rw [if_neg (fun z => z hc94)] at hp
  have hc1 : cutS (mkS (c :: r)) (some 1) (some 2) = mkS (r.take 1) := cut_len (c :: r) 1 2
  have hc2 : cutS (mkS (c :: r)) (some 2) none = mkS (r.drop 1) := cut_tail (c :: r) 2
  have hc3 : cutS (mkS (c :: r)) (some 1) none = mkS r := cut_tail (c :: r) 1
  refine ss_cons (s_if (t_eqD (hr := hu) (E.o (E.to (e_slS (e_var 0 rfl) (p_some e_int) (p_some e_int) hcl) (congrArg PyData.str hc1))) (E.o e_str) (asc_ok fun x hx => hAr x (List.mem_of_mem_take hx)) (asc_ok (l := [45]) (asc_cons (by decide) asc_nil))) (fun hc => ?_) (fun hc => ss_nil ?_))
  · have hc : PyData.eqv (.str (mkS (r.take 1))) (.str (mkS [45])) = true := hc
    rw [eqv_str, decide_eq_true_iff] at hc
    rw [if_pos hc] at hp
    have hAd : Asc (r.drop 1) := fun x hx => hAr x (List.mem_of_mem_drop hx)
    have hld : (r.drop 1).length ≤ 4000 := by rw [List.length_drop]; omega
    cases hn : numF (r.drop 1) with
    | none =>
      rw [hn] at hp
      exact ss_one (s_retZ Z (er := noT T.CNoText) (by rw [hres, hp]; rfl) (r_op2 op_sub e_int (r_call GNumberOf (hr.mono (by omega)) T.gNumberOf T.FNumberOf.kp T.bNumberOf (d_cons (E.to (e_slS (e_var 0 rfl) (p_some e_int) p_none hcl) (congrArg PyData.str hc2)) d_nil) ⟨_, hAd, hld, rfl, by rw [hn]; rfl⟩ Z.tk)))
    | some n =>
      rw [hn] at hp
      refine ss_one (s_ret (e_sub e_int (e_okX GNumberOf (hr.mono (by omega)) T.gNumberOf T.FNumberOf.kp T.bNumberOf (d_cons (E.to (e_slS (e_var 0 rfl) (p_some e_int) p_none hcl) (congrArg PyData.str hc2)) d_nil) (a := .d (.int (n : Nat))) ⟨_, hAd, hld, rfl, by rw [hn]; rfl⟩)) ?_)
      show res = _
      rw [hres, hp]
      rfl
  · have hc : PyData.eqv (.str (mkS (r.take 1))) (.str (mkS [45])) = false := hc
    rw [eqv_str, decide_eq_false_iff_not] at hc
    rw [if_neg hc] at hp
    cases hn : numF r with
    | none =>
      rw [hn] at hp
      exact ss_one (s_retZ Z (er := noT T.CNoText) (by rw [hres, hp]; rfl) (r_call GNumberOf (hr.mono (by omega)) T.gNumberOf T.FNumberOf.kp T.bNumberOf (d_cons (E.to (e_slS (e_var 0 rfl) (p_some e_int) p_none hcl) (congrArg PyData.str hc3)) d_nil) ⟨_, hAr, hlr, rfl, by rw [hn]; rfl⟩ Z.tk))
    | some n =>
      rw [hn] at hp
      refine ss_one (s_ret (e_okX GNumberOf (hr.mono (by omega)) T.gNumberOf T.FNumberOf.kp T.bNumberOf (d_cons (E.to (e_slS (e_var 0 rfl) (p_some e_int) p_none hcl) (congrArg PyData.str hc3)) d_nil) (a := .d (.int (n : Nat))) ⟨_, hAr, hlr, rfl, by rw [hn]; rfl⟩) ?_)
      show res = _
      rw [hres, hp]
      rfl
theorem ok_term_of {f : Addr} {fd : FuncData} {k : Nat} (F : Fun K "term_of" "term_of" sTermOf f fd) (T : Txt K mg) : FnOk P w K mg base (L2.CX P w) (k + 5) f fd ["word", "sign"] (spX K (RD (rTerm T.CNoText))) := by
  have GNumberOf := ok_number_of (P := P) (w := w) (base := base) (k := 0) T.FNumberOf T
  have GPowerOf := ok_power_of (P := P) (w := w) (base := base) (k := 0) T.FPowerOf T
  refine fn_x F scTermOf (by decide) (fun as r h => by obtain ⟨_, rfl, _, _, _, _, _, rfl, _⟩ := h; rfl) (fun cdv A1 outer s H W0 B as res hr hf hB Z => ?_)
  obtain ⟨_, rfl, l, sg, hA, hl, hs, rfl, hres⟩ := hf
  have hu := hr.units
  have hmul : ∀ n : Nat, CMul sg (n : Int) := fun n => .inl ⟨by rcases hs with rfl | rfl <;> decide, by rcases hs with rfl | rfl <;> decide⟩
  have hpc := part_cut 120 l
  cases hq : cutX 120 l with
  | none =>
    rw [hq] at hpc
    have hpc : Txt.partition (mkS l) ("x" : Str) = (mkS l, mkS [], mkS []) := hpc
    refine ss_cons (s_asgT (E.to (e_partS (e_var 0 rfl) e_str (by decide) (by rw [mkS_len]; omega)) (w := .tuple [.str (mkS l), .str (mkS []), .str (mkS [])]) (by rw [hpc])) (g_tup (gs_cons (g_name 2 (nl hB) scTermOf.nd) (gs_cons (g_name 3 (nl hB) scTermOf.nd) (gs_cons (g_name 4 (nl hB) scTermOf.nd) gs_nil)))) ?_)
    refine ss_cons (s_if (t_eqD (hr := hu) (E.o (e_var 3 rfl)) (E.o e_str) (asc_ok asc_nil) (asc_ok asc_nil)) (fun hc => ?_) (fun hc => ?_))
    · have ht : termF l sg = (numF l).map fun n : Nat => ((0 : Int), sg * (n : Int)) := by unfold termF; rw [hq]
      cases hn : numF l with
      | none =>
        rw [hn] at ht
        exact ss_one (s_retZ Z (er := noT T.CNoText) (by rw [hres, ht]; rfl) (r_tup (d_r1 e_int (d_r0 (r_op2 op_mul (e_var 1 rfl) (r_call GNumberOf (hr.mono (by omega)) T.gNumberOf T.FNumberOf.kp T.bNumberOf (d_cons (e_var 2 rfl) d_nil) ⟨_, hA, hl, rfl, by rw [hn]; rfl⟩ Z.tk))))))
      | some n =>
        rw [hn] at ht
        refine ss_one (s_ret (e_tup (d_cons e_int (d_cons (e_mulS (e_var 1 rfl) (e_okX GNumberOf (hr.mono (by omega)) T.gNumberOf T.FNumberOf.kp T.bNumberOf (d_cons (e_var 2 rfl) d_nil) (a := .d (.int (n : Nat))) ⟨_, hA, hl, rfl, by rw [hn]; rfl⟩) (hmul n)) d_nil))) ?_)
        show res = _
        rw [hres, ht]
        rfl
    · have hc : PyData.eqv (.str (mkS [])) (.str (mkS [])) = false := hc
      rw [eqv_str] at hc
      cases hc
  | some ab =>
    obtain ⟨a, b⟩ := ab
    obtain ⟨hw, _⟩ := cutX_some hq
    have hAa : Asc a := fun x hx => hA x (by rw [hw]; exact List.mem_append_left _ hx)
    have hAb : Asc b := fun x hx => hA x (by rw [hw]; exact List.mem_append_right _ (List.mem_cons_of_mem _ hx))
    have hlab : l.length = a.length + (b.length + 1) := by rw [hw, List.length_append, List.length_cons]
    rw [hq] at hpc
    have hpc : Txt.partition (mkS l) ("x" : Str) = (mkS a, mkS [120], mkS b) := hpc
    refine ss_cons (s_asgT (E.to (e_partS (e_var 0 rfl) e_str (by decide) (by rw [mkS_len]; omega)) (w := .tuple [.str (mkS a), .str (mkS [120]), .str (mkS b)]) (by rw [hpc])) (g_tup (gs_cons (g_name 2 (nl hB) scTermOf.nd) (gs_cons (g_name 3 (nl hB) scTermOf.nd) (gs_cons (g_name 4 (nl hB) scTermOf.nd) gs_nil)))) ?_)
    refine ss_cons (s_if (t_eqD (hr := hu) (E.o (e_var 3 rfl)) (E.o e_str) (asc_ok (l := [120]) (asc_cons (by decide) asc_nil)) (asc_ok asc_nil)) (fun hc => ?_) (fun hc => ss_nil ?_))
    · have hc : PyData.eqv (.str (mkS [120])) (.str (mkS [])) = true := hc
      rw [eqv_str] at hc
      cases hc
    refine ss_cons (s_if (t_eqD (hr := hu) (E.o (e_var 2 rfl)) (E.o e_str) (asc_ok hAa) (asc_ok asc_nil)) (fun hc => ?_) (fun hc => ss_nil ?_))
    · have hc : PyData.eqv (.str (mkS a)) (.str (mkS [])) = true := hc
      rw [eqv_str, decide_eq_true_iff] at hc
      have ht : termF l sg = (powF b).map fun p => (p, sg) := by
        unfold termF
        rw [hq]
        show (if a = [] then _ else _) = _
        rw [if_pos hc]
      cases hn : powF b with
      | none =>
        rw [hn] at ht
        exact ss_one (s_retZ Z (er := noT T.CNoText) (by rw [hres, ht]; rfl) (r_tup (d_r0 (r_call GPowerOf (hr.mono (by omega)) T.gPowerOf T.FPowerOf.kp T.bPowerOf (d_cons (e_var 4 rfl) d_nil) ⟨_, hAb, by omega, rfl, by rw [hn]; rfl⟩ Z.tk))))
      | some p =>
        rw [hn] at ht
        refine ss_one (s_ret (e_tup (d_cons (e_okX GPowerOf (hr.mono (by omega)) T.gPowerOf T.FPowerOf.kp T.bPowerOf (d_cons (e_var 4 rfl) d_nil) (a := .d (.int p)) ⟨_, hAb, by omega, rfl, by rw [hn]; rfl⟩) (d_cons (e_var 1 rfl) d_nil))) ?_)
        show res = _
        rw [hres, ht]
        rfl
    · have hc : PyData.eqv (.str (mkS a)) (.str (mkS [])) = false := hc
      rw [eqv_str, decide_eq_false_iff_not] at hc
      have ht : termF l sg = (match powF b with | none => none | some p => (numF a).map fun n : Nat => (p, sg * (n : Int))) := by
        unfold termF
        rw [hq]
        show (if a = [] then _ else _) = _
        rw [if_neg hc]
      cases hn : powF b with
      | none =>
        rw [hn] at ht
        exact ss_one (s_retZ Z (er := noT T.CNoText) (by rw [hres, ht]; rfl) (r_tup (d_r0 (r_call GPowerOf (hr.mono (by omega)) T.gPowerOf T.FPowerOf.kp T.bPowerOf (d_cons (e_var 4 rfl) d_nil) ⟨_, hAb, by omega, rfl, by rw [hn]; rfl⟩ Z.tk))))
      | some p =>
        rw [hn] at ht
        cases hm : numF a with
        | none =>
          rw [hm] at ht
          exact ss_one (s_retZ Z (er := noT T.CNoText) (by rw [hres, ht]; rfl) (r_tup (d_r1 (e_okX GPowerOf (hr.mono (by omega)) T.gPowerOf T.FPowerOf.kp T.bPowerOf (d_cons (e_var 4 rfl) d_nil) (a := .d (.int p)) ⟨_, hAb, by omega, rfl, by rw [hn]; rfl⟩) (d_r0 (r_op2 op_mul (e_var 1 rfl) (r_call GNumberOf (hr.mono (by omega)) T.gNumberOf T.FNumberOf.kp T.bNumberOf (d_cons (e_var 2 rfl) d_nil) ⟨_, hAa, by omega, rfl, by rw [hm]; rfl⟩ Z.tk))))))
        | some n =>
          rw [hm] at ht
          refine ss_one (s_ret (e_tup (d_cons (e_okX GPowerOf (hr.mono (by omega)) T.gPowerOf T.FPowerOf.kp T.bPowerOf (d_cons (e_var 4 rfl) d_nil) (a := .d (.int p)) ⟨_, hAb, by omega, rfl, by rw [hn]; rfl⟩) (d_cons (e_mulS (e_var 1 rfl) (e_okX GNumberOf (hr.mono (by omega)) T.gNumberOf T.FNumberOf.kp T.bNumberOf (d_cons (e_var 2 rfl) d_nil) (a := .d (.int (n : Nat))) ⟨_, hAa, by omega, rfl, by rw [hm]; rfl⟩) (hmul n)) d_nil))) ?_)
          show res = _
          rw [hres, ht]
          rfl
theorem ok_terms_of {f : Addr} {fd : FuncData} {k : Nat} (F : Fun K "terms_of" "terms_of" sTermsOf f fd) (T : Txt K mg) (Z0 : Sg K w mg) : FnOk P w K mg base (L2.CX P w) (k + 6) f fd ["text"] (spX K (RD (rTerms T.CNoText))) := by
  have GInit := ok_init (P := P) (w := w) (mg := mg) (base := base) (k := 0) (C := T.CNoText) T.FNoText
  have GTermOf := ok_term_of (P := P) (w := w) (base := base) (k := 0) T.FTermOf T
  refine fn_x F scTermsOf (by decide) (fun as r h => by obtain ⟨_, rfl, _, _, _, rfl, _⟩ := h; rfl) (fun cdv A1 outer s H W0 B as res hr hf hB Z => ?_)
  obtain ⟨_, rfl, l, hA, hl, rfl, hres⟩ := hf
  have hu := hr.units
  have hcl : (mkS l).length ≤ 16777216 := by rw [mkS_len]; omega
  have hc1 : cutS (mkS l) none (some 1) = mkS (l.take 1) := cut_head l 1
  have hc2 : cutS (mkS l) (some 1) none = mkS (l.drop 1) := cut_tail l 1
  have hA1 : Asc (l.take 1) := fun c hc => hA c (List.mem_of_mem_take hc)
  refine ss_cons (s_set 1 e_str ?_ (nl hB) scTermsOf.nd)
  refine ss_cons (s_ifR [.d (.str (mkS (bdF l))), .d (.str (mkS [sgF l])), .any, .any, .any, .any] (t_eqD (hr := hu) (E.o (E.to (e_slS (e_var 0 rfl) p_none (p_some e_int) hcl) (congrArg PyData.str hc1))) (E.o e_str) (asc_ok hA1) (asc_ok (l := [45]) (asc_cons (by decide) asc_nil))) (fun hc => ?_) (fun hc => ?_) (fun ρ' l2 => ?_))
  · have hc : PyData.eqv (.str (mkS (l.take 1))) (.str (mkS [45])) = true := hc
    rw [eqv_str, decide_eq_true_iff] at hc
    refine ss_cons (s_set 1 e_str ?_ (nl hB) scTermsOf.nd)
    refine ss_one (s_set 0 (E.to (e_slS (e_var 0 rfl) (p_some e_int) p_none hcl) (congrArg PyData.str hc2)) ?_ (nl hB) scTermsOf.nd)
    refine .dd ?_ (.dd ?_ (.any (.any (.any (.any .nil)))))
    · unfold bdF
      rw [if_pos hc]
    · unfold sgF
      rw [if_pos hc]
      rfl
  · have hc : PyData.eqv (.str (mkS (l.take 1))) (.str (mkS [45])) = false := hc
    rw [eqv_str, decide_eq_false_iff_not] at hc
    refine ss_nil (.dd ?_ (.dd ?_ (.any (.any (.any (.any .nil))))))
    · unfold bdF
      rw [if_neg hc]
    · unfold sgF
      rw [if_neg hc]
      rfl
  refine Ex.toLe ?_ l2
  have hbl : (bdF l).length ≤ 1900 := by
    unfold bdF
    split
    · rw [List.length_drop]; omega
    · exact hl
  have hbA : Asc (bdF l) := by
    unfold bdF
    split
    · exact fun c hc => hA c (List.mem_of_mem_drop hc)
    · exact hA
  have hsA : Asc [sgF l] := asc_cons (by unfold sgF; split <;> decide) asc_nil
  obtain ⟨s1, s2, s3, s4⟩ := splB_ok (bdF l)
  have hWl : (wdF l).length = (splB (bdF l)).length + 1 := by
    unfold wdF
    rw [List.length_cons]
  refine ss_cons (s_set 2 (E.toA (e_cat (E.pl (e_lst (d_cons (e_var 1 rfl) d_nil))) (E.pl (e_splitS (e_var 0 rfl) e_str (by decide) (by rw [mkS_len]; omega))) (by show 1 + _ ≤ _; rw [List.length_map, split_B, List.length_map]; omega)) (es1 := (wdF l).map eS) (by rw [split_B, List.map_map]; rfl)) ?_ (nl hB) scTermsOf.nd)
  have hWA : ∀ w ∈ wdF l, Asc w ∧ w.length ≤ 1900 := fun w hw => by
    rcases List.mem_cons.mp hw with hw | hw
    · rw [hw]
      exact ⟨hsA, by rw [List.length_singleton]; decide⟩
    · exact ⟨asc_splB hbA w hw, Nat.le_trans (splB_len hw) hbl⟩
  refine ss_cons (s_if (t_eqI (e_mod (E.to (e_lenL (o_slot 2 rfl) T.z_len) (w := .int ((wdF l).length : Nat)) (by rw [List.length_map])) e_int (by decide)) e_int) (fun hc => ?_) (fun hc => ss_nil ?_))
  · have hc : (((wdF l).length : Nat) : Int) % 2 = 1 := of_decide_eq_true hc
    refine ss_one (s_raiseZ Z ?_ e_int T.oNoText T.nNoText T.jNoText T.tNoText GInit (hr.mono (by omega)) T.bNoText T.gNoText)
    have : termsF l = none := by
      unfold termsF
      rw [if_pos (by omega)]
    rw [hres, this]
    rfl
  have hc : ¬ (((wdF l).length : Nat) : Int) % 2 = 1 := of_decide_eq_false hc
  have htf : termsF l = allF (prs (wdF l)) := by
    unfold termsF
    rw [if_neg (by omega)]
  rw [htf] at hres
  have hpe := prs_even (W := wdF l) (by omega)
  have hpA : ∀ p ∈ prs (wdF l), Asc p.1 ∧ Asc p.2 ∧ p.2.length ≤ 1900 := fun p hp => by
    obtain ⟨h1, h2⟩ := prs_mem hp
    exact ⟨(hWA _ h1).1, (hWA _ h2).1, (hWA _ h2).2⟩
  have hpl := prs_len (wdF l)
  generalize prs (wdF l) = Q at *
  refine ss_cons (s_set 3 (e_lst d_nil) ?_ (nl hB) scTermsOf.nd)
  refine ss_cons (s_forS encPW (xs := Q) (src_zl2 (E.fz (e_stepL (o_slot 2 rfl) p_none)) (E.fz (e_stepL (o_slot 2 rfl) (p_some e_int))) (by rw [hpe]; exact pw_zip Q) T.z_zip) ([] : List Th.Tm) (fun f => [.any, .any, .any, .ml (f.map encT), .any, .any]) (fun f i => allF Q = (allF (Q.drop i)).map (fun g => f ++ g) ∧ f.length ≤ i) ⟨by rw [List.drop_zero]; cases allF Q <;> rfl, Nat.le_refl _⟩ (.any (.any (.any (.eq (.any (.any .nil)))))) (fun f i p hi hJ => ?_) (fun f ρ' hJ l2 => ?_) (hp := Z.ps))
  · obtain ⟨hJ, hfl⟩ := hJ
    have hi' := (List.getElem?_eq_some_iff.mp hi).1
    obtain ⟨m, w⟩ := p
    obtain ⟨hAm, hAw, hlw⟩ := hpA _ (List.mem_of_getElem? hi)
    have hlw : w.length ≤ 1900 := hlw
    have hdr : Q.drop i = (m, w) :: Q.drop (i + 1) := by
      rw [List.drop_eq_getElem_cons hi']
      congr 1
      exact (List.getElem?_eq_some_iff.mp hi).2
    rw [hdr] at hJ
    refine ⟨_, g_tup (gs_cons (g_name 4 (nl hB) scTermsOf.nd) (gs_cons (g_name 5 (nl hB) scTermsOf.nd) gs_nil)), ?_⟩
    cases hm : markF m with
    | none =>
      have hpn : allF ((m, w) :: Q.drop (i + 1)) = none := by
        show (match pairF (m, w) with | none => none | some t => (allF (Q.drop (i + 1))).map fun l => t :: l) = none
        have : pairF (m, w) = none := by
          show (match markF m with | none => none | some s => termF w s) = none
          rw [hm]
        rw [this]
      rw [hpn] at hJ
      refine ss_cons (s_if (t_ninKd Z0.D Z0.gS (e_var 4 rfl) (Z0.no hm)) (fun hc => ?_) (fun hc => nomatch hc))
      refine ss_one (s_raiseZ Z ?_ e_int T.oNoText T.nNoText T.jNoText T.tNoText GInit (hr.mono (by omega)) T.bNoText T.gNoText)
      rw [hres, hJ]
      rfl
    | some sg =>
      obtain ⟨hs1, tok, hat⟩ := Z0.yes hm
      refine ss_cons (s_if (t_ninKd Z0.D Z0.gS (e_var 4 rfl) hat) (fun hc => nomatch hc) (fun hc => ss_nil ?_))
      have hpf : pairF (m, w) = termF w sg := by
        show (match markF m with | none => none | some s => termF w s) = _
        rw [hm]
      cases ht : termF w sg with
      | none =>
        have hpn : allF ((m, w) :: Q.drop (i + 1)) = none := by
          show (match pairF (m, w) with | none => none | some t => (allF (Q.drop (i + 1))).map fun l => t :: l) = none
          rw [hpf, ht]
        rw [hpn] at hJ
        refine ss_one (s_exprZ Z (er := noT T.CNoText) (by rw [hres, hJ]; rfl) (r_app 3 (r_call GTermOf (hr.mono (by omega)) T.gTermOf T.FTermOf.kp T.bTermOf (d_cons (e_var 5 rfl) (d_cons (e_ixKd Z0.D Z0.gS (e_var 4 rfl) hat) d_nil)) ⟨w, sg, hAw, by omega, hs1, rfl, by rw [ht]; rfl⟩ Z.tk) ⟨_, rfl⟩))
      | some t =>
        have hpn : allF ((m, w) :: Q.drop (i + 1)) = (allF (Q.drop (i + 1))).map fun l => t :: l := by
          show (match pairF (m, w) with | none => none | some t => (allF (Q.drop (i + 1))).map fun l => t :: l) = _
          rw [hpf, ht]
        rw [hpn, Option.map_map] at hJ
        refine ss_one (s_expr (e_app 3 (e_okX GTermOf (hr.mono (by omega)) T.gTermOf T.FTermOf.kp T.bTermOf (d_cons (e_var 5 rfl) (d_cons (e_ixKd Z0.D Z0.gS (e_var 4 rfl) hat) d_nil)) (a := .d (encT t)) ⟨w, sg, hAw, by omega, hs1, rfl, by rw [ht]; rfl⟩) ⟨_, rfl⟩ rfl (by rw [List.length_map]; omega)) ?_)
        refine ⟨f ++ [t], ⟨?_, by rw [List.length_append, List.length_singleton]; omega⟩, .any (.any (.any (.ll ?_ (.any (.any .nil)))))⟩
        · rw [hJ]
          congr 1
          funext g
          show f ++ (t :: g) = f ++ [t] ++ g
          rw [List.append_assoc]
          rfl
        · rw [List.map_append]
          rfl
  · obtain ⟨hJ, hfl⟩ := hJ
    rw [List.drop_length] at hJ
    have hJ : allF Q = some (f ++ []) := hJ
    rw [List.append_nil] at hJ
    refine Ex.toLe ?_ l2
    refine ss_one (s_ret (e_tupL (o_slot 3 rfl) T.z_tuple) ?_)
    show res = _
    rw [hres, hJ]
    rfl
theorem ok_read_polynomial {f : Addr} {fd : FuncData} {k : Nat} (F : Fun K "read_polynomial" "read_polynomial" sReadPolynomial f fd) (T : Txt K mg) (Z0 : Sg K w mg) : FnOk P w K mg base (L2.CX P w) (k + 7) f fd ["text"] (spX K (rRead T.CNoText)) := by
  have GInit := ok_init (P := P) (w := w) (mg := mg) (base := base) (k := 0) (C := T.CNoText) T.FNoText
  have GIsPolynomial := ok_is_polynomial (P := P) (w := w) (base := base) (k := 0) T.FIsPolynomial T
  have GShownPolynomial := ok_shown (P := P) (w := w) (base := base) (k := 0) T.FShownPolynomial T
  have GTermsOf := ok_terms_of (P := P) (w := w) (base := base) (k := 0) T.FTermsOf T Z0
  refine fn_x F scReadPolynomial (by decide) (fun as r h => by
    rcases h with ⟨_, _, _, rfl, _⟩ | ⟨_, _, rfl, _⟩ | ⟨rfl, _⟩ <;> rfl) (fun cdv A1 outer s H W0 B as res hr hf hB Z => ?_)
  have hu := hr.units
  rcases hf with ⟨l, hA, hl, rfl, hres⟩ | ⟨v, hv, rfl, hres⟩ | ⟨rfl, hres⟩
  · refine ss_cons (s_if (t_not (t_val (e_is .str (E.o (e_var 0 rfl)) T.z_isinstance T.z_str))) (fun hc => nomatch hc) (fun hc => ss_nil ?_))
    refine ss_cons (s_if (t_eqD (hr := hu) (E.o (e_var 0 rfl)) (E.o e_str) (asc_ok hA) (asc_ok (l := [48]) (asc_cons (by decide) asc_nil))) (fun hc => ?_) (fun hc => ss_nil ?_))
    · have hc : PyData.eqv (.str (mkS l)) (.str (mkS [48])) = true := hc
      rw [eqv_str, decide_eq_true_iff] at hc
      refine ss_one (s_ret (e_tup d_nil) ?_)
      show res = _
      have : readF l = some [] := by unfold readF; rw [if_pos hc]
      rw [hres, this]
      rfl
    have hc : PyData.eqv (.str (mkS l)) (.str (mkS [48])) = false := hc
    rw [eqv_str, decide_eq_false_iff_not] at hc
    have hrd : readF l = (match termsF l with | none => none | some f => if isPolyD (encP f) = true ∧ shownL f = l then some f else none) := by
      unfold readF
      rw [if_neg hc]
    cases ht : termsF l with
    | none =>
      rw [ht] at hrd
      exact ss_cons (s_setZ Z (er := noT T.CNoText) (by rw [hres, hrd]; rfl) 1 (r_call GTermsOf (hr.mono (by omega)) T.gTermsOf T.FTermsOf.kp T.bTermsOf (d_cons (e_var 0 rfl) d_nil) ⟨l, hA, hl, rfl, by rw [ht]; rfl⟩ Z.tk) scReadPolynomial.nd)
    | some f =>
      rw [ht] at hrd
      have hfl : f.length ≤ 1000 ∧ ∀ t ∈ f, TmB t := by
        unfold termsF at ht
        split at ht
        · cases ht
        · obtain ⟨h1, h2⟩ := allF_tm ht
          have h3 := prs_len (wdF l)
          have h4 : (wdF l).length ≤ 1902 := by
            unfold wdF
            have hb : (bdF l).length ≤ 1900 := by
              unfold bdF
              split
              · rw [List.length_drop]; omega
              · exact hl
            have := (splB_ok (bdF l)).2.2.2
            rw [List.length_cons]
            omega
          exact ⟨by omega, h1⟩
      refine ss_cons (s_set 1 (e_okX GTermsOf (hr.mono (by omega)) T.gTermsOf T.FTermsOf.kp T.bTermsOf (d_cons (e_var 0 rfl) d_nil) (a := .d (encP f)) ⟨l, hA, hl, rfl, by rw [ht]; rfl⟩) ?_ (nl hB) scReadPolynomial.nd)
      have hAf := shownL_asc f
      have hbad : ¬ (isPolyD (encP f) = true ∧ shownL f = l) → res = .inr (noT T.CNoText) := fun h => by
        have : readF l = none := by
          rw [hrd]
          exact if_neg h
        rw [hres, this]
        rfl
      refine ss_cons (s_if (t_w (w_or (t_not (t_val (e_callP GIsPolynomial (hr.mono (by omega)) T.gIsPolynomial T.FIsPolynomial.kp T.bIsPolynomial (d_cons (e_var 1 rfl) d_nil) ⟨_, fun xs e => by cases e; rw [List.length_map]; omega, rfl, rfl⟩))) (fun _ => w_or1 (t_neD (hr := hu) (E.o (e_callP (r := .d (.str (mkS (shownL f)))) GShownPolynomial (hr.mono (by omega)) T.gShownPolynomial T.FShownPolynomial.kp T.bShownPolynomial (d_cons (e_var 1 rfl) d_nil) ⟨f, hfl.1, hfl.2, rfl, rfl⟩)) (E.o (e_var 0 rfl)) (asc_ok hAf) (asc_ok hA))))) (fun hc => ?_) (fun hc => ss_nil ?_))
      · have hc : (!isPolyD (encP f) || !PyData.eqv (.str (mkS (shownL f))) (.str (mkS l))) = true := hc
        refine ss_one (s_raiseZ Z (hbad ?_) e_int T.oNoText T.nNoText T.jNoText T.tNoText GInit (hr.mono (by omega)) T.bNoText T.gNoText)
        rintro ⟨h1, h2⟩
        rw [eqv_str, h1, decide_eq_true h2] at hc
        cases hc
      · have hc : (!isPolyD (encP f) || !PyData.eqv (.str (mkS (shownL f))) (.str (mkS l))) = false := hc
        rw [eqv_str, Bool.or_eq_false_iff, Bool.not_eq_false', Bool.not_eq_false', decide_eq_true_iff] at hc
        refine ss_one (s_ret (e_var 1 rfl) ?_)
        show res = _
        have : readF l = some f := by
          rw [hrd]
          exact if_pos hc
        rw [hres, this]
        rfl
  · refine ss_cons (s_if (t_not (t_val (e_is .str (E.o (e_var 0 rfl)) T.z_isinstance T.z_str))) (fun hc => ?_) (fun hc => ?_))
    · exact ss_one (s_raiseZ Z hres e_int T.oNoText T.nNoText T.jNoText T.tNoText GInit (hr.mono (by omega)) T.bNoText T.gNoText)
    · have hc : (!isi v .str) = false := hc
      rw [hv] at hc
      cases hc
  · refine ss_cons (s_if (t_not (t_val (e_isRk .str 0 rfl T.z_isinstance T.z_str))) (fun hc => ?_) (fun hc => nomatch hc))
    exact ss_one (s_raiseZ Z hres e_int T.oNoText T.nNoText T.jNoText T.tNoText GInit (hr.mono (by omega)) T.bNoText T.gNoText)
theorem ok_figures {f : Addr} {fd : FuncData} {k : Nat} (F : Fun K "_law_figures" "_law_figures" sFigures f fd) (T : Txt K mg) : FnOk P w K mg base CX0 (k + 1) f fd ["_law_word", "_law_least"] (spA K (pure_ fFig)) := by
  refine fn_pure F scFigures (by decide) (fun ds r h => by obtain ⟨_, _, _, _, rfl, _⟩ := h; rfl) (fun cdv A1 outer s H W B ds r hr hf hB => ?_)
  obtain ⟨l, m, hA, hl, rfl, rfl⟩ := hf
  have hu := hr.units
  cases hq : l with
  | nil =>
    subst hq
    refine ss_cons (s_if (t_w (w_or (c := true) (t_not (t_chLL e_int (e_lenS (e_var 0 rfl) (by decide) T.z_len) e_int)) (fun z => by cases z))) (fun hc => ?_) (fun hc => by cases hc))
    exact ss_one (s_ret e_non (pr_is rfl))
  | cons c q =>
    rw [← hq]
    have hlc : 1 ≤ l.length := by rw [hq, List.length_cons]; omega
    have hhd : l.head? = some c := by rw [hq]; rfl
    have hcond : ∀ b : Bool, b = (!(decide ((0 : Int) < (l.length : Nat)) && decide (((l.length : Nat) : Int) < 61)) || PyData.eqv (eS [c]) (eS [48])) → (b = false ↔ (1 ≤ l.length ∧ l.length ≤ 60) ∧ l.head? ≠ some 48) := fun b hb => by
      subst hb
      rw [eqv_str, Bool.or_eq_false_iff, Bool.not_eq_false', Bool.and_eq_true, decide_eq_true_iff, decide_eq_true_iff, decide_eq_false_iff_not, hhd]
      constructor
      · rintro ⟨⟨h1, h2⟩, h3⟩
        exact ⟨⟨by omega, by omega⟩, fun z => h3 (by injection z with z; rw [z])⟩
      · rintro ⟨⟨h1, h2⟩, h3⟩
        exact ⟨⟨by omega, by omega⟩, fun z => h3 (by injection z with z; rw [z])⟩
    refine ss_cons (s_if (t_w (w_or (t_not (t_chLL e_int (E.to (e_lenS (e_var 0 rfl) (by rw [mkS_len]; omega) T.z_len) (congrArg (fun n : Nat => PyData.int (n : Int)) (mkS_len l))) e_int)) (fun _ => w_or1 (t_eqD (hr := hu) (E.o (E.to (e_ixS (c := c) (e_var 0 rfl) e_int (by decide) (by rw [mkS_len]; omega) (by rw [mkS_len]; omega) (by show (mkS l).cps[0]? = some c; rw [hq]; rfl)) (w := eS [c]) rfl)) (E.o e_str) (asc_ok (l := [c]) (asc_cons (hA c (by rw [hq]; exact List.mem_cons_self)) asc_nil)) (asc_ok (l := [48]) (asc_cons (by decide) asc_nil)))))) (fun hc => ?_) (fun hc => ss_nil ?_))
    · have hn : ¬ ((1 ≤ l.length ∧ l.length ≤ 60) ∧ l.head? ≠ some 48) := fun z => by
        have := (hcond _ rfl).mpr z
        rw [show (!(decide ((0 : Int) < (l.length : Nat)) && decide (((l.length : Nat) : Int) < 61)) || PyData.eqv (eS [c]) (eS [48])) = true from hc] at this
        cases this
      refine ss_one (s_ret e_non (pr_is ?_))
      unfold figF
      rw [if_neg hn]
      rfl
    have hy := (hcond _ rfl).mp hc
    have hfig : figF l m = (if l.all isDig = true then (if (NumText.digitsVal l : Int) < m then none else some (NumText.digitsVal l)) else none) := by
      unfold figF
      rw [if_pos hy]
    refine ss_cons (s_forS (fun c : Nat => PyData.str ⟨#[c]⟩) (xs := l) (src_str (e_var 0 rfl)) () (fun _ => [.d (eS l), .d (.int m), .any]) (fun _ i => ∀ j x, j < i → l[j]? = some x → isDig x = true) (fun j x z => absurd z (Nat.not_lt_zero j)) (Le.refl _) (fun t i x hi hJ => ?_) (fun t ρ' hJ l2 => ?_))
    · refine ⟨_, g_name 2 (nl hB) scFigures.nd, ?_⟩
      refine ss_one (s_if (t_nin1 (e_var 2 rfl) e_str) (fun hc => ?_) (fun hc => ss_nil ?_))
      · have hc : (!decide (x ∈ (("0123456789" : Str)).cps.toList)) = true := hc
        rw [dig_in, Bool.not_eq_true'] at hc
        refine ss_one (s_ret e_non (pr_is ?_))
        have : l.all isDig = false := by
          cases z : l.all isDig with
          | false => rfl
          | true =>
            have := List.all_eq_true.mp z x (List.mem_of_getElem? hi)
            rw [hc] at this
            cases this
        rw [hfig, this]
        rfl
      · have hc : (!decide (x ∈ (("0123456789" : Str)).cps.toList)) = false := hc
        rw [dig_in, Bool.not_eq_false'] at hc
        refine ⟨(), fun j y hj hy2 => ?_, .eq (.eq (.any .nil))⟩
        by_cases hji : j = i
        · subst hji
          rw [hi] at hy2
          cases hy2
          exact hc
        · exact hJ j y (by omega) hy2
    refine Ex.toLe ?_ l2
    have hall : l.all isDig = true := by
      rw [List.all_eq_true]
      intro x hx
      obtain ⟨j, hj⟩ := List.getElem?_of_mem hx
      exact hJ j x (List.getElem?_eq_some_iff.mp hj).1 hj
    have hd : NumText.AllDigits (mkS l).cps.toList := fun c hc => of_decide_eq_true (List.all_eq_true.mp hall c hc)
    have hin : PySem.intText? (mkS l) = some ((NumText.digitsVal l : Nat) : Int) := PySem.intText_digits (x := mkS l) hd (fun z => by have z : l = [] := z; rw [z] at hlc; exact absurd hlc (by decide)) (by rw [mkS_len]; omega)
    rw [hall, if_pos rfl] at hfig
    refine ss_cons (s_if (t_lt (e_intS (e_var 0 rfl) hin (by rw [mkS_len]; omega) T.z_int) (e_var 1 rfl)) (fun hc => ?_) (fun hc => ss_nil ?_))
    · have hc : ((NumText.digitsVal l : Nat) : Int) < m := of_decide_eq_true hc
      refine ss_one (s_ret e_non (pr_is ?_))
      rw [hfig, if_pos hc]
      rfl
    · have hc : ¬ ((NumText.digitsVal l : Nat) : Int) < m := of_decide_eq_false hc
      refine ss_one (s_ret (e_intS (e_var 0 rfl) hin (by rw [mkS_len]; omega) T.z_int) (pr_is ?_))
      rw [hfig, if_neg hc]
      rfl
theorem ok_power {f : Addr} {fd : FuncData} {k : Nat} (F : Fun K "_law_power" "_law_power" sPower f fd) (T : Txt K mg) : FnOk P w K mg base CX0 (k + 2) f fd ["_law_rest"] (spA K (pure_ fPow2)) := by
  have GFigures := ok_figures (P := P) (w := w) (base := base) (k := 0) T.FFigures T
  refine fn_pure F scPower (by decide) (fun ds r h => by obtain ⟨_, _, _, rfl, _⟩ := h; rfl) (fun cdv A1 outer s H W B ds r hr hf hB => ?_)
  obtain ⟨b, hA, hl, rfl, rfl⟩ := hf
  have hu := hr.units
  have hcl : (mkS b).length ≤ 16777216 := by rw [mkS_len]; omega
  have hc1 : cutS (mkS b) none (some 2) = mkS (b.take 2) := cut_head b 2
  have hc2 : cutS (mkS b) (some 2) none = mkS (b.drop 2) := cut_tail b 2
  have hc3 : cutS (mkS b) (some 1) none = mkS (b.drop 1) := cut_tail b 1
  refine ss_cons (s_if (t_eqD (hr := hu) (E.o (e_var 0 rfl)) (E.o e_str) (asc_ok hA) (asc_ok asc_nil)) (fun hc => ?_) (fun hc => ss_nil ?_))
  · have hc : PyData.eqv (eS b) (eS []) = true := hc
    rw [eqv_str, decide_eq_true_iff] at hc
    refine ss_one (s_ret e_int (pr_is ?_))
    unfold dpowF
    rw [if_pos hc]
    rfl
  have hc : PyData.eqv (eS b) (eS []) = false := hc
  rw [eqv_str, decide_eq_false_iff_not] at hc
  have hp : dpowF b = if b.take 2 = [94, 45] then (figF (b.drop 2) 1).map fun n : Nat => 0 - (n : Int) else if b.head? = some 94 then (figF (b.drop 1) 2).map fun n : Nat => (n : Int) else none := by
    unfold dpowF
    rw [if_neg hc]
  refine ss_cons (s_if (t_eqD (hr := hu) (E.o (E.to (e_slS (e_var 0 rfl) p_none (p_some e_int) hcl) (congrArg PyData.str hc1))) (E.o e_str) (asc_ok fun x hx => hA x (List.mem_of_mem_take hx)) (asc_ok (l := [94, 45]) (asc_cons (by decide) (asc_cons (by decide) asc_nil)))) (fun hc2' => ?_) (fun hc2' => ss_nil ?_))
  · have hc2' : PyData.eqv (eS (b.take 2)) (eS [94, 45]) = true := hc2'
    rw [eqv_str, decide_eq_true_iff] at hc2'
    rw [if_pos hc2'] at hp
    refine ss_cons (s_set 1 (e_callP GFigures (hr.mono (by omega)) T.gFigures T.FFigures.kp T.bFigures (d_cons (E.to (e_slS (e_var 0 rfl) (p_some e_int) p_none hcl) (congrArg PyData.str hc2)) (d_cons e_int d_nil)) ⟨b.drop 2, 1, fun x hx => hA x (List.mem_of_mem_drop hx), by rw [List.length_drop]; omega, rfl, rfl⟩) ?_ (nl hB) scPower.nd)
    cases hn : figF (b.drop 2) 1 with
    | none =>
      rw [hn] at hp
      refine ss_cons (s_if (t_isN (e_var 1 rfl)) (fun hc => ?_) (fun hc => nomatch hc))
      refine ss_one (s_ret e_non (pr_is ?_))
      rw [hp]
      rfl
    | some n =>
      rw [hn] at hp
      refine ss_cons (s_if (t_isN (e_var 1 rfl)) (fun hc => nomatch hc) (fun hc => ss_nil ?_))
      refine ss_one (s_ret (e_sub (i := 0) (j := (n : Int)) e_int (e_var 1 rfl)) (pr_is ?_))
      rw [hp]
      rfl
  have hc2' : PyData.eqv (eS (b.take 2)) (eS [94, 45]) = false := hc2'
  rw [eqv_str, decide_eq_false_iff_not] at hc2'
  rw [if_neg hc2'] at hp
  obtain ⟨c, q, hq⟩ : ∃ c q, b = c :: q := by
    cases b with
    | nil => exact absurd rfl hc
    | cons c r => exact ⟨c, r, rfl⟩
  have hhd : b.head? = some c := by rw [hq]; rfl
  refine ss_cons (s_if (t_eqD (hr := hu) (E.o (E.to (e_ixS (c := c) (e_var 0 rfl) e_int (by decide) (by rw [mkS_len, hq, List.length_cons]; omega) hcl (by show (mkS b).cps[0]? = some c; rw [hq]; rfl)) (w := eS [c]) rfl)) (E.o e_str) (asc_ok (l := [c]) (asc_cons (hA c (by rw [hq]; exact List.mem_cons_self)) asc_nil)) (asc_ok (l := [94]) (asc_cons (by decide) asc_nil))) (fun hc3' => ?_) (fun hc3' => ss_nil ?_))
  · have hc3' : PyData.eqv (eS [c]) (eS [94]) = true := hc3'
    rw [eqv_str, decide_eq_true_iff] at hc3'
    injection hc3' with hc3' _
    rw [if_pos (by rw [hhd, hc3'])] at hp
    refine ss_one (s_ret (e_callP GFigures (hr.mono (by omega)) T.gFigures T.FFigures.kp T.bFigures (d_cons (E.to (e_slS (e_var 0 rfl) (p_some e_int) p_none hcl) (congrArg PyData.str hc3)) (d_cons e_int d_nil)) ⟨b.drop 1, 2, fun x hx => hA x (List.mem_of_mem_drop hx), by rw [List.length_drop]; omega, rfl, rfl⟩) (pr_is ?_))
    rw [hp, Option.map_map]
    rfl
  · have hc3' : PyData.eqv (eS [c]) (eS [94]) = false := hc3'
    rw [eqv_str, decide_eq_false_iff_not] at hc3'
    rw [if_neg (by rw [hhd]; intro z; injection z with z; exact hc3' (by rw [z]))] at hp
    refine ss_one (s_ret e_non (pr_is ?_))
    rw [hp]
    rfl
theorem ok_term {f : Addr} {fd : FuncData} {k : Nat} (F : Fun K "_law_term" "_law_term" sTerm f fd) (T : Txt K mg) : FnOk P w K mg base CX0 (k + 3) f fd ["_law_word"] (spA K (pure_ fTerm2)) := by
  have GFigures := ok_figures (P := P) (w := w) (base := base) (k := 0) T.FFigures T
  have GPower := ok_power (P := P) (w := w) (base := base) (k := 0) T.FPower T
  refine fn_pure F scTerm (by decide) (fun ds r h => by obtain ⟨_, _, _, rfl, _⟩ := h; rfl) (fun cdv A1 outer s H W B ds r hr hf hB => ?_)
  obtain ⟨l, hA, hl, rfl, rfl⟩ := hf
  have hu := hr.units
  have hcl : (mkS l).length ≤ 16777216 := by rw [mkS_len]; omega
  have hfc := find_cut 120 l
  have fin : ∀ (on : Option Nat) (op : Option Int) (at_ : PyData), dnumF l = on → dexpF l = op → Ss (cxOf CX0 P w K mg base nTerm "_law_term" (defScope sTerm) f cdv A1 outer s H W).nox B ((defBody sTerm).drop 5) [.d (eS l), .d at_, .d (optN (on.map fun n : Nat => .int (n : Int))), .d (optN (op.map .int))] (PF (.d (optN ((dtermF l).map encT))) (List.map A.d [eS l])) := fun on op at_ h1 h2 => by
    have ht : dtermF l = (on.bind fun n : Nat => op.map fun p : Int => (p, (n : Int))) := by
      unfold dtermF
      subst h1 h2
      cases dnumF l <;> rfl
    cases on with
    | none =>
      refine ss_cons (s_if (t_w (w_or (c := true) (t_isN (e_var 2 rfl)) (fun z => by cases z))) (fun hc => ?_) (fun hc => by cases hc))
      refine ss_one (s_ret e_non (pr_is ?_))
      rw [ht]
      rfl
    | some n =>
      cases op with
      | none =>
        refine ss_cons (s_if (t_w (w_or (t_isN (e_var 2 rfl)) (fun _ => w_or1 (t_isN (e_var 3 rfl))))) (fun hc => ?_) (fun hc => by cases hc))
        refine ss_one (s_ret e_non (pr_is ?_))
        rw [ht]
        rfl
      | some p =>
        refine ss_cons (s_if (t_w (w_or (t_isN (e_var 2 rfl)) (fun _ => w_or1 (t_isN (e_var 3 rfl))))) (fun hc => by cases hc) (fun hc => ss_nil ?_))
        refine ss_one (s_ret (e_tup (d_cons (e_var 3 rfl) (d_cons (e_var 2 rfl) d_nil))) (pr_is ?_))
        rw [ht]
        rfl
  cases hq : cutX 120 l with
  | none =>
    rw [hq] at hfc
    have hfc : Txt.find (mkS l) ("x" : Str) = -1 := hfc
    refine ss_cons (s_set 1 (E.to (e_findS (e_var 0 rfl) e_str) (congrArg PyData.int hfc)) ?_ (nl hB) scTerm.nd)
    refine ss_cons (s_set 2 e_int ?_ (nl hB) scTerm.nd)
    refine ss_cons (s_set 3 e_int ?_ (nl hB) scTerm.nd)
    refine ss_cons (s_ifR [.d (eS l), .d (.int (-1)), .d (optN ((figF l 1).map fun n : Nat => .int (n : Int))), .d (.int 0)] (t_lt (e_var 1 rfl) e_int) (fun hc => ?_) (fun hc => by cases hc) (fun ρ' l2 => ?_))
    · refine ss_one (s_set 2 (e_callP GFigures (hr.mono (by omega)) T.gFigures T.FFigures.kp T.bFigures (d_cons (e_var 0 rfl) (d_cons e_int d_nil)) ⟨l, 1, hA, hl, rfl, rfl⟩) (Le.refl _) (nl hB) scTerm.nd)
    refine Ex.toLe ?_ l2
    refine ss_cons (s_ifR [.d (eS l), .d (.int (-1)), .d (optN ((figF l 1).map fun n : Nat => .int (n : Int))), .d (.int 0)] (t_gt (e_var 1 rfl) e_int) (fun hc => by cases hc) (fun hc => ?_) (fun ρ' l2 => ?_))
    · exact ss_nil (Le.refl _)
    refine Ex.toLe ?_ l2
    exact fin (figF l 1) (some 0) _ (by unfold dnumF; rw [hq]) (by unfold dexpF; rw [hq])
  | some ab =>
    obtain ⟨a, b⟩ := ab
    obtain ⟨hw, _⟩ := cutX_some hq
    have hAa : Asc a := fun x hx => hA x (by rw [hw]; exact List.mem_append_left _ hx)
    have hAb : Asc b := fun x hx => hA x (by rw [hw]; exact List.mem_append_right _ (List.mem_cons_of_mem _ hx))
    have hlab : l.length = a.length + (b.length + 1) := by rw [hw, List.length_append, List.length_cons]
    rw [hq] at hfc
    have hfc : Txt.find (mkS l) ("x" : Str) = (a.length : Int) := hfc
    have hc1 : cutS (mkS l) none (some (a.length : Int)) = mkS a := by
      rw [cut_head, hw, List.take_left]
    have hc2 : cutS (mkS l) (some ((a.length + 1 : Nat) : Int)) none = mkS b := by
      rw [cut_tail, hw]
      congr 1
      rw [show a ++ 120 :: b = (a ++ [120]) ++ b by rw [List.append_assoc]; rfl, show a.length + 1 = (a ++ [120]).length by rw [List.length_append]; rfl, List.drop_left]
    refine ss_cons (s_set 1 (E.to (e_findS (e_var 0 rfl) e_str) (congrArg PyData.int hfc)) ?_ (nl hB) scTerm.nd)
    refine ss_cons (s_set 2 e_int ?_ (nl hB) scTerm.nd)
    refine ss_cons (s_set 3 e_int ?_ (nl hB) scTerm.nd)
    refine ss_cons (s_ifR [.d (eS l), .d (.int (a.length : Int)), .d (.int 1), .d (optN ((dpowF b).map .int))] (t_lt (e_var 1 rfl) e_int) (fun hc => ?_) (fun hc => ?_) (fun ρ' l2 => ?_))
    · have hc : (a.length : Int) < 0 := of_decide_eq_true hc
      omega
    · refine ss_one (s_set 3 (e_callP GPower (hr.mono (by omega)) T.gPower T.FPower.kp T.bPower (d_cons (E.to (e_slS (e_var 0 rfl) (p_some (E.to (e_add (e_var 1 rfl) e_int) (w := .int ((a.length + 1 : Nat) : Int)) rfl)) p_none hcl) (congrArg PyData.str hc2)) d_nil) ⟨b, hAb, by omega, rfl, rfl⟩) (Le.refl _) (nl hB) scTerm.nd)
    refine Ex.toLe ?_ l2
    refine ss_cons (s_ifR [.d (eS l), .d (.int (a.length : Int)), .d (optN ((if a = [] then some 1 else figF a 2 : Option Nat).map fun n : Nat => .int (n : Int))), .d (optN ((dpowF b).map .int))] (t_gt (e_var 1 rfl) e_int) (fun hc => ?_) (fun hc => ?_) (fun ρ' l2 => ?_))
    · have hc : (0 : Int) < (a.length : Int) := of_decide_eq_true hc
      have hne : a ≠ [] := fun z => by rw [z] at hc; exact absurd hc (by decide)
      rw [if_neg hne]
      refine ss_one (s_set 2 (e_callP GFigures (hr.mono (by omega)) T.gFigures T.FFigures.kp T.bFigures (d_cons (E.to (e_slS (e_var 0 rfl) p_none (p_some (e_var 1 rfl)) hcl) (congrArg PyData.str hc1)) (d_cons e_int d_nil)) ⟨a, 2, hAa, by omega, rfl, rfl⟩) (Le.refl _) (nl hB) scTerm.nd)
    · have hc : ¬ (0 : Int) < (a.length : Int) := of_decide_eq_false hc
      have hne : a = [] := List.eq_nil_of_length_eq_zero (by omega)
      rw [if_pos hne]
      exact ss_nil (Le.refl _)
    refine Ex.toLe ?_ l2
    exact fin _ (dpowF b) _ (by unfold dnumF; rw [hq]) (by unfold dexpF; rw [hq])
theorem due_even {sg : Int} {f : List Th.Tm} {w : List Nat} {ws : List (List Nat)} {t : Th.Tm} (h : dtermF w = some t) (hn : ¬ (f ≠ [] ∧ t.1 ≤ lastP f)) : dueG true sg f (w :: ws) = dueG false sg (f ++ [(t.1, sg * t.2)]) ws := by
  show (match dtermF w with | none => none | some t => if f ≠ [] ∧ t.1 ≤ lastP f then none else dueG false sg (f ++ [(t.1, sg * t.2)]) ws) = _
  rw [h]
  exact if_neg hn
theorem due_even0 {sg : Int} {f : List Th.Tm} {w : List Nat} {ws : List (List Nat)} (h : dtermF w = none) : dueG true sg f (w :: ws) = none := by
  show (match dtermF w with | none => none | some t => if f ≠ [] ∧ t.1 ≤ lastP f then none else dueG false sg (f ++ [(t.1, sg * t.2)]) ws) = _
  rw [h]
theorem due_even1 {sg : Int} {f : List Th.Tm} {w : List Nat} {ws : List (List Nat)} {t : Th.Tm} (h : dtermF w = some t) (hn : f ≠ [] ∧ t.1 ≤ lastP f) : dueG true sg f (w :: ws) = none := by
  show (match dtermF w with | none => none | some t => if f ≠ [] ∧ t.1 ≤ lastP f then none else dueG false sg (f ++ [(t.1, sg * t.2)]) ws) = _
  rw [h]
  exact if_pos hn
theorem due_odd {sg : Int} {f : List Th.Tm} {m : List Nat} {ws : List (List Nat)} : dueG false sg f (m :: ws) = (if m = [43] then dueG true 1 f ws else if m = [45] then dueG true (-1) f ws else none) := rfl
theorem par_odd {i : Nat} (h : i % 2 = 1) : decide (i % 2 = 0) = false ∧ decide ((i + 1) % 2 = 0) = true := ⟨decide_eq_false (by omega), decide_eq_true (by omega)⟩
theorem par_even {i : Nat} (h : ¬ i % 2 = 1) : decide (i % 2 = 0) = true ∧ decide ((i + 1) % 2 = 0) = false := ⟨decide_eq_true (by omega), decide_eq_false (by omega)⟩
theorem at_0 {a : PyData} {l : List PyData} : atI (a :: l) 0 = some a := atI_nat' (by decide)
theorem ix_0 {n : Nat} (h : 0 < n) : ixN n 0 = some 0 := by
  unfold ixN
  rw [if_pos (by decide), if_pos (by omega)]
  rfl
theorem last_at {f : List Th.Tm} (h : f ≠ []) : ∃ t : Th.Tm, atI (f.map encT) (-1) = some (encT t) ∧ lastP f = t.1 := by
  refine ⟨f.getLast h, ?_, ?_⟩
  · have hsn := List.dropLast_concat_getLast h
    generalize f.getLast h = t at *
    generalize f.dropLast = v at *
    subst hsn
    unfold atI
    rw [List.map_append, List.length_append, List.length_map, List.length_map]
    have e : ixN (v.length + [t].length) (-1) = some v.length := by
      unfold ixN
      rw [List.length_singleton]
      split <;> rename_i q <;> simp at q ⊢ <;> omega
    rw [e]
    show (v.map encT ++ [encT t])[v.length]? = _
    rw [List.getElem?_append_right (by rw [List.length_map]; omega), List.length_map, Nat.sub_self]
    rfl
  · unfold lastP
    rw [List.getLast?_eq_some_getLast h]
    rfl
structure DueJ (R : Option (List Th.Tm)) (W : List (List Nat)) (t : Int × List Th.Tm) (i : Nat) : Prop where
  rest : dueG (decide (i % 2 = 0)) t.1 t.2 (W.drop i) = R
  sg : t.1 = 1 ∨ t.1 = -1
  len : t.2.length ≤ i
def dueI (R : Option (List Th.Tm)) (W : List (List Nat)) (x : Nat) (ρ : Rho) : Prop := ∃ t', DueJ R W t' (x + 1) ∧ Le ρ [.any, .ml (W.map eS), .d (.int t'.1), .ml (t'.2.map encT), .any, .any]
theorem ok_due {f : Addr} {fd : FuncData} {k : Nat} (F : Fun K "_law_due" "_law_due" sDue f fd) (T : Txt K mg) : FnOk P w K mg base CX0 (k + 4) f fd ["_law_text_here"] (spA K (pure_ fDueT)) := by
  have GTerm := ok_term (P := P) (w := w) (base := base) (k := 0) T.FTerm T
  refine fn_pure F scDue (by decide) (fun ds r h => by obtain ⟨_, _, _, rfl, _⟩ := h; rfl) (fun cdv A1 outer s H W0 B ds r hr hf hB => ?_)
  obtain ⟨l, hA, hl, rfl, rfl⟩ := hf
  have hu := hr.units
  refine ss_cons (s_if (t_eqD (hr := hu) (E.o (e_var 0 rfl)) (E.o e_str) (asc_ok hA) (asc_ok (l := [48]) (asc_cons (by decide) asc_nil))) (fun hc => ?_) (fun hc => ss_nil ?_))
  · have hc : PyData.eqv (eS l) (eS [48]) = true := hc
    rw [eqv_str, decide_eq_true_iff] at hc
    refine ss_one (s_ret (e_tup d_nil) (pr_is ?_))
    have : dueF l = some [] := by unfold dueF; rw [if_pos hc]
    rw [this]
    rfl
  have hc : PyData.eqv (eS l) (eS [48]) = false := hc
  rw [eqv_str, decide_eq_false_iff_not] at hc
  obtain ⟨s1, s2, s3, s4⟩ := splB_ok l
  refine ss_cons (s_set 1 (E.toA (e_splitS (e_var 0 rfl) e_str (by decide) (by rw [mkS_len]; omega)) (es1 := (splB l).map eS) (by rw [split_B, List.map_map]; rfl)) ?_ (nl hB) scDue.nd)
  have hd : dueF l = (match splB l with | [] => none | w :: ws => if w.take 1 = [45] then dueG true (-1) [] (w.drop 1 :: ws) else dueG true 1 [] (w :: ws)) := by
    unfold dueF
    rw [if_neg hc]
  have hWA : ∀ w ∈ splB l, Asc w ∧ w.length ≤ 1900 := fun w hw => ⟨asc_splB hA w hw, Nat.le_trans (splB_len hw) hl⟩
  obtain ⟨w1, ws, hsp⟩ : ∃ w1 ws, splB l = w1 :: ws := by
    cases e : splB l with
    | nil => exact absurd e s1
    | cons a b => exact ⟨a, b, rfl⟩
  rw [hsp] at hd hWA s4
  rw [hsp]
  have hd : dueF l = if w1.take 1 = [45] then dueG true (-1) [] (w1.drop 1 :: ws) else dueG true 1 [] (w1 :: ws) := hd
  have hw1 := hWA w1 List.mem_cons_self
  have hwc : (mkS w1).length ≤ 16777216 := by rw [mkS_len]; omega
  have hc1 : cutS (mkS w1) none (some 1) = mkS (w1.take 1) := cut_head w1 1
  have hc2 : cutS (mkS w1) (some 1) none = mkS (w1.drop 1) := cut_tail w1 1
  refine ss_cons (s_set 2 e_int ?_ (nl hB) scDue.nd)
  refine ss_cons (s_ifR [.d (eS l), .ml (((if w1.take 1 = [45] then w1.drop 1 else w1) :: ws).map eS), .d (.int (if w1.take 1 = [45] then -1 else 1)), .any, .any, .any] (t_eqD (hr := hu) (E.o (E.to (e_slS (e_ixL (o_slot 1 rfl) e_int (v := eS w1) at_0) p_none (p_some e_int) hwc) (congrArg PyData.str hc1))) (E.o e_str) (asc_ok fun x hx => hw1.1 x (List.mem_of_mem_take hx)) (asc_ok (l := [45]) (asc_cons (by decide) asc_nil))) (fun hc3 => ?_) (fun hc3 => ?_) (fun ρ' l2 => ?_))
  · have hc3 : PyData.eqv (eS (w1.take 1)) (eS [45]) = true := hc3
    rw [eqv_str, decide_eq_true_iff] at hc3
    rw [if_pos hc3, if_pos hc3]
    refine ss_cons (s_set 2 (e_neg e_int) ?_ (nl hB) scDue.nd)
    refine ss_one (s_setL 1 (xs := (w1 :: ws).map eS) (E.to (e_slS (e_ixL (o_slot 1 rfl) e_int (v := eS w1) at_0) (p_some e_int) p_none hwc) (congrArg PyData.str hc2)) e_int ⟨_, rfl⟩ rfl (j := 0) (ix_0 (by rw [List.length_map]; exact Nat.zero_lt_succ _)) ?_)
    exact .eq (.ll rfl (.dd rfl (.any (.any (.any .nil)))))
  · have hc3 : PyData.eqv (eS (w1.take 1)) (eS [45]) = false := hc3
    rw [eqv_str, decide_eq_false_iff_not] at hc3
    rw [if_neg hc3, if_neg hc3]
    exact ss_nil (.eq (.ll rfl (.dd rfl (.any (.any (.any .nil))))))
  refine Ex.toLe ?_ l2
  have hd2 : dueF l = dueG true (if w1.take 1 = [45] then -1 else 1) [] ((if w1.take 1 = [45] then w1.drop 1 else w1) :: ws) := by
    rw [hd]
    split <;> rfl
  have hsg : (if w1.take 1 = [45] then -1 else 1 : Int) = 1 ∨ (if w1.take 1 = [45] then -1 else 1 : Int) = -1 := by
    split
    · exact .inr rfl
    · exact .inl rfl
  have hWA2 : ∀ w ∈ (if w1.take 1 = [45] then w1.drop 1 else w1) :: ws, Asc w ∧ w.length ≤ 1900 := fun w hw => by
    rcases List.mem_cons.mp hw with rfl | hw
    · split
      · exact ⟨fun x hx => hw1.1 x (List.mem_of_mem_drop hx), by rw [List.length_drop]; have := hw1.2; omega⟩
      · exact hw1
    · exact hWA w (List.mem_cons_of_mem _ hw)
  have hWl : ((if w1.take 1 = [45] then w1.drop 1 else w1) :: ws).length ≤ 1902 := by
    rw [List.length_cons] at s4 ⊢
    omega
  generalize (if w1.take 1 = [45] then -1 else 1 : Int) = sg0 at *
  generalize ((if w1.take 1 = [45] then w1.drop 1 else w1) :: ws) = W at *
  clear hWA hd hsp s1 s2 s3 s4 hw1 hwc hc1 hc2
  refine ss_cons (s_set 3 (e_lst d_nil) ?_ (nl hB) scDue.nd)
  refine ss_cons (s_forS encN (xs := List.range W.length) (src_rN (E.to (e_lenL (o_slot 1 rfl) T.z_len) (w := .int (W.length : Int)) (by rw [List.length_map])) T.z_range (by omega)) (sg0, ([] : List Th.Tm)) (fun t => [.any, .ml (W.map eS), .d (.int t.1), .ml (t.2.map encT), .any, .any]) (DueJ (dueF l) W) ⟨hd2.symm, hsg, Nat.le_refl _⟩ (.any (.eq (.eq (.eq (.any (.any .nil)))))) (fun t i x hi hJ => ?_) (fun t ρ' hJ l2 => ?_))
  · obtain ⟨hiW, rfl⟩ := range_get hi
    obtain ⟨sg, g⟩ := t
    obtain ⟨h1, h2, h3⟩ := hJ
    dsimp only at h1 h2 h3
    have hdr : W.drop x = W[x] :: W.drop (x + 1) := List.drop_eq_getElem_cons hiW
    rw [hdr] at h1
    have hwx := hWA2 _ (List.getElem_mem hiW)
    have hat : atI (W.map eS) (x : Int) = some (eS W[x]) := by
      rw [atI_nat' (by omega), List.getElem?_map, Int.toNat_natCast, List.getElem?_eq_getElem hiW]
      rfl
    generalize W[x] = wx at *
    refine ⟨_, g_name 4 (nl hB) scDue.nd, ?_⟩
    have hmod : ∀ {b : Bool}, decide ((x : Int) % 2 = 1) = b → decide (x % 2 = 1) = b := fun {b} h => by
      rw [← h]
      exact decide_eq_decide.mpr (by omega)
    have hev : ∀ bk : Rho → Prop, ¬ x % 2 = 1 → Ss (cxOf CX0 P w K mg base nDue "_law_due" (defScope sDue) f cdv A1 outer s H W0).nox B
        (match (defBody sDue).getD 5 (.Pass ⟨0, 0, 0, 0⟩) with | .For _ _ b _ _ => (match b.getD 1 (.Pass ⟨0, 0, 0, 0⟩) with | .If _ _ e _ => e | _ => []) | _ => []) [.any, .ml (W.map eS), .d (.int sg), .ml (g.map encT), .d (.int (x : Int)), .any] ⟨dueI (dueF l) W x, PR (.d (optN ((dueF l).map encP))) (List.map A.d [eS l]), bk, dueI (dueF l) W x⟩ := fun bk hx => by
      obtain ⟨p1, p2⟩ := par_even hx
      rw [p1] at h1
      refine ss_cons (s_set 5 (e_callP GTerm (hr.mono (by omega)) T.gTerm T.FTerm.kp T.bTerm (d_cons (e_ixL (o_slot 1 rfl) (e_var 4 rfl) hat) d_nil) ⟨wx, hwx.1, by omega, rfl, rfl⟩) ?_ (nl hB) scDue.nd)
      cases ht : dtermF wx with
      | none =>
        rw [due_even0 ht] at h1
        refine ss_cons (s_if (t_w (w_or (c := true) (t_isN (e_var 5 rfl)) (fun z => by cases z))) (fun hc => ?_) (fun hc => by cases hc))
        refine ss_one (s_ret e_non (pr_is ?_))
        rw [← h1]
        rfl
      | some t =>
        obtain ⟨p, n⟩ := t
        have hgo : ¬ (g ≠ [] ∧ p ≤ lastP g) → Ss (cxOf CX0 P w K mg base nDue "_law_due" (defScope sDue) f cdv A1 outer s H W0).nox B
            ((match (defBody sDue).getD 5 (.Pass ⟨0, 0, 0, 0⟩) with | .For _ _ b _ _ => (match b.getD 1 (.Pass ⟨0, 0, 0, 0⟩) with | .If _ _ e _ => e | _ => []) | _ => []).drop 2) [.any, .ml (W.map eS), .d (.int sg), .ml (g.map encT), .d (.int (x : Int)), .d (encT (p, n))] ⟨dueI (dueF l) W x, PR (.d (optN ((dueF l).map encP))) (List.map A.d [eS l]), bk, dueI (dueF l) W x⟩ := fun hn => by
          rw [due_even ht hn] at h1
          refine ss_one (s_expr (e_app 3 (e_tup (d_cons (e_ixT (e_var 5 rfl) e_int (v := .int p) rfl) (d_cons (e_mulS (e_var 2 rfl) (e_ixT (e_var 5 rfl) e_int (v := .int n) rfl) (.inl ⟨by rcases h2 with rfl | rfl <;> decide, by rcases h2 with rfl | rfl <;> decide⟩)) d_nil))) ⟨_, rfl⟩ rfl (by rw [List.length_map]; omega)) ?_)
          refine ⟨(sg, g ++ [(p, sg * n)]), ⟨by rw [p2]; exact h1, h2, by show (g ++ _).length ≤ _; rw [List.length_append, List.length_singleton]; omega⟩, .any (.eq (.eq (.ll ?_ (.any (.any .nil)))))⟩
          rw [List.map_append]
          rfl
        by_cases hg : g = []
        · subst hg
          refine ss_cons (s_if (t_w (w_or (t_isN (e_var 5 rfl)) (fun _ => w_or1 (t_w (w_and (c := true) (t_gt (E.to (e_lenL (o_slot 3 rfl) T.z_len) (w := .int 0) rfl) e_int) (fun z => by cases z)))))) (fun hc => by cases hc) (fun hc => ss_nil ?_))
          exact hgo fun z => z.1 rfl
        · obtain ⟨u, hu1, hu2⟩ := last_at hg
          have hgl : 0 < g.length := List.length_pos_iff.mpr hg
          refine ss_cons (s_if (t_w (w_or (t_isN (e_var 5 rfl)) (fun _ => w_or1 (t_w (w_and (t_gt (E.to (e_lenL (o_slot 3 rfl) T.z_len) (w := .int (g.length : Int)) (by rw [List.length_map])) e_int) (fun _ => w_and1 (t_le (e_ixT (e_var 5 rfl) e_int (v := .int p) rfl) (e_ixT (e_ixL (o_slot 3 rfl) (e_neg e_int) hu1) e_int (v := .int u.1) rfl)))))))) (fun hc => ?_) (fun hc => ss_nil ?_))
          · have hc : (decide ((0 : Int) < (g.length : Int)) && decide (p ≤ u.1)) = true := hc
            rw [Bool.and_eq_true, decide_eq_true_iff, decide_eq_true_iff] at hc
            rw [due_even1 ht ⟨hg, by rw [hu2]; exact hc.2⟩] at h1
            refine ss_one (s_ret e_non (pr_is ?_))
            rw [← h1]
            rfl
          · have hc : (decide ((0 : Int) < (g.length : Int)) && decide (p ≤ u.1)) = false := hc
            rw [decide_eq_true (by omega), Bool.true_and, decide_eq_false_iff_not] at hc
            exact hgo fun z => hc (by rw [← hu2]; exact z.2)
    by_cases hx : x % 2 = 1
    · obtain ⟨p1, p2⟩ := par_odd hx
      rw [p1, due_odd] at h1
      by_cases hm1 : wx = [43]
      · subst hm1
        rw [if_pos rfl] at h1
        refine ss_cons (s_if (t_w (w_and (t_eqI (e_mod (e_var 4 rfl) e_int (by decide)) e_int) (fun _ => w_and1 (t_ninT (ss := ["+", "-"]) (e_ixL (o_slot 1 rfl) (e_var 4 rfl) hat) (e_tup (d_cons e_str (d_cons e_str d_nil))))))) (fun hc => ?_) (fun hc => ss_nil ?_))
        · have hc : (decide ((x : Int) % 2 = 1) && !decide (mkS [43] ∈ (["+", "-"] : List Str))) = true := hc
          rw [show decide (mkS [43] ∈ (["+", "-"] : List Str)) = true by decide +kernel, Bool.not_true, Bool.and_false] at hc
          cases hc
        refine ss_one (s_if (t_eqI (e_mod (e_var 4 rfl) e_int (by decide)) e_int) (fun hc => ?_) (fun hc => ?_))
        · refine ss_one (s_set 2 (e_ixL (v := .int 1) (E.ol (e_lst (d_cons e_int (d_cons (e_neg e_int) d_nil)))) (e_intB (c := false) (E.to (e_eqD (hr := hu) (E.o (e_ixL (o_slot 1 rfl) (e_var 4 rfl) hat)) (E.o e_str) (asc_ok (l := [43]) (asc_cons (by decide) asc_nil)) (asc_ok (l := [45]) (asc_cons (by decide) asc_nil))) (congrArg PyData.bool (by show PyData.eqv (eS [43]) (eS [45]) = false; rw [eqv_str]; rfl))) T.z_int) rfl) ?_ (nl hB) scDue.nd)
          exact ⟨(1, g), ⟨by rw [p2]; exact h1, .inl rfl, Nat.le_succ_of_le h3⟩, .any (.eq (.eq (.eq (.any (.any .nil)))))⟩
        · have hc : decide ((x : Int) % 2 = 1) = false := hc
          exact absurd hx (of_decide_eq_false (hmod hc))
      rw [if_neg hm1] at h1
      by_cases hm2 : wx = [45]
      · subst hm2
        rw [if_pos rfl] at h1
        refine ss_cons (s_if (t_w (w_and (t_eqI (e_mod (e_var 4 rfl) e_int (by decide)) e_int) (fun _ => w_and1 (t_ninT (ss := ["+", "-"]) (e_ixL (o_slot 1 rfl) (e_var 4 rfl) hat) (e_tup (d_cons e_str (d_cons e_str d_nil))))))) (fun hc => ?_) (fun hc => ss_nil ?_))
        · have hc : (decide ((x : Int) % 2 = 1) && !decide (mkS [45] ∈ (["+", "-"] : List Str))) = true := hc
          rw [show decide (mkS [45] ∈ (["+", "-"] : List Str)) = true by decide +kernel, Bool.not_true, Bool.and_false] at hc
          cases hc
        refine ss_one (s_if (t_eqI (e_mod (e_var 4 rfl) e_int (by decide)) e_int) (fun hc => ?_) (fun hc => ?_))
        · refine ss_one (s_set 2 (e_ixL (v := .int (-1)) (E.ol (e_lst (d_cons e_int (d_cons (e_neg e_int) d_nil)))) (e_intB (c := true) (E.to (e_eqD (hr := hu) (E.o (e_ixL (o_slot 1 rfl) (e_var 4 rfl) hat)) (E.o e_str) (asc_ok (l := [45]) (asc_cons (by decide) asc_nil)) (asc_ok (l := [45]) (asc_cons (by decide) asc_nil))) (congrArg PyData.bool (by show PyData.eqv (eS [45]) (eS [45]) = true; rw [eqv_str]; rfl))) T.z_int) rfl) ?_ (nl hB) scDue.nd)
          exact ⟨(-1, g), ⟨by rw [p2]; exact h1, .inr rfl, Nat.le_succ_of_le h3⟩, .any (.eq (.eq (.eq (.any (.any .nil)))))⟩
        · have hc : decide ((x : Int) % 2 = 1) = false := hc
          exact absurd hx (of_decide_eq_false (hmod hc))
      rw [if_neg hm2] at h1
      refine ss_cons (s_if (t_w (w_and (t_eqI (e_mod (e_var 4 rfl) e_int (by decide)) e_int) (fun _ => w_and1 (t_ninT (ss := ["+", "-"]) (e_ixL (o_slot 1 rfl) (e_var 4 rfl) hat) (e_tup (d_cons e_str (d_cons e_str d_nil))))))) (fun hc => ?_) (fun hc => ?_))
      · refine ss_one (s_ret e_non (pr_is ?_))
        rw [← h1]
        rfl
      · have hc : (decide ((x : Int) % 2 = 1) && !decide (mkS wx ∈ (["+", "-"] : List Str))) = false := hc
        have hni : ¬ mkS wx ∈ (["+", "-"] : List Str) := fun z => by
          rcases List.mem_cons.mp z with z | z
          · exact hm1 (mkS_inj (a := wx) (b := [43]) z)
          · exact hm2 (mkS_inj (a := wx) (b := [45]) (List.mem_singleton.mp z))
        rw [decide_eq_false hni, Bool.not_false, Bool.and_true, decide_eq_false_iff_not] at hc
        omega
    · refine ss_cons (s_if (t_w (w_and (c := true) (t_eqI (e_mod (e_var 4 rfl) e_int (by decide)) e_int) (fun z => ?_))) (fun hc => ?_) (fun hc => ss_nil ?_))
      · have z : decide ((x : Int) % 2 = 1) = true := z
        exact absurd (of_decide_eq_true (hmod z)) hx
      · have hc : (decide ((x : Int) % 2 = 1) && true) = true := hc
        rw [Bool.and_true] at hc
        exact absurd (of_decide_eq_true (hmod hc)) hx
      refine ss_one (s_if (t_eqI (e_mod (e_var 4 rfl) e_int (by decide)) e_int) (fun hc => ?_) (fun hc => ?_))
      · have hc : decide ((x : Int) % 2 = 1) = true := hc
        exact absurd (of_decide_eq_true (hmod hc)) hx
      · exact hev _ hx
  · obtain ⟨sg, g⟩ := t
    obtain ⟨h1, h2, h3⟩ := hJ
    rw [List.length_range] at h1 h3
    dsimp only at h1 h2 h3
    rw [List.drop_length] at h1
    refine Ex.toLe ?_ l2
    refine ss_one (s_ret (e_ixL (v := optN ((dueF l).map encP)) (E.ol (e_lst (d_cons e_non (d_cons (e_tupL (o_slot 3 rfl) T.z_tuple) d_nil)))) (e_mod (E.to (e_lenL (o_slot 1 rfl) T.z_len) (w := .int (W.length : Int)) (by rw [List.length_map])) e_int (by decide)) ?_) (pr_is rfl))
    by_cases hp : W.length % 2 = 1
    · rw [(par_odd hp).1] at h1
      rw [show ((W.length : Int) % 2) = 1 by omega, ← h1]
      rfl
    · rw [(par_even hp).1] at h1
      rw [show ((W.length : Int) % 2) = 0 by omega, ← h1]
      rfl
def menuS : List Str := ["x", "^", "-", "+", " ", "0", "1", "12", "x^2", " + ", " - ", "3x", "x^-1", "-x", "01", "x^0", "y", "X"]
theorem menu_eq : menuS.map PyData.str = menuL.map eS := by
  have : menuS = menuL.map mkS := by decide +kernel
  rw [this, List.map_map]
  rfl
theorem six_len {a b c d e f : List Nat} {n : Nat} (h1 : Asc a ∧ a.length ≤ n) (h2 : Asc b ∧ b.length ≤ n) (h3 : Asc c ∧ c.length ≤ n) (h4 : Asc d ∧ d.length ≤ n) (h5 : Asc e ∧ e.length ≤ n) (h6 : Asc f ∧ f.length ≤ n) : ∀ w ∈ [a, b, c, d, e, f], Asc w ∧ w.length ≤ n := fun w hw => by
  simp only [List.mem_cons, List.not_mem_nil, or_false] at hw
  rcases hw with rfl | rfl | rfl | rfl | rfl | rfl <;> assumption
structure TxJ (t : (Int × Int) × List Nat) (i : Nat) : Prop where
  asc : Asc t.2
  len : t.2.length ≤ 5 * i
  n0 : 0 ≤ t.1.2
  n1 : t.1.2 ≤ 102 + 2 * i
theorem ok_text {f : Addr} {fd : FuncData} {k : Nat} (F : Fun K "_law_text" "_law_text" sText f fd) (T : Txt K mg) : FnOk P w K mg base CX0 (k + 4) f fd ["_law_row"] (spN K preT outT) := by
  have GTake := ok_take (P := P) (w := w) (base := base) (k := 0) T.FTake T
  have GPolynomial := ok_polynomial (P := P) (w := w) (base := base) (k := 0) T.FPolynomial T
  have GShownPolynomial := ok_shown (P := P) (w := w) (base := base) (k := 0) T.FShownPolynomial T
  refine fn_n F scText (fun as h => by obtain ⟨_, _, rfl⟩ := h; rfl) (by decide) [0] (fun as h i a e o => by
    obtain ⟨_, _, rfl⟩ := h
    exact own_1 (ds := []) e o) (fun cdv A1 outer s H W0 B as hr hf hB => ?_)
  obtain ⟨s0, ⟨hs1, hs2⟩, rfl⟩ := hf
  have hu := hr.units
  have pin : ∀ {g : List Nat} {s' : Int × Int} {ρ : Rho}, Asc g → g.length ≤ 1900 → ρ[0]? = some (rowA s') → PN2 outT [rowA s0] (.d (eS g)) ρ := fun {g s' ρ} h1 h2 h3 => ⟨[rowA s'], ⟨g, h1, h2, rfl, s', rfl⟩, shape_1, fun i a' e o => by
    cases i with
    | zero => rw [List.getElem?_cons_zero] at e; cases e; exact h3
    | succ i => cases e⟩
  refine ss_cons (s_if (t_eqI (e_take 0 (s := s0) GTake (hr.mono (by omega)) T.gTake T.FTake.kp T.bTake e_int ⟨_, rfl, rfl⟩ rfl) e_int) (fun hc => ?_) (fun hc => ss_nil ?_))
  · refine ss_cons (s_set 1 (E.toA (e_lst (d_cons e_str (d_cons e_str (d_cons e_str (d_cons e_str (d_cons e_str (d_cons e_str (d_cons e_str (d_cons e_str (d_cons e_str (d_cons e_str (d_cons e_str (d_cons e_str (d_cons e_str (d_cons e_str (d_cons e_str (d_cons e_str (d_cons e_str (d_cons e_str d_nil))))))))))))))))))) (es1 := menuL.map eS) menu_eq) ?_ (nl hB) scText.nd)
    refine ss_cons (s_set 2 e_str ?_ (nl hB) scText.nd)
    have hv0 := tkV_lo (s := tkS s0 2) (b := 10) (by decide)
    have hv1 := tkV_hi (s := tkS s0 2) (b := 10) (by decide)
    refine ss_cons (s_forS encN (xs := List.range (tkV (tkS s0 2) 10).toNat) (src_rN (E.to (e_take 0 (s := tkS s0 2) GTake (hr.mono (by omega)) T.gTake T.FTake.kp T.bTake e_int ⟨_, rfl, rfl⟩ rfl) (congrArg PyData.int (Int.toNat_of_nonneg hv0).symm)) T.z_range (by omega)) (tkS (tkS s0 2) 10, ([] : List Nat)) (fun t => [rowA t.1, .ml (menuL.map eS), .d (eS t.2), .any, .any, .any, .any]) TxJ ⟨asc_nil, Nat.le_refl _, by show 0 ≤ s0.2 + 1 + 1; omega, by show s0.2 + 1 + 1 ≤ _; omega⟩ (.eq (.eq (.eq (.any (.any (.any (.any .nil))))))) (fun t i x hi hJ => ?_) (fun t ρ' hJ l2 => ?_))
    · obtain ⟨s, g⟩ := t
      obtain ⟨j1, j2, j3, j4⟩ := hJ
      have j1 : Asc g := j1
      have j2 : g.length ≤ 5 * i := j2
      have j3 : 0 ≤ s.2 := j3
      have j4 : s.2 ≤ 102 + 2 * (i : Int) := j4
      obtain ⟨hi1, rfl⟩ := range_get hi
      have hx : x < 10 := by omega
      refine ⟨_, g_name 3 (nl hB) scText.nd, ?_⟩
      have v0 := tkV_lo (s := s) (b := 18) (by decide)
      have v1 := tkV_hi (s := s) (b := 18) (by decide)
      have hmat := at_eS (W := menuL) v0 v1
      have hm := getD_mem (W := menuL) v0 v1
      have hmo := menu_ok _ hm
      generalize menuL.getD (tkV s 18).toNat [] = m at *
      refine ss_one (s_set 2 (E.to (e_addS (E.to (e_addS (e_var 2 rfl) (e_ixL (o_slot 1 rfl) (e_take 0 (s := s) GTake (hr.mono (by omega)) T.gTake T.FTake.kp T.bTake e_int ⟨_, rfl, rfl⟩ rfl) (v := eS m) ?ha) (by rw [mkS_len, mkS_len]; omega)) (w := eS (g ++ m)) (congrArg PyData.str (mkS_app g m))) (e_ixL (v := eS (if tkV (tkS s 18) 5 = 0 then [32] else [])) (E.ol (e_lst (d_cons e_str (d_cons e_str d_nil)))) (e_intB (e_eqI (e_take 0 (s := tkS s 18) GTake (hr.mono (by omega)) T.gTake T.FTake.kp T.bTake e_int ⟨_, rfl, rfl⟩ rfl) e_int) T.z_int) ?hb) (by rw [mkS_len, mkS_len, List.length_append]; split <;> simp <;> omega)) (w := eS (g ++ m ++ (if tkV (tkS s 18) 5 = 0 then [32] else []))) (congrArg PyData.str (mkS_app _ _))) ?_ (nl hB) scText.nd)
      case ha => exact hmat
      case hb =>
        by_cases h : tkV (tkS s 18) 5 = 0
        · rw [if_pos h, decide_eq_true h]
          rfl
        · rw [if_neg h, decide_eq_false h]
          rfl
      refine ⟨(tkS (tkS s 18) 5, g ++ m ++ (if tkV (tkS s 18) 5 = 0 then [32] else [])), ⟨asc_app (asc_app j1 hmo.1) ?_, ?_, ?_, ?_⟩, .eq (.eq (.eq (.any (.any (.any (.any .nil))))))⟩
      · split
        · exact asc_cons (by decide) asc_nil
        · exact asc_nil
      · show (g ++ m ++ _).length ≤ _
        rw [List.length_append, List.length_append]
        have := hmo.2
        split <;> simp <;> omega
      · show 0 ≤ s.2 + 1 + 1
        omega
      · show s.2 + 1 + 1 ≤ _
        omega
    · obtain ⟨s, g⟩ := t
      obtain ⟨j1, j2, j3, j4⟩ := hJ
      rw [List.length_range] at j2
      have j1 : Asc g := j1
      have j2 : g.length ≤ 5 * _ := j2
      refine Ex.toLe ?_ l2
      exact ss_one (s_ret (e_var 2 rfl) (pin j1 (by omega) rfl))
  · have v0 := tkV_lo (s := tkS s0 2) (b := 2) (by decide)
    have v1 := tkV_hi (s := tkS s0 2) (b := 2) (by decide)
    obtain ⟨hm0, hm1⟩ := mostT_bd v0 v1
    have hmi := mostT_at v0 v1
    generalize ([50, 10 ^ 60 - 1] : List Int).getD (tkV (tkS s0 2) 2).toNat 0 = m at *
    have hmo : mostOk m := ⟨hm0, by have h9 : (10 : Int) ^ 60 - 1 < 10 ^ 61 := (by decide); omega⟩
    have q1 := polyL_ok (s := tkS (tkS s0 2) 2) (m := m) (t := 5) hmo (by decide)
    have b1 := polyL_tm (s := tkS (tkS s0 2) 2) hm0 hm1
    have n1 := polyS_n (s := tkS (tkS s0 2) 2) (m := m) (t := 5) hm0 (by decide)
    have hl5 : (polyL (tkS (tkS s0 2) 2) m 5).length ≤ 5 := q1.len
    refine ss_cons (s_set 2 (e_callP (r := .d (eS (shownL (polyL (tkS (tkS s0 2) 2) m 5)))) GShownPolynomial (hr.mono (by omega)) T.gShownPolynomial T.FShownPolynomial.kp T.bShownPolynomial (d_cons (e_call GPolynomial (hr.mono (by omega)) T.gPolynomial T.FPolynomial.kp T.bPolynomial (a_lent 0 rfl rfl (a_dat (e_ixL (v := .int m) (E.ol (e_lst (d_cons e_int (d_cons (e_sub (e_pow e_int e_int ⟨by decide, by decide, by decide⟩) e_int) d_nil)))) (e_take 0 (s := tkS s0 2) GTake (hr.mono (by omega)) T.gTake T.FTake.kp T.bTake e_int ⟨_, rfl, rfl⟩ rfl) hmi) (a_dat e_int a_nil))) ⟨tkS (tkS s0 2) 2, m, 5, ⟨by show 0 ≤ s0.2 + 1 + 1; omega, by show s0.2 + 1 + 1 ≤ _; omega⟩, hmo, ⟨by decide, by decide⟩, rfl, rfl, rfl⟩ shape_1 (show [0].Nodup by decide) (fun _ _ z => z.elim)) d_nil) ⟨_, Nat.le_trans hl5 (by decide), b1, rfl, rfl⟩) ?_ (nl hB) scText.nd)
    have hsn : 0 ≤ (polyS (tkS (tkS s0 2) 2) m 5).2 ∧ (polyS (tkS (tkS s0 2) 2) m 5).2 ≤ 2000 := by
      dsimp only [tkS_n] at n1
      constructor <;> omega
    have hgl := shown_5 hl5 b1
    have hgA := shownL_asc (polyL (tkS (tkS s0 2) 2) m 5)
    generalize polyS (tkS (tkS s0 2) 2) m 5 = s at *
    generalize shownL (polyL (tkS (tkS s0 2) 2) m 5) = g at *
    obtain ⟨hsn0, hsn1⟩ := hsn
    have hgc : (mkS g).length ≤ 16777216 := by rw [mkS_len]; omega
    refine ss_cons (s_set 4 (e_take 0 (s := s) GTake (hr.mono (by omega)) T.gTake T.FTake.kp T.bTake (e_add (E.to (e_lenS (e_var 2 rfl) hgc T.z_len) (congrArg (fun n : Nat => PyData.int (n : Int)) (mkS_len g))) e_int) ⟨_, rfl, rfl⟩ rfl (h0 := ⟨by omega, by omega⟩)) ?_ (nl hB) scText.nd)
    have a0 := tkV_lo (s := s) (b := (g.length : Int) + 1) (by omega)
    have a1 := tkV_hi (s := s) (b := (g.length : Int) + 1) (by omega)
    obtain ⟨a, ha⟩ : ∃ a : Nat, tkV s ((g.length : Int) + 1) = (a : Int) := ⟨(tkV s ((g.length : Int) + 1)).toNat, by omega⟩
    have hag : a ≤ g.length := by omega
    have c0 := tkV_lo (s := tkS s ((g.length : Int) + 1)) (b := 15) (by decide)
    have c1 := tkV_hi (s := tkS s ((g.length : Int) + 1)) (b := 15) (by decide)
    have hlt : (tkV (tkS s ((g.length : Int) + 1)) 15).toNat < signL.length := by show _ < 15; omega
    obtain ⟨c, hcx⟩ : ∃ c, signL[(tkV (tkS s ((g.length : Int) + 1)) 15).toNat]? = some c := ⟨_, List.getElem?_eq_getElem hlt⟩
    have hcA : c < 128 := sign_ok c (List.mem_of_getElem? hcx)
    refine ss_cons (s_set 5 (E.to (e_ixS (c := c) (E.to e_str (congrArg PyData.str sign_at)) (e_take 0 (s := tkS s ((g.length : Int) + 1)) GTake (hr.mono (by omega)) T.gTake T.FTake.kp T.bTake e_int ⟨_, rfl, rfl⟩ rfl) c0 (by rw [mkS_len]; exact c1) (by rw [mkS_len]; decide) (by show signL.toArray[_]? = _; rw [List.getElem?_toArray]; exact hcx)) (w := eS [c]) rfl) ?_ (nl hB) scText.nd)
    rw [ha]
    have hsn2 : 0 ≤ (tkS (tkS s ((g.length : Int) + 1)) 15).2 ∧ (tkS (tkS s ((g.length : Int) + 1)) 15).2 ≤ 1000000 := by
      simp only [tkS_n]
      omega
    generalize tkS (tkS s ((g.length : Int) + 1)) 15 = s2 at *
    have hc1 : cutS (mkS g) none (some (a : Int)) = mkS (g.take a) := cut_head g a
    have hc2 : cutS (mkS g) (some ((a + 1 : Nat) : Int)) none = mkS (g.drop (a + 1)) := cut_tail g (a + 1)
    have hc3 : cutS (mkS g) (some (a : Int)) none = mkS (g.drop a) := cut_tail g a
    have lg2 : (mkS (g.take a)).length ≤ 670 := by rw [mkS_len, List.length_take]; omega
    have lg3 : (mkS (g.drop (a + 1))).length ≤ 670 := by rw [mkS_len, List.length_drop]; omega
    have lg4 : (mkS (g.drop a)).length ≤ 670 := by rw [mkS_len, List.length_drop]; omega
    have lg1 : (mkS g).length ≤ 670 := by rw [mkS_len]; exact hgl
    have lgc : (mkS [c]).length = 1 := mkS_len [c]
    have six : ∀ w ∈ [g, g ++ g, [32] ++ g, g.take a ++ g.drop (a + 1), g.take a ++ [c] ++ g.drop a, g.take a ++ [c] ++ g.drop (a + 1)], Asc w ∧ w.length ≤ 1900 := by
      have t1 : Asc (g.take a) := fun x hx => hgA x (List.mem_of_mem_take hx)
      have t2 : Asc (g.drop a) := fun x hx => hgA x (List.mem_of_mem_drop hx)
      have t3 : Asc (g.drop (a + 1)) := fun x hx => hgA x (List.mem_of_mem_drop hx)
      have t4 : Asc [c] := asc_cons hcA asc_nil
      have u1 : (g.take a).length ≤ 670 := by rw [List.length_take]; omega
      have u2 : (g.drop a).length ≤ 670 := by rw [List.length_drop]; omega
      have u3 : (g.drop (a + 1)).length ≤ 670 := by rw [List.length_drop]; omega
      refine six_len ⟨hgA, by omega⟩ ⟨asc_app hgA hgA, by rw [List.length_append]; omega⟩ ⟨asc_app (asc_cons (by decide) asc_nil) hgA, by rw [List.length_append, List.length_singleton]; omega⟩ ⟨asc_app t1 t3, by rw [List.length_append]; omega⟩ ⟨asc_app (asc_app t1 t4) t2, by rw [List.length_append, List.length_append, List.length_singleton]; omega⟩ ⟨asc_app (asc_app t1 t4) t3, by rw [List.length_append, List.length_append, List.length_singleton]; omega⟩
    refine ss_cons (s_set 6 (E.toA (e_lst (d_cons (e_var 2 rfl) (d_cons (E.to (e_addS (e_var 2 rfl) (e_var 2 rfl) (by omega)) (w := eS (g ++ g)) (congrArg PyData.str (mkS_app _ _))) (d_cons (E.to (e_addS e_str (e_var 2 rfl) (by show 1 + _ ≤ _; omega)) (w := eS ([32] ++ g)) (congrArg PyData.str (mkS_app [32] g))) (d_cons (E.to (e_addS (E.to (e_slS (e_var 2 rfl) p_none (p_some (e_var 4 rfl)) hgc) (congrArg PyData.str hc1)) (E.to (e_slS (e_var 2 rfl) (p_some (E.to (e_add (e_var 4 rfl) e_int) (w := .int ((a + 1 : Nat) : Int)) rfl)) p_none hgc) (congrArg PyData.str hc2)) (by omega)) (w := eS (g.take a ++ g.drop (a + 1))) (congrArg PyData.str (mkS_app _ _))) d_nil))))) (es1 := [g, g ++ g, [32] ++ g, g.take a ++ g.drop (a + 1)].map eS) rfl) ?_ (nl hB) scText.nd)
    refine ss_cons (s_set 6 (E.toA (e_cat (pl_slot 6 rfl) (E.pl (e_lst (d_cons (E.to (e_addS (E.to (e_addS (E.to (e_slS (e_var 2 rfl) p_none (p_some (e_var 4 rfl)) hgc) (congrArg PyData.str hc1)) (e_var 5 rfl) (by omega)) (w := eS (g.take a ++ [c])) (congrArg PyData.str (mkS_app _ _))) (E.to (e_slS (e_var 2 rfl) (p_some (e_var 4 rfl)) p_none hgc) (congrArg PyData.str hc3)) (by rw [mkS_len (g.take a ++ [c]), List.length_append, List.length_singleton]; rw [mkS_len] at lg2; omega)) (w := eS (g.take a ++ [c] ++ g.drop a)) (congrArg PyData.str (mkS_app _ _))) (d_cons (E.to (e_addS (E.to (e_addS (E.to (e_slS (e_var 2 rfl) p_none (p_some (e_var 4 rfl)) hgc) (congrArg PyData.str hc1)) (e_var 5 rfl) (by omega)) (w := eS (g.take a ++ [c])) (congrArg PyData.str (mkS_app _ _))) (E.to (e_slS (e_var 2 rfl) (p_some (E.to (e_add (e_var 4 rfl) e_int) (w := .int ((a + 1 : Nat) : Int)) rfl)) p_none hgc) (congrArg PyData.str hc2)) (by rw [mkS_len (g.take a ++ [c]), List.length_append, List.length_singleton]; rw [mkS_len] at lg2; omega)) (w := eS (g.take a ++ [c] ++ g.drop (a + 1))) (congrArg PyData.str (mkS_app _ _))) d_nil)))) (by show 4 + 2 ≤ _; decide)) (es1 := [g, g ++ g, [32] ++ g, g.take a ++ g.drop (a + 1), g.take a ++ [c] ++ g.drop a, g.take a ++ [c] ++ g.drop (a + 1)].map eS) rfl) ?_ (nl hB) scText.nd)
    have v60 := tkV_lo (s := s2) (b := 6) (by decide)
    have v61 := tkV_hi (s := s2) (b := 6) (by decide)
    have hat6 := at_eS (W := [g, g ++ g, [32] ++ g, g.take a ++ g.drop (a + 1), g.take a ++ [c] ++ g.drop a, g.take a ++ [c] ++ g.drop (a + 1)]) v60 v61
    have hmem := six _ (getD_mem (W := [g, g ++ g, [32] ++ g, g.take a ++ g.drop (a + 1), g.take a ++ [c] ++ g.drop a, g.take a ++ [c] ++ g.drop (a + 1)]) v60 v61)
    exact ss_one (s_ret (e_ixL (o_slot 6 rfl) (e_take 0 (s := s2) GTake (hr.mono (by omega)) T.gTake T.FTake.kp T.bTake e_int ⟨_, rfl, rfl⟩ rfl hsn2) hat6) (pin hmem.1 hmem.2 rfl))
theorem e_varK {X : Cx} {ρ : Rho} {kvs : List (Key × PyData)} {x : Str} {pos : Pos} (i : Nat) (h : ρ[i]? = some (.rk kvs)) (hN : X.N[i]? = some x := by rfl) (hv : Vis X.env.scope x := by first | exact Or.inl rfl | exact Or.inr (Or.inl rfl) | exact Or.inr (Or.inr rfl))
    (hd : (x == ("__debug__" : Str)) = false := by decide) (hcd : (x == ("__classdict__" : Str)) = false := by decide) : E X (.Name x pos) ρ (.rk kvs) ρ := .of (pe_var hN hv hd hcd) fun σ HF H S1 Q q => by
  obtain ⟨s, e, y, rfl, r⟩ := S1.slot i _ h
  exact ⟨y, e, q y HF H S1 (.refl ..) r⟩
theorem ok_refused {f : Addr} {fd : FuncData} {k : Nat} (F : Fun K "_law_refused" "_law_refused" sRefused f fd) (T : Txt K mg) (Z0 : Sg K w mg) : FnOk P w K mg base (L2.CX P w) (k + 8) f fd ["_law_text_here"] (spX K fRef) := by
  have GReadPolynomial := ok_read_polynomial (P := P) (w := w) (base := base) (k := 0) T.FReadPolynomial T Z0
  refine fn_x F scRefused (by decide) (fun as r h => by
    rcases h with ⟨⟨_, _, _, _, rfl⟩ | ⟨_, _, rfl⟩ | rfl, _⟩ <;> rfl) (fun cdv A1 outer s H W0 B as res hr hf hB Z => ?_)
  obtain ⟨hf, hres⟩ := hf
  obtain ⟨a, rfl, hrd, hka⟩ : ∃ a, as = [a] ∧ rRead T.CNoText [a] (.inr (noT T.CNoText)) ∧ ((∃ v, a = .d v) ∨ a = .rk []) := by
    rcases hf with ⟨l, hA, hl, hr, rfl⟩ | ⟨v, hv, rfl⟩ | rfl
    · exact ⟨_, rfl, .inl ⟨l, hA, hl, rfl, by rw [hr]; rfl⟩, .inl ⟨_, rfl⟩⟩
    · exact ⟨_, rfl, .inr (.inl ⟨v, hv, rfl, rfl⟩), .inl ⟨_, rfl⟩⟩
    · exact ⟨_, rfl, .inr (.inr ⟨rfl, rfl⟩), .inr rfl⟩
  rcases hka with ⟨v, rfl⟩ | rfl
  all_goals
    refine ss_cons (s_set 1 e_bl ?_ (nl hB) scRefused.nd)
    refine ss_cons (s_tryAs 2 T.xTangleError (fs := [("at", .int 0)]) (fun W pn xe tk => EXr.f (r_callM (er := noT T.CNoText) GReadPolynomial (hr.mono (by omega)) T.gReadPolynomial T.FReadPolynomial.kp T.bReadPolynomial (m_cons (by first | exact e_var 0 rfl | exact e_varK 0 rfl) m_nil) rfl hrd tk)) (fun a oe d pn hz hfl => ?_) (nl hB) scRefused.nd)
    · refine ss_cons (s_set 1 (e_and (e_isF 2 (v := .ref T.CNoText) (pe_glob rfl T.gNoText rfl (by decide)) (.own _) T.eNoText hz hfl kit_own rfl T.z_isinstance) (fun _ => e_and (e_isF 2 (v := .ty "ValueError") (pe_bltn (u := .type "ValueError") rfl T.z_ValueError (by decide +kernel) rfl) (.ty _) T.eNoText hz hfl (kit_ve T.vNoText) rfl T.z_isinstance) (fun _ => e_one (e_eqI (e_fldF 2 T.eNoText hz hfl T.nNoText rfl rfl) e_int)))) ?_ (nl hB) scRefused.nd)
      refine ss_one (s_if (t_w (w_or (t_val (e_isF 2 (v := .ref T.CNoWeb) (pe_glob rfl T.xNoWeb.g rfl (by decide)) (.own _) T.eNoText hz hfl T.xNoWeb.kit rfl T.z_isinstance)) (fun _ => w_or (t_val (e_isF 2 (v := .ref T.COdd) (pe_glob rfl T.xOdd.g rfl (by decide)) (.own _) T.eNoText hz hfl T.xOdd.kit rfl T.z_isinstance)) (fun _ => w_or1 (t_val (e_isF 2 (v := .ref T.CNotFlat) (pe_glob rfl T.xNotFlat.g rfl (by decide)) (.own _) T.eNoText hz hfl T.xNotFlat.kit rfl T.z_isinstance)))))) (fun hc => nomatch hc) (fun hc => ss_nil ?_))
      refine ss_one (s_ret (e_var 1 rfl) ?_)
      exact hres
theorem ok_law {f : Addr} {fd : FuncData} {k : Nat} (F : Fun K "law" "law" sLaw f fd) (T : Txt K mg) (Z : Sg K w mg) : FnOk P w K mg base CX0 (k + 9) f fd ["_law_script"] (spA K (pure_ lawF)) := by
  have GText := ok_text (P := P) (w := w) (base := base) (k := 0) T.FText T
  have GDue := ok_due (P := P) (w := w) (base := base) (k := 0) T.FDue T
  have GRefused := ok_refused (P := P) (w := w) (base := base) (k := 0) T.FRefused T Z
  have GReadPolynomial := ok_read_polynomial (P := P) (w := w) (base := base) (k := 0) T.FReadPolynomial T Z
  refine fn_pure F scLaw (by decide) (fun ds r h => by obtain ⟨_, _, rfl, _⟩ := h; rfl) (fun cdv A1 outer s H W B ds r hr hf hB => ?_)
  obtain ⟨ns, hns, rfl, rfl⟩ := hf
  have hu := hr.units
  refine ss_cons (s_forF PyData.int (xs := 0 :: ns.take 20) (src_l (E.to (E.fz (e_cat (E.pl (e_lst (d_cons e_int d_nil))) (E.pl (e_slL (E.o (e_var 0 rfl)) p_none (p_some e_int))) (by have := List.length_take (i := 20) (l := ns.map PyData.int); show _ + (cut _ none (some ((20 : Nat) : Int))).length ≤ _; rw [take_cut]; show 1 + _ ≤ _; omega))) (w := .list ((0 :: ns.take 20).map .int)) (by show PyData.list (_ ++ cut _ none (some ((20 : Nat) : Int))) = _; rw [take_cut, ← List.map_take]; rfl))) () (fun _ _ => ()) (fun t => [.d (.list (ns.map .int)), .any, .any, .any, .any]) (fun t i => True) trivial (Le.refl _) (fun t i x hi hJ => ?_) (fun ρ' hJ l => ?_))
  · refine ⟨trivial, _, g_name 1 (nl hB) scLaw.nd, ?_⟩
    refine ss_cons (s_setN 2 (e_callNM GText (hr.mono (by omega)) T.gText T.FText.kp T.bText (as := [rowA (x, 0)]) (m_cons (e_lst (d_cons (e_var 1 rfl) (d_cons e_int d_nil))) m_nil) (fun i j a b h1 h2 _ _ => by
      have := (List.getElem?_eq_some_iff.mp h1).1
      have := (List.getElem?_eq_some_iff.mp h2).1
      simp only [List.length_singleton] at *
      omega) ⟨(x, 0), ⟨Int.le_refl _, show (0 : Int) ≤ 100 by decide⟩, rfl⟩) (fun a ρ1 ⟨as', ⟨l, hA, hl, h1, _⟩, h2⟩ => ?_) (nl hB) scLaw.nd)
    subst h1 h2
    refine ss_cons (s_set 3 (e_callP GDue (hr.mono (by omega)) T.gDue T.FDue.kp T.bDue (d_cons (e_var 2 rfl) d_nil) (r := .d (optN ((dueF l).map encP))) ⟨l, hA, hl, rfl, rfl⟩) ?_ (nl hB) scLaw.nd)
    have hrd := read_due l
    cases hd : dueF l with
    | none =>
      rw [hd] at hrd
      refine ss_cons (s_if (t_w (w_and (t_isN (e_var 3 rfl)) (fun _ => w_and1 (t_not (t_val (e_okM GRefused (hr.mono (by omega)) T.gRefused T.FRefused.kp T.bRefused (m_cons (e_var 2 rfl) m_nil) rfl ⟨.inl ⟨l, hA, hl, hrd, rfl⟩, rfl⟩)))))) (fun hc => nomatch hc) (fun hc => ss_nil ?_))
      refine ss_one (s_if (t_w (w_and (c := true) (t_notN (e_var 3 rfl)) (fun z => nomatch z))) (fun hc => nomatch hc) (fun hc => ss_nil ?_))
      exact .eq (.any (.any (.any (.any .nil))))
    | some g =>
      rw [hd] at hrd
      refine ss_cons (s_if (t_w (w_and (c := true) (t_isN (e_var 3 rfl)) (fun z => nomatch z))) (fun hc => nomatch hc) (fun hc => ss_nil ?_))
      refine ss_one (s_if (t_w (w_and (t_notN (e_var 3 rfl)) (fun _ => w_and1 (t_neD (hr := hu) (E.o (e_okM (a := .d (encP g)) GReadPolynomial (hr.mono (by omega)) T.gReadPolynomial T.FReadPolynomial.kp T.bReadPolynomial (m_cons (e_var 2 rfl) m_nil) rfl (.inl ⟨l, hA, hl, rfl, by rw [hrd]; rfl⟩))) (E.o (e_var 3 rfl)) (fit_P (n := 0) g).shaped (fit_P (n := 0) g).shaped)))) (fun hc => ?_) (fun hc => ss_nil ?_))
      · have hc : (true && !PyData.eqv (encP g) (encP g)) = true := hc
        rw [eqE_P g g, decide_eq_true rfl] at hc
        cases hc
      exact .eq (.any (.any (.any (.any .nil))))
  refine Ex.toLe ?_ l
  have go : ∀ a : A, (((∃ v, isi v .str = false ∧ a = .d v)) ∨ a = .rk []) → fRef [a] (.inl (.d (.bool true))) := fun a h => by
    rcases h with ⟨v, hv, rfl⟩ | rfl
    · exact ⟨.inr (.inl ⟨v, hv, rfl⟩), rfl⟩
    · exact ⟨.inr (.inr rfl), rfl⟩
  refine ss_cons (s_forM 4 (as := [.d .none, .d (.int 0), .d (.bool true), .d (.tuple []), .d (.list []), .d (.tuple [.str "x"]), .rk []]) (m_cons e_non (m_cons e_int (m_cons e_bl (m_cons (e_tup d_nil) (m_cons (E.fz (e_lst d_nil)) (m_cons (e_tup (d_cons e_str d_nil)) (m_cons (E.rk e_dictK) m_nil))))))) rfl (Le.refl _) (fun m a ha => ?_) ?_ (nl hB) (hN := scLaw.nd))
  · have hm : m < 7 := (List.getElem?_eq_some_iff.mp ha).1
    have hk : ((∃ v, isi v .str = false ∧ a = .d v)) ∨ a = .rk [] := by
      have : m = 0 ∨ m = 1 ∨ m = 2 ∨ m = 3 ∨ m = 4 ∨ m = 5 ∨ m = 6 := by omega
      rcases this with rfl | rfl | rfl | rfl | rfl | rfl | rfl <;> cases ha <;> first | exact .inr rfl | exact .inl ⟨_, rfl, rfl⟩
    have hR := go a hk
    rcases hk with ⟨v, _, rfl⟩ | rfl
    all_goals
      refine ss_one (s_if (t_not (t_val (e_okM GRefused (hr.mono (by omega)) T.gRefused T.FRefused.kp T.bRefused (m_cons (by first | exact e_var 4 rfl | exact e_varK 4 rfl) m_nil) rfl hR))) (fun hc => nomatch hc) (fun hc => ss_nil ?_))
      exact .eq (.eq (.eq (.eq (.any .nil))))
  exact ss_one (s_ret e_bl (pr_is rfl))
end
theorem all_mk {l : PySem.W.OpenLaw} {w : World} {K : PySem.W.Frag} {h : Heap} {mg : Str → Option Value} {fa f1 f2 f3 f4 f5 f6 f7 f8 f9 f10 f11 f12 f13 f14 f15 f16 f17 f18 f19 f20 : Addr} (X : K.In h) (G : h.Ns mainGlobals mg) (hfa : mg "law" = some (.ref fa))
    {od1 an1 od2 an2 od3 an3 od4 an4 od5 an5 od6 an6 od7 an7 od8 an8 od9 an9 od10 an10 od11 an11 od12 an12 od13 an13 od14 an14 od15 an15 od16 an16 od17 an17 od18 an18 od19 an19 od20 an20 : Option Addr} {sl1 sl2 sl3 sl4 sl5 sl6 sl7 sl8 sl9 sl10 sl11 sl12 sl13 sl14 sl15 sl16 sl17 sl18 sl19 sl20 : Array (Option Value)} {oc1 kV1 dc1 pm1 cd1 ct1 oc2 kV2 dc2 pm2 cd2 ct2 oc3 kV3 dc3 pm3 cd3 ct3 oc4 kV4 dc4 pm4 cd4 ct4 oc5 kV5 dc5 pm5 cd5 ct5 oc6 kV6 dc6 pm6 cd6 ct6 oc7 kV7 dc7 pm7 cd7 ct7 oc8 kV8 dc8 pm8 cd8 ct8 oc9 kV9 dc9 pm9 cd9 ct9 oc10 kV10 dc10 pm10 cd10 ct10 oc11 kV11 dc11 pm11 cd11 ct11 oc12 kV12 dc12 pm12 cd12 ct12 oc13 kV13 dc13 pm13 cd13 ct13 oc14 kV14 dc14 pm14 cd14 ct14 oc15 kV15 dc15 pm15 cd15 ct15 oc16 kV16 dc16 pm16 cd16 ct16 oc17 kV17 dc17 pm17 cd17 ct17 oc18 kV18 dc18 pm18 cd18 ct18 oc19 kV19 dc19 pm19 cd19 ct19 oc20 kV20 dc20 pm20 cd20 ct20 : Value}
    (a1 : PySem.W.nsIn K mainGlobals "_law_text" = some (some (.ref f1))) (l1 : K.lookup f1 = some ⟨oc1, od1, .func (PySem.W.fnOf "_law_text" "_law_text" (defArgs sText) (defBody sText) (defScope sText) .none kV1 dc1 pm1 an1 cd1 ct1), sl1⟩) (c1 : PySem.W.codeIn K cd1 "_law_text" = true) (k1 : PySem.W.keepIn K (.ref f1) = true)
    (a2 : PySem.W.nsIn K mainGlobals "_law_due" = some (some (.ref f2))) (l2 : K.lookup f2 = some ⟨oc2, od2, .func (PySem.W.fnOf "_law_due" "_law_due" (defArgs sDue) (defBody sDue) (defScope sDue) .none kV2 dc2 pm2 an2 cd2 ct2), sl2⟩) (c2 : PySem.W.codeIn K cd2 "_law_due" = true) (k2 : PySem.W.keepIn K (.ref f2) = true)
    (a3 : PySem.W.nsIn K mainGlobals "_law_refused" = some (some (.ref f3))) (l3 : K.lookup f3 = some ⟨oc3, od3, .func (PySem.W.fnOf "_law_refused" "_law_refused" (defArgs sRefused) (defBody sRefused) (defScope sRefused) .none kV3 dc3 pm3 an3 cd3 ct3), sl3⟩) (c3 : PySem.W.codeIn K cd3 "_law_refused" = true) (k3 : PySem.W.keepIn K (.ref f3) = true)
    (a4 : PySem.W.nsIn K mainGlobals "read_polynomial" = some (some (.ref f4))) (l4 : K.lookup f4 = some ⟨oc4, od4, .func (PySem.W.fnOf "read_polynomial" "read_polynomial" (defArgs sReadPolynomial) (defBody sReadPolynomial) (defScope sReadPolynomial) .none kV4 dc4 pm4 an4 cd4 ct4), sl4⟩) (c4 : PySem.W.codeIn K cd4 "read_polynomial" = true) (k4 : PySem.W.keepIn K (.ref f4) = true)
    (a5 : PySem.W.nsIn K mainGlobals "shown_polynomial" = some (some (.ref f5))) (l5 : K.lookup f5 = some ⟨oc5, od5, .func (PySem.W.fnOf "shown_polynomial" "shown_polynomial" (defArgs sShownPolynomial) (defBody sShownPolynomial) (defScope sShownPolynomial) .none kV5 dc5 pm5 an5 cd5 ct5), sl5⟩) (c5 : PySem.W.codeIn K cd5 "shown_polynomial" = true) (k5 : PySem.W.keepIn K (.ref f5) = true)
    (a6 : PySem.W.nsIn K mainGlobals "_law_take" = some (some (.ref f6))) (l6 : K.lookup f6 = some ⟨oc6, od6, .func (PySem.W.fnOf "_law_take" "_law_take" (defArgs sTake) (defBody sTake) (defScope sTake) .none kV6 dc6 pm6 an6 cd6 ct6), sl6⟩) (c6 : PySem.W.codeIn K cd6 "_law_take" = true) (k6 : PySem.W.keepIn K (.ref f6) = true)
    (a7 : PySem.W.nsIn K mainGlobals "_law_polynomial" = some (some (.ref f7))) (l7 : K.lookup f7 = some ⟨oc7, od7, .func (PySem.W.fnOf "_law_polynomial" "_law_polynomial" (defArgs sPolynomial) (defBody sPolynomial) (defScope sPolynomial) .none kV7 dc7 pm7 an7 cd7 ct7), sl7⟩) (c7 : PySem.W.codeIn K cd7 "_law_polynomial" = true) (k7 : PySem.W.keepIn K (.ref f7) = true)
    (a8 : PySem.W.nsIn K mainGlobals "_law_term" = some (some (.ref f8))) (l8 : K.lookup f8 = some ⟨oc8, od8, .func (PySem.W.fnOf "_law_term" "_law_term" (defArgs sTerm) (defBody sTerm) (defScope sTerm) .none kV8 dc8 pm8 an8 cd8 ct8), sl8⟩) (c8 : PySem.W.codeIn K cd8 "_law_term" = true) (k8 : PySem.W.keepIn K (.ref f8) = true)
    (a9 : PySem.W.nsIn K mainGlobals "terms_of" = some (some (.ref f9))) (l9 : K.lookup f9 = some ⟨oc9, od9, .func (PySem.W.fnOf "terms_of" "terms_of" (defArgs sTermsOf) (defBody sTermsOf) (defScope sTermsOf) .none kV9 dc9 pm9 an9 cd9 ct9), sl9⟩) (c9 : PySem.W.codeIn K cd9 "terms_of" = true) (k9 : PySem.W.keepIn K (.ref f9) = true)
    (a10 : PySem.W.nsIn K mainGlobals "is_polynomial" = some (some (.ref f10))) (l10 : K.lookup f10 = some ⟨oc10, od10, .func (PySem.W.fnOf "is_polynomial" "is_polynomial" (defArgs sIsPolynomial) (defBody sIsPolynomial) (defScope sIsPolynomial) .none kV10 dc10 pm10 an10 cd10 ct10), sl10⟩) (c10 : PySem.W.codeIn K cd10 "is_polynomial" = true) (k10 : PySem.W.keepIn K (.ref f10) = true)
    (a11 : PySem.W.nsIn K mainGlobals "shown_term" = some (some (.ref f11))) (l11 : K.lookup f11 = some ⟨oc11, od11, .func (PySem.W.fnOf "shown_term" "shown_term" (defArgs sShownTerm) (defBody sShownTerm) (defScope sShownTerm) .none kV11 dc11 pm11 an11 cd11 ct11), sl11⟩) (c11 : PySem.W.codeIn K cd11 "shown_term" = true) (k11 : PySem.W.keepIn K (.ref f11) = true)
    (a12 : PySem.W.nsIn K mainGlobals "_law_number" = some (some (.ref f12))) (l12 : K.lookup f12 = some ⟨oc12, od12, .func (PySem.W.fnOf "_law_number" "_law_number" (defArgs sNumber) (defBody sNumber) (defScope sNumber) .none kV12 dc12 pm12 an12 cd12 ct12), sl12⟩) (c12 : PySem.W.codeIn K cd12 "_law_number" = true) (k12 : PySem.W.keepIn K (.ref f12) = true)
    (a13 : PySem.W.nsIn K mainGlobals "_law_figures" = some (some (.ref f13))) (l13 : K.lookup f13 = some ⟨oc13, od13, .func (PySem.W.fnOf "_law_figures" "_law_figures" (defArgs sFigures) (defBody sFigures) (defScope sFigures) .none kV13 dc13 pm13 an13 cd13 ct13), sl13⟩) (c13 : PySem.W.codeIn K cd13 "_law_figures" = true) (k13 : PySem.W.keepIn K (.ref f13) = true)
    (a14 : PySem.W.nsIn K mainGlobals "_law_power" = some (some (.ref f14))) (l14 : K.lookup f14 = some ⟨oc14, od14, .func (PySem.W.fnOf "_law_power" "_law_power" (defArgs sPower) (defBody sPower) (defScope sPower) .none kV14 dc14 pm14 an14 cd14 ct14), sl14⟩) (c14 : PySem.W.codeIn K cd14 "_law_power" = true) (k14 : PySem.W.keepIn K (.ref f14) = true)
    (a15 : PySem.W.nsIn K mainGlobals "term_of" = some (some (.ref f15))) (l15 : K.lookup f15 = some ⟨oc15, od15, .func (PySem.W.fnOf "term_of" "term_of" (defArgs sTermOf) (defBody sTermOf) (defScope sTermOf) .none kV15 dc15 pm15 an15 cd15 ct15), sl15⟩) (c15 : PySem.W.codeIn K cd15 "term_of" = true) (k15 : PySem.W.keepIn K (.ref f15) = true)
    (a16 : PySem.W.nsIn K mainGlobals "is_term" = some (some (.ref f16))) (l16 : K.lookup f16 = some ⟨oc16, od16, .func (PySem.W.fnOf "is_term" "is_term" (defArgs sIsTerm) (defBody sIsTerm) (defScope sIsTerm) .none kV16 dc16 pm16 an16 cd16 ct16), sl16⟩) (c16 : PySem.W.codeIn K cd16 "is_term" = true) (k16 : PySem.W.keepIn K (.ref f16) = true)
    (a17 : PySem.W.nsIn K mainGlobals "power_of" = some (some (.ref f17))) (l17 : K.lookup f17 = some ⟨oc17, od17, .func (PySem.W.fnOf "power_of" "power_of" (defArgs sPowerOf) (defBody sPowerOf) (defScope sPowerOf) .none kV17 dc17 pm17 an17 cd17 ct17), sl17⟩) (c17 : PySem.W.codeIn K cd17 "power_of" = true) (k17 : PySem.W.keepIn K (.ref f17) = true)
    (a18 : PySem.W.nsIn K mainGlobals "number_of" = some (some (.ref f18))) (l18 : K.lookup f18 = some ⟨oc18, od18, .func (PySem.W.fnOf "number_of" "number_of" (defArgs sNumberOf) (defBody sNumberOf) (defScope sNumberOf) .none kV18 dc18 pm18 an18 cd18 ct18), sl18⟩) (c18 : PySem.W.codeIn K cd18 "number_of" = true) (k18 : PySem.W.keepIn K (.ref f18) = true)
    (a19 : PySem.W.nsIn K mainGlobals "is_whole" = some (some (.ref f19))) (l19 : K.lookup f19 = some ⟨oc19, od19, .func (PySem.W.fnOf "is_whole" "is_whole" (defArgs sIsWhole) (defBody sIsWhole) (defScope sIsWhole) .none kV19 dc19 pm19 an19 cd19 ct19), sl19⟩) (c19 : PySem.W.codeIn K cd19 "is_whole" = true) (k19 : PySem.W.keepIn K (.ref f19) = true)
    (a20 : PySem.W.nsIn K mainGlobals "law" = some (some (.ref f20))) (l20 : K.lookup f20 = some ⟨oc20, od20, .func (PySem.W.fnOf "law" "law" (defArgs sLaw) (defBody sLaw) (defScope sLaw) .none kV20 dc20 pm20 an20 cd20 ct20), sl20⟩) (c20 : PySem.W.codeIn K cd20 "law" = true) (k20 : PySem.W.keepIn K (.ref f20) = true)
    (z1 : PySem.W.nsIn K mainGlobals "range" = some none)
    (z2 : PySem.W.nsIn K mainGlobals "len" = some none)
    (z3 : PySem.W.nsIn K mainGlobals "int" = some none)
    (z4 : PySem.W.nsIn K mainGlobals "tuple" = some none)
    (z5 : PySem.W.nsIn K mainGlobals "isinstance" = some none)
    (z6 : PySem.W.nsIn K mainGlobals "ValueError" = some none)
    (z7 : PySem.W.nsIn K mainGlobals "str" = some none)
    (z8 : PySem.W.nsIn K mainGlobals "zip" = some none)
    (z9 : PySem.W.nsIn K mainGlobals "all" = some none)
    (z10 : PySem.W.nsIn K mainGlobals "abs" = some none)
    (z11 : PySem.W.nsIn K mainGlobals "bool" = some none)
    {v1_1 : Tok}
    (hc1 : PySem.W.nsIn K mainGlobals "MOST_FIGURES" = some (some (.int (60) v1_1)))
    {v2_1 : Tok}
    (hc2 : PySem.W.nsIn K mainGlobals "FIGURES" = some (some (.str "0123456789" v2_1)))
    {C1 Cs1 : Addr} {xnm xqn : Str} {xN : Addr} {xbs : List Value} {xsn : List Str} {xsub : List Value} {xab : Bool} {xcol : Option Bool} {xdd : Option Addr} {xm0 xm1 xm2 xm3 xm5 : Option Value} {xf : Addr} {xoc xkV xdc xpm xcd xct : Value} {xod xan : Option Addr} {xsl : Array (Option Value)}
    (x1a : PySem.W.nsIn K mainGlobals "NoText" = some (some (.ref C1))) (x1l : K.lookup C1 = some (excClassObj xnm xqn C1 xN xbs [.ref Cs1, .type "ValueError", .type "Exception", .type "BaseException", .type "object"] true xsn xsub xab xcol xdd xm0 xm1 xm2 xm3 xm5 "ValueError.__new__")) (x1z : PySem.W.findIn K (.ref C1) "__setattr__" = some (some (.builtin "object.__setattr__"))) (x1s : PySem.W.subIn K (.ref C1) (.type "BaseException") = some true) (x1t : PySem.W.typeIn K (.ref C1) = some (.type "type")) (x1k : PySem.W.keepIn K (.ref C1) = true) (x1m : PySem.W.findIn K (.ref C1) "__init__" = some (some (.ref xf))) (x1f : PySem.W.typeIn K (.ref xf) = some (.type "function")) (x1n : PySem.W.findIn K (.ref C1) "at" = some none)
    (x1y : K.lookup xf = some ⟨xoc, xod, .func (PySem.W.fnOf "__init__" "NoText.__init__" (defArgs sINoText) (defBody sINoText) (defScope sINoText) .none xkV xdc xpm xan xcd xct), xsl⟩) (x1d : PySem.W.codeIn K xcd "NoText.__init__" = true) (x1p : PySem.W.keepIn K (.ref xf) = true) (x1c : PySem.W.subIn K (.ref C1) (.ref C1) = some true)
    (u1 : PySem.W.findIn K (.ref C1) "__getattribute__" = some (some (.builtin "BaseException.__getattribute__"))) (u2 : PySem.W.findIn K (.ref C1) "__getattr__" = some none) (u3 : PySem.W.hasDictIn K C1 = true) (u4 : PySem.W.findIn K (.ref C1) "__class__" = some (some (.builtin "object.__class__"))) (u5 : PySem.W.specialIn K (.builtin "object.__class__") "__get__" = some (some (.builtin "getset_descriptor.__get__"))) (u6 : PySem.W.takesIn K (.builtin "object.__class__") = some true) (u7 : PySem.W.mroIn K C1 (.type "object") = some true) (u8 : PySem.W.subIn K (.ref C1) (.type "ValueError") = some true)
    {S0 : Addr} (y0a : PySem.W.nsIn K mainGlobals "TangleError" = some (some (.ref S0))) (y0s : PySem.W.subIn K (.ref S0) (.type "BaseException") = some true) (y0t : PySem.W.typeIn K (.ref S0) = some (.type "type")) (y0i : PySem.W.isClsIn K S0 = true) (y0d : PySem.W.subIn K (.ref C1) (.ref S0) = some true)
    {O0 : Addr} (w0a : PySem.W.nsIn K mainGlobals "NoWeb" = some (some (.ref O0))) (w0t : PySem.W.typeIn K (.ref O0) = some (.type "type")) (w0i : PySem.W.isClsIn K O0 = true) (w0d : PySem.W.subIn K (.ref C1) (.ref O0) = some false)
    {O1 : Addr} (w1a : PySem.W.nsIn K mainGlobals "Odd" = some (some (.ref O1))) (w1t : PySem.W.typeIn K (.ref O1) = some (.type "type")) (w1i : PySem.W.isClsIn K O1 = true) (w1d : PySem.W.subIn K (.ref C1) (.ref O1) = some false)
    {O2 : Addr} (w2a : PySem.W.nsIn K mainGlobals "NotFlat" = some (some (.ref O2))) (w2t : PySem.W.typeIn K (.ref O2) = some (.type "type")) (w2i : PySem.W.isClsIn K O2 = true) (w2d : PySem.W.subIn K (.ref C1) (.ref O2) = some false)
    {kd_ : Addr} {kes : Array DictEntry} {ksn : Nat} {kt0 kt1 : Tok}
    (kd1 : PySem.W.nsIn K mainGlobals "SIGNS" = some (some (.ref kd_))) (kd2 : K.lookup kd_ = some ⟨.type "dict", none, .dict kes ksn, #[]⟩) (kd3 : kes.toList.map He.keyOf = He.keysIn w.params ["+", "-"]) (kd4 : (kd_ == sysModules) = false)
    (kp0 : PySem.W.nsIn K kd_ "+" = some (some (.int (1) kt0))) (kp1 : PySem.W.nsIn K kd_ "-" = some (some (.int (-1) kt1)))
    : ∃ fd : FuncData, (∀ (s : Shared) (v : Value), BindsTo s fd ⟨[v], []⟩ [("_law_script", v)]) ∧ ∀ base : Heap, K.In base → base.Ns mainGlobals mg → FnOk l.prog w K mg base CX0 (0 + 9) fa fd ["_law_script"] (spA K (pure_ lawF)) := by
  have e := hfa.symm.trans (PySem.W.mg_of X G a20)
  cases e
  have F1 := fun_mk (st := sText) l1 c1 k1
  have F2 := fun_mk (st := sDue) l2 c2 k2
  have F3 := fun_mk (st := sRefused) l3 c3 k3
  have F4 := fun_mk (st := sReadPolynomial) l4 c4 k4
  have F5 := fun_mk (st := sShownPolynomial) l5 c5 k5
  have F6 := fun_mk (st := sTake) l6 c6 k6
  have F7 := fun_mk (st := sPolynomial) l7 c7 k7
  have F8 := fun_mk (st := sTerm) l8 c8 k8
  have F9 := fun_mk (st := sTermsOf) l9 c9 k9
  have F10 := fun_mk (st := sIsPolynomial) l10 c10 k10
  have F11 := fun_mk (st := sShownTerm) l11 c11 k11
  have F12 := fun_mk (st := sNumber) l12 c12 k12
  have F13 := fun_mk (st := sFigures) l13 c13 k13
  have F14 := fun_mk (st := sPower) l14 c14 k14
  have F15 := fun_mk (st := sTermOf) l15 c15 k15
  have F16 := fun_mk (st := sIsTerm) l16 c16 k16
  have F17 := fun_mk (st := sPowerOf) l17 c17 k17
  have F18 := fun_mk (st := sNumberOf) l18 c18 k18
  have F19 := fun_mk (st := sIsWhole) l19 c19 k19
  have F20 := fun_mk (st := sLaw) l20 c20 k20
  exact ⟨PySem.W.fnOf "law" "law" (defArgs sLaw) (defBody sLaw) (defScope sLaw) .none kV20 dc20 pm20 an20 cd20 ct20, fun s v => .of_eq rfl, fun base _ _ => ok_law (k := 0) F20 ⟨f1, _, F1, PySem.W.mg_of X G a1, f2, _, F2, PySem.W.mg_of X G a2, f3, _, F3, PySem.W.mg_of X G a3, f4, _, F4, PySem.W.mg_of X G a4, f5, _, F5, PySem.W.mg_of X G a5, f6, _, F6, PySem.W.mg_of X G a6, f7, _, F7, PySem.W.mg_of X G a7, f8, _, F8, PySem.W.mg_of X G a8, f9, _, F9, PySem.W.mg_of X G a9, f10, _, F10, PySem.W.mg_of X G a10, f11, _, F11, PySem.W.mg_of X G a11, f12, _, F12, PySem.W.mg_of X G a12, f13, _, F13, PySem.W.mg_of X G a13, f14, _, F14, PySem.W.mg_of X G a14, f15, _, F15, PySem.W.mg_of X G a15, f16, _, F16, PySem.W.mg_of X G a16, f17, _, F17, PySem.W.mg_of X G a17, f18, _, F18, PySem.W.mg_of X G a18, f19, _, F19, PySem.W.mg_of X G a19, PySem.W.mg_none_of X G z1, PySem.W.mg_none_of X G z2, PySem.W.mg_none_of X G z3, PySem.W.mg_none_of X G z4, PySem.W.mg_none_of X G z5, PySem.W.mg_none_of X G z6, PySem.W.mg_none_of X G z7, PySem.W.mg_none_of X G z8, PySem.W.mg_none_of X G z9, PySem.W.mg_none_of X G z10, PySem.W.mg_none_of X G z11, ⟨_, PySem.W.mg_of X G hc1, kd_int⟩, ⟨_, PySem.W.mg_of X G hc2, kd_str⟩, C1, PySem.W.mg_of X G x1a, ⟨⟨xnm, xqn, xN, xbs, _, xsn, xsub, xab, xcol, xdd, xm0, xm1, xm2, xm3, xm5, x1l, rfl⟩, x1z, x1s, x1t, x1k⟩, xf, _, fun_mk (st := sINoText) x1y x1d x1p, x1m, x1f, x1n, ⟨u1, u2, x1s, u3, u4, u5, u6, u7⟩, u8, S0, ⟨PySem.W.mg_of X G y0a, y0s, y0t, y0i, y0d⟩, O0, ⟨PySem.W.mg_of X G w0a, w0t, w0i, w0d, x1c⟩, O1, ⟨PySem.W.mg_of X G w1a, w1t, w1i, w1d, x1c⟩, O2, ⟨PySem.W.mg_of X G w2a, w2t, w2i, w2d, x1c⟩⟩ ⟨kd_, kes, ksn, ⟨kd2, He.keysLit_of kd3, kd4⟩, PySem.W.mg_of X G kd1, kt0, kt1, kp0, kp1, kd3⟩⟩
end K25
open PySem PySem.W PyProof.Rows
set_option maxHeartbeats 0 in
theorem PySem.Challenge.cw_tanglehouse_k25_whole_any_text_read_or_n_holds : PySem.Challenge.rw_tanglehouse_k25_whole_any_text_read_or_n.Holds := by
  w_on; o_law; k_head; (case hw => w_witness2)
  k_fill
  refine L2.walk_of (l := PySem.Challenge.rw_tanglehouse_k25_whole_any_text_read_or_n) (n := 63) (k := 9) (x := "_law_script") (CX := fun _ => L2.CX0) (sp := fun w => Th.spA _ (Th.pure_ Th.lawF)) rfl (by decide) rfl ⟨rfl, by decide, by decide⟩ (fun w h Y => PySem.W.kIn_of Y) ?F (fun _ _ a ns hl _ hS => Th.law_go hl hS) (fun _ _ _ _ _ h => h)
  case F =>
    intro w mg fa h KX G hmg
    refine' K25.all_mk KX G hmg ?a1 ?l1 ?c1 ?k1 ?a2 ?l2 ?c2 ?k2 ?a3 ?l3 ?c3 ?k3 ?a4 ?l4 ?c4 ?k4 ?a5 ?l5 ?c5 ?k5 ?a6 ?l6 ?c6 ?k6 ?a7 ?l7 ?c7 ?k7 ?a8 ?l8 ?c8 ?k8 ?a9 ?l9 ?c9 ?k9 ?a10 ?l10 ?c10 ?k10 ?a11 ?l11 ?c11 ?k11 ?a12 ?l12 ?c12 ?k12 ?a13 ?l13 ?c13 ?k13 ?a14 ?l14 ?c14 ?k14 ?a15 ?l15 ?c15 ?k15 ?a16 ?l16 ?c16 ?k16 ?a17 ?l17 ?c17 ?k17 ?a18 ?l18 ?c18 ?k18 ?a19 ?l19 ?c19 ?k19 ?a20 ?l20 ?c20 ?k20 ?z1 ?z2 ?z3 ?z4 ?z5 ?z6 ?z7 ?z8 ?z9 ?z10 ?z11 ?hc1 ?hc2 ?x1a ?x1l ?x1z ?x1s ?x1t ?x1k ?x1m ?x1f ?x1n ?x1y ?x1d ?x1p ?x1c ?u1 ?u2 ?u3 ?u4 ?u5 ?u6 ?u7 ?u8 ?y0a ?y0s ?y0t ?y0i ?y0d ?w0a ?w0t ?w0i ?w0d ?w1a ?w1t ?w1i ?w1d ?w2a ?w2t ?w2i ?w2d ?kd1 ?kd2 ?kd3 ?kd4 ?kp0 ?kp1
    (case a1 => k_is); (case l1 => k_is); (case c1 => k_is); (case k1 => k_is); (case a2 => k_is); (case l2 => k_is); (case c2 => k_is); (case k2 => k_is); (case a3 => k_is); (case l3 => k_is); (case c3 => k_is); (case k3 => k_is); (case a4 => k_is); (case l4 => k_is); (case c4 => k_is); (case k4 => k_is); (case a5 => k_is); (case l5 => k_is); (case c5 => k_is); (case k5 => k_is); (case a6 => k_is); (case l6 => k_is); (case c6 => k_is); (case k6 => k_is); (case a7 => k_is); (case l7 => k_is); (case c7 => k_is); (case k7 => k_is); (case a8 => k_is); (case l8 => k_is); (case c8 => k_is); (case k8 => k_is); (case a9 => k_is); (case l9 => k_is); (case c9 => k_is); (case k9 => k_is); (case a10 => k_is); (case l10 => k_is); (case c10 => k_is); (case k10 => k_is); (case a11 => k_is); (case l11 => k_is); (case c11 => k_is); (case k11 => k_is); (case a12 => k_is); (case l12 => k_is); (case c12 => k_is); (case k12 => k_is); (case a13 => k_is); (case l13 => k_is); (case c13 => k_is); (case k13 => k_is); (case a14 => k_is); (case l14 => k_is); (case c14 => k_is); (case k14 => k_is); (case a15 => k_is); (case l15 => k_is); (case c15 => k_is); (case k15 => k_is); (case a16 => k_is); (case l16 => k_is); (case c16 => k_is); (case k16 => k_is); (case a17 => k_is); (case l17 => k_is); (case c17 => k_is); (case k17 => k_is); (case a18 => k_is); (case l18 => k_is); (case c18 => k_is); (case k18 => k_is); (case a19 => k_is); (case l19 => k_is); (case c19 => k_is); (case k19 => k_is); (case a20 => k_is); (case l20 => k_is); (case c20 => k_is); (case k20 => k_is); (case z1 => k_is); (case z2 => k_is); (case z3 => k_is); (case z4 => k_is); (case z5 => k_is); (case z6 => k_is); (case z7 => k_is); (case z8 => k_is); (case z9 => k_is); (case z10 => k_is); (case z11 => k_is); (case hc1 => k_is); (case hc2 => k_is); (case x1a => k_is); (case x1l => k_is); (case x1z => k_is); (case x1s => k_is); (case x1t => k_is); (case x1k => k_is); (case x1m => k_is); (case x1f => k_is); (case x1n => k_is); (case x1y => k_is); (case x1d => k_is); (case x1p => k_is); (case x1c => first | rfl | k_is); (case u1 => k_is); (case u2 => k_is); (case u3 => k_is); (case u4 => k_is); (case u5 => k_is); (case u6 => k_is); (case u7 => k_is); (case u8 => k_is); (case y0a => k_is); (case y0s => k_is); (case y0t => k_is); (case y0i => k_is); (case y0d => k_is); (case w0a => k_is); (case w0t => k_is); (case w0i => k_is); (case w0d => k_is); (case w1a => k_is); (case w1t => k_is); (case w1i => k_is); (case w1d => k_is); (case w2a => k_is); (case w2t => k_is); (case w2i => k_is); (case w2d => k_is); (case kd1 => k_is); (case kd2 => k_is); (case kd3 => first | rfl | k_is); (case kd4 => first | rfl | k_is); (case kp0 => k_is); (case kp1 => k_is)

