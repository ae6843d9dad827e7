import PyProof.Rows.All
import Wide.All
import OpenK.AllK
import Wide.FinOn
import HandS.ForMost
import HandS.TupAny
import HandS.TupMul
import HandS.Wide
import HandS.Star
import HandS.Deep
import HandS.Style
import HandS.Walk
import HandS.More
import HandS.Zip
import KE.GoesEnum
import HandS.Replace
import HandS.Sort
import HandS.TupSets
import PyProof.ReprRoads
import HandS.Words
import KE.KDictZip
import PyProof.ReprBulk
import PyProof.Rows.ReprShort
import PyProof.Rows.StrMeet
import HandS.Conv
import HandS.TupLen
import HandS.SortInts
import KE.KExcSuper
import HandS.Exc
import HandS.ExcField
import HandS.ExcIs
import HandS.TryMany
import HandS.ExcOwn
import HandS.WordsExc
import KE.KExcIs
import KE.KDictDisplayH
import KE.GoesZip
import HandS.Gcd
import KE.KTupSum
import KE.KMathGC
import PyProof.DictUpdate
import HandS.Finally
import PyProof.ListStr
import HandS.ForDict
import KE.RegKIsAll
import KE.KExcLine
import PySem.Challenge.RW_veiledchains_k51_whole_who_told_a_view
set_option Elab.async false
set_option linter.all false
set_option maxRecDepth 100000
/-! PL, the pure layer: data without heaps over the hand layer. Part 1: data, slots, the separated heap. -/
namespace PL
open PySem PySem.Spec L2

/-- data, as the written name of the library's type -/
abbrev D := PyData

def keyD : Key → D
  | .inl i => .int i
  | .inr x => .str x

/-- the written tuples that data may hold -/
class Consts where
  ok : Addr → Prop
variable [Consts]
/-- no written tuple is data -/
def NoC : Prop := ∀ a, ¬ Consts.ok a
/-- a tuple, frozen or written -/
def Tq (K : PySem.W.Frag) (F : Hp) (a : Addr) (xs : List V) : Prop := F a = some (.tup xs) ∨ (Consts.ok a ∧ ∀ H : Hp, SqT K H a xs)
theorem Tq.mono {K : PySem.W.Frag} {F F' : Hp} {a : Addr} {xs : List V} (h : Tq K F a xs) (e : Same F F') : Tq K F' a xs := h.imp (e _ _) id
mutual
/-- v stands for the data d, all of whose objects lie in the frozen part F -/
inductive Rp (K : PySem.W.Frag) (F : Hp) : V → D → Prop
  | non : Rp K F .non .none
  | bl (b : Bool) : Rp K F (.bl b) (.bool b)
  | int (i : Int) : Rp K F (.int i) (.int i)
  | str (x : Str) : Rp K F (.str x) (.str x)
  | lst {a : Addr} {xs : List V} {ds : List D} : F a = some (.lst xs) → RpAll K F xs ds → Rp K F (.ref a) (.list ds)
  | tup {a : Addr} {xs : List V} {ds : List D} : Tq K F a xs → RpAll K F xs ds → Rp K F (.ref a) (.tuple ds)
  | dic {a : Addr} {kvs : List (Key × V)} {kds : List (Key × D)} : F a = some (.dK kvs) → RpKv K F kvs kds → Rp K F (.ref a) (.dict (kds.map fun p => (keyD p.1, p.2)))
inductive RpAll (K : PySem.W.Frag) (F : Hp) : List V → List D → Prop
  | nil : RpAll K F [] []
  | cons {v : V} {vs : List V} {d : D} {ds : List D} : Rp K F v d → RpAll K F vs ds → RpAll K F (v :: vs) (d :: ds)
inductive RpKv (K : PySem.W.Frag) (F : Hp) : List (Key × V) → List (Key × D) → Prop
  | nil : RpKv K F [] []
  | cons {k : Key} {v : V} {vs : List (Key × V)} {d : D} {ds : List (Key × D)} : Rp K F v d → RpKv K F vs ds → RpKv K F ((k, v) :: vs) ((k, d) :: ds)
end

theorem same_rd {F F' : Hp} {a : Addr} {u : HO} (e : Same F F') (h : Rd F a u) : Rd F' a u := by
  rcases h with h | ⟨o, h⟩
  · exact .inl (e _ _ h)
  · exact .inr ⟨o, e _ _ h⟩
theorem same_l {K : PySem.W.Frag} {F F' : Hp} {a : Addr} {xs : List V} (e : Same F F') (h : SqL K F a xs) : SqL K F' a xs := h.imp (same_rd e) id
theorem same_T {K : PySem.W.Frag} {F F' : Hp} {a : Addr} {xs : List V} (e : Same F F') (h : SqT K F a xs) : SqT K F' a xs := h.imp (same_rd e) id
theorem same_t {K : PySem.W.Frag} {F F' : Hp} {a : Addr} {xs : List V} (e : Same F F') (h : Tq K F a xs) : SqT K F' a xs := h.elim (fun h => .inl (.inl (e _ _ h))) fun h => h.2 F'

mutual
theorem Rp.mono {K : PySem.W.Frag} {F F' : Hp} (e : Same F F') : ∀ {v : V} {d : D}, Rp K F v d → Rp K F' v d
  | _, _, .non => .non
  | _, _, .bl b => .bl b
  | _, _, .int i => .int i
  | _, _, .str x => .str x
  | _, _, .lst h r => .lst (e _ _ h) (RpAll.mono e r)
  | _, _, .tup h r => .tup (h.mono e) (RpAll.mono e r)
  | _, _, .dic h r => .dic (e _ _ h) (RpKv.mono e r)
theorem RpAll.mono {K : PySem.W.Frag} {F F' : Hp} (e : Same F F') : ∀ {v : List V} {d : List D}, RpAll K F v d → RpAll K F' v d
  | _, _, .nil => .nil
  | _, _, .cons h r => .cons (Rp.mono e h) (RpAll.mono e r)
theorem RpKv.mono {K : PySem.W.Frag} {F F' : Hp} (e : Same F F') : ∀ {v : List (Key × V)} {d : List (Key × D)}, RpKv K F v d → RpKv K F' v d
  | _, _, .nil => .nil
  | _, _, .cons h r => .cons (Rp.mono e h) (RpKv.mono e r)
end

theorem RpAll.length {K : PySem.W.Frag} {F : Hp} : ∀ {v : List V} {d : List D}, RpAll K F v d → v.length = d.length
  | _, _, .nil => rfl
  | _, _, .cons _ r => congrArg (· + 1) (RpAll.length r)
theorem RpAll.get {K : PySem.W.Frag} {F : Hp} : ∀ {v : List V} {d : List D} {i : Nat} {x : D}, RpAll K F v d → d[i]? = some x → ∃ u, v[i]? = some u ∧ Rp K F u x
  | _, _, _, _, .nil, e => by simp at e
  | _, _, 0, _, .cons h _, e => by
    simp at e
    subst e
    exact ⟨_, rfl, h⟩
  | _, _, i + 1, _, .cons _ r, e => by
    obtain ⟨u, h1, h2⟩ := RpAll.get (i := i) r (by simpa using e)
    exact ⟨u, by simpa using h1, h2⟩
theorem RpAll.getV {K : PySem.W.Frag} {F : Hp} {v : List V} {d : List D} {i : Nat} {u : V} (r : RpAll K F v d) (e : v[i]? = some u) : ∃ x, d[i]? = some x ∧ Rp K F u x := by
  have hl := r.length
  obtain ⟨h1, h2⟩ := List.getElem?_eq_some_iff.mp e
  have hd : d[i]? = some (d[i]'(by omega)) := List.getElem?_eq_getElem (by omega)
  obtain ⟨u', e', h⟩ := r.get hd
  rw [e] at e'
  cases e'
  exact ⟨_, hd, h⟩
theorem RpAll.append {K : PySem.W.Frag} {F : Hp} : ∀ {v w : List V} {d e : List D}, RpAll K F v d → RpAll K F w e → RpAll K F (v ++ w) (d ++ e)
  | _, _, _, _, .nil, s => s
  | _, _, _, _, .cons h r, s => .cons h (RpAll.append r s)
theorem RpAll.one {K : PySem.W.Frag} {F : Hp} {v : V} {d : D} (h : Rp K F v d) : RpAll K F [v] [d] := .cons h .nil
theorem RpAll.set {K : PySem.W.Frag} {F : Hp} {x : V} {y : D} (h : Rp K F x y) : ∀ {v : List V} {d : List D} (i : Nat), RpAll K F v d → RpAll K F (v.set i x) (d.set i y)
  | _, _, _, .nil => .nil
  | _, _, 0, .cons _ r => .cons h r
  | _, _, i + 1, .cons q r => .cons q (RpAll.set h i r)
theorem RpAll.take {K : PySem.W.Frag} {F : Hp} : ∀ {v : List V} {d : List D} (i : Nat), RpAll K F v d → RpAll K F (v.take i) (d.take i)
  | _, _, 0, _ => .nil
  | _, _, _ + 1, .nil => .nil
  | _, _, i + 1, .cons q r => .cons q (RpAll.take i r)
theorem RpAll.drop {K : PySem.W.Frag} {F : Hp} : ∀ {v : List V} {d : List D} (i : Nat), RpAll K F v d → RpAll K F (v.drop i) (d.drop i)
  | _, _, 0, r => r
  | _, _, _ + 1, .nil => .nil
  | _, _, i + 1, .cons _ r => RpAll.drop i r
theorem RpAll.eraseIdx {K : PySem.W.Frag} {F : Hp} : ∀ {v : List V} {d : List D} (i : Nat), RpAll K F v d → RpAll K F (v.eraseIdx i) (d.eraseIdx i)
  | _, _, _, .nil => .nil
  | _, _, 0, .cons _ r => r
  | _, _, i + 1, .cons q r => .cons q (RpAll.eraseIdx i r)
theorem RpAll.rep {K : PySem.W.Frag} {F : Hp} {v : List V} {d : List D} (h : RpAll K F v d) : ∀ k : Nat, RpAll K F (List.replicate k v).flatten (List.replicate k d).flatten
  | 0 => .nil
  | k + 1 => by
    rw [List.replicate_succ, List.flatten_cons, List.replicate_succ, List.flatten_cons]
    exact h.append (RpAll.rep h k)
theorem RpAll.ints {K : PySem.W.Frag} {F : Hp} : ∀ {v : List V} {ns : List Int}, RpAll K F v (ns.map .int) → v = ns.map V.int
  | _, [], h => by cases h; rfl
  | _, n :: ns, h => by
    cases h with
    | cons q r =>
      cases q
      rw [RpAll.ints r]
      rfl
theorem rpAll_ints {K : PySem.W.Frag} {F : Hp} : ∀ ns : List Int, RpAll K F (ns.map V.int) (ns.map .int)
  | [] => .nil
  | n :: ns => .cons (.int n) (rpAll_ints ns)
theorem RpAll.strs {K : PySem.W.Frag} {F : Hp} : ∀ {v : List V} {ns : List Str}, RpAll K F v (ns.map .str) → v = ns.map V.str
  | _, [], h => by cases h; rfl
  | _, n :: ns, h => by
    cases h with
    | cons q r =>
      cases q
      rw [RpAll.strs r]
      rfl
theorem RpAll.bls {K : PySem.W.Frag} {F : Hp} : ∀ {v : List V} {ns : List Bool}, RpAll K F v (ns.map .bool) → v = ns.map V.bl
  | _, [], h => by cases h; rfl
  | _, n :: ns, h => by
    cases h with
    | cons q r =>
      cases q
      rw [RpAll.bls r]
      rfl

/-! data without dicts -/
mutual
def nod : D → Bool
  | .list xs => nodAll xs
  | .tuple xs => nodAll xs
  | .dict _ => false
  | _ => true
def nodAll : List D → Bool
  | [] => true
  | x :: xs => nod x && nodAll xs
end
mutual
theorem Rp.dp {K : PySem.W.Frag} {F : Hp} : ∀ {v : V} {d : D}, Rp K F v d → nod d = true → Dp K F v d
  | _, _, .non, _ => .non
  | _, _, .bl b, _ => .bl b
  | _, _, .int i, _ => .int i
  | _, _, .str x, _ => .str x
  | _, _, .lst h r, n => .lst (.inl (.inl h)) (RpAll.dp r (by simpa only [nod] using n))
  | _, _, .tup h r, n => .tup (same_t (Same.refl F) h) (RpAll.dp r (by simpa only [nod] using n))
  | _, _, .dic h r, n => by simp only [nod] at n; cases n
theorem RpAll.dp {K : PySem.W.Frag} {F : Hp} : ∀ {v : List V} {d : List D}, RpAll K F v d → nodAll d = true → DpAll K F v d
  | _, _, .nil, _ => .nil
  | _, _, .cons h r, n => by
    simp only [nodAll, Bool.and_eq_true] at n
    exact .cons (Rp.dp h n.1) (RpAll.dp r n.2)
end

/-- the thing that draws: where it lies, what it takes up -/
structure Box where
  at_ : Hp → Addr → (Addr → Prop) → Prop
  frame : ∀ {H H' : Hp} {u : Addr} {fp : Addr → Prop}, at_ H u fp → (∀ a, fp a → H' a = H a) → at_ H' u fp
  live : ∀ {H : Hp} {u : Addr} {fp : Addr → Prop}, at_ H u fp → ∀ a, fp a → H a ≠ none
  /-- what is known of the parts (an exception's way back) -/
  ok : Hp → Hp → Prop := fun _ _ => True
  okF : ∀ {G F F' : Hp}, ok G F → Same F F' → ok G F' := by intros; exact True.intro
  okG : ∀ {G F : Hp} {a : Addr} {o : HO}, ok G F → G a = none → ok (upd G a o) F := by intros; exact True.intro
def Box.no : Box where
  at_ := fun _ _ _ => False
  frame := fun h _ => h.elim
  live := fun h => h.elim
/-- with nothing known of the parts -/
def Box.bare (B : Box) : Box where
  at_ := B.at_
  frame := B.frame
  live := B.live

/-- what a slot holds -/
inductive T where
  | un
  | d (d : D)
  /-- a list of one's own, of data -/
  | l (ds : List D)
  /-- a dict of one's own, its values data -/
  | k (kvs : List (Key × D))
  /-- the same, its keys tuples -/
  | kt (kvs : List (List Key × D))
  | bx (u : Addr)
  | raw (v : V)
  /-- what slot i holds -/
  | al (i : Nat)

/-- the data that a value in flight stands for, where it is frozen -/
def T.dat : T → Option D
  | .d x => some x
  | .l ds => some (.list ds)
  | .k kvs => some (.dict (kvs.map fun p => (keyD p.1, p.2)))
  | _ => none

inductive RpKt (K : PySem.W.Frag) (F : Hp) : List (List Key × V) → List (List Key × D) → Prop
  | nil : RpKt K F [] []
  | cons {k : List Key} {v : V} {vs : List (List Key × V)} {d : D} {ds : List (List Key × D)} : Rp K F v d → RpKt K F vs ds → RpKt K F ((k, v) :: vs) ((k, d) :: ds)
theorem RpKt.mono {K : PySem.W.Frag} {F F' : Hp} (e : Same F F') : ∀ {v : List (List Key × V)} {d : List (List Key × D)}, RpKt K F v d → RpKt K F' v d
  | _, _, .nil => .nil
  | _, _, .cons h r => .cons (Rp.mono e h) (RpKt.mono e r)

/-- o holds t; what is one's own of it lies at fp -/
def Own (K : PySem.W.Frag) (B : Box) (H F : Hp) (σ : St) (t : T) (o : Option V) (fp : Addr → Prop) : Prop := match t with
  | .un => ∀ a, ¬ fp a
  | .d d => (∀ a, ¬ fp a) ∧ ∃ v, o = some v ∧ Rp K F v d
  | .l ds => ∃ a xs, o = some (.ref a) ∧ H a = some (.lst xs) ∧ RpAll K F xs ds ∧ ∀ b, fp b ↔ b = a
  | .k kds => ∃ a kvs, o = some (.ref a) ∧ H a = some (.dK kvs) ∧ RpKv K F kvs kds ∧ ∀ b, fp b ↔ b = a
  | .kt kds => ∃ a kvs, o = some (.ref a) ∧ H a = some (.dT kvs) ∧ RpKt K F kvs kds ∧ ∀ b, fp b ↔ b = a
  | .bx u => o = some (.ref u) ∧ B.at_ H u fp
  | .raw v => (∀ a, ¬ fp a) ∧ o = some v
  | .al i => (∀ a, ¬ fp a) ∧ ∃ v, o = some v ∧ σ[i]? = some (some v)

theorem Own.frame {K : PySem.W.Frag} {B : Box} {H H' F F' : Hp} {σ : St} {t : T} {o : Option V} {fp : Addr → Prop} (h : Own K B H F σ t o fp) (k : ∀ a, fp a → H' a = H a) (e : Same F F') : Own K B H' F' σ t o fp := by
  cases t with
  | un => exact h
  | d x => obtain ⟨n, v, e1, r⟩ := h; exact ⟨n, v, e1, r.mono e⟩
  | l ds => obtain ⟨a, xs, e1, e2, r, q⟩ := h; exact ⟨a, xs, e1, (k a ((q a).mpr rfl)).trans e2, r.mono e, q⟩
  | k ds => obtain ⟨a, xs, e1, e2, r, q⟩ := h; exact ⟨a, xs, e1, (k a ((q a).mpr rfl)).trans e2, r.mono e, q⟩
  | kt ds => obtain ⟨a, xs, e1, e2, r, q⟩ := h; exact ⟨a, xs, e1, (k a ((q a).mpr rfl)).trans e2, r.mono e, q⟩
  | bx u => exact ⟨h.1, B.frame h.2 k⟩
  | raw v => exact h
  | al i => exact h
theorem Own.live {K : PySem.W.Frag} {B : Box} {H F : Hp} {σ : St} {t : T} {o : Option V} {fp : Addr → Prop} (h : Own K B H F σ t o fp) : ∀ a, fp a → H a ≠ none := by
  intro a ha
  cases t with
  | un => exact (h a ha).elim
  | d x => exact (h.1 a ha).elim
  | l ds => obtain ⟨b, xs, e1, e2, r, q⟩ := h; rw [(q a).mp ha, e2]; exact fun z => nomatch z
  | k ds => obtain ⟨b, xs, e1, e2, r, q⟩ := h; rw [(q a).mp ha, e2]; exact fun z => nomatch z
  | kt ds => obtain ⟨b, xs, e1, e2, r, q⟩ := h; rw [(q a).mp ha, e2]; exact fun z => nomatch z
  | bx u => exact B.live h.2 a ha
  | raw v => exact (h.1 a ha).elim
  | al i => exact (h.1 a ha).elim


/-- the heap H in parts: G is another's and stays, F is frozen data, the rest is owned slot by slot (slot i owns fp i) -/
structure OkW (K : PySem.W.Frag) (B : Box) (G F H : Hp) (σ : St) (ρ : List T) (fp : Nat → Addr → Prop) : Prop where
  g : Same G H
  f : Same F H
  gf : ∀ a o, G a = some o → F a = none
  bx : B.ok G F
  len : σ.length = ρ.length
  own : ∀ i t, ρ[i]? = some t → Own K B H F σ t (σ[i]?.join) (fp i)
  dj : ∀ i j a, fp i a → fp j a → i = j
  out : ∀ i a, fp i a → G a = none ∧ F a = none
  up : ∀ i a, fp i a → i < ρ.length
def Ok (K : PySem.W.Frag) (B : Box) (G F H : Hp) (σ : St) (ρ : List T) : Prop := ∃ fp, OkW K B G F H σ ρ fp

section
variable {K : PySem.W.Frag} {B : Box} {G G' F F' H H' : Hp} {σ σ' : St} {ρ : List T} {v : V} {d : D} {r t : T} {i : Nat} {a p : Addr} {xs ys : List V} {ds es : List D} {fp : Nat → Addr → Prop}

theorem join_get {σ : St} {i : Nat} {v : V} (h : σ[i]?.join = some v) : σ[i]? = some (some v) := by
  cases e : σ[i]? with
  | none => rw [e] at h; cases h
  | some o => rw [e] at h; exact congrArg some h
theorem get_join {σ : St} {i : Nat} {o : Option V} (h : σ[i]? = some o) : σ[i]?.join = o := by rw [h]; rfl

theorem OkW.live (k : OkW K B G F H σ ρ fp) : ∀ i a, fp i a → H a ≠ none := fun i a h =>
  (k.own i _ (List.getElem?_eq_getElem (k.up i a h))).live a h
theorem Ok.f (k : Ok K B G F H σ ρ) : Same F H := let ⟨_, k⟩ := k; k.f
theorem Ok.g (k : Ok K B G F H σ ρ) : Same G H := let ⟨_, k⟩ := k; k.g
theorem Ok.len (k : Ok K B G F H σ ρ) : σ.length = ρ.length := let ⟨_, k⟩ := k; k.len
theorem Ok.bx (k : Ok K B G F H σ ρ) : B.ok G F := let ⟨_, k⟩ := k; k.bx
theorem Ok.gf (k : Ok K B G F H σ ρ) : ∀ a o, G a = some o → F a = none := let ⟨_, k⟩ := k; k.gf
theorem Ok.var (k : Ok K B G F H σ ρ) (h : ρ[i]? = some (.d d)) : ∃ v, σ[i]? = some (some v) ∧ Rp K F v d := by
  obtain ⟨fp, k⟩ := k
  obtain ⟨_, v, e, r⟩ := k.own i _ h
  exact ⟨v, join_get e, r⟩
theorem Ok.varL (k : Ok K B G F H σ ρ) (h : ρ[i]? = some (.l ds)) : ∃ a xs, σ[i]? = some (some (.ref a)) ∧ H a = some (.lst xs) ∧ RpAll K F xs ds := by
  obtain ⟨fp, k⟩ := k
  obtain ⟨a, xs, e, e2, r, _⟩ := k.own i _ h
  exact ⟨a, xs, join_get e, e2, r⟩
theorem Ok.varRaw (k : Ok K B G F H σ ρ) (h : ρ[i]? = some (.raw v)) : σ[i]? = some (some v) := by
  obtain ⟨fp, k⟩ := k
  obtain ⟨_, e⟩ := k.own i _ h
  exact join_get e
theorem Ok.varBx {u : Addr} (k : Ok K B G F H σ ρ) (h : ρ[i]? = some (.bx u)) : σ[i]? = some (some (.ref u)) := by
  obtain ⟨fp, k⟩ := k
  obtain ⟨e, _⟩ := k.own i _ h
  exact join_get e

/-- the frozen part grows, the heap too, all that is owned is kept -/
theorem OkW.grow (k : OkW K B G F H σ ρ fp) (e : Same F F') (f : Same F' H') (hk : ∀ a o, H a = some o → H' a = some o) (n : ∀ a o, F' a = some o → F a = some o ∨ H a = none) : OkW K B G F' H' σ ρ fp := by
  have nF : ∀ a, F a = none → H a ≠ none → F' a = none := fun a h1 h2 => by
    cases q : F' a with
    | none => rfl
    | some u =>
      rcases n a u q with z | z
      · rw [h1] at z; cases z
      · exact (h2 z).elim
  refine ⟨fun a o h => hk a o (k.g a o h), f, fun a o h => nF a (k.gf a o h) (by rw [k.g a o h]; exact fun z => nomatch z), B.okF k.bx e, k.len, fun i t h => (k.own i t h).frame (fun a ha => ?_) e, k.dj, fun i a h => ⟨(k.out i a h).1, nF a (k.out i a h).2 (k.live i a h)⟩, k.up⟩
  cases q : H a with
  | none => exact (k.live i a ha q).elim
  | some u => exact hk a u q
theorem same_upd (h : H p = none) {o : HO} : Same H (upd H p o) := fun b u e => by rw [upd_ne (ne_of_none e h)]; exact e
theorem OkW.free (k : OkW K B G F H σ ρ fp) (h : H p = none) : F p = none ∧ G p = none := ⟨k.f.free h, k.g.free h⟩
theorem Ok.free (k : Ok K B G F H σ ρ) (h : H p = none) : F p = none ∧ G p = none := let ⟨_, k⟩ := k; k.free h
/-- a new frozen object -/
theorem Ok.newF (k : Ok K B G F H σ ρ) (h : H p = none) (o : HO) : Ok K B G (upd F p o) (upd H p o) σ ρ := by
  obtain ⟨fp, k⟩ := k
  have hF := (k.free h).1
  refine ⟨fp, k.grow (same_upd hF) (fun b u e => ?_) (same_upd h) (fun b u e => ?_)⟩
  · by_cases hb : b = p
    · subst hb; rw [upd_same] at e ⊢; exact e
    · rw [upd_ne hb] at e ⊢; exact k.f b u e
  · by_cases hb : b = p
    · subst hb; exact .inr h
    · rw [upd_ne hb] at e; exact .inl e
theorem Ok.sameF (k : Ok K B G F H σ ρ) (h : H p = none) (o : HO) : Same F (upd F p o) := same_upd (k.free h).1

theorem getA {α : Type} {l : List α} {x : α} {i : Nat} : (l ++ [x])[i]? = if i < l.length then l[i]? else if i = l.length then some x else none := by
  by_cases h : i < l.length
  · rw [List.getElem?_append_left h, if_pos h]
  · rw [if_neg h]
    by_cases h2 : i = l.length
    · subst h2; simp
    · rw [if_neg h2]
      exact List.getElem?_eq_none (by simp; omega)
theorem getA_lt {α : Type} {l : List α} {x : α} {i : Nat} (h : i < l.length) : (l ++ [x])[i]? = l[i]? := by rw [getA, if_pos h]
theorem getA_eq {α : Type} {l : List α} {x : α} : (l ++ [x])[l.length]? = some x := by simp

/-- nothing in flight -/
def T.still : T → Prop
  | .al _ => False
  | _ => True
theorem Own.slots {o : Option V} {fp : Addr → Prop} (h : Own K B H F σ t o fp) (s : t.still) : Own K B H F σ' t o fp := by
  cases t with
  | al i => exact s.elim
  | un => exact h
  | d x => exact h
  | l ds => exact h
  | k ds => exact h
  | kt ds => exact h
  | bx u => exact h
  | raw v => exact h
theorem Own.slotsOf {o : Option V} {fp : Addr → Prop} (h : Own K B H F σ t o fp) (s : ∀ (j : Nat) x, σ[j]? = some (some x) → σ'[j]? = some (some x)) : Own K B H F σ' t o fp := by
  cases t with
  | al i =>
    obtain ⟨n, v, e, q⟩ := h
    exact ⟨n, v, e, s _ _ q⟩
  | un => exact h
  | d x => exact h
  | l ds => exact h
  | k ds => exact h
  | kt ds => exact h
  | bx u => exact h
  | raw v => exact h
theorem Own.more {o' : Option V} {o : Option V} {fp : Addr → Prop} (h : Own K B H F σ t o fp) : Own K B H F (σ ++ [o']) t o fp :=
  h.slotsOf fun j x q => by
    have : j < σ.length := (List.getElem?_eq_some_iff.mp q).1
    rw [getA_lt this]; exact q

/-- one slot more, whose own lies apart -/
theorem OkW.push {fq : Addr → Prop} (k : OkW K B G F H σ ρ fp) (h : Own K B H F σ r (some v) fq) (ap : ∀ a, fq a → G a = none ∧ F a = none) (sep : ∀ i a, fp i a → ¬ fq a) :
    OkW K B G F H (σ ++ [some v]) (ρ ++ [r]) (fun i => if i = ρ.length then fq else fp i) := by
  refine ⟨k.g, k.f, k.gf, k.bx, by simp [k.len], fun i t hi => ?_, fun i j a h1 h2 => ?_, fun i a h1 => ?_, fun i a h1 => ?_⟩
  · by_cases e : i = ρ.length
    · subst e
      simp only [if_true]
      rw [getA_eq] at hi
      cases hi
      rw [← k.len, getA_eq]
      exact h.more
    · simp only [if_neg e]
      have hlt : i < ρ.length := by
        have := (List.getElem?_eq_some_iff.mp hi).1
        simp at this
        omega
      rw [getA_lt hlt] at hi
      rw [getA_lt (by rw [k.len]; exact hlt)]
      exact (k.own i t hi).more
  · by_cases e : i = ρ.length <;> by_cases e' : j = ρ.length <;> simp only [e, e', if_true, if_false] at h1 h2
    · omega
    · exact (sep j a h2 h1).elim
    · exact (sep i a h1 h2).elim
    · exact k.dj i j a h1 h2
  · by_cases e : i = ρ.length
    · simp only [e, if_true] at h1
      exact ap a h1
    · simp only [e, if_false] at h1
      exact k.out i a h1
  · by_cases e : i = ρ.length
    · simp [e]
    · simp only [e, if_false] at h1
      have := k.up i a h1
      simp
      omega
theorem Ok.pushD (k : Ok K B G F H σ ρ) (h : Rp K F v d) : Ok K B G F H (σ ++ [some v]) (ρ ++ [.d d]) :=
  let ⟨_, k⟩ := k; ⟨_, k.push (fq := fun _ => False) ⟨fun _ z => z, v, rfl, h⟩ (fun _ z => z.elim) fun _ _ _ z => z⟩
theorem Ok.pushRaw (k : Ok K B G F H σ ρ) : Ok K B G F H (σ ++ [some v]) (ρ ++ [.raw v]) :=
  let ⟨_, k⟩ := k; ⟨_, k.push (fq := fun _ => False) ⟨fun _ z => z, rfl⟩ (fun _ z => z.elim) fun _ _ _ z => z⟩
theorem Ok.pushAl (k : Ok K B G F H σ ρ) (h : σ[i]? = some (some v)) : Ok K B G F H (σ ++ [some v]) (ρ ++ [.al i]) :=
  let ⟨_, k⟩ := k; ⟨_, k.push (fq := fun _ => False) ⟨fun _ z => z, v, rfl, h⟩ (fun _ z => z.elim) fun _ _ _ z => z⟩
/-- a new object of one's own -/
theorem Ok.newO {o : HO} (k : Ok K B G F H σ ρ) (h : H p = none) (r : Own K B (upd H p o) F σ t (some (.ref p)) fun b => b = p) : Ok K B G F (upd H p o) (σ ++ [some (.ref p)]) (ρ ++ [t]) := by
  obtain ⟨fp, k⟩ := k
  have k' : OkW K B G F (upd H p o) σ ρ fp := k.grow (Same.refl F) (fun b u e => same_upd h b u (k.f b u e)) (same_upd h) (fun b u e => .inl e)
  refine ⟨_, k'.push r (fun b e => ?_) fun j b hb e => ?_⟩
  · have e : b = p := e
    subst e
    exact ⟨(k.free h).2, (k.free h).1⟩
  · have e : b = p := e
    subst e
    exact k.live j b hb h
theorem Ok.newL (k : Ok K B G F H σ ρ) (h : H p = none) (r : RpAll K F xs ds) : Ok K B G F (upd H p (.lst xs)) (σ ++ [some (.ref p)]) (ρ ++ [.l ds]) :=
  k.newO h ⟨p, xs, rfl, upd_same, r, fun b => Iff.rfl⟩
/-- the last slot dropped -/
theorem OkW.pop {o : Option V} (k : OkW K B G F H (σ ++ [o]) (ρ ++ [r]) fp) (st : ∀ t ∈ ρ, t.still) : OkW K B G F H σ ρ (fun i => if i < ρ.length then fp i else fun _ => False) := by
  have hl : σ.length = ρ.length := by have := k.len; simpa using this
  refine ⟨k.g, k.f, k.gf, k.bx, hl, fun i t hi => ?_, fun i j a h1 h2 => ?_, fun i a h1 => ?_, fun i a h1 => ?_⟩
  · have hlt : i < ρ.length := (List.getElem?_eq_some_iff.mp hi).1
    simp only [if_pos hlt]
    have q := k.own i t (by rw [getA_lt hlt]; exact hi)
    rw [getA_lt (by omega)] at q
    exact q.slots (st t (List.mem_of_getElem? hi))
  · by_cases e : i < ρ.length <;> by_cases e' : j < ρ.length <;> simp only [e, e', if_true, if_false] at h1 h2
    exact k.dj i j a h1 h2
  · by_cases e : i < ρ.length <;> simp only [e, if_true, if_false] at h1
    exact k.out i a h1
  · by_cases e : i < ρ.length
    · exact e
    · simp only [e, if_false] at h1
theorem Ok.pop {o : Option V} (k : Ok K B G F H (σ ++ [o]) (ρ ++ [r])) (st : ∀ t ∈ ρ, t.still) : Ok K B G F H σ ρ := let ⟨_, k⟩ := k; ⟨_, k.pop st⟩

theorem getLast_append {α : Type} {l : List (Option α)} {x : Option α} : (l ++ [x])[l.length]?.join = x := by simp
/-- the value in flight is frozen -/
theorem Ok.frz (k : Ok K B G F H (σ ++ [some v]) (ρ ++ [r])) (st : ∀ t ∈ ρ, t.still) (hd : r.dat = some d) : ∃ F', Same F F' ∧ Ok K B G F' H σ ρ ∧ Rp K F' v d := by
  have hl : σ.length = ρ.length := by have := k.len; simpa using this
  cases r with
  | d x =>
    obtain rfl : x = d := Option.some.inj hd
    refine ⟨F, Same.refl F, k.pop st, ?_⟩
    obtain ⟨w, e, q⟩ := k.var (i := ρ.length) (d := x) getA_eq
    rw [← hl, getA_eq] at e
    cases e
    exact q
  | un => cases hd
  | bx u => cases hd
  | raw v => cases hd
  | al i => cases hd
  | kt kvs => cases hd
  | l ds =>
    cases hd
    obtain ⟨fp, k⟩ := k
    obtain ⟨a, xs, e1, e2, q, hf⟩ := k.own ρ.length _ getA_eq
    rw [← hl, getLast_append] at e1
    cases e1
    have hFa : F a = none := (k.out ρ.length a ((hf a).mpr rfl)).2
    have sF : Same F (upd F a (.lst xs)) := same_upd hFa
    have k1 := k.pop st
    refine ⟨upd F a (.lst xs), sF, ⟨_, ⟨k.g, fun b o e => ?_, fun b o e => ?_, B.okF k.bx sF, hl, fun i t hi => (k1.own i t hi).frame (fun _ _ => rfl) sF, k1.dj, fun i b hb => ?_, k1.up⟩⟩, .lst upd_same (q.mono sF)⟩
    · by_cases hb : b = a
      · subst hb; rw [upd_same] at e; cases e; exact e2
      · rw [upd_ne hb] at e; exact k.f b o e
    · have hb : b ≠ a := fun z => by
        subst z
        rw [(k.out ρ.length b ((hf b).mpr rfl)).1] at e
        cases e
      rw [upd_ne hb]
      exact k.gf b o e
    · refine ⟨(k1.out i b hb).1, ?_⟩
      have hne : b ≠ a := fun z => by
        subst z
        by_cases hi : i < ρ.length
        · simp only [if_pos hi] at hb
          have := k.dj i ρ.length b hb ((hf b).mpr rfl)
          omega
        · simp only [if_neg hi] at hb
      rw [upd_ne hne]
      exact (k1.out i b hb).2
  | k kds =>
    cases hd
    obtain ⟨fp, k⟩ := k
    obtain ⟨a, xs, e1, e2, q, hf⟩ := k.own ρ.length _ getA_eq
    rw [← hl, getLast_append] at e1
    cases e1
    have hFa : F a = none := (k.out ρ.length a ((hf a).mpr rfl)).2
    have sF : Same F (upd F a (.dK xs)) := same_upd hFa
    have k1 := k.pop st
    refine ⟨upd F a (.dK xs), sF, ⟨_, ⟨k.g, fun b o e => ?_, fun b o e => ?_, B.okF k.bx sF, hl, fun i t hi => (k1.own i t hi).frame (fun _ _ => rfl) sF, k1.dj, fun i b hb => ?_, k1.up⟩⟩, .dic upd_same (q.mono sF)⟩
    · by_cases hb : b = a
      · subst hb; rw [upd_same] at e; cases e; exact e2
      · rw [upd_ne hb] at e; exact k.f b o e
    · have hb : b ≠ a := fun z => by
        subst z
        rw [(k.out ρ.length b ((hf b).mpr rfl)).1] at e
        cases e
      rw [upd_ne hb]
      exact k.gf b o e
    · refine ⟨(k1.out i b hb).1, ?_⟩
      have hne : b ≠ a := fun z => by
        subst z
        by_cases hi : i < ρ.length
        · simp only [if_pos hi] at hb
          have := k.dj i ρ.length b hb ((hf b).mpr rfl)
          omega
        · simp only [if_neg hi] at hb
      rw [upd_ne hne]
      exact (k1.out i b hb).2

/-- the value in flight is stored in slot i -/
theorem Ok.set (k : Ok K B G F H (σ ++ [some v]) (ρ ++ [r])) (st : ∀ t ∈ ρ, t.still) (sr : r.still) (hi : i < σ.length) : Ok K B G F H (σ.set i (some v)) (ρ.set i r) := by
  have hl : σ.length = ρ.length := by have := k.len; simpa using this
  obtain ⟨fp, k⟩ := k
  have k1 := k.pop st
  have kl := k.own ρ.length _ getA_eq
  rw [← hl, getLast_append] at kl
  have kl : Own K B H F (σ ++ [some v]) r (some v) (fp ρ.length) := by rw [← hl]; exact kl
  refine ⟨fun j => if j = i then fp ρ.length else if j < ρ.length then fp j else fun _ => False, k.g, k.f, k.gf, k.bx, by simp [hl], fun j t hj => ?_, fun j j' a h1 h2 => ?_, fun j a h1 => ?_, fun j a h1 => ?_⟩
  · by_cases e : j = i
    · subst e
      simp only [if_true]
      rw [List.getElem?_set_self (by omega)] at hj
      cases hj
      rw [List.getElem?_set_self (by omega)]
      exact kl.slots sr
    · simp only [if_neg e]
      rw [List.getElem?_set_ne (Ne.symm e)] at hj
      rw [List.getElem?_set_ne (Ne.symm e)]
      have hlt : j < ρ.length := (List.getElem?_eq_some_iff.mp hj).1
      simp only [if_pos hlt]
      have q := k1.own j t hj
      simp only [if_pos hlt] at q
      exact q.slots (st t (List.mem_of_getElem? hj))
  · by_cases e : j = i <;> by_cases e' : j' = i <;> simp only [e, e', if_true, if_false] at h1 h2
    · omega
    · by_cases z : j' < ρ.length <;> simp only [z, if_true, if_false] at h2
      have := k.dj ρ.length j' a h1 h2
      omega
    · by_cases z : j < ρ.length <;> simp only [z, if_true, if_false] at h1
      have := k.dj j ρ.length a h1 h2
      omega
    · by_cases z : j < ρ.length <;> by_cases z' : j' < ρ.length <;> simp only [z, z', if_true, if_false] at h1 h2
      exact k.dj j j' a h1 h2
  · by_cases e : j = i
    · simp only [e, if_true] at h1; exact k.out _ a h1
    · simp only [e, if_false] at h1
      by_cases z : j < ρ.length <;> simp only [z, if_true, if_false] at h1
      exact k.out j a h1
  · rw [List.length_set]
    by_cases e : j = i
    · omega
    · simp only [e, if_false] at h1
      by_cases z : j < ρ.length
      · exact z
      · simp only [z, if_false] at h1
/-- slot i's object changes to o' (it stays one's own) -/
theorem Ok.write {o o' : HO} {t' : T} (k : Ok K B G F H σ ρ) (ht : ρ[i]? = some t) (hp : ∀ fp : Addr → Prop, Own K B H F σ t (σ[i]?.join) fp → (∀ b, fp b ↔ b = p) ∧ Own K B (upd H p o') F σ t' (σ[i]?.join) fp) : Ok K B G F (upd H p o') σ (ρ.set i t') := by
  obtain ⟨fp, k⟩ := k
  have hlt : i < ρ.length := (List.getElem?_eq_some_iff.mp ht).1
  obtain ⟨hf, hn⟩ := hp (fp i) (k.own i t ht)
  have po := k.out i p ((hf p).mpr rfl)
  have sm : ∀ a, a ≠ p → upd H p o' a = H a := fun a h => upd_ne h
  refine ⟨fp, fun a o e => ?_, fun a o e => ?_, k.gf, k.bx, by simp [k.len], fun j t2 hj => ?_, k.dj, k.out, fun j a h => by rw [List.length_set]; exact k.up j a h⟩
  · rw [sm a (fun z => by subst z; rw [po.1] at e; cases e)]; exact k.g a o e
  · rw [sm a (fun z => by subst z; rw [po.2] at e; cases e)]; exact k.f a o e
  · by_cases e : j = i
    · subst e
      rw [List.getElem?_set_self hlt] at hj
      cases hj
      exact hn
    · rw [List.getElem?_set_ne (Ne.symm e)] at hj
      refine (k.own j t2 hj).frame (fun a ha => sm a fun z => ?_) (Same.refl F)
      subst z
      exact e (k.dj j i a ha ((hf a).mpr rfl))
/-- a list of one's own in slot i changes -/
theorem Ok.setL {vs : List V} (k : Ok K B G F H σ ρ) (ht : ρ[i]? = some (.l ds)) (ha : σ[i]? = some (some (.ref a))) (r : RpAll K F vs es) : Ok K B G F (upd H a (.lst vs)) σ (ρ.set i (.l es)) := by
  refine k.write (o := .lst vs) ht fun fp h => ?_
  obtain ⟨b, xs, e1, e2, q, hf⟩ := h
  rw [get_join ha] at e1
  cases e1
  exact ⟨hf, _, vs, get_join ha, upd_same, r, hf⟩
/-- slot i is frozen -/
theorem Ok.frzL (k : Ok K B G F H σ ρ) (st : ∀ t ∈ ρ, t.still) (ht : ρ[i]? = some (.l ds)) : ∃ F' v, Same F F' ∧ Ok K B G F' H σ (ρ.set i (.d (.list ds))) ∧ σ[i]? = some (some v) ∧ Rp K F' v (.list ds) := by
  obtain ⟨fp, k⟩ := k
  obtain ⟨a, xs, e1, e2, q, hf⟩ := k.own i _ ht
  have hlt : i < ρ.length := (List.getElem?_eq_some_iff.mp ht).1
  have po := k.out i a ((hf a).mpr rfl)
  have sF : Same F (upd F a (.lst xs)) := same_upd po.2
  have rp : Rp K (upd F a (.lst xs)) (.ref a) (.list ds) := .lst upd_same (q.mono sF)
  refine ⟨upd F a (.lst xs), .ref a, sF, ⟨fun j => if j = i then fun _ => False else fp j, k.g, fun b o e => ?_, fun b o e => ?_, B.okF k.bx sF, by simp [k.len], fun j t hj => ?_, fun j j' b h1 h2 => ?_, fun j b h1 => ?_, fun j b h1 => ?_⟩, join_get e1, rp⟩
  · show H b = some o
    by_cases hb : b = a
    · subst hb; rw [upd_same] at e; cases e; exact e2
    · rw [upd_ne hb] at e; exact k.f b o e
  · have hb : b ≠ a := fun z => by subst z; rw [po.1] at e; cases e
    rw [upd_ne hb]
    exact k.gf b o e
  · by_cases e : j = i
    · subst e
      simp only [if_true]
      rw [List.getElem?_set_self hlt] at hj
      cases hj
      exact ⟨fun _ z => z, .ref a, e1, rp⟩
    · simp only [if_neg e]
      rw [List.getElem?_set_ne (Ne.symm e)] at hj
      exact (k.own j t hj).frame (fun _ _ => rfl) sF
  · by_cases e : j = i <;> by_cases e' : j' = i <;> simp only [e, e', if_true, if_false] at h1 h2
    exact k.dj j j' b h1 h2
  · by_cases e : j = i <;> simp only [e, if_true, if_false] at h1
    have hb : b ≠ a := fun z => by
      subst z
      exact e (k.dj j i b h1 ((hf b).mpr rfl))
    rw [upd_ne hb]
    exact k.out j b h1
  · rw [List.length_set]
    by_cases e : j = i <;> simp only [e, if_true, if_false] at h1
    exact k.up j b h1
/-- a list in flight is another's for a while, and comes back -/
theorem Ok.park (k : Ok K B G F H (σ ++ [some (.ref a)]) (ρ ++ [.l ds])) (st : ∀ t ∈ ρ, t.still) : ∃ xs, H a = some (.lst xs) ∧ RpAll K F xs ds ∧ G a = none ∧ Ok K B (upd G a (.lst xs)) F H σ ρ := by
  have hl : σ.length = ρ.length := by have := k.len; simpa using this
  obtain ⟨fp, k⟩ := k
  obtain ⟨b, xs, e1, e2, q, hf⟩ := k.own ρ.length _ getA_eq
  rw [← hl, getLast_append] at e1
  cases e1
  have po := k.out ρ.length a ((hf a).mpr rfl)
  have k1 := k.pop st
  refine ⟨xs, e2, q, po.1, _, fun b o e => ?_, k.f, fun b o e => ?_, B.okG k.bx po.1, hl, k1.own, k1.dj, fun i b hb => ?_, k1.up⟩
  · by_cases hb : b = a
    · subst hb; rw [upd_same] at e; cases e; exact e2
    · rw [upd_ne hb] at e; exact k.g b o e
  · by_cases hb : b = a
    · subst hb; exact po.2
    · rw [upd_ne hb] at e; exact k.gf b o e
  · have hne : b ≠ a := fun z => by
      subst z
      by_cases hi : i < ρ.length
      · simp only [if_pos hi] at hb
        have := k.dj i ρ.length b hb ((hf b).mpr rfl)
        omega
      · simp only [if_neg hi] at hb
    rw [upd_ne hne]
    exact k1.out i b hb
theorem Ok.unpark {vs : List V} (k : Ok K B (upd G a (.lst xs)) F H σ ρ) (hg : G a = none) (hk : B.ok G F) (r : RpAll K F vs es) : Ok K B G F (upd H a (.lst vs)) (σ ++ [some (.ref a)]) (ρ ++ [.l es]) := by
  obtain ⟨fp, k⟩ := k
  have hF : F a = none := k.gf a _ upd_same
  have na : ∀ i b, fp i b → b ≠ a := fun i b hb z => by
    subst z
    have := (k.out i b hb).1
    rw [upd_same] at this
    cases this
  have k' : OkW K B G F (upd H a (.lst vs)) σ ρ fp := by
    refine ⟨fun b o e => ?_, fun b o e => ?_, fun b o e => ?_, hk, k.len, fun i t hi => (k.own i t hi).frame (fun b hb => upd_ne (na i b hb)) (Same.refl F), k.dj, fun i b hb => ?_, k.up⟩
    · have hb : b ≠ a := fun z => by subst z; rw [hg] at e; cases e
      rw [upd_ne hb]
      exact k.g b o (by rw [upd_ne hb]; exact e)
    · have hb : b ≠ a := fun z => by subst z; rw [hF] at e; cases e
      rw [upd_ne hb]
      exact k.f b o e
    · have hb : b ≠ a := fun z => by subst z; rw [hg] at e; cases e
      exact k.gf b o (by rw [upd_ne hb]; exact e)
    · have := k.out i b hb
      rw [upd_ne (na i b hb)] at this
      exact this
  refine ⟨_, k'.push (fq := fun b => b = a) ⟨a, vs, rfl, upd_same, r, fun b => Iff.rfl⟩ (fun b e => ?_) fun i b hb e => na i b hb e⟩
  have e : b = a := e
  subst e
  exact ⟨hg, hF⟩
end
end PL

set_option Elab.async false
set_option linter.all false
set_option maxRecDepth 100000
/-! PL, part 2: the judgements' pure readings; expressions. -/
namespace PL
open PySem PySem.Spec L2
variable [Consts]

abbrev Env := List T
/-- pure readings: an expression's, a test's, an argument list's -/
abbrev QE := Env → (T → Env → Prop) → Prop
abbrev QT := Env → (Bool → Env → Prop) → Prop

/-- values that stay as they are while other things are reckoned -/
inductive W where
  | d (x : D) | raw (v : V) | al (i : Nat) | no
def T.w : T → W
  | .d x => .d x
  | .l ds => .d (.list ds)
  | .k kvs => .d (.dict (kvs.map fun p => (keyD p.1, p.2)))
  | .raw v => .raw v
  | .al i => .al i
  | _ => .no
abbrev QA := Env → (List W → Env → Prop) → Prop
/-- an alias is looked up; data and raw values stay -/
def W.t (ρ : Env) : W → T
  | .d x => .d x
  | .raw v => .raw v
  | .al i => (ρ[i]?).getD .un
  | .no => .un

def St0 (K : PySem.W.Frag) (B : Box) (G F H : Hp) (σ : St) (ρ : Env) : Prop := (∀ t ∈ ρ, t.still) ∧ Ok K B G F H σ ρ
structure Fl (K : PySem.W.Frag) (B : Box) (G F H : Hp) (σ : St) (ρ : Env) (v : V) (r : T) : Prop where
  still : ∀ t ∈ ρ, t.still
  ok : Ok K B G F H (σ ++ [some v]) (ρ ++ [r])
  al : ∀ i, r = .al i → i < ρ.length
def WOk (K : PySem.W.Frag) (F : Hp) (σ : St) : W → V → Prop
  | .d x, v => Rp K F v x
  | .raw u, v => v = u
  | .al i, v => σ[i]? = some (some v)
  | .no, _ => True
inductive WsOk (K : PySem.W.Frag) (F : Hp) (σ : St) : List W → List V → Prop
  | nil : WsOk K F σ [] []
  | cons {w : W} {ws : List W} {v : V} {vs : List V} : WOk K F σ w v → WsOk K F σ ws vs → WsOk K F σ (w :: ws) (v :: vs)

section
variable {K : PySem.W.Frag} {B : Box} {G F F' H H' : Hp} {σ : St} {ρ : Env} {v : V} {r : T} {u : W} {x d : D}
theorem WOk.mono (e : Same F F') (h : WOk K F σ u v) : WOk K F' σ u v := by
  cases u with
  | d x => exact Rp.mono e h
  | raw u => exact h
  | al i => exact h
  | no => exact h
theorem WsOk.mono (e : Same F F') : ∀ {ws : List W} {vs : List V}, WsOk K F σ ws vs → WsOk K F' σ ws vs
  | _, _, .nil => .nil
  | _, _, .cons h r => .cons (h.mono e) (WsOk.mono e r)
theorem St0.ok (k : St0 K B G F H σ ρ) : Ok K B G F H σ ρ := k.2
theorem Fl.pop (k : Fl K B G F H σ ρ v r) : St0 K B G F H σ ρ := ⟨k.still, k.ok.pop k.still⟩
theorem getLastA {α : Type} {l : List α} {x : α} {n : Nat} (h : n = l.length) : (l ++ [x])[n]? = some x := by subst h; simp
/-- the value in flight, made to stay -/
theorem Fl.w (k : Fl K B G F H σ ρ v r) : ∃ F', Same F F' ∧ St0 K B G F' H σ ρ ∧ WOk K F' σ r.w v := by
  have hl : σ.length = ρ.length := by have := k.ok.len; simpa using this
  cases hd : r.dat with
  | some x =>
    obtain ⟨F', e, k', q⟩ := k.ok.frz k.still hd
    refine ⟨F', e, ⟨k.still, k'⟩, ?_⟩
    cases r with
    | d y => obtain rfl : y = x := Option.some.inj hd; exact q
    | l ds => obtain rfl : PyData.list ds = x := Option.some.inj hd; exact q
    | k ds => obtain rfl := Option.some.inj hd; exact q
    | un => exact nomatch hd
    | bx u => exact nomatch hd
    | raw v => exact nomatch hd
    | al i => exact nomatch hd
    | kt kvs => exact nomatch hd
  | none =>
    refine ⟨F, Same.refl F, k.pop, ?_⟩
    cases r with
    | d y => exact nomatch hd
    | l ds => exact nomatch hd
    | k ds => exact nomatch hd
    | un => trivial
    | bx u => trivial
    | raw u =>
      have q := k.ok.varRaw (i := ρ.length) (v := u) getA_eq
      rw [getLastA hl.symm] at q
      cases q
      rfl
    | al i =>
      obtain ⟨fp, z⟩ := k.ok
      obtain ⟨_, y, e1, e2⟩ := z.own ρ.length _ getA_eq
      rw [← hl, getLast_append] at e1
      cases e1
      show σ[i]? = some (some v)
      have h : i < σ.length := by have := k.al i rfl; omega
      rw [getA_lt h] at e2; exact e2
    | kt kvs => trivial

/-- reads as d: frozen, or a list or dict of one's own whose parts are frozen -/
def Rq (K : PySem.W.Frag) (F H : Hp) (v : V) (d : D) : Prop := Rp K F v d ∨
  (∃ a xs ds, d = .list ds ∧ v = .ref a ∧ H a = some (.lst xs) ∧ RpAll K F xs ds) ∨ ∃ a kvs kds, d = .dict (kds.map fun p => (keyD p.1, p.2)) ∧ v = .ref a ∧ H a = some (.dK kvs) ∧ RpKv K F kvs kds
/-- the data of a value at hand -/
def W.dat (ρ : Env) (u : W) : Option D := (u.t ρ).dat
theorem Rq.int {i : Int} (h : Rq K F H v (.int i)) : v = .int i := by
  rcases h with h | ⟨_, _, _, e, _⟩ | ⟨_, _, _, e, _⟩
  · cases h; rfl
  · cases e
  · cases e
theorem Rq.bool {i : Bool} (h : Rq K F H v (.bool i)) : v = .bl i := by
  rcases h with h | ⟨_, _, _, e, _⟩ | ⟨_, _, _, e, _⟩
  · cases h; rfl
  · cases e
  · cases e
theorem Rq.str {i : Str} (h : Rq K F H v (.str i)) : v = .str i := by
  rcases h with h | ⟨_, _, _, e, _⟩ | ⟨_, _, _, e, _⟩
  · cases h; rfl
  · cases e
  · cases e
theorem Rq.non (h : Rq K F H v .none) : v = .non := by
  rcases h with h | ⟨_, _, _, e, _⟩ | ⟨_, _, _, e, _⟩
  · cases h; rfl
  · cases e
  · cases e
theorem Rq.tup {ds : List D} (h : Rq K F H v (.tuple ds)) : ∃ a xs, v = .ref a ∧ Tq K F a xs ∧ RpAll K F xs ds := by
  rcases h with h | ⟨_, _, _, e, _⟩ | ⟨_, _, _, e, _⟩
  · cases h with
    | tup q r => exact ⟨_, _, rfl, q, r⟩
  · cases e
  · cases e
theorem Rq.lst {ds : List D} (f : Same F H) (h : Rq K F H v (.list ds)) : ∃ a xs, v = .ref a ∧ H a = some (.lst xs) ∧ RpAll K F xs ds := by
  rcases h with h | ⟨a, xs, es, e, e1, e2, r⟩ | ⟨_, _, _, e, _⟩
  · cases h with
    | lst q r => exact ⟨_, _, rfl, f _ _ q, r⟩
  · injection e with e
    subst e
    exact ⟨a, xs, e1, e2, r⟩
  · cases e
theorem Rq.rp (f : Same F H) (h : Rq K F H v d) : Rp K H v d := by
  rcases h with h | ⟨a, xs, es, rfl, rfl, e2, r⟩ | ⟨a, xs, es, rfl, rfl, e2, r⟩
  · exact h.mono f
  · exact .lst e2 (r.mono f)
  · exact .dic e2 (r.mono f)
theorem Rq.dp (f : Same F H) (h : Rq K F H v d) (n : nod d = true) : Dp K H v d := (h.rp f).dp n
theorem St0.read (k : St0 K B G F H σ ρ) (h : WOk K F σ u v) (e : u.dat ρ = some d) : Rq K F H v d := by
  cases u with
  | d x =>
    obtain rfl : x = d := Option.some.inj e
    exact .inl h
  | raw u => exact nomatch e
  | no => exact nomatch e
  | al i =>
    have h : σ[i]? = some (some v) := h
    obtain ⟨fp, k'⟩ := k.2
    have hi : i < ρ.length := by rw [← k'.len]; exact (List.getElem?_eq_some_iff.mp h).1
    have ht : ρ[i]? = some ρ[i] := List.getElem?_eq_getElem hi
    have q := k'.own i _ ht
    rw [get_join h] at q
    have e : ((ρ[i]?).getD .un).dat = some d := e
    rw [ht] at e
    have e : (ρ[i]).dat = some d := e
    generalize ρ[i] = t at q e
    cases t with
    | d x =>
      obtain rfl : x = d := Option.some.inj e
      obtain ⟨_, w, e1, r⟩ := q
      cases e1
      exact .inl r
    | l ds =>
      obtain rfl : PyData.list ds = d := Option.some.inj e
      obtain ⟨a, xs, e1, e2, r, _⟩ := q
      cases e1
      exact .inr (.inl ⟨a, xs, ds, rfl, rfl, e2, r⟩)
    | k ds =>
      obtain rfl := Option.some.inj e
      obtain ⟨a, xs, e1, e2, r, _⟩ := q
      cases e1
      exact .inr (.inr ⟨a, xs, ds, rfl, rfl, e2, r⟩)
    | un => exact nomatch e
    | bx u => exact nomatch e
    | raw v => exact nomatch e
    | al i => exact nomatch e
    | kt kvs => exact nomatch e
end

/-! ### pure readings brought to the hand layer -/
section
variable (K : PySem.W.Frag) (B : Box)
def lift (t : QE) : TE := fun σ H Q => ∃ G F ρ P, St0 K B G F H σ ρ ∧ t ρ P ∧ ∀ r ρ' v H' F', P r ρ' → Fl K B G F' H' σ ρ' v r → Same F F' → Q v H'
def liftT (t : QT) : TT := fun σ H Q => ∃ G F ρ P, St0 K B G F H σ ρ ∧ t ρ P ∧ ∀ b ρ' H' F', P b ρ' → St0 K B G F' H' σ ρ' → Same F F' → Q b H'
def liftA (t : QA) : TA := fun σ H Q => ∃ G F ρ P, St0 K B G F H σ ρ ∧ t ρ P ∧ ∀ ws ρ' vs H' F', P ws ρ' → St0 K B G F' H' σ ρ' → WsOk K F' σ ws vs → Same F F' → Q vs H'
end
theorem weakE {X : Cx} {e : Expr} {t t' : TE} (h : PE X e t) (k : ∀ σ H Q, t' σ H Q → t σ H Q) : PE X e t' := ⟨fun pins s σ H Q I q => h.run pins s σ H Q I (k σ H Q q)⟩
theorem weakT {X : Cx} {e : Expr} {t t' : TT} (h : PT X e t) (k : ∀ σ H Q, t' σ H Q → t σ H Q) : PT X e t' := ⟨fun pins s σ H Q I q => h.run pins s σ H Q I (k σ H Q q)⟩
theorem weakW {X : Cx} {e : Expr} {t t' : TT} (h : PW X e t) (k : ∀ σ H Q, t' σ H Q → t σ H Q) : PW X e t' := ⟨fun wh pins s σ H Q I q => h.run wh pins s σ H Q I (k σ H Q q)⟩
theorem weakA {X : Cx} {e : List Expr} {t t' : TA} (h : PA X e t) (k : ∀ σ H Q, t' σ H Q → t σ H Q) : PA X e t' := ⟨fun pos pins s σ H Q I q => h.run pos pins s σ H Q I (k σ H Q q)⟩
section
variable {K : PySem.W.Frag} {B : Box} {G F H : Hp} {σ : St} {ρ : Env} {t : QE} {tt : QT} {ta : QA}
theorem lift_use {P : T → Env → Prop} {Q : VK} (k : St0 K B G F H σ ρ) (h : t ρ P) (q : ∀ r ρ' v H' F', P r ρ' → St0 K B G F' H' σ ρ' → WOk K F' σ r.w v → Same F F' → Q v H') : lift K B t σ H Q :=
  ⟨G, F, ρ, P, k, h, fun r ρ' v H' F1 p fl e => let ⟨F2, e2, k2, w⟩ := fl.w; q r ρ' v H' F2 p k2 w (e.trans e2)⟩
theorem lift_fl {P : T → Env → Prop} {Q : VK} (k : St0 K B G F H σ ρ) (h : t ρ P) (q : ∀ r ρ' v H' F', P r ρ' → Fl K B G F' H' σ ρ' v r → Same F F' → Q v H') : lift K B t σ H Q := ⟨G, F, ρ, P, k, h, q⟩
theorem liftT_use {P : Bool → Env → Prop} {Q : Bool → Hp → Prop} (k : St0 K B G F H σ ρ) (h : tt ρ P) (q : ∀ b ρ' H' F', P b ρ' → St0 K B G F' H' σ ρ' → Same F F' → Q b H') : liftT K B tt σ H Q := ⟨G, F, ρ, P, k, h, q⟩
theorem liftA_use {P : List W → Env → Prop} {Q : List V → Hp → Prop} (k : St0 K B G F H σ ρ) (h : ta ρ P) (q : ∀ ws ρ' vs H' F', P ws ρ' → St0 K B G F' H' σ ρ' → WsOk K F' σ ws vs → Same F F' → Q vs H') : liftA K B ta σ H Q := ⟨G, F, ρ, P, k, h, q⟩
theorem St0.d {v : V} {d : D} (k : St0 K B G F H σ ρ) (h : Rp K F v d) : Fl K B G F H σ ρ v (.d d) := ⟨k.1, k.2.pushD h, fun i e => nomatch e⟩
theorem St0.raw {v : V} (k : St0 K B G F H σ ρ) : Fl K B G F H σ ρ v (.raw v) := ⟨k.1, k.2.pushRaw, fun i e => nomatch e⟩
theorem St0.newL {p : Addr} {xs : List V} {ds : List D} (k : St0 K B G F H σ ρ) (h : H p = none) (r : RpAll K F xs ds) : Fl K B G F (upd H p (.lst xs)) σ ρ (.ref p) (.l ds) := ⟨k.1, k.2.newL h r, fun i e => nomatch e⟩
theorem St0.newT {p : Addr} {xs : List V} {ds : List D} (k : St0 K B G F H σ ρ) (h : H p = none) (r : RpAll K F xs ds) : Fl K B G (upd F p (.tup xs)) (upd H p (.tup xs)) σ ρ (.ref p) (.d (.tuple ds)) ∧ Same F (upd F p (.tup xs)) :=
  have e := k.2.sameF h (.tup xs)
  ⟨St0.d ⟨k.1, k.2.newF h _⟩ (.tup (.inl upd_same) (r.mono e)), e⟩
end

/-! ### names and constants -/
section
variable {X : Cx} {B : Box} {pos : Pos}
def qC (d : D) (ρ : Env) (Q : T → Env → Prop) : Prop := Q (.d d) ρ
theorem lift_c {K : PySem.W.Frag} {v : V} {d : D} (r : ∀ F, Rp K F v d) {σ : St} {H : Hp} {Q : VK} (h : lift K B (qC d) σ H Q) : tC v σ H Q := by
  obtain ⟨G, F, ρ, P, k, h, q⟩ := h
  exact q _ _ _ _ _ h (k.d (r F)) (Same.refl F)
theorem q_int {i : Int} {j} : PE X (.Constant (.int i) j pos) (lift X.K B (qC (.int i))) := weakE pe_int fun _ _ _ => lift_c fun _ => .int i
theorem q_bl {i : Bool} {j} : PE X (.Constant (.bool i) j pos) (lift X.K B (qC (.bool i))) := weakE pe_bl fun _ _ _ => lift_c fun _ => .bl i
theorem q_non {j} : PE X (.Constant .none j pos) (lift X.K B (qC .none)) := weakE pe_non fun _ _ _ => lift_c fun _ => .non
theorem q_str {i : Str} {j} : PE X (.Constant (.str i) j pos) (lift X.K B (qC (.str i))) := weakE pe_str fun _ _ _ => lift_c fun _ => .str i
/-- a name, read for good: a list of one's own is frozen -/
def qVar (i : Nat) (ρ : Env) (Q : T → Env → Prop) : Prop := match ρ[i]? with
  | some (.d x) => Q (.d x) ρ
  | some (.l ds) => Q (.d (.list ds)) (ρ.set i (.d (.list ds)))
  | some (.raw v) => Q (.raw v) ρ
  | _ => False
theorem mem_set_still {ρ : Env} {i : Nat} {t : T} (h : ∀ t ∈ ρ, t.still) (ht : t.still) : ∀ u ∈ ρ.set i t, u.still := fun u hu => by
  rcases List.mem_or_eq_of_mem_set hu with z | z
  · exact h u z
  · rw [z]; exact ht
theorem lift_var {K : PySem.W.Frag} {i : Nat} {σ : St} {H : Hp} {Q : VK} (h : lift K B (qVar i) σ H Q) : tVar i σ H Q := by
  obtain ⟨G, F, ρ, P, k, h, q⟩ := h
  unfold qVar at h
  split at h
  · rename_i x e
    obtain ⟨v, e1, r⟩ := k.2.var e
    exact ⟨v, e1, q _ _ _ _ _ h (k.d r) (Same.refl F)⟩
  · rename_i ds e
    obtain ⟨F', v, e0, k', e1, r⟩ := k.2.frzL k.1 e
    have k1 : St0 K B G F' H σ (ρ.set i (.d (.list ds))) := ⟨mem_set_still k.1 trivial, k'⟩
    exact ⟨v, e1, q _ _ _ _ _ h (k1.d r) e0⟩
  · rename_i v e
    exact ⟨v, k.2.varRaw e, q _ _ _ _ _ h k.raw (Same.refl F)⟩
  · exact h.elim
theorem q_var (i : Nat) {x : Str} (hN : X.N[i]? = some x := by rfl) (hv : Vis X.env.scope x := by first | exact Or.inl rfl | exact Or.inr (Or.inl rfl) | exact Or.inr (Or.inr rfl)) (hd : (x == ("__debug__" : Str)) = false := by decide)
    (hcd : (x == ("__classdict__" : Str)) = false := by decide) : PE X (.Name x pos) (lift X.K B (qVar i)) := weakE (pe_var hN hv hd hcd) fun _ _ _ => lift_var
/-- a name, looked at -/
def qAl (i : Nat) (ρ : Env) (Q : T → Env → Prop) : Prop := (match ρ[i]? with
  | some .un => False
  | some _ => True
  | none => False) ∧ Q (.al i) ρ
theorem own_some {K : PySem.W.Frag} {F H : Hp} {σ : St} {t : T} {o : Option V} {fp : Addr → Prop} (h : Own K B H F σ t o fp) (n : t ≠ .un) : ∃ v, o = some v := by
  cases t with
  | un => exact (n rfl).elim
  | d x => obtain ⟨_, v, e, _⟩ := h; exact ⟨v, e⟩
  | l ds => obtain ⟨a, xs, e, _⟩ := h; exact ⟨_, e⟩
  | k ds => obtain ⟨a, xs, e, _⟩ := h; exact ⟨_, e⟩
  | kt ds => obtain ⟨a, xs, e, _⟩ := h; exact ⟨_, e⟩
  | bx u => exact ⟨_, h.1⟩
  | raw v => exact ⟨_, h.2⟩
  | al i => obtain ⟨_, v, e, _⟩ := h; exact ⟨v, e⟩
theorem lift_al {K : PySem.W.Frag} {i : Nat} {σ : St} {H : Hp} {Q : VK} (h : lift K B (qAl i) σ H Q) : tVar i σ H Q := by
  obtain ⟨G, F, ρ, P, k, ⟨h0, h⟩, q⟩ := h
  cases e : ρ[i]? with
  | none => rw [e] at h0; exact h0.elim
  | some t =>
    rw [e] at h0
    obtain ⟨fp, k'⟩ := k.2
    obtain ⟨v, e1⟩ := own_some (k'.own i t e) (by rintro rfl; exact h0)
    have e2 := join_get e1
    refine ⟨v, e2, q _ _ _ _ _ h ⟨k.1, k.2.pushAl e2, fun j z => ?_⟩ (Same.refl F)⟩
    cases z
    exact (List.getElem?_eq_some_iff.mp e).1
theorem q_al (i : Nat) {x : Str} (hN : X.N[i]? = some x := by rfl) (hv : Vis X.env.scope x := by first | exact Or.inl rfl | exact Or.inr (Or.inl rfl) | exact Or.inr (Or.inr rfl)) (hd : (x == ("__debug__" : Str)) = false := by decide)
    (hcd : (x == ("__classdict__" : Str)) = false := by decide) : PE X (.Name x pos) (lift X.K B (qAl i)) := weakE (pe_var hN hv hd hcd) fun _ _ _ => lift_al

/-! ### operators by data -/
def OpD (K : PySem.W.Frag) (B : Box) (r0 : R2) (p : D → D → (T → Prop) → Prop) : Prop := ∀ (G F H : Hp) (σ : St) (ρ : Env) (P : T → Prop) (Q : VK) (d1 d2 : D) (v1 v2 : V), St0 K B G F H σ ρ → Rq K F H v1 d1 → Rq K F H v2 d2 → p d1 d2 P →
  (∀ r v H' F', P r → Fl K B G F' H' σ ρ v r → Same F F' → Q v H') → r0 v1 v2 H Q
def qOp (p : D → D → (T → Prop) → Prop) (ta tb : QE) (ρ : Env) (Q : T → Env → Prop) : Prop := ta ρ fun r1 ρ1 => tb ρ1 fun r2 ρ2 => match r1.w.dat ρ2, r2.w.dat ρ2 with
  | some d1, some d2 => p d1 d2 fun r => Q r ρ2
  | _, _ => False
variable {a b : Expr} {ta tb : QE} {r0 : R2} {p : D → D → (T → Prop) → Prop}
theorem lift_op (hp : OpD X.K B r0 p) {σ : St} {H : Hp} {Q : VK} (h : lift X.K B (qOp p ta tb) σ H Q) : tOp r0 (lift X.K B ta) (lift X.K B tb) σ H Q := by
  obtain ⟨G, F, ρ, P, k, h, q⟩ := h
  refine lift_use k h fun r1 ρ1 v1 H1 F1 h1 k1 w1 e1 => lift_use k1 h1 fun r2 ρ2 v2 H2 F2 h2 k2 w2 e2 => ?_
  split at h2
  · rename_i d1 d2 g1 g2
    exact hp _ _ _ _ _ _ _ _ _ _ _ k2 (k2.read (w1.mono e2) g1) (k2.read w2 g2) h2 fun r v H' F' p' fl e => q r ρ2 v H' F' p' fl ((e1.trans e2).trans e)
  · exact h2.elim
theorem q_op {op : Operator} (hp : OpD X.K B r0 p) (ho : OpR X (binaryOp op) r0) (ha : PE X a (lift X.K B ta)) (hb : PE X b (lift X.K B tb)) : PE X (.BinOp a op b pos) (lift X.K B (qOp p ta tb)) :=
  weakE (pe_op ho ha hb) fun _ _ _ => lift_op hp
theorem q_cmp {op : CmpOp} (hp : OpD X.K B r0 p) (ho : OpR X (compareOp op) r0) (ha : PE X a (lift X.K B ta)) (hb : PE X b (lift X.K B tb)) (hm : behindInMarks op b = false) : PE X (.Compare a [op] [b] pos) (lift X.K B (qOp p ta tb)) :=
  weakE (pe_cmpR ho ha hb hm) fun _ _ _ => lift_op hp
/-- a value as a test -/
def qTst (t : QE) (ρ : Env) (Q : Bool → Env → Prop) : Prop := t ρ fun r ρ' => match r with
  | .d (.bool b) => Q b ρ'
  | _ => False
theorem fl_d {K : PySem.W.Frag} {G F H : Hp} {σ : St} {ρ : Env} {v : V} {d : D} (k : Fl K B G F H σ ρ v (.d d)) : Rp K F v d := by
  have hl : σ.length = ρ.length := by have := k.ok.len; simpa using this
  obtain ⟨w, e, q⟩ := k.ok.var (i := ρ.length) (d := d) getA_eq
  rw [getLastA hl.symm] at e
  cases e
  exact q
theorem fl_b {K : PySem.W.Frag} {G F H : Hp} {σ : St} {ρ : Env} {v : V} {b : Bool} (k : Fl K B G F H σ ρ v (.d (.bool b))) : v = .bl b := by
  have := fl_d k
  cases this
  rfl
theorem t_cmp {op : CmpOp} (hp : OpD X.K B r0 p) (ho : OpR X (compareOp op) r0) (ha : PE X a (lift X.K B ta)) (hb : PE X b (lift X.K B tb)) (hm : behindInMarks op b = false) : PT X (.Compare a [op] [b] pos) (liftT X.K B (qTst (qOp p ta tb))) :=
  weakT (pt_cmpR ho ha hb hm) fun σ H Q ⟨G, F, ρ, P, k, h, q⟩ => lift_op hp (B := B) ⟨G, F, ρ, _, k, h, fun r ρ' v H' F' p' fl e => by
    split at p'
    · exact ⟨_, fl_b fl, q _ _ _ _ p' fl.pop e⟩
    · exact p'.elim⟩
theorem t_val {e : Expr} {t : QE} (h : PE X e (lift X.K B t)) (he : ∀ whole, isTrue e X.env whole = (do let v ← whole; standAt e.pos; holding [v] (truthy v)) := by intro _; rfl) : PT X e (liftT X.K B (qTst t)) :=
  weakT (pt_val h he) fun σ H Q ⟨G, F, ρ, P, k, h, q⟩ => ⟨G, F, ρ, _, k, h, fun r ρ' v H' F' p' fl e => by
    split at p'
    · exact ⟨_, fl_b fl, q _ _ _ _ p' fl.pop e⟩
    · exact p'.elim⟩
/-! ### and, or, not, if -/
def qAnd (t u : QT) (ρ : Env) (Q : Bool → Env → Prop) : Prop := t ρ fun c ρ1 => if c = true then u ρ1 Q else Q false ρ1
def qOr (t u : QT) (ρ : Env) (Q : Bool → Env → Prop) : Prop := t ρ fun c ρ1 => if c = true then Q true ρ1 else u ρ1 Q
def qNot (t : QT) (ρ : Env) (Q : Bool → Env → Prop) : Prop := t ρ fun c ρ1 => Q (!c) ρ1
variable {tA tB : QT} {rest : List Expr}
theorem w_and1 (ha : PT X a (liftT X.K B tA)) : PW X (.BoolOp .And [a] pos) (liftT X.K B tA) := pw_and1 ha
theorem w_or1 (ha : PT X a (liftT X.K B tA)) : PW X (.BoolOp .Or [a] pos) (liftT X.K B tA) := pw_or1 ha
theorem w_and (ha : PT X a (liftT X.K B tA)) (hb : PW X (.BoolOp .And (b :: rest) pos) (liftT X.K B tB)) : PW X (.BoolOp .And (a :: b :: rest) pos) (liftT X.K B (qAnd tA tB)) :=
  weakW (pw_and ha hb) fun σ H Q ⟨G, F, ρ, P, k, h, q⟩ => liftT_use k h fun c ρ1 H1 F1 h1 k1 e1 => by
    cases c with
    | true => exact liftT_use k1 h1 fun b' ρ2 H2 F2 h2 k2 e2 => q b' ρ2 H2 F2 h2 k2 (e1.trans e2)
    | false => exact q false ρ1 H1 F1 h1 k1 e1
theorem w_or (ha : PT X a (liftT X.K B tA)) (hb : PW X (.BoolOp .Or (b :: rest) pos) (liftT X.K B tB)) : PW X (.BoolOp .Or (a :: b :: rest) pos) (liftT X.K B (qOr tA tB)) :=
  weakW (pw_or ha hb) fun σ H Q ⟨G, F, ρ, P, k, h, q⟩ => liftT_use k h fun c ρ1 H1 F1 h1 k1 e1 => by
    cases c with
    | true => exact q true ρ1 H1 F1 h1 k1 e1
    | false => exact liftT_use k1 h1 fun b' ρ2 H2 F2 h2 k2 e2 => q b' ρ2 H2 F2 h2 k2 (e1.trans e2)
theorem t_not (ha : PT X a (liftT X.K B tA)) : PT X (.UnaryOp .Not a pos) (liftT X.K B (qNot tA)) :=
  weakT (pt_not ha) fun σ H Q ⟨G, F, ρ, P, k, h, q⟩ => liftT_use k h fun c ρ1 H1 F1 h1 k1 e1 => q _ ρ1 H1 F1 h1 k1 e1
/-- and, or as values: all are bools -/
def qAndV (ta tb : QE) (ρ : Env) (Q : T → Env → Prop) : Prop := ta ρ fun r ρ1 => match r with
  | .d (.bool true) => tb ρ1 Q
  | .d (.bool false) => Q (.d (.bool false)) ρ1
  | _ => False
def qOrV (ta tb : QE) (ρ : Env) (Q : T → Env → Prop) : Prop := ta ρ fun r ρ1 => match r with
  | .d (.bool false) => tb ρ1 Q
  | .d (.bool true) => Q (.d (.bool true)) ρ1
  | _ => False
def qNotV (ta : QE) (ρ : Env) (Q : T → Env → Prop) : Prop := ta ρ fun r ρ1 => match r with
  | .d (.bool b) => Q (.d (.bool !b)) ρ1
  | _ => False
theorem q_one {op} {t : QE} (h : PE X a (lift X.K B t)) : PE X (.BoolOp op [a] pos) (lift X.K B t) := pe_one h
theorem q_and (ha : PE X a (lift X.K B ta)) (hb : PE X (.BoolOp .And (b :: rest) pos) (lift X.K B tb)) : PE X (.BoolOp .And (a :: b :: rest) pos) (lift X.K B (qAndV ta tb)) :=
  weakE (pe_and ha hb) fun σ H Q ⟨G, F, ρ, P, k, h, q⟩ => ⟨G, F, ρ, _, k, h, fun r ρ1 v H1 F1 h1 fl e1 => by
    split at h1
    · exact ⟨true, fl_b fl, iteT ⟨G, F1, ρ1, _, fl.pop, h1, fun r2 ρ2 v2 H2 F2 h2 fl2 e2 => q r2 ρ2 v2 H2 F2 h2 fl2 (e1.trans e2)⟩⟩
    · exact ⟨false, fl_b fl, iteF (q _ _ _ _ _ h1 (fl.pop.d (.bl false)) e1)⟩
    · exact h1.elim⟩
theorem q_or (ha : PE X a (lift X.K B ta)) (hb : PE X (.BoolOp .Or (b :: rest) pos) (lift X.K B tb)) : PE X (.BoolOp .Or (a :: b :: rest) pos) (lift X.K B (qOrV ta tb)) :=
  weakE (pe_or ha hb) fun σ H Q ⟨G, F, ρ, P, k, h, q⟩ => ⟨G, F, ρ, _, k, h, fun r ρ1 v H1 F1 h1 fl e1 => by
    split at h1
    · exact ⟨false, fl_b fl, iteF ⟨G, F1, ρ1, _, fl.pop, h1, fun r2 ρ2 v2 H2 F2 h2 fl2 e2 => q r2 ρ2 v2 H2 F2 h2 fl2 (e1.trans e2)⟩⟩
    · exact ⟨true, fl_b fl, iteT (q _ _ _ _ _ h1 (fl.pop.d (.bl true)) e1)⟩
    · exact h1.elim⟩
theorem q_not (ha : PE X a (lift X.K B ta)) : PE X (.UnaryOp .Not a pos) (lift X.K B (qNotV ta)) :=
  weakE (pe_not ha) fun σ H Q ⟨G, F, ρ, P, k, h, q⟩ => ⟨G, F, ρ, _, k, h, fun r ρ1 v H1 F1 h1 fl e1 => by
    split at h1
    · exact ⟨_, fl_b fl, q _ _ _ _ _ h1 (fl.pop.d (.bl _)) e1⟩
    · exact h1.elim⟩
def qIf (t : QT) (ta tb : QE) (ρ : Env) (Q : T → Env → Prop) : Prop := t ρ fun c ρ1 => if c = true then ta ρ1 Q else tb ρ1 Q
theorem q_if {c : Expr} (hc : PT X c (liftT X.K B tA)) (ha : PE X a (lift X.K B ta)) (hb : PE X b (lift X.K B tb)) : PE X (.IfExp c a b pos) (lift X.K B (qIf tA ta tb)) :=
  weakE (pe_ifExp hc ha hb) fun σ H Q ⟨G, F, ρ, P, k, h, q⟩ => liftT_use k h fun c ρ1 H1 F1 h1 k1 e1 => by
    cases c with
    | true => exact iteT ⟨G, F1, ρ1, _, k1, h1, fun r2 ρ2 v2 H2 F2 h2 fl2 e2 => q r2 ρ2 v2 H2 F2 h2 fl2 (e1.trans e2)⟩
    | false => exact iteF ⟨G, F1, ρ1, _, k1, h1, fun r2 ρ2 v2 H2 F2 h2 fl2 e2 => q r2 ρ2 v2 H2 F2 h2 fl2 (e1.trans e2)⟩

/-! ### argument lists, displays -/
def qNil (ρ : Env) (Q : List W → Env → Prop) : Prop := Q [] ρ
def qCons (ta : QE) (tr : QA) (ρ : Env) (Q : List W → Env → Prop) : Prop := ta ρ fun r ρ1 => tr ρ1 fun ws ρ2 => Q (r.w :: ws) ρ2
theorem a_nil : PA X [] (liftA X.K B qNil) := weakA pa_nil fun σ H Q ⟨G, F, ρ, P, k, h, q⟩ => q [] ρ [] H F h k .nil (Same.refl F)
variable {e : Expr} {es : List Expr} {te : QE} {t : QA}
theorem a_cons (ha : PE X e (lift X.K B te)) (hr : PA X es (liftA X.K B t)) (hs : starEach (e :: es) X.env = (false, eval e X.env) :: starEach es X.env := by rfl) : PA X (e :: es) (liftA X.K B (qCons te t)) :=
  weakA (pa_cons ha hr hs) fun σ H Q ⟨G, F, ρ, P, k, h, q⟩ => lift_use k h fun r1 ρ1 v1 H1 F1 h1 k1 w1 e1 => liftA_use k1 h1 fun ws ρ2 vs H2 F2 h2 k2 w2 e2 => q _ ρ2 (v1 :: vs) H2 F2 h2 k2 (.cons (w1.mono e2) w2) (e1.trans e2)
/-- frozen data alone -/
def wsD : List W → Option (List D)
  | [] => some []
  | .d x :: r => (wsD r).map (x :: ·)
  | _ :: _ => none
theorem wsD_ok {K : PySem.W.Frag} {F : Hp} {σ : St} : ∀ {ws : List W} {vs : List V} {ds : List D}, WsOk K F σ ws vs → wsD ws = some ds → RpAll K F vs ds
  | _, _, ds, .nil, e => by
    obtain rfl : [] = ds := Option.some.inj e
    exact .nil
  | .d x :: ws, _, ds, .cons h r, e => by
    cases q : wsD ws with
    | none => simp [wsD, q] at e
    | some es =>
      simp [wsD, q] at e
      subst e
      exact .cons h (wsD_ok r q)
  | .raw _ :: ws, _, ds, .cons h r, e => nomatch e
  | .al _ :: ws, _, ds, .cons h r, e => nomatch e
  | .no :: ws, _, ds, .cons h r, e => nomatch e
def qTup (t : QA) (ρ : Env) (Q : T → Env → Prop) : Prop := t ρ fun ws ρ1 => match wsD ws with
  | some ds => ds.length ≤ sizeLine ∧ Q (.d (.tuple ds)) ρ1
  | none => False
def qLst (t : QA) (ρ : Env) (Q : T → Env → Prop) : Prop := t ρ fun ws ρ1 => match wsD ws with
  | some ds => ds.length ≤ sizeLine ∧ Q (.l ds) ρ1
  | none => False
theorem q_tup {x1} (h : PA X es (liftA X.K B t)) : PE X (.Tuple es x1 pos) (lift X.K B (qTup t)) :=
  weakE (pe_tup h) fun σ H Q ⟨G, F, ρ, P, k, h, q⟩ => liftA_use k h fun ws ρ1 vs H1 F1 h1 k1 w1 e1 => by
    split at h1
    · rename_i ds e
      obtain ⟨h2, h3⟩ := h1
      have r := wsD_ok w1 e
      refine ⟨by rw [r.length]; exact h2, fun p hp => ?_⟩
      obtain ⟨fl, e2⟩ := k1.newT hp r
      exact q _ _ _ _ _ h3 fl (e1.trans e2)
    · exact h1.elim
theorem q_lst (h : PA X es (liftA X.K B t)) : PE X (.List es pos) (lift X.K B (qLst t)) :=
  weakE (pe_lst h) fun σ H Q ⟨G, F, ρ, P, k, h, q⟩ => liftA_use k h fun ws ρ1 vs H1 F1 h1 k1 w1 e1 => by
    split at h1
    · rename_i ds e
      obtain ⟨h2, h3⟩ := h1
      have r := wsD_ok w1 e
      exact ⟨by rw [r.length]; exact h2, fun p hp => q _ _ _ _ _ h3 (k1.newL hp r) e1⟩
    · exact h1.elim
/-- data of one's own too -/
def wsR (ρ : Env) : List W → Option (List D)
  | [] => some []
  | u :: r => match u.dat ρ, wsR ρ r with
    | some d, some ds => some (d :: ds)
    | _, _ => none
inductive RqAll (K : PySem.W.Frag) (F H : Hp) : List V → List D → Prop
  | nil : RqAll K F H [] []
  | cons {v : V} {vs : List V} {d : D} {ds : List D} : Rq K F H v d → RqAll K F H vs ds → RqAll K F H (v :: vs) (d :: ds)
theorem wsR_ok {K : PySem.W.Frag} {G F H : Hp} {σ : St} {ρ : Env} (k : St0 K B G F H σ ρ) : ∀ {ws : List W} {vs : List V} {ds : List D}, WsOk K F σ ws vs → wsR ρ ws = some ds → RqAll K F H vs ds
  | _, _, ds, .nil, e => by
    obtain rfl : [] = ds := Option.some.inj e
    exact .nil
  | u :: ws, _, ds, .cons h r, e => by
    unfold wsR at e
    split at e
    · rename_i d' ds' g1 g2
      obtain rfl := Option.some.inj e
      exact .cons (k.read h g1) (wsR_ok k r g2)
    · cases e
/-- a call of a built-in, by data -/
def CallD (K : PySem.W.Frag) (B : Box) (r0 : List V → Hp → VK → Prop) (p : List D → (T → Prop) → Prop) : Prop := ∀ (G F H : Hp) (σ : St) (ρ : Env) (P : T → Prop) (Q : VK) (ds : List D) (vs : List V), St0 K B G F H σ ρ → RqAll K F H vs ds → p ds P →
  (∀ r v H' F', P r → Fl K B G F' H' σ ρ v r → Same F F' → Q v H') → r0 vs H Q
def qCall (p : List D → (T → Prop) → Prop) (t : QA) (ρ : Env) (Q : T → Env → Prop) : Prop := t ρ fun ws ρ1 => match wsR ρ1 ws with
  | some ds => p ds fun r => Q r ρ1
  | none => False
variable {rc : List V → Hp → VK → Prop} {pc : List D → (T → Prop) → Prop}
theorem lift_call (hp : CallD X.K B rc pc) {σ : St} {H : Hp} {Q : VK} (h : lift X.K B (qCall pc t) σ H Q) : tCB rc (liftA X.K B t) σ H Q := by
  obtain ⟨G, F, ρ, P, k, h, q⟩ := h
  refine liftA_use k h fun ws ρ1 vs H1 F1 h1 k1 w1 e1 => ?_
  split at h1
  · rename_i ds g
    exact hp _ _ _ _ _ _ _ _ _ k1 (wsR_ok k1 w1 g) h1 fun r v H' F' p' fl e => q r ρ1 v H' F' p' fl (e1.trans e)
  · exact h1.elim
theorem q_callB {x : Str} {p : Pos} {id : String} (hp : CallD X.K B rc pc) (hc : CallR X (.builtin id) rc) (hg : Gl X x) (hm : X.mg x = none) (hv : bootBuiltins x = some (.builtin id)) (ha : PA X (e :: es) (liftA X.K B t)) (hn : x ≠ "__name__" := by decide) (hdb : (x == ("__debug__" : Str)) = false := by decide)
    (he : starEach (e :: es) X.env = (false, eval e X.env) :: starEach es X.env := by rfl) (hpl : (backTo pos (starEach es X.env)).any (·.1) = false := by rfl) :
    PE X (.Call (.Name x p) (e :: es) [] pos) (lift X.K B (qCall pc t)) := weakE (pe_callB hc hg hm hv ha hn hdb he hpl) fun _ _ _ => lift_call hp
theorem q_callTy {x : Str} {p : Pos} {id : String} (hp : CallD X.K B rc pc) (hc : CallR X (.type id) rc) (hg : Gl X x) (hm : X.mg x = none) (hv : bootBuiltins x = some (.type id)) (ha : PA X (e :: es) (liftA X.K B t)) (hn : x ≠ "__name__" := by decide) (hdb : (x == ("__debug__" : Str)) = false := by decide)
    (he : starEach (e :: es) X.env = (false, eval e X.env) :: starEach es X.env := by rfl) (hpl : (backTo pos (starEach es X.env)).any (·.1) = false := by rfl) :
    PE X (.Call (.Name x p) (e :: es) [] pos) (lift X.K B (qCall pc t)) := weakE (pe_callTy hc hg hm hv ha hn hdb he hpl) fun _ _ _ => lift_call hp
end
end PL

set_option Elab.async false
set_option linter.all false
set_option maxRecDepth 100000
/-! PL, part 3: operators, comparisons, subscripts, slices. -/
namespace PL
open PySem PySem.Spec L2
variable [Consts]

section
variable {K : PySem.W.Frag} {B : Box}
/-! ### arithmetic -/
def bi (b : Bool) : Int := if b then 1 else 0
def pAdd : D → D → (T → Prop) → Prop
  | .int i, .int j, Q => Q (.d (.int (i + j)))
  | .str a, .str b, Q => a.length + b.length ≤ sizeLine ∧ Q (.d (.str (a ++ b)))
  | .tuple xs, .tuple ys, Q => xs.length + ys.length ≤ sizeLine ∧ Q (.d (.tuple (xs ++ ys)))
  | .list xs, .list ys, Q => xs.length + ys.length ≤ sizeLine ∧ Q (.l (xs ++ ys))
  | .bool a, .bool b, Q => Q (.d (.int (bi a + bi b)))
  | _, _, _ => False
def rAddP (K : PySem.W.Frag) : R2 := fun x y H Q => rI0 (fun i j => .int (i + j)) x y H Q ∨ (∃ i j, x = .str i ∧ y = .str j ∧ i.length + j.length ≤ sizeLine ∧ Q (.str (i ++ j)) H) ∨ rCatA K x y H Q ∨ rCat x y H Q ∨
  ∃ i j, x = .bl i ∧ y = .bl j ∧ Q (.int (bi i + bi j)) H
theorem op_add_bb {X : Cx} : OpR X (binaryOp .Add) (fun x y H Q => ∃ i j, x = .bl i ∧ y = .bl j ∧ Q (.int (bi i + bi j)) H) := by
  intro pins s σ H x y v u Q I rx ry h
  obtain ⟨i, k, rfl, rfl, q⟩ := h
  cases rx
  cases ry
  have q' : EP X pins σ Q (.int (bi i + bi k) s.toks) { s with toks := s.toks + 1 } := ⟨.int (bi i + bi k), H, I.tok _, ⟨_, rfl⟩, q⟩
  exact PyProof.Rows.add_bool (by cases i <;> cases k <;> exact q')
theorem op_addP {X : Cx} : OpR X (binaryOp .Add) (rAddP X.K) := op_add.or (op_add_str.or (op_catA.or (op_cat.or op_add_bb)))
theorem o_add : OpD K B (rAddP K) pAdd := by
  intro G F H σ ρ P Q d1 d2 v1 v2 k r1 r2 h q
  unfold pAdd at h
  split at h
  · exact .inl ⟨_, _, r1.int, r2.int, q _ _ _ _ h (k.d (.int _)) (Same.refl F)⟩
  · exact .inr (.inl ⟨_, _, r1.str, r2.str, h.1, q _ _ _ _ h.2 (k.d (.str _)) (Same.refl F)⟩)
  · obtain ⟨a, xs, rfl, s1, t1⟩ := r1.tup
    obtain ⟨b, ys, rfl, s2, t2⟩ := r2.tup
    refine .inr (.inr (.inl ⟨a, b, xs, ys, rfl, rfl, same_t k.2.f s1, same_t k.2.f s2, by rw [t1.length, t2.length]; exact h.1, fun e => ?_, fun e e' => ?_, fun _ _ p hp => ?_⟩))
    · subst e
      cases t1
      exact q _ _ _ _ h.2 (k.d (.tup s2 t2)) (Same.refl F)
    · subst e'
      cases t2
      refine q _ _ _ _ h.2 (k.d ?_) (Same.refl F)
      rw [List.append_nil]
      exact .tup s1 t1
    · obtain ⟨fl, e⟩ := k.newT hp (t1.append t2)
      exact q _ _ _ _ h.2 fl e
  · obtain ⟨a, xs, rfl, s1, t1⟩ := r1.lst k.2.f
    obtain ⟨b, ys, rfl, s2, t2⟩ := r2.lst k.2.f
    exact .inr (.inr (.inr (.inl ⟨a, b, xs, ys, rfl, rfl, s1, s2, by rw [t1.length, t2.length]; exact h.1, fun p hp => q _ _ _ _ h.2 (k.newL hp (t1.append t2)) (Same.refl F)⟩)))
  · exact .inr (.inr (.inr (.inr ⟨_, _, r1.bool, r2.bool, q _ _ _ _ h (k.d (.int _)) (Same.refl F)⟩)))
  · exact h.elim
/-- two ints by a condition -/
def pI (C : Int → Int → Prop) (g : Int → Int → Int) : D → D → (T → Prop) → Prop
  | .int i, .int j, Q => C i j ∧ Q (.d (.int (g i j)))
  | _, _, _ => False
theorem o_I {C : Int → Int → Prop} {g : Int → Int → Int} : OpD K B (rI C fun i j => .int (g i j)) (pI C g) := by
  intro G F H σ ρ P Q d1 d2 v1 v2 k r1 r2 h q
  unfold pI at h
  split at h
  · exact ⟨_, _, r1.int, r2.int, h.1, q _ _ _ _ h.2 (k.d (.int _)) (Same.refl F)⟩
  · exact h.elim
def pI0 (g : Int → Int → Int) : D → D → (T → Prop) → Prop
  | .int i, .int j, Q => Q (.d (.int (g i j)))
  | _, _, _ => False
theorem o_I0 {g : Int → Int → Int} : OpD K B (rI0 fun i j => .int (g i j)) (pI0 g) := by
  intro G F H σ ρ P Q d1 d2 v1 v2 k r1 r2 h q
  unfold pI0 at h
  split at h
  · exact ⟨_, _, r1.int, r2.int, q _ _ _ _ h (k.d (.int _)) (Same.refl F)⟩
  · exact h.elim
abbrev pSub := pI0 fun i j => i - j
theorem o_sub : OpD K B (rI0 fun i j => .int (i - j)) pSub := o_I0
abbrev pFdiv := pI CDivN fun i j => i.fdiv j
theorem o_fdiv : OpD K B (rI CDivN fun i j => .int (i.fdiv j)) pFdiv := o_I
abbrev pMod := pI (fun _ j => j ≠ 0) fun i j => i.fmod j
theorem o_mod : OpD K B (rI (fun _ j => j ≠ 0) fun i j => .int (i.fmod j)) pMod := o_I
abbrev pPow := pI CPow fun i j => i ^ j.toNat
theorem o_pow : OpD K B (rI CPow fun i j => .int (i ^ j.toNat)) pPow := o_I
/-- tuple * 1 is the tuple itself -/
theorem tuple_mul1 (l : Addr) (items : Array Value) (n : Nat) (dd : Option Addr) (sl : Array (Option Value)) (u : Tok) :
    Meets (Builtin.«tuple.__mul__» ⟨[.ref l, .int 1 u], []⟩) (fun _ R s => s.heap.get? l = some { cls := .type "tuple", dict := dd, data := .seq items n, slots := sl } ∧ R (.ok (.ret (Value.ref l))) s) :=
  .of_wp fun prog w A R s h => by
    obtain ⟨hp, g, d, tk, os⟩ := s
    obtain ⟨hl, h⟩ := h
    have f1 := AutoSeq1.idx_int
    have c0 : (decide ((1 : Int) < -(2 ^ 63)) || decide ((1 : Int) ≥ 2 ^ 63)) = false := by decide
    have c1 : (items.isEmpty || (1 : Int) == 1) = true := by simp
    wp_walk using wpAny_loadPart' hl
    repeat (first
      | (refine wpAny_ite_false (decide_eq_false (by rw [c0]; exact Bool.false_ne_true)) ?_; wp_walk using wpAny_loadPart' hl)
      | (refine wpAny_ite_true (decide_eq_true c1) ?_; wp_walk using wpAny_loadPart' hl))
    all_goals first | exact ⟨_, rfl, h⟩ | skip

def rRep1 (K : PySem.W.Frag) : R2 := fun x y H Q => ∃ l xs, x = .ref l ∧ y = .int 1 ∧ SqT K H l xs ∧ Q (.ref l) H
theorem op_repT1 {X : Cx} : OpR X (binaryOp .Mult) (rRep1 X.K) := by
  intro pins s σ H x y v u Q I rx ry h
  obtain ⟨l, xs, rfl, rfl, hT, q⟩ := h
  cases rx
  obtain ⟨t, rfl⟩ := ry
  obtain ⟨its, r, ⟨⟨cls, dd, data, sl⟩, ho, hc, n, hd⟩, hs⟩ := I.tuple hT
  simp only at hc hd
  subst hc hd
  refine wpAny_binaryOp_repeat_ref (T := "tuple") (U := "int") (by decide) ⟨_, ho, rfl⟩ (fun s' => typeIs_int s' 1 t) noFill_tuple_mul F.fills_int_mul F.slot_int_rmul repeat_tuple F.slot_int_index.lookup
    (call_meets F.slot_int_rmul (typeIs_int s 1 t) F.entry_int_rmul (F.args_int_rmul_2 _ _) (int_rmul_tuple 1 t l its.toArray n dd sl)
      ⟨ho, rfl, ⟨_, ho, rfl⟩, call_meets F.slot_tuple_mul ⟨_, ho, rfl⟩ F.entry_tuple_mul (F.args_tuple_mul_2 _ _) (tuple_mul1 l its.toArray n dd sl t) ⟨ho, ⟨.ref l, H, I, rfl, q⟩⟩⟩)
theorem tuple_mulE (l : Addr) (items : Array Value) (n : Nat) (dd : Option Addr) (sl : Array (Option Value)) (x : Int) (u : Tok) (c0 : (decide (x < -(2 ^ 63)) || decide (x ≥ 2 ^ 63)) = false) (he : items.isEmpty = true) :
    Meets (Builtin.«tuple.__mul__» ⟨[.ref l, .int x u], []⟩) (fun _ R s => s.heap.get? l = some { cls := .type "tuple", dict := dd, data := .seq items n, slots := sl } ∧ R (.ok (.ret (Value.ref l))) s) :=
  .of_wp fun prog w A R s h => by
    obtain ⟨hp, g, d, tk, os⟩ := s
    obtain ⟨hl, h⟩ := h
    have f1 := AutoSeq1.idx_int
    have c1 : (items.isEmpty || x == 1) = true := by simp [he]
    wp_walk using wpAny_loadPart' hl
    repeat (first
      | (refine wpAny_ite_false (decide_eq_false (by rw [c0]; exact Bool.false_ne_true)) ?_; wp_walk using wpAny_loadPart' hl)
      | (refine wpAny_ite_true (decide_eq_true c1) ?_; wp_walk using wpAny_loadPart' hl))
    all_goals first | exact ⟨_, rfl, h⟩ | skip
theorem tuple_mul0 (l : Addr) (items : Array Value) (n : Nat) (dd : Option Addr) (sl : Array (Option Value)) (u : Tok) (he : items.isEmpty = false) :
    Meets (Builtin.«tuple.__mul__» ⟨[.ref l, .int 0 u], []⟩) (fun _ R s => s.heap.get? l = some { cls := .type "tuple", dict := dd, data := .seq items n, slots := sl } ∧
      R (.ok (.ret (Value.ref s.heap.objs.size))) { s with heap := s.heap.push { cls := Value.type "tuple", data := Data.seq #[] }, toks := s.toks }) :=
  .of_wp fun prog w A R s h => by
    obtain ⟨hp, g, d, tk, os⟩ := s
    obtain ⟨hl, h⟩ := h
    have f1 := AutoSeq1.idx_int
    have c0 : (decide ((0 : Int) < -(2 ^ 63)) || decide ((0 : Int) ≥ 2 ^ 63)) = false := by decide
    have c1 : (items.isEmpty || (0 : Int) == 1) = false := by simp [he]
    have c2 : (decide ((0 : Int) ≤ 0) || items.isEmpty) = true := by simp
    wp_walk using wpAny_loadPart' hl
    repeat (first
      | (refine wpAny_ite_false (decide_eq_false (by rw [c0]; exact Bool.false_ne_true)) ?_; wp_walk using wpAny_loadPart' hl)
      | (refine wpAny_ite_false (decide_eq_false (by rw [c1]; exact Bool.false_ne_true)) ?_; wp_walk using wpAny_loadPart' hl)
      | (refine wpAny_ite_true (decide_eq_true c2) ?_; wp_walk using wpAny_loadPart' hl))
    all_goals first | exact ⟨_, rfl, h⟩ | skip
def rRepE (K : PySem.W.Frag) : R2 := fun x y H Q => ∃ l k, x = .ref l ∧ y = .int k ∧ (0 ≤ k ∧ k ≤ 1000) ∧ SqT K H l [] ∧ Q (.ref l) H
theorem op_repTE {X : Cx} : OpR X (binaryOp .Mult) (rRepE X.K) := by
  intro pins s σ H x y v u Q I rx ry h
  obtain ⟨l, k, rfl, rfl, ⟨k0, k1⟩, hT, q⟩ := h
  cases rx
  obtain ⟨t, rfl⟩ := ry
  obtain ⟨its, r, ⟨⟨cls, dd, data, sl⟩, ho, hc, n, hd⟩, hs⟩ := I.tuple hT
  simp only at hc hd
  subst hc hd
  cases r
  refine wpAny_binaryOp_repeat_ref (T := "tuple") (U := "int") (by decide) ⟨_, ho, rfl⟩ (fun s' => typeIs_int s' k t) noFill_tuple_mul F.fills_int_mul F.slot_int_rmul repeat_tuple F.slot_int_index.lookup
    (call_meets F.slot_int_rmul (typeIs_int s k t) F.entry_int_rmul (F.args_int_rmul_2 _ _) (int_rmul_tuple k t l #[] n dd sl)
      ⟨ho, rfl, ⟨_, ho, rfl⟩, call_meets F.slot_tuple_mul ⟨_, ho, rfl⟩ F.entry_tuple_mul (F.args_tuple_mul_2 _ _) (tuple_mulE l #[] n dd sl k t (by simp; omega) rfl) ⟨ho, ⟨.ref l, H, I, rfl, q⟩⟩⟩)
def rRep0 (K : PySem.W.Frag) : R2 := fun x y H Q => ∃ l xs, x = .ref l ∧ y = .int 0 ∧ SqT K H l xs ∧ xs ≠ [] ∧ ∀ p, H p = none → Q (.ref p) (upd H p (.tup []))
theorem op_repT0 {X : Cx} : OpR X (binaryOp .Mult) (rRep0 X.K) := by
  intro pins s σ H x y v u Q I rx ry h
  obtain ⟨l, xs, rfl, rfl, hT, hne, q⟩ := h
  cases rx
  obtain ⟨t, rfl⟩ := ry
  obtain ⟨its, r, ⟨⟨cls, dd, data, sl⟩, ho, hc, n, hd⟩, hs⟩ := I.tuple hT
  simp only at hc hd
  subst hc hd
  have hi : its.toArray.isEmpty = false := by
    cases r with
    | nil => exact absurd rfl hne
    | cons a b => rfl
  have hf : H s.heap.objs.size = none := I.hok.fresh (Nat.le_refl _)
  refine wpAny_binaryOp_repeat_ref (T := "tuple") (U := "int") (by decide) ⟨_, ho, rfl⟩ (fun s' => typeIs_int s' 0 t) noFill_tuple_mul F.fills_int_mul F.slot_int_rmul repeat_tuple F.slot_int_index.lookup
    (call_meets F.slot_int_rmul (typeIs_int s 0 t) F.entry_int_rmul (F.args_int_rmul_2 _ _) (int_rmul_tuple 0 t l its.toArray n dd sl)
      ⟨ho, rfl, ⟨_, ho, rfl⟩, call_meets F.slot_tuple_mul ⟨_, ho, rfl⟩ F.entry_tuple_mul (F.args_tuple_mul_2 _ _) (tuple_mul0 l its.toArray n dd sl t hi) ⟨ho,
        ⟨.ref s.heap.objs.size, upd H s.heap.objs.size (.tup []), I.laid (t' := s.toks) (fun b u e => Heap.get?_push_of_some _ e) (Nat.le_refl _) ⟨Nat.zero_le _, [], .nil, ⟨_, Heap.get?_push_size _ rfl, rfl, _, rfl⟩⟩, rfl, q _ hf⟩⟩⟩)
theorem op_mulStr {X : Cx} : OpR X (binaryOp .Mult) (fun x y H Q => ∃ a n, x = .str a ∧ y = .int n ∧ (0 ≤ n ∧ n ≤ 1000 ∧ a.length ≤ 1000) ∧ Q (.str (Txt.mul a n)) H) := by
  intro pins s σ H x y v u Q I rx ry h
  obtain ⟨a, n, rfl, rfl, ⟨h0, h1, h2⟩, q⟩ := h
  obtain ⟨t, rfl⟩ := rx
  obtain ⟨t', rfl⟩ := ry
  have hm : a.length * n.toNat ≤ 1000000 := by
    have : a.length * n.toNat ≤ 1000 * 1000 := Nat.mul_le_mul h2 (by omega)
    omega
  refine PySem.SB.mul ⟨?_, fun hn _ => ?_, fun hn _ => ?_⟩ fun t' k => ⟨.str _, H, I.tok _, ⟨_, rfl⟩, q⟩
  · rw [decide_eq_false (by omega), decide_eq_false (by omega)] <;> rfl
  · have h9 : (1000 : Int) ≤ (2 ^ 63 - 1) / n := by
      rw [Int.le_ediv_iff_mul_le (by omega)]
      omega
    omega
  · unfold Builtin.Str.tooLong
    rw [sizeLine_eq]
    exact decide_eq_false (by omega)
def rMulP (K : PySem.W.Frag) : R2 := fun x y H Q => rI CMul (fun i j => .int (i * j)) x y H Q ∨ (∃ a n, x = .str a ∧ y = .int n ∧ (0 ≤ n ∧ n ≤ 1000 ∧ a.length ≤ 1000) ∧ Q (.str (Txt.mul a n)) H) ∨ rRepT K x y H Q ∨ rRep1 K x y H Q ∨ rRep0 K x y H Q ∨ rRepE K x y H Q ∨ rRep x y H Q
theorem op_mulP {X : Cx} : OpR X (binaryOp .Mult) (rMulP X.K) := op_mul.or (op_mulStr.or (op_repT.or (op_repT1.or (op_repT0.or (op_repTE.or op_rep)))))
def pMul : D → D → (T → Prop) → Prop
  | .int i, .int j, Q => CMul i j ∧ Q (.d (.int (i * j)))
  | .str a, .int n, Q => (0 ≤ n ∧ n ≤ 1000 ∧ a.length ≤ 1000) ∧ Q (.d (.str (Txt.mul a n)))
  | .tuple xs, .int n, Q => (0 ≤ n ∧ n ≤ 1000 ∧ xs.length ≤ 1000) ∧ Q (.d (.tuple (List.replicate n.toNat xs).flatten))
  | .list xs, .int n, Q => (-(2 ^ 63) ≤ n ∧ n < 2 ^ 63 ∧ xs.length * n.toNat ≤ sizeLine) ∧ Q (.l (List.replicate n.toNat xs).flatten)
  | _, _, _ => False
theorem o_mul : OpD K B (rMulP K) pMul := by
  intro G F H σ ρ P Q d1 d2 v1 v2 k r1 r2 h q
  unfold pMul at h
  split at h
  · exact .inl ⟨_, _, r1.int, r2.int, h.1, q _ _ _ _ h.2 (k.d (.int _)) (Same.refl F)⟩
  · exact .inr (.inl ⟨_, _, r1.str, r2.int, h.1, q _ _ _ _ h.2 (k.d (.str _)) (Same.refl F)⟩)
  · rename_i xs n
    obtain ⟨a, vs, rfl, s1, t1⟩ := r1.tup
    obtain ⟨⟨h1, h2, h3⟩, h⟩ := h
    by_cases e0 : xs = []
    · subst e0
      cases t1
      have e : (List.replicate n.toNat ([] : List D)).flatten = [] := by simp
      rw [e] at h
      exact .inr (.inr (.inr (.inr (.inr (.inl ⟨a, n, rfl, r2.int, ⟨h1, h2⟩, same_t k.2.f s1, q _ _ _ _ h (k.d (.tup s1 .nil)) (Same.refl F)⟩)))))
    by_cases e : n = 1
    · subst e
      refine .inr (.inr (.inr (.inl ⟨a, vs, rfl, r2.int, same_t k.2.f s1, q _ _ _ _ h (k.d ?_) (Same.refl F)⟩)))
      have e : (List.replicate (1 : Int).toNat xs).flatten = xs := by
        rw [show (1 : Int).toNat = 1 from rfl]
        simp
      rw [e]
      exact .tup s1 t1
    · by_cases e2 : n = 0
      · subst e2
        refine .inr (.inr (.inr (.inr (.inl ⟨a, vs, rfl, r2.int, same_t k.2.f s1, ?_, fun p hp => ?_⟩))))
        · rintro rfl
          cases t1
          exact e0 rfl
        · obtain ⟨fl, e⟩ := k.newT hp (.nil (K := K))
          exact q _ _ _ _ h fl e
      refine .inr (.inr (.inl ⟨a, n, vs, rfl, r2.int, same_t k.2.f s1, ?_, by omega, h2, by rw [t1.length]; exact h3, fun p hp => ?_⟩))
      · rintro rfl
        cases t1
        exact e0 rfl
      · obtain ⟨fl, e⟩ := k.newT hp (t1.rep n.toNat)
        exact q _ _ _ _ h fl e
  · obtain ⟨a, vs, rfl, s1, t1⟩ := r1.lst k.2.f
    exact .inr (.inr (.inr (.inr (.inr (.inr ⟨a, _, vs, rfl, r2.int, s1, h.1.1, h.1.2.1, by rw [t1.length]; exact h.1.2.2, fun p hp => q _ _ _ _ h.2 (k.newL hp (t1.rep _)) (Same.refl F)⟩)))))
  · exact h.elim

/-! ### comparisons -/
/-- data that == takes -/
def okD (d : D) : Bool := SeqAt.shaped d
mutual
theorem nod_of : ∀ d : D, d.canLay0 = true → nod d = true
  | .none, _ => by simp only [nod]
  | .bool _, _ => by simp only [nod]
  | .int _, _ => by simp only [nod]
  | .str _, _ => by simp only [nod]
  | .list xs, h => by
    simp only [nod]
    exact nodAll_of xs (by simpa [PyData.canLay0] using h)
  | .tuple xs, h => by
    simp only [nod]
    exact nodAll_of xs (by simpa [PyData.canLay0] using h)
  | .dict _, h => by simp [PyData.canLay0] at h
theorem nodAll_of : ∀ xs : List D, PyData.canLayAll0 xs = true → nodAll xs = true
  | [], _ => by simp only [nodAll]
  | x :: xs, h => by
    have h' : x.canLay0 = true ∧ PyData.canLayAll0 xs = true := by simpa [PyData.canLayAll0] using h
    simp only [nodAll, nod_of x h'.1, nodAll_of xs h'.2, Bool.and_self]
end
theorem Rq.dpS {F H : Hp} {v : V} {d : D} (f : Same F H) (h : Rq K F H v d) (n : SeqAt.shaped d = true) : Dp K H v d := h.dp f (nod_of d (SeqAt.canLay_of_shaped n))
def pEq : D → D → (T → Prop) → Prop := fun d e Q => SeqAt.shaped d = true ∧ SeqAt.shaped e = true ∧ Q (.d (.bool (PyData.eqv d e)))
def pNe : D → D → (T → Prop) → Prop := fun d e Q => SeqAt.shaped d = true ∧ SeqAt.shaped e = true ∧ Q (.d (.bool (!PyData.eqv d e)))
theorem o_eq : OpD K B (rEqD K) pEq := by
  intro G F H σ ρ P Q d1 d2 v1 v2 k r1 r2 h q
  exact ⟨d1, d2, r1.dpS k.2.f h.1, r2.dpS k.2.f h.2.1, h.1, h.2.1, q _ _ _ _ h.2.2 (k.d (.bl _)) (Same.refl F)⟩
theorem o_ne : OpD K B (rNeD K) pNe := by
  intro G F H σ ρ P Q d1 d2 v1 v2 k r1 r2 h q
  exact ⟨d1, d2, r1.dpS k.2.f h.1, r2.dpS k.2.f h.2.1, h.1, h.2.1, q _ _ _ _ h.2.2 (k.d (.bl _)) (Same.refl F)⟩
/-- order of ints -/
def pOrd (f : Int → Int → Bool) : D → D → (T → Prop) → Prop
  | .int i, .int j, Q => Q (.d (.bool (f i j)))
  | _, _, _ => False
theorem o_ord {f : Int → Int → Bool} : OpD K B (rI0 fun i j => .bl (f i j)) (pOrd f) := by
  intro G F H σ ρ P Q d1 d2 v1 v2 k r1 r2 h q
  unfold pOrd at h
  split at h
  · exact ⟨_, _, r1.int, r2.int, q _ _ _ _ h (k.d (.bl _)) (Same.refl F)⟩
  · exact h.elim
abbrev pLt := pOrd fun i j => decide (i < j)
abbrev pLe := pOrd fun i j => decide (i ≤ j)
abbrev pGt := pOrd fun i j => decide (j < i)
abbrev pGe := pOrd fun i j => decide (j ≤ i)
theorem o_lt : OpD K B (rI0 fun i j => .bl (decide (i < j))) pLt := o_ord
theorem o_le : OpD K B (rI0 fun i j => .bl (decide (i ≤ j))) pLe := o_ord
theorem o_gt : OpD K B (rI0 fun i j => .bl (decide (j < i))) pGt := o_ord
theorem o_ge : OpD K B (rI0 fun i j => .bl (decide (j ≤ i))) pGe := o_ord
/-- in, not in: a text in a text, data in a list or tuple -/
def hasStr (i j : Str) : Bool := !(Builtin.Str.occurrences j i 0 j.length 1).isEmpty
def pIn (neg : Bool) : D → D → (T → Prop) → Prop
  | .str i, .str j, Q => Q (.d (.bool (xor neg (hasStr i j))))
  | d, .list ds, Q => SeqAt.shaped d = true ∧ SeqAt.shaped (.list ds) = true ∧ Q (.d (.bool (xor neg (ds.any fun z => PyData.eqv z d))))
  | d, .tuple ds, Q => SeqAt.shaped d = true ∧ SeqAt.shaped (.tuple ds) = true ∧ Q (.d (.bool (xor neg (ds.any fun z => PyData.eqv z d))))
  | _, _, _ => False
def rInT (K : PySem.W.Frag) (neg : Bool) : R2 := fun x y H Q => ∃ d ds, Dp K H x d ∧ Dp K H y (.tuple ds) ∧ SeqAt.shaped d = true ∧ SeqAt.shaped (.tuple ds) = true ∧ Q (.bl (xor neg (ds.any fun z => PyData.eqv z d))) H
theorem op_inTup {X : Cx} (hu : X.A.units + 65 < cLine) : OpR X (compareOp .In) (rInT X.K false) := by
  intro pins s σ H x y v u Q I rx ry h
  obtain ⟨d, ds, hd, he, sd, se, q⟩ := h
  obtain ⟨as, r1⟩ := Dp.reads I d x v hd rx
  obtain ⟨bs, r2⟩ := Dp.reads I (.tuple ds) y u he ry
  refine SeqAt.in_tuple_reads r2 r1 (SeqAt.canLay_of_shaped se) (SeqAt.canLay_of_shaped sd) (PyProof.Rows.room_in_shaped sd hu) ⟨.bl _, H, I, rfl, ?_⟩
  rw [Bool.false_xor] at q
  exact q
theorem op_notInTup {X : Cx} (hu : X.A.units + 65 < cLine) : OpR X (compareOp .NotIn) (rInT X.K true) := by
  intro pins s σ H x y v u Q I rx ry h
  obtain ⟨d, ds, hd, he, sd, se, q⟩ := h
  obtain ⟨as, r1⟩ := Dp.reads I d x v hd rx
  obtain ⟨bs, r2⟩ := Dp.reads I (.tuple ds) y u he ry
  refine SeqAt.notIn_tuple_reads r2 r1 (SeqAt.canLay_of_shaped se) (SeqAt.canLay_of_shaped sd) (PyProof.Rows.room_in_shaped sd hu) ⟨.bl _, H, I, rfl, ?_⟩
  rw [Bool.true_xor] at q
  exact q
def rInS (neg : Bool) : R2 := fun x y H Q => ∃ i j, x = .str i ∧ y = .str j ∧ Q (.bl (xor neg (hasStr i j))) H
theorem op_inS {X : Cx} : OpR X (compareOp .In) (rInS false) := by
  intro pins s σ H x y v u Q I rx ry h
  obtain ⟨i, j, rfl, rfl, q⟩ := h
  rw [Bool.false_xor] at q
  exact op_in_str pins s σ H _ _ v u Q I rx ry ⟨i, j, rfl, rfl, q⟩
theorem op_niS {X : Cx} : OpR X (compareOp .NotIn) (rInS true) := by
  intro pins s σ H x y v u Q I rx ry h
  obtain ⟨i, j, rfl, rfl, q⟩ := h
  rw [Bool.true_xor] at q
  exact op_notin_str pins s σ H _ _ v u Q I rx ry ⟨i, j, rfl, rfl, q⟩
def rInP (K : PySem.W.Frag) : R2 := fun x y H Q => rInS false x y H Q ∨ rInD K x y H Q ∨ rInT K false x y H Q
def rNiP (K : PySem.W.Frag) : R2 := fun x y H Q => rInS true x y H Q ∨ rNotInD K x y H Q ∨ rInT K true x y H Q
theorem op_inP {X : Cx} (hu : X.A.units + 65 < cLine) : OpR X (compareOp .In) (rInP X.K) := op_inS.or ((op_inD hu).or (op_inTup hu))
theorem op_niP {X : Cx} (hu : X.A.units + 65 < cLine) : OpR X (compareOp .NotIn) (rNiP X.K) := op_niS.or ((op_notInD hu).or (op_notInTup hu))
theorem o_in : OpD K B (rInP K) (pIn false) := by
  intro G F H σ ρ P Q d1 d2 v1 v2 k r1 r2 h q
  unfold pIn at h
  split at h
  · exact .inl ⟨_, _, r1.str, r2.str, q _ _ _ _ h (k.d (.bl _)) (Same.refl F)⟩
  · refine .inr (.inl ⟨_, _, r1.dpS k.2.f h.1, r2.dpS k.2.f h.2.1, h.1, h.2.1, ?_⟩)
    have h3 := h.2.2
    rw [Bool.false_xor] at h3
    exact q _ _ _ _ h3 (k.d (.bl _)) (Same.refl F)
  · exact .inr (.inr ⟨_, _, r1.dpS k.2.f h.1, r2.dpS k.2.f h.2.1, h.1, h.2.1, q _ _ _ _ h.2.2 (k.d (.bl _)) (Same.refl F)⟩)
  · exact h.elim
theorem o_ni : OpD K B (rNiP K) (pIn true) := by
  intro G F H σ ρ P Q d1 d2 v1 v2 k r1 r2 h q
  unfold pIn at h
  split at h
  · exact .inl ⟨_, _, r1.str, r2.str, q _ _ _ _ h (k.d (.bl _)) (Same.refl F)⟩
  · refine .inr (.inl ⟨_, _, r1.dpS k.2.f h.1, r2.dpS k.2.f h.2.1, h.1, h.2.1, ?_⟩)
    have h3 := h.2.2
    rw [Bool.true_xor] at h3
    exact q _ _ _ _ h3 (k.d (.bl _)) (Same.refl F)
  · exact .inr (.inr ⟨_, _, r1.dpS k.2.f h.1, r2.dpS k.2.f h.2.1, h.1, h.2.1, q _ _ _ _ h.2.2 (k.d (.bl _)) (Same.refl F)⟩)
  · exact h.elim
/-- is None -/
def pIsN (neg : Bool) : D → D → (T → Prop) → Prop
  | .none, .none, Q => Q (.d (.bool (!neg)))
  | _, .none, Q => Q (.d (.bool neg))
  | _, _, _ => False
theorem rq_non {F H : Hp} {v : V} {d : D} (h : Rq K F H v d) : (decide (v = .non)) = (match d with | .none => true | _ => false) := by
  rcases h with h | ⟨_, _, _, rfl, rfl, _⟩ | ⟨_, _, _, rfl, rfl, _⟩
  · cases h <;> simp
  · simp
  · simp
theorem o_isN : OpD K B (fun x y H Q => y = .non ∧ Q (.bl (decide (x = .non))) H) (pIsN false) := by
  intro G F H σ ρ P Q d1 d2 v1 v2 k r1 r2 h q
  unfold pIsN at h
  have e := rq_non r1
  split at h
  · exact ⟨r2.non, by rw [e]; exact q _ _ _ _ h (k.d (.bl _)) (Same.refl F)⟩
  · rename_i hne
    refine ⟨r2.non, ?_⟩
    rw [e]
    cases d1 <;> first | exact (hne rfl).elim | exact q _ _ _ _ h (k.d (.bl _)) (Same.refl F)
  · exact h.elim
theorem o_notN : OpD K B (fun x y H Q => y = .non ∧ Q (.bl (!decide (x = .non))) H) (pIsN true) := by
  intro G F H σ ρ P Q d1 d2 v1 v2 k r1 r2 h q
  unfold pIsN at h
  have e := rq_non r1
  split at h
  · exact ⟨r2.non, by rw [e]; exact q _ _ _ _ h (k.d (.bl _)) (Same.refl F)⟩
  · rename_i hne
    refine ⟨r2.non, ?_⟩
    rw [e]
    cases d1 <;> first | exact (hne rfl).elim | exact q _ _ _ _ h (k.d (.bl _)) (Same.refl F)
  · exact h.elim

/-! ### subscripts -/
def sg (l : List Nat) : Str := ⟨l.toArray⟩
def pIx : D → D → (T → Prop) → Prop
  | .list ds, .int i, Q => match atI ds i with
    | some d => Q (.d d)
    | none => False
  | .tuple ds, .int i, Q => match atI ds i with
    | some d => Q (.d d)
    | none => False
  | .str z, .int i, Q => z.length ≤ sizeLine ∧ match atI z.cps.toList i with
    | some c => Q (.d (.str (sg [c])))
    | none => False
  | _, _, _ => False
theorem RpAll.at {F : Hp} {vs : List V} {ds : List D} {i : Int} {d : D} (r : RpAll K F vs ds) (h : atI ds i = some d) : ∃ v, atI vs i = some v ∧ Rp K F v d := by
  unfold atI at h ⊢
  rw [r.length]
  cases e : ixN ds.length i with
  | none => rw [e] at h; cases h
  | some j =>
    rw [e] at h
    exact r.get h
theorem o_ix : OpD K B (rIx K) pIx := by
  intro G F H σ ρ P Q d1 d2 v1 v2 k r1 r2 h q
  unfold pIx at h
  split at h
  · obtain ⟨a, vs, rfl, s1, t1⟩ := r1.lst k.2.f
    split at h
    · rename_i d e
      obtain ⟨v, e', r⟩ := t1.at e
      exact .inl ⟨a, vs, _, v, rfl, r2.int, .inl (.inl s1), e', q _ _ _ _ h (k.d r) (Same.refl F)⟩
    · exact h.elim
  · obtain ⟨a, vs, rfl, s1, t1⟩ := r1.tup
    split at h
    · rename_i d e
      obtain ⟨v, e', r⟩ := t1.at e
      exact .inr (.inl ⟨a, vs, _, v, rfl, r2.int, same_t k.2.f s1, e', q _ _ _ _ h (k.d r) (Same.refl F)⟩)
    · exact h.elim
  · obtain ⟨hz, h⟩ := h
    split at h
    · rename_i c e
      exact .inr (.inr ⟨_, _, c, r1.str, r2.int, hz, e, q _ _ _ _ h (k.d (.str _)) (Same.refl F)⟩)
    · exact h.elim
  · exact h.elim
theorem atI_cast {α : Type} (xs : List α) (i : Nat) : atI xs ((i : Nat) : Int) = xs[i]? := by
  unfold atI ixN
  by_cases h : i < xs.length
  · rw [if_pos (by omega), if_pos (by omega)]
    rfl
  · rw [if_pos (by omega), if_neg (by omega)]
    exact (List.getElem?_eq_none (by omega)).symm
theorem atI_0 {α : Type} (xs : List α) : atI xs 0 = xs[0]? := atI_cast xs 0
theorem atI_1 {α : Type} (xs : List α) : atI xs 1 = xs[1]? := atI_cast xs 1
theorem atI_2 {α : Type} (xs : List α) : atI xs 2 = xs[2]? := atI_cast xs 2
theorem atI_3 {α : Type} (xs : List α) : atI xs 3 = xs[3]? := atI_cast xs 3
variable {X : Cx} {a b : Expr} {ta tb : QE} {pos : Pos}
theorem q_ix (ha : PE X a (lift X.K B ta)) (hb : PE X b (lift X.K B tb)) (hs : PlainIx b := by exact fun _ _ => rfl) : PE X (.Subscript a b pos) (lift X.K B (qOp pIx ta tb)) :=
  weakE (pe_ix ix_seq ha hb hs) fun _ _ _ => lift_op o_ix
/-- slices -/
def cutD (ds : List D) (lo hi : Option Int) : List D := (ds.drop (HT.sIx ds.length 0 lo)).take (HT.sIx ds.length ds.length hi - HT.sIx ds.length 0 lo)
theorem RpAll.cut {F : Hp} {vs : List V} {ds : List D} (r : RpAll K F vs ds) (lo hi : Option Int) : RpAll K F (cutV vs lo hi) (cutD ds lo hi) := by
  unfold cutV cutD
  rw [r.length]
  exact (r.drop _).take _
def pSl : D → Option Int → Option Int → (T → Prop) → Prop
  | .list ds, lo, hi, Q => Q (.l (cutD ds lo hi))
  | .tuple ds, lo, hi, Q => Q (.d (.tuple (cutD ds lo hi)))
  | .str z, lo, hi, Q => z.length ≤ sizeLine ∧ Q (.d (.str (cutS z lo hi)))
  | _, _, _, _ => False
def rSlP (K : PySem.W.Frag) : V → Option Int → Option Int → Hp → VK → Prop := fun x lo hi H Q => rSlL K x lo hi H Q ∨ rSlA K x lo hi H Q ∨ rSlS x lo hi H Q
theorem sl_P : SlR X (rSlP X.K) := sl_list.or (sl_tupA.or sl_str)
abbrev QO := Env → (Option Int → Env → Prop) → Prop
def liftO (K : PySem.W.Frag) (B : Box) (t : QO) : TO := fun σ H Q => ∃ G F ρ P, St0 K B G F H σ ρ ∧ t ρ P ∧ ∀ o ρ' H' F', P o ρ' → St0 K B G F' H' σ ρ' → Same F F' → Q o H'
def qNoPart (ρ : Env) (Q : Option Int → Env → Prop) : Prop := Q none ρ
def qPart (t : QE) (ρ : Env) (Q : Option Int → Env → Prop) : Prop := t ρ fun r ρ1 => match r with
  | .d (.int i) => Q (some i) ρ1
  | _ => False
theorem weakO {e : Option Expr} {t t' : TO} (h : PO X e t) (k : ∀ σ H Q, t' σ H Q → t σ H Q) : PO X e t' := by
  refine ⟨fun pins s σ H Q I q => ?_⟩
  exact h.run pins s σ H Q I (k σ H Q q)
theorem po_no : PO X none (liftO X.K B qNoPart) := weakO po_none fun σ H Q ⟨G, F, ρ, P, k, h, q⟩ => q none ρ H F h k (Same.refl F)
theorem po_at (ha : PE X a (lift X.K B ta)) : PO X (some a) (liftO X.K B (qPart ta)) := weakO (po_some ha) fun σ H Q ⟨G, F, ρ, P, k, h, q⟩ => ⟨G, F, ρ, _, k, h, fun r ρ' v H' F' p fl e => by
  split at p
  · have r := fl_d fl
    cases r
    exact ⟨_, rfl, q _ _ _ _ p fl.pop e⟩
  · exact p.elim⟩
def qSl (ta : QE) (tl th : QO) (ρ : Env) (Q : T → Env → Prop) : Prop := ta ρ fun r ρ1 => tl ρ1 fun lo ρ2 => th ρ2 fun hi ρ3 => match r.w.dat ρ3 with
  | some d => pSl d lo hi fun r => Q r ρ3
  | none => False
theorem whole_cut {ds : List D} {lo hi : Option Int} (h : HT.sIx ds.length 0 lo = 0 ∧ HT.sIx ds.length ds.length hi = ds.length) : cutD ds lo hi = ds := by
  unfold cutD
  rw [h.1, h.2]
  simp
theorem o_sl {F G H : Hp} {σ : St} {ρ : Env} {d : D} {v : V} {lo hi : Option Int} {P : T → Prop} {Q : VK} (k : St0 K B G F H σ ρ) (r1 : Rq K F H v d) (h : pSl d lo hi P)
    (q : ∀ r v H' F', P r → Fl K B G F' H' σ ρ v r → Same F F' → Q v H') : rSlP K v lo hi H Q := by
  unfold pSl at h
  split at h
  · obtain ⟨a, vs, rfl, s1, t1⟩ := r1.lst k.2.f
    exact .inl ⟨a, vs, rfl, .inl (.inl s1), fun p hp => q _ _ _ _ h (k.newL hp (t1.cut _ _)) (Same.refl F)⟩
  · obtain ⟨a, vs, rfl, s1, t1⟩ := r1.tup
    refine .inr (.inl ⟨a, vs, rfl, same_t k.2.f s1, fun e => ?_, fun e p hp => ?_⟩)
    · rw [t1.length] at e
      rw [whole_cut e] at h
      exact q _ _ _ _ h (k.d (.tup s1 t1)) (Same.refl F)
    · obtain ⟨fl, e⟩ := k.newT hp (t1.cut lo hi)
      exact q _ _ _ _ h fl e
  · exact .inr (.inr ⟨_, r1.str, h.1, q _ _ _ _ h.2 (k.d (.str _)) (Same.refl F)⟩)
  · exact h.elim
theorem q_sl {lo hi : Option Expr} {p2 : Pos} {tl th : QO} (ha : PE X a (lift X.K B ta)) (hl : PO X lo (liftO X.K B tl)) (hh : PO X hi (liftO X.K B th)) : PE X (.Subscript a (.Slice lo hi none p2) pos) (lift X.K B (qSl ta tl th)) :=
  weakE (pe_slice sl_P ha hl hh) fun σ H Q ⟨G, F, ρ, P, k, h, q⟩ => lift_use k h fun r1 ρ1 v1 H1 F1 h1 k1 w1 e1 =>
    ⟨G, F1, ρ1, _, k1, h1, fun o ρ2 H2 F2 h2 k2 e2 => ⟨G, F2, ρ2, _, k2, h2, fun o' ρ3 H3 F3 h3 k3 e3 => by
      split at h3
      · rename_i d g
        exact o_sl k3 (k3.read ((w1.mono e2).mono e3) g) h3 fun r v H' F' p' fl e => q r ρ3 v H' F' p' fl (((e1.trans e2).trans e3).trans e)
      · exact h3.elim⟩⟩
/-- -a -/
def qNeg (ta : QE) (ρ : Env) (Q : T → Env → Prop) : Prop := ta ρ fun r ρ1 => match r with
  | .d (.int i) => Q (.d (.int (-i))) ρ1
  | _ => False
theorem q_neg (ha : PE X a (lift X.K B ta)) : PE X (.UnaryOp .USub a pos) (lift X.K B (qNeg ta)) := weakE (pe_un un_neg ha) fun σ H Q ⟨G, F, ρ, P, k, h, q⟩ => ⟨G, F, ρ, _, k, h, fun r ρ' v H' F' p fl e => by
  split at p
  · have r := fl_d fl
    cases r
    exact ⟨_, rfl, q _ _ _ _ _ p (fl.pop.d (.int _)) e⟩
  · exact p.elim⟩
end
end PL

set_option Elab.async false
set_option linter.all false
set_option maxRecDepth 100000
/-! PL, part 4: statements, targets, loops, comprehensions. -/
namespace PL
open PySem PySem.Spec L2
variable [Consts]

structure PEnds where
  nx : Env → Prop
  rt : T → Env → Prop
  bk : Env → Prop := fun _ => False
  ct : Env → Prop := fun _ => False
abbrev QS := PEnds → Env → Prop
structure EndsOk (K : PySem.W.Frag) (B : Box) (G F : Hp) (DP : PEnds) (D : Ends) : Prop where
  nx : ∀ σ' H' ρ' F', DP.nx ρ' → St0 K B G F' H' σ' ρ' → Same F F' → D.nx σ' H'
  rt : ∀ r v σ' H' ρ' F', DP.rt r ρ' → Fl K B G F' H' σ' ρ' v r → Same F F' → D.rt v H'
  bk : ∀ σ' H' ρ' F', DP.bk ρ' → St0 K B G F' H' σ' ρ' → Same F F' → D.bk σ' H'
  ct : ∀ σ' H' ρ' F', DP.ct ρ' → St0 K B G F' H' σ' ρ' → Same F F' → D.ct σ' H'
theorem EndsOk.mono {K : PySem.W.Frag} {B : Box} {G F F1 : Hp} {DP : PEnds} {D : Ends} (h : EndsOk K B G F DP D) (e : Same F F1) : EndsOk K B G F1 DP D :=
  ⟨fun σ' H' ρ' F' p k s => h.nx σ' H' ρ' F' p k (e.trans s), fun r v σ' H' ρ' F' p k s => h.rt r v σ' H' ρ' F' p k (e.trans s), fun σ' H' ρ' F' p k s => h.bk σ' H' ρ' F' p k (e.trans s), fun σ' H' ρ' F' p k s => h.ct σ' H' ρ' F' p k (e.trans s)⟩
def liftS (K : PySem.W.Frag) (B : Box) (t : QS) : TS := fun D σ H => ∃ G F ρ DP, St0 K B G F H σ ρ ∧ t DP ρ ∧ EndsOk K B G F DP D
theorem weakS {X : Cx} {e : Stmt} {t t' : TS} (h : PS X e t) (k : ∀ D σ H, t' D σ H → t D σ H) : PS X e t' := ⟨fun pins s σ H D I q => h.run pins s σ H D I (k D σ H q)⟩
theorem weakSs {X : Cx} {e : List Stmt} {t t' : TS} (h : PSs X e t) (k : ∀ D σ H, t' D σ H → t D σ H) : PSs X e t' := ⟨fun pins s σ H D I q => h.run pins s σ H D I (k D σ H q)⟩
section
variable {X : Cx} {B : Box} {st : Stmt} {rest : List Stmt} {t u : QS} {e : Expr} {te : QE} {pos : Pos}
def sNext (DP : PEnds) (ρ : Env) : Prop := DP.nx ρ
def sSeq (t u : QS) (DP : PEnds) (ρ : Env) : Prop := t { DP with nx := u DP } ρ
theorem s_nil : PSs X [] (liftS X.K B sNext) := weakSs pss_nil fun D σ H ⟨G, F, ρ, DP, k, h, en⟩ => en.nx _ _ _ _ h k (Same.refl F)
theorem s_cons (h1 : PS X st (liftS X.K B t)) (h2 : PSs X rest (liftS X.K B u)) : PSs X (st :: rest) (liftS X.K B (sSeq t u)) :=
  weakSs (pss_cons h1 h2) fun D σ H ⟨G, F, ρ, DP, k, h, en⟩ => ⟨G, F, ρ, { DP with nx := u DP }, k, h, fun σ' H' ρ' F' p k' s => ⟨G, F', ρ', DP, k', p, en.mono s⟩, en.rt, en.bk, en.ct⟩
theorem s_one (h1 : PS X st (liftS X.K B t)) : PSs X [st] (liftS X.K B t) := pss_one h1
theorem s_pass : PS X (.Pass pos) (liftS X.K B sNext) := weakS ps_pass fun D σ H ⟨G, F, ρ, DP, k, h, en⟩ => en.nx _ _ _ _ h k (Same.refl F)
def sBrk (DP : PEnds) (ρ : Env) : Prop := DP.bk ρ
def sCont (DP : PEnds) (ρ : Env) : Prop := DP.ct ρ
theorem s_break : PS X (.Break pos) (liftS X.K B sBrk) := weakS ps_break fun D σ H ⟨G, F, ρ, DP, k, h, en⟩ => en.bk _ _ _ _ h k (Same.refl F)
theorem s_continue : PS X (.Continue pos) (liftS X.K B sCont) := weakS ps_continue fun D σ H ⟨G, F, ρ, DP, k, h, en⟩ => en.ct _ _ _ _ h k (Same.refl F)
def sDrop (te : QE) (DP : PEnds) (ρ : Env) : Prop := te ρ fun _ ρ' => DP.nx ρ'
theorem s_expr (he : PE X e (lift X.K B te)) (hs : swapsWith e none pos.line X.env = pure false := by rfl) : PS X (.Expr e pos) (liftS X.K B (sDrop te)) :=
  weakS (ps_expr he hs) fun D σ H ⟨G, F, ρ, DP, k, h, en⟩ => ⟨G, F, ρ, _, k, h, fun r ρ' v H' F' p fl e => en.nx _ _ _ _ p fl.pop e⟩
def sRet (te : QE) (DP : PEnds) (ρ : Env) : Prop := te ρ DP.rt
theorem s_ret (he : PE X e (lift X.K B te)) : PS X (.Return (some e) pos) (liftS X.K B (sRet te)) :=
  weakS (ps_ret he) fun D σ H ⟨G, F, ρ, DP, k, h, en⟩ => ⟨G, F, ρ, _, k, h, fun r ρ' v H' F' p fl e => en.rt _ _ _ _ _ _ p fl e⟩
def sRetN (DP : PEnds) (ρ : Env) : Prop := DP.rt (.d .none) ρ
theorem s_retN : PS X (.Return none pos) (liftS X.K B sRetN) := weakS ps_retN fun D σ H ⟨G, F, ρ, DP, k, h, en⟩ => en.rt _ _ _ _ _ _ h (k.d .non) (Same.refl F)
def sIf (c : QT) (t u : QS) (DP : PEnds) (ρ : Env) : Prop := c ρ fun b ρ1 => if b = true then t DP ρ1 else u DP ρ1
theorem s_if {c : Expr} {a b : List Stmt} {tc : QT} (hc : PT X c (liftT X.K B tc)) (ha : PSs X a (liftS X.K B t)) (hb : PSs X b (liftS X.K B u)) : PS X (.If c a b pos) (liftS X.K B (sIf tc t u)) :=
  weakS (ps_if hc ha hb) fun D σ H ⟨G, F, ρ, DP, k, h, en⟩ => liftT_use k h fun c ρ1 H1 F1 h1 k1 e1 => by
    cases c with
    | true => exact iteT ⟨G, F1, ρ1, DP, k1, h1, en.mono e1⟩
    | false => exact iteF ⟨G, F1, ρ1, DP, k1, h1, en.mono e1⟩
/-- code that is not come to -/
def sNever : QS := fun _ _ => False
theorem s_never : PS X st (liftS X.K B sNever) := weakS ps_never fun D σ H ⟨G, F, ρ, DP, k, h, en⟩ => h.elim
theorem ss_never {sts : List Stmt} : PSs X sts (liftS X.K B sNever) := weakSs pss_never fun D σ H ⟨G, F, ρ, DP, k, h, en⟩ => h.elim
end

/-! ### targets -/
abbrev QG := T → Env → (Env → Prop) → Prop
abbrev QGs := List D → Env → (Env → Prop) → Prop
def liftG (K : PySem.W.Frag) (B : Box) (g : QG) : TG := fun v σ H Q => ∃ G F ρ r P, Fl K B G F H σ ρ v r ∧ g r ρ P ∧ ∀ ρ' σ' H' F', P ρ' → St0 K B G F' H' σ' ρ' → Same F F' → Q σ' H'
def liftGs (K : PySem.W.Frag) (B : Box) (g : QGs) : TGs := fun vs σ H Q => ∃ G F ρ ds P, St0 K B G F H σ ρ ∧ RpAll K F vs ds ∧ g ds ρ P ∧ ∀ ρ' σ' H' F', P ρ' → St0 K B G F' H' σ' ρ' → Same F F' → Q σ' H'
theorem weakG {X : Cx} {e : Expr} {t t' : TG} (h : PG X e t) (k : ∀ v σ H Q, t' v σ H Q → t v σ H Q) : PG X e t' := ⟨fun pins s σ H v u Q I r q => h.run pins s σ H v u Q I r (k v σ H Q q)⟩
theorem weakGs {X : Cx} {e : List Expr} {t t' : TGs} (h : PGs X e t) (k : ∀ v σ H Q, t' v σ H Q → t v σ H Q) : PGs X e t' := ⟨fun pins s σ H v u Q I r q => h.run pins s σ H v u Q I r (k v σ H Q q)⟩
/-- what may be stored -/
def T.stored : T → Prop
  | .al _ => False
  | .un => False
  | _ => True
section
variable {X : Cx} {B : Box} {pos : Pos} {e : Expr} {te : QE}
def gN (i : Nat) (r : T) (ρ : Env) (Q : Env → Prop) : Prop := (i < ρ.length ∧ r.stored) ∧ Q (ρ.set i r)
theorem Fl.set {K : PySem.W.Frag} {G F H : Hp} {σ : St} {ρ : Env} {v : V} {r : T} {i : Nat} (k : Fl K B G F H σ ρ v r) (hi : i < ρ.length) (hs : r.stored) : St0 K B G F H (σ.set i (some v)) (ρ.set i r) := by
  have hl : σ.length = ρ.length := by have := k.ok.len; simpa using this
  have st : r.still := by cases r <;> first | exact trivial | exact hs.elim
  exact ⟨mem_set_still k.still st, k.ok.set k.still st (by omega)⟩
theorem g_name {i : Nat} {x : Str} (hN : X.N.Nodup) (hi : X.N[i]? = some x := by rfl) (hx : Loc X.env.scope x := by first | exact Or.inl rfl | exact Or.inr rfl) (hf : X.fn x = true ∨ X.env.scope.names.lookup x = some .local := by first | exact .inl rfl | exact .inr rfl) : PG X (.Name x pos) (liftG X.K B (gN i)) :=
  weakG (pg_name hN hi hx hf) fun v σ H Q ⟨G, F, ρ, r, P, k, ⟨⟨h1, h2⟩, h⟩, q⟩ => q _ _ _ _ h (k.set h1 h2) (Same.refl F)
def gNilP (ds : List D) (ρ : Env) (Q : Env → Prop) : Prop := ds = [] ∧ Q ρ
def gConsP (g : QG) (r : QGs) (ds : List D) (ρ : Env) (Q : Env → Prop) : Prop := match ds with
  | d :: es => g (.d d) ρ fun ρ' => r es ρ' Q
  | [] => False
theorem gs_nil : PGs X [] (liftGs X.K B gNilP) := weakGs pgs_nil fun vs σ H Q ⟨G, F, ρ, ds, P, k, r, ⟨e, h⟩, q⟩ => by
  subst e
  cases r
  exact ⟨rfl, q _ _ _ _ h k (Same.refl F)⟩
variable {es : List Expr} {g : QG} {gs : QGs}
theorem gs_cons (h1 : PG X e (liftG X.K B g)) (h2 : PGs X es (liftGs X.K B gs)) (hs : (assignEach (e :: es) X.env).map (·.2) = assign e X.env :: (assignEach es X.env).map (·.2) := by rfl) : PGs X (e :: es) (liftGs X.K B (gConsP g gs)) :=
  weakGs (pgs_cons h1 h2 hs) fun vs σ H Q ⟨G, F, ρ, ds, P, k, r, h, q⟩ => by
    cases r with
    | nil => exact h.elim
    | cons r1 rr =>
      exact ⟨_, _, rfl, G, F, ρ, .d _, _, k.d r1, h, fun ρ' σ' H' F' p k' s => ⟨G, F', ρ', _, P, k', rr.mono s, p, fun ρ2 σ2 H2 F2 p2 k2 s2 => q ρ2 σ2 H2 F2 p2 k2 (s.trans s2)⟩⟩
/-- a tuple's items to targets -/
def gT (n : Nat) (gs : QGs) (r : T) (ρ : Env) (Q : Env → Prop) : Prop := match r with
  | .d (.tuple ds) => ds.length = n ∧ gs ds ρ Q
  | _ => False
theorem g_tup {k0 : Nat} {n : Nat} (hc : X.calm = true) (h : PGs X es (liftGs X.K B gs)) (hn : (assignEach es X.env).length = n := by rfl) (hst : (assignEach es X.env).findIdx? (·.1) = none := by rfl) : PG X (.Tuple es k0 pos) (liftG X.K B (gT n gs)) :=
  weakG (pg_tup hc h hn hst) fun v σ H Q ⟨G, F, ρ, r, P, k, h, q⟩ => by
    unfold gT at h
    split at h
    · have rp := fl_d k
      cases rp with
      | tup s r => exact ⟨_, _, rfl, same_t k.pop.2.f s, by rw [r.length]; exact h.1, G, F, ρ, _, P, k.pop, r, h.2, q⟩
    · exact h.elim
/-- target = value -/
def sAsg (te : QE) (g : QG) (DP : PEnds) (ρ : Env) : Prop := te ρ fun r ρ' => g r ρ' DP.nx
theorem lift_asg {K : PySem.W.Frag} {g : QG} {D : Ends} {σ : St} {H : Hp} (h : liftS K B (sAsg te g) D σ H) : tAsg (lift K B te) (liftG K B g) D σ H := by
  obtain ⟨G, F, ρ, DP, k, h, en⟩ := h
  exact ⟨G, F, ρ, _, k, h, fun r ρ' v H' F' p fl e => ⟨G, F', ρ', r, DP.nx, fl, p, fun ρ2 σ2 H2 F2 p2 k2 s2 => en.nx _ _ _ _ p2 k2 (e.trans s2)⟩⟩
theorem s_asg {tg : Expr} (he : PE X e (lift X.K B te)) (hg : PG X tg (liftG X.K B g)) (hs : swapsWithSole [tg] e pos.line X.env = pure false := by rfl) (hw : swappedStores [tg] e X.env = pure none := by rfl)
    (h1 : (assignEach [tg] X.env).map (·.2) = [assign tg X.env] := by rfl) : PS X (.Assign [tg] e pos) (liftS X.K B (sAsg te g)) := weakS (ps_asg he hg hs hw h1) fun _ _ _ => lift_asg
/-- name = value -/
theorem lift_set {K : PySem.W.Frag} {i : Nat} {D : Ends} {σ : St} {H : Hp} (h : liftS K B (sAsg te (gN i)) D σ H) : tAsg (lift K B te) (gName i) D σ H := by
  obtain ⟨G, F, ρ, DP, k, h, en⟩ := h
  exact ⟨G, F, ρ, _, k, h, fun r ρ' v H' F' ⟨⟨h1, h2⟩, p⟩ fl e => en.nx _ _ _ _ p (fl.set h1 h2) e⟩
theorem s_set {i : Nat} {x : Str} {pos' : Pos} (hN : X.N.Nodup) (he : PE X e (lift X.K B te)) (hi : X.N[i]? = some x := by rfl) (hx : Loc X.env.scope x := by first | exact Or.inl rfl | exact Or.inr rfl) (hs : swapsWith e (some (.Name x pos')) pos.line X.env = pure false := by rfl) (hf : X.fn x = true ∨ X.env.scope.names.lookup x = some .local := by first | exact .inl rfl | exact .inr rfl) :
    PS X (.Assign [.Name x pos'] e pos) (liftS X.K B (sAsg te (gN i))) := weakS (ps_set hN hi hx he hs hf) fun _ _ _ => lift_set
end

/-! ### while -/
section
variable {X : Cx} {B : Box} {pos : Pos}
def sWhile (c : QT) (tb : QS) (DP : PEnds) (ρ : Env) : Prop := ∃ W : Nat → Env → Prop, (∃ m, W m ρ) ∧ ∀ m ρ, W m ρ → c ρ fun b ρ1 => if b = true then tb { DP with nx := fun ρ' => ∃ m', m' < m ∧ W m' ρ', ct := fun ρ' => ∃ m', m' < m ∧ W m' ρ', bk := DP.nx } ρ1 else DP.nx ρ1
theorem s_while {c : Expr} {body : List Stmt} {tc : QT} {tb : QS} (hp : PassesOwn (model X.prog X.w) X.A X.env X.xe) (hc : PT X c (liftT X.K B tc)) (hb : PSs X body (liftS X.K B tb)) : PS X (.While c body [] pos) (liftS X.K B (sWhile tc tb)) :=
  weakS (ps_while hp hc hb) fun D σ H ⟨G, F, ρ, DP, k, ⟨W, ⟨m0, w0⟩, turn⟩, en⟩ => by
    refine ⟨fun m σ H => ∃ F' ρ', St0 X.K B G F' H σ ρ' ∧ Same F F' ∧ W m ρ', ⟨m0, F, ρ, k, Same.refl F, w0⟩, ?_⟩
    rintro m σ1 H1 ⟨F1, ρ1, k1, s1, w1⟩
    refine liftT_use k1 (turn m ρ1 w1) fun b ρ2 H2 F2 h2 k2 s2 => ?_
    cases b with
    | true =>
      simp only [if_true] at h2 ⊢
      refine ⟨fun σ' H' => ∃ m', m' < m ∧ ∃ F' ρ', St0 X.K B G F' H' σ' ρ' ∧ Same F F' ∧ W m' ρ', fun σ' H' z => z, G, F2, ρ2, _, k2, h2, ?_⟩
      have s12 := s1.trans s2
      exact ⟨fun σ' H' ρ' F' ⟨m', hm, w'⟩ k' s => ⟨m', hm, F', ρ', k', s12.trans s, w'⟩, fun r v σ' H' ρ' F' p fl s => en.rt r v σ' H' ρ' F' p fl (s12.trans s), fun σ' H' ρ' F' p k' s => en.nx σ' H' ρ' F' p k' (s12.trans s), fun σ' H' ρ' F' ⟨m', hm, w'⟩ k' s => ⟨m', hm, F', ρ', k', s12.trans s, w'⟩⟩
    | false =>
      simp only [Bool.false_eq_true, if_false] at h2 ⊢
      exact en.nx _ _ _ _ h2 k2 (s1.trans s2)

end

/-! ### what a for walks -/
/-- an item as it comes: frozen data, a new tuple, or a new tuple with a new tuple within -/
def Yd (K : PySem.W.Frag) (F H : Hp) (x : V) (d : D) (H' : Hp) : Prop := (H' = H ∧ Rp K F x d) ∨ (∃ p xs es, H p = none ∧ x = .ref p ∧ d = .tuple es ∧ H' = upd H p (.tup xs) ∧ RpAll K F xs es) ∨
  ∃ p q v c xs es, H p = none ∧ H q = none ∧ p ≠ q ∧ x = .ref q ∧ d = .tuple [c, .tuple es] ∧ H' = upd (upd H p (.tup xs)) q (.tup [v, .ref p]) ∧ RpAll K F xs es ∧ Rp K F v c
/-- the items of a walk, as data -/
structure Wk (K : PySem.W.Frag) (J : It) (F : Hp) (ds : List D) : Prop where
  goes : ∀ i H, i < ds.length → Same F H → J.go i H
  stops : ∀ H, Same F H → J.stop ds.length H
  yields : ∀ i H x H', i < ds.length → Same F H → J.yld i H x H' → ∃ d, ds[i]? = some d ∧ Yd K F H x d H'
abbrev QI := Env → (List D → Env → Prop) → Prop
def liftI (K : PySem.W.Frag) (B : Box) (t : QI) : TI := fun σ H R => ∃ G F ρ P, St0 K B G F H σ ρ ∧ t ρ P ∧ ∀ ds ρ' H' F' J, P ds ρ' → St0 K B G F' H' σ ρ' → Same F F' → Wk K J F' ds → R J H'
theorem weakI {X : Cx} {tg e : Expr} {t t' : TI} (h : PI X tg e t) (k : ∀ σ H R, t' σ H R → t σ H R) : PI X tg e t' := ⟨fun pins s σ H R I q => h.run pins s σ H R I (k σ H R q)⟩
section
variable {X : Cx} {B : Box} {pos : Pos} {e tg : Expr} {te : QE} {ta : QA}
theorem wk_list {K : PySem.W.Frag} {F : Hp} {a : Addr} {xs : List V} {ds : List D} (h : F a = some (.lst xs)) (r : RpAll K F xs ds) : Wk K (Itl K a) F ds := by
  have w := walk_list (K := K) (a := a) (xs := xs)
  have hl := r.length
  refine ⟨fun i H hi s => w.goes i H (by omega) (.inl (.inl (s _ _ h))), fun H s => by rw [← hl]; exact w.stops H (.inl (.inl (s _ _ h))), fun i H x H' hi s y => ?_⟩
  obtain ⟨e, y⟩ := w.yields i H x H' (by omega) (.inl (.inl (s _ _ h))) y
  obtain ⟨d, hd, rp⟩ := r.getV y
  exact ⟨d, hd, .inl ⟨e, rp⟩⟩
theorem wk_tup {K : PySem.W.Frag} {F : Hp} {a : Addr} {xs : List V} {ds : List D} (h : Tq K F a xs) (r : RpAll K F xs ds) : Wk K (Itt K a) F ds := by
  have w := walk_tup (K := K) (a := a) (xs := xs)
  have hl := r.length
  refine ⟨fun i H hi s => w.goes i H (by omega) (same_t s h), fun H s => by rw [← hl]; exact w.stops H (same_t s h), fun i H x H' hi s y => ?_⟩
  obtain ⟨e, y⟩ := w.yields i H x H' (by omega) (same_t s h) y
  obtain ⟨d, hd, rp⟩ := r.getV y
  exact ⟨d, hd, .inl ⟨e, rp⟩⟩
/-- the ints of a range -/
def rangeD (lo : Int) (n : Nat) : List D := (List.range n).map fun i => .int (lo + (i : Nat))
theorem rangeD_len (lo : Int) (n : Nat) : (rangeD lo n).length = n := by simp [rangeD]
theorem rangeD_get {lo : Int} {n i : Nat} (h : i < n) : (rangeD lo n)[i]? = some (.int (lo + (i : Nat))) := by simp [rangeD, h]
theorem wk_range {K : PySem.W.Frag} {F : Hp} {lo : Int} {n : Nat} : Wk K (Itr lo n) F (rangeD lo n) := by
  have w := walk_range (lo := lo) (n := n)
  refine ⟨fun i H hi s => w.goes i H (by simpa [rangeD] using hi) trivial, fun H s => by rw [rangeD_len]; exact w.stops H trivial, fun i H x H' hi s y => ?_⟩
  rw [rangeD_len] at hi
  obtain ⟨e, rfl⟩ := w.yields i H x H' hi trivial y
  exact ⟨_, rangeD_get hi, .inl ⟨e, .int _⟩⟩
def signsD (z : Str) : List D := z.cps.toList.map fun c => .str ⟨#[c]⟩
theorem wk_str {K : PySem.W.Frag} {F : Hp} {z : Str} : Wk K (Its z) F (signsD z) := by
  have w := walk_str (z := z)
  have hl : (signsD z).length = z.cps.size := by simp [signsD]
  refine ⟨fun i H hi s => w.goes i H (by omega) trivial, fun H s => by rw [hl]; exact w.stops H trivial, fun i H x H' hi s y => ?_⟩
  obtain ⟨e, c, hc, rfl⟩ := w.yields i H x H' (by omega) trivial y
  exact ⟨.str ⟨#[c]⟩, by simp [signsD, hc], .inl ⟨e, .str _⟩⟩
/-- over a list -/
def iL (te : QE) (ρ : Env) (Q : List D → Env → Prop) : Prop := te ρ fun r ρ' => match r with
  | .d (.list ds) => Q ds ρ'
  | .l ds => Q ds ρ'
  | _ => False
def iT (te : QE) (ρ : Env) (Q : List D → Env → Prop) : Prop := te ρ fun r ρ' => match r with
  | .d (.tuple ds) => Q ds ρ'
  | _ => False
def iS (te : QE) (ρ : Env) (Q : List D → Env → Prop) : Prop := te ρ fun r ρ' => match r with
  | .d (.str z) => Q (signsD z) ρ'
  | _ => False
theorem i_list (he : PE X e (lift X.K B te)) : PI X tg e (liftI X.K B (iL te)) := weakI (pi_list he) fun σ H R ⟨G, F, ρ, P, k, h, q⟩ => lift_use k h fun r ρ' v H' F' p k' w e => by
  split at p
  · cases w with
    | lst h r => exact ⟨_, rfl, ⟨_, .inl (.inl (k'.2.f _ _ h))⟩, q _ _ _ _ _ p k' e (wk_list h r)⟩
  · cases w with
    | lst h r => exact ⟨_, rfl, ⟨_, .inl (.inl (k'.2.f _ _ h))⟩, q _ _ _ _ _ p k' e (wk_list h r)⟩
  · exact p.elim
theorem i_tup (he : PE X e (lift X.K B te)) : PI X tg e (liftI X.K B (iT te)) := weakI (pi_tup he) fun σ H R ⟨G, F, ρ, P, k, h, q⟩ => lift_use k h fun r ρ' v H' F' p k' w e => by
  split at p
  · cases w with
    | tup h r => exact ⟨_, rfl, ⟨_, same_t k'.2.f h⟩, q _ _ _ _ _ p k' e (wk_tup h r)⟩
  · exact p.elim
theorem i_str (he : PE X e (lift X.K B te)) : PI X tg e (liftI X.K B (iS te)) := weakI (pi_str he) fun σ H R ⟨G, F, ρ, P, k, h, q⟩ => lift_use k h fun r ρ' v H' F' p k' w e => by
  split at p
  · cases w
    exact ⟨_, rfl, q _ _ _ _ _ p k' e wk_str⟩
  · exact p.elim
def iR1 (ta : QA) (ρ : Env) (Q : List D → Env → Prop) : Prop := ta ρ fun ws ρ' => match wsR ρ' ws with
  | some [.int n] => (-(2 ^ 62) ≤ n ∧ n < 2 ^ 62) ∧ Q (rangeD 0 n.toNat) ρ'
  | _ => False
def iR2 (ta : QA) (ρ : Env) (Q : List D → Env → Prop) : Prop := ta ρ fun ws ρ' => match wsR ρ' ws with
  | some [.int i, .int j] => (-(2 ^ 62) ≤ i ∧ i < 2 ^ 62 ∧ -(2 ^ 62) ≤ j ∧ j < 2 ^ 62) ∧ Q (rangeD i (j - i).toNat) ρ'
  | _ => False
variable {a b : Expr} {p : Pos}
theorem i_range1 (hg : Gl X "range") (hm : X.mg "range" = none) (ha : PA X [a] (liftA X.K B ta)) (hs : starEach [a] X.env = [(false, eval a X.env)] := by rfl) : PI X tg (.Call (.Name "range" p) [a] [] pos) (liftI X.K B (iR1 ta)) :=
  weakI (pi_range1 hg hm ha hs) fun σ H R ⟨G, F, ρ, P, k, h, q⟩ => liftA_use k h fun ws ρ' vs H' F' p k' w e => by
    split at p
    · rename_i n g
      have r := wsR_ok k' w g
      cases r with
      | cons r1 rr =>
        cases rr
        exact ⟨n, by rw [r1.int], p.1.1, p.1.2, q _ _ _ _ _ p.2 k' e wk_range⟩
    · exact p.elim
theorem i_range2 (hg : Gl X "range") (hm : X.mg "range" = none) (ha : PA X [a, b] (liftA X.K B ta)) (hs : starEach [a, b] X.env = [(false, eval a X.env), (false, eval b X.env)] := by rfl) (hs2 : starEach [b] X.env = [(false, eval b X.env)] := by rfl) :
    PI X tg (.Call (.Name "range" p) [a, b] [] pos) (liftI X.K B (iR2 ta)) :=
  weakI (pi_range2 hg hm ha hs hs2) fun σ H R ⟨G, F, ρ, P, k, h, q⟩ => liftA_use k h fun ws ρ' vs H' F' p k' w e => by
    split at p
    · rename_i i j g
      have r := wsR_ok k' w g
      cases r with
      | cons r1 rr =>
        cases rr with
        | cons r2 rr =>
          cases rr
          exact ⟨i, j, by rw [r1.int, r2.int], p.1, q _ _ _ _ _ p.2 k' e wk_range⟩
    · exact p.elim
end

/-! ### for -/
section
variable {X : Cx} {B : Box} {pos : Pos}
def sFor (ti : QI) (g : QG) (tb : QS) (DP : PEnds) (ρ : Env) : Prop := ti ρ fun ds ρ0 => ∃ I : Nat → Env → Prop, I 0 ρ0 ∧
  (∀ i d ρ, ds[i]? = some d → I i ρ → g (.d d) ρ fun ρ' => tb { DP with nx := I (i + 1), ct := I (i + 1), bk := DP.nx } ρ') ∧ ∀ ρ, I ds.length ρ → DP.nx ρ
/-- an item in flight -/
theorem St0.item {K : PySem.W.Frag} {G F H H' : Hp} {σ : St} {ρ : Env} {x : V} {d : D} (k : St0 K B G F H σ ρ) (h : Yd K F H x d H') :
    ∃ F', Same F F' ∧ Fl K B G F' H' σ ρ x (.d d) := by
  rcases h with ⟨rfl, r⟩ | ⟨p, xs, es, hp, rfl, rfl, rfl, r⟩ | ⟨p, q, v, c, xs, es, hp, hq, npq, rfl, rfl, rfl, r, rc⟩
  · exact ⟨F, Same.refl F, k.d r⟩
  · obtain ⟨fl, e⟩ := k.newT hp r
    exact ⟨_, e, fl⟩
  · obtain ⟨fl, e⟩ := k.newT hp r
    have k1 : St0 K B G (upd F p (.tup xs)) (upd H p (.tup xs)) σ ρ := fl.pop
    obtain ⟨fl2, e2⟩ := k1.newT (p := q) (xs := [v, .ref p]) (ds := [c, .tuple es]) ((upd_ne (Ne.symm npq)).trans hq) (.cons (rc.mono e) (.one (.tup (.inl upd_same) (r.mono e))))
    exact ⟨_, e.trans e2, fl2⟩
theorem Wk.mono {K : PySem.W.Frag} {J : It} {F F' : Hp} {ds : List D} (w : Wk K J F ds) (e : Same F F') : Wk K J F' ds :=
  ⟨fun i H hi s => w.goes i H hi (e.trans s), fun H s => w.stops H (e.trans s), fun i H x H' hi s y => by
    obtain ⟨d, hd, h⟩ := w.yields i H x H' hi (e.trans s) y
    refine ⟨d, hd, ?_⟩
    rcases h with ⟨h1, r⟩ | ⟨p, xs, es, h1, h2, h3, h4, r⟩ | ⟨p, q, v, c, xs, es, h1, h2, h3, h4, h5, h6, r, rc⟩
    · exact .inl ⟨h1, r.mono e⟩
    · exact .inr (.inl ⟨p, xs, es, h1, h2, h3, h4, r.mono e⟩)
    · exact .inr (.inr ⟨p, q, v, c, xs, es, h1, h2, h3, h4, h5, h6, r.mono e, rc.mono e⟩)⟩
theorem s_for {tg iter : Expr} {body : List Stmt} {ti : QI} {g : QG} {tb : QS} (hp : PassesOwn (model X.prog X.w) X.A X.env X.xe) (hc : X.calm = true) (hi : PI X tg iter (liftI X.K B ti)) (hg : PG X tg (liftG X.K B g)) (hb : PSs X body (liftS X.K B tb))
    (hs : ∀ x, foldedSetIterable iter X.env x = pure x := by intro _; rfl) : PS X (.For tg iter body [] pos) (liftS X.K B (sFor ti g tb)) :=
  weakS (ps_for hp hc hi hg hb hs) fun D σ H ⟨G, F, ρ, DP, k, h, en⟩ => ⟨G, F, ρ, _, k, h, fun ds ρ0 H0 F0 J ⟨I, i0, turn, fin⟩ k0 s0 w => by
    refine ⟨fun i m σ H => m = ds.length - i ∧ i ≤ ds.length ∧ ∃ F' ρ', St0 X.K B G F' H σ ρ' ∧ Same F0 F' ∧ I i ρ', ⟨ds.length, by simp, Nat.zero_le _, F0, ρ0, k0, Same.refl F0, i0⟩, ?_⟩
    rintro i m σ1 H1 ⟨rfl, hi, F1, ρ1, k1, s1, w1⟩
    by_cases hlt : i < ds.length
    · have wk1 := w.mono s1
      refine .inr ⟨wk1.goes i H1 hlt k1.2.f, fun σ' H' => ∃ F' ρ', St0 X.K B G F' H' σ' ρ' ∧ Same F0 F' ∧ I (i + 1) ρ', fun σ' H' z => ⟨ds.length - (i + 1), by omega, rfl, hlt, z⟩, fun x H' y => ?_⟩
      obtain ⟨d, hd, hx⟩ := wk1.yields i H1 x H' hlt k1.2.f y
      obtain ⟨F2, s2, fl⟩ := k1.item hx
      refine ⟨G, F2, ρ1, _, _, fl, turn i d ρ1 hd w1, fun ρ' σ' H3 F3 p k3 s3 => ⟨G, F3, ρ', _, k3, p, ?_⟩⟩
      have s13 := (s1.trans s2).trans s3
      have s03 := s0.trans s13
      exact ⟨fun σ' H' ρ' F' p' k' s => ⟨F', ρ', k', s13.trans s, p'⟩, fun r v σ' H' ρ' F' p' fl s => en.rt r v σ' H' ρ' F' p' fl (s03.trans s), fun σ' H' ρ' F' p' k' s => en.nx σ' H' ρ' F' p' k' (s03.trans s), fun σ' H' ρ' F' p' k' s => ⟨F', ρ', k', s13.trans s, p'⟩⟩
    · have e : i = ds.length := by omega
      subst e
      exact .inl ⟨(w.mono s1).stops H1 k1.2.f, en.nx _ _ _ _ (fin _ w1) k1 (s0.trans s1)⟩⟩
end

/-! ### list comprehensions -/
section
variable {X : Cx} {B : Box} {pos : Pos}
/-- the block's own names forgotten -/
def wipeP (ρ : Env) : List Nat → Env
  | [] => ρ
  | v :: vs => (wipeP ρ vs).set v .un
/-- slots that own nothing -/
def T.bare : T → Prop
  | .un => True
  | .d _ => True
  | .raw _ => True
  | _ => False
def barePl (ρ : Env) (vs : List Nat) : Prop := ∀ v ∈ vs, match ρ[v]? with
  | some t => t.bare
  | none => True
def qLc (ti : QI) (g : QG) (tt : QT) (te : QE) (vs : List Nat) (ρ : Env) (Q : T → Env → Prop) : Prop := ti ρ fun ds ρ0 => barePl ρ0 vs ∧ ∃ I : Nat → List D → Prop, I 0 [] ∧
  (∀ i d acc, ds[i]? = some d → I i acc → g (.d d) (wipeP ρ0 vs) fun ρ2 => tt ρ2 fun b ρ3 => if b = true then te ρ3 fun r ρ4 => ∃ d', r.dat = some d' ∧ wipeP ρ4 vs = wipeP ρ0 vs ∧ acc.length < sizeLine ∧ I (i + 1) (acc ++ [d'])
    else wipeP ρ3 vs = wipeP ρ0 vs ∧ I (i + 1) acc) ∧ ∀ acc, I ds.length acc → Q (.l acc) ρ0
theorem set_unK {K : PySem.W.Frag} {G F H : Hp} {σ : St} {ρ : Env} {i : Nat} (k : St0 K B G F H σ ρ) : St0 K B G F H (σ.set i none) (ρ.set i .un) := by
  refine ⟨mem_set_still k.1 trivial, ?_⟩
  obtain ⟨fp, k'⟩ := k.2
  refine ⟨fun j => if j = i then fun _ => False else fp j, k'.g, k'.f, k'.gf, k'.bx, by simp [k'.len], fun j t hj => ?_, fun j j' a h1 h2 => ?_, fun j a h1 => ?_, fun j a h1 => ?_⟩
  · by_cases e : j = i
    · subst e
      simp only [if_true]
      have hlt : j < ρ.length := by have := (List.getElem?_eq_some_iff.mp hj).1; simpa using this
      rw [List.getElem?_set_self hlt] at hj
      cases hj
      exact fun a z => z
    · simp only [if_neg e]
      rw [List.getElem?_set_ne (Ne.symm e)] at hj
      rw [List.getElem?_set_ne (Ne.symm e)]
      exact (k'.own j t hj).slots (k.1 t (List.mem_of_getElem? hj))
  · by_cases e : j = i <;> by_cases e' : j' = i <;> simp only [e, e', if_true, if_false] at h1 h2
    exact k'.dj j j' a h1 h2
  · by_cases e : j = i <;> simp only [e, if_true, if_false] at h1
    exact k'.out j a h1
  · rw [List.length_set]
    by_cases e : j = i <;> simp only [e, if_true, if_false] at h1
    exact k'.up j a h1
theorem wipeK {K : PySem.W.Frag} {G F H : Hp} {σ : St} {ρ : Env} (k : St0 K B G F H σ ρ) : ∀ vs : List Nat, St0 K B G F H (wipe σ vs) (wipeP ρ vs)
  | [] => k
  | v :: vs => set_unK (wipeK k vs)
theorem wipeP_len (ρ : Env) : ∀ vs : List Nat, (wipeP ρ vs).length = ρ.length
  | [] => rfl
  | v :: vs => by unfold wipeP; rw [List.length_set, wipeP_len ρ vs]
theorem wipeP_at {ρ : Env} {i : Nat} : ∀ {vs : List Nat}, i ∉ vs → (wipeP ρ vs)[i]? = ρ[i]?
  | [], _ => rfl
  | v :: vs, h => by
    unfold wipeP
    rw [List.getElem?_set_ne (fun e => h (by rw [e]; exact List.mem_cons_self))]
    exact wipeP_at fun m => h (List.mem_cons_of_mem _ m)
/-- back to the slots as they were: the owned ones stand as ever, the bare ones of the block need the frozen part alone -/
theorem unwipeK {K : PySem.W.Frag} {G0 G F F' H H' : Hp} {σ : St} {ρ : Env} {vs : List Nat} (k : St0 K B G0 F H σ ρ) (hb : barePl ρ vs) (s : Same F F') (k' : St0 K B G F' H' (wipe σ vs) (wipeP ρ vs)) : St0 K B G F' H' σ ρ := by
  refine ⟨k.1, ?_⟩
  obtain ⟨fp, w⟩ := k.2
  obtain ⟨fq, w'⟩ := k'.2
  refine ⟨fun j => if j ∈ vs then fun _ => False else fq j, w'.g, w'.f, w'.gf, w'.bx, w.len, fun j t hj => ?_, fun j j' a h1 h2 => ?_, fun j a h1 => ?_, fun j a h1 => ?_⟩
  · by_cases e : j ∈ vs
    · simp only [if_pos e]
      have b := hb j e
      rw [hj] at b
      have o := w.own j t hj
      cases t with
      | un => exact fun a z => z
      | d x => obtain ⟨_, v, e1, r⟩ := o; exact ⟨fun a z => z, v, e1, r.mono s⟩
      | raw v => exact ⟨fun a z => z, o.2⟩
      | l ds => exact b.elim
      | k ds => exact b.elim
      | kt ds => exact b.elim
      | bx u => exact b.elim
      | al i => exact b.elim
    · simp only [if_neg e]
      have o := w'.own j t (by rw [wipeP_at e]; exact hj)
      rw [wipe_out e] at o
      exact o.slots (k.1 t (List.mem_of_getElem? hj))
  · by_cases e : j ∈ vs <;> by_cases e' : j' ∈ vs <;> simp only [e, e', if_true, if_false] at h1 h2
    exact w'.dj j j' a h1 h2
  · by_cases e : j ∈ vs <;> simp only [e, if_true, if_false] at h1
    exact w'.out j a h1
  · by_cases e : j ∈ vs <;> simp only [e, if_true, if_false] at h1
    have := w'.up j a h1
    rw [wipeP_len] at this
    exact this
theorem wipe_idem {σ : St} {vs : List Nat} {σ2 : St} {ρ2 ρ : Env} (h : wipe σ2 vs = wipe σ vs) (h2 : wipeP ρ2 vs = wipeP ρ vs) {K : PySem.W.Frag} {G F H : Hp} (k : St0 K B G F H σ2 ρ2) : St0 K B G F H (wipe σ vs) (wipeP ρ vs) := by
  rw [← h, ← h2]
  exact wipeK k vs
/-- an address is another's for a while -/
theorem St0.lend {K : PySem.W.Frag} {G F H : Hp} {σ : St} {ρ : Env} {p : Addr} {xs : List V} (k : St0 K B G F H σ ρ) (h : H p = none) : St0 K B (upd G p (.lst xs)) F (upd H p (.lst xs)) σ ρ := by
  refine ⟨k.1, ?_⟩
  obtain ⟨fp, w⟩ := k.2
  have hf := w.free h
  have w' := w.grow (Same.refl F) (fun b u e => same_upd h (o := .lst xs) b u (w.f b u e)) (same_upd h) (fun b u e => .inl e)
  refine ⟨fp, fun b u e => ?_, w'.f, fun b u e => ?_, B.okG w'.bx hf.2, w'.len, w'.own, w'.dj, fun i b hb => ⟨?_, (w'.out i b hb).2⟩, w'.up⟩
  · by_cases hb : b = p
    · subst hb; rw [upd_same] at e ⊢; exact e
    · rw [upd_ne hb] at e; exact w'.g b u e
  · by_cases hb : b = p
    · subst hb; exact hf.1
    · rw [upd_ne hb] at e; exact w'.gf b u e
  · have hne : b ≠ p := fun z => by subst z; exact w.live i b hb h
    rw [upd_ne hne]
    exact (w'.out i b hb).1
theorem St0.lent {K : PySem.W.Frag} {G F H : Hp} {σ : St} {ρ : Env} {p : Addr} {xs ys : List V} (k : St0 K B (upd G p (.lst xs)) F H σ ρ) (hg : G p = none) (hk : B.ok G F) : St0 K B (upd G p (.lst ys)) F (upd H p (.lst ys)) σ ρ := by
  refine ⟨k.1, ?_⟩
  obtain ⟨fp, w⟩ := k.2
  have hF : F p = none := w.gf p _ upd_same
  have na : ∀ i b, fp i b → b ≠ p := fun i b hb z => by
    subst z
    have := (w.out i b hb).1
    rw [upd_same] at this
    cases this
  refine ⟨fp, fun b u e => ?_, fun b u e => ?_, fun b u e => ?_, B.okG hk hg, w.len, fun i t hi => (w.own i t hi).frame (fun b hb => upd_ne (na i b hb)) (Same.refl F), w.dj, fun i b hb => ⟨?_, (w.out i b hb).2⟩, w.up⟩
  · by_cases hb : b = p
    · subst hb; rw [upd_same] at e ⊢; exact e
    · rw [upd_ne hb] at e ⊢; exact w.g b u (by rw [upd_ne hb]; exact e)
  · have hb : b ≠ p := fun z => by subst z; rw [hF] at e; cases e
    rw [upd_ne hb]
    exact w.f b u e
  · by_cases hb : b = p
    · subst hb; exact hF
    · rw [upd_ne hb] at e; exact w.gf b u (by rw [upd_ne hb]; exact e)
  · rw [upd_ne (na i b hb)]
    have := (w.out i b hb).1
    rw [upd_ne (na i b hb)] at this
    exact this

theorem wipe_at {σ : St} {vs : List Nat} {j : Nat} (h : j ∈ vs) (hj : j < σ.length) : (wipe σ vs)[j]? = some none := by
  induction vs with
  | nil => cases h
  | cons v vs ih =>
    unfold wipe
    by_cases e : v = j
    · subst e
      rw [List.getElem?_set_self (by rw [wipe_length]; exact hj)]
    · rw [List.getElem?_set_ne e]
      exact ih ((List.mem_cons.mp h).resolve_left (Ne.symm e))
theorem wipe_eq {σ σ' : St} {vs : List Nat} (hl : σ'.length = σ.length) (h : ∀ j, j ∉ vs → σ'[j]? = σ[j]?) : wipe σ' vs = wipe σ vs := by
  apply List.ext_getElem?
  intro j
  by_cases hj : j < σ.length
  · by_cases e : j ∈ vs
    · rw [wipe_at e hj, wipe_at e (by omega)]
    · rw [wipe_out e, wipe_out e, h j e]
  · rw [List.getElem?_eq_none (by rw [wipe_length]; omega), List.getElem?_eq_none (by rw [wipe_length]; omega)]
theorem wipe_wipe {σ : St} {vs : List Nat} : wipe (wipe σ vs) vs = wipe σ vs := wipe_eq (wipe_length _ _) fun j h => wipe_out h
theorem upd_id {H : Hp} {a : Addr} {o : HO} (h : H a = some o) : upd H a o = H := by
  funext b
  by_cases e : b = a
  · subst e; rw [upd_same, h]
  · rw [upd_ne e]
/-- a target within a block: only the slots at vs change -/
def liftGv (K : PySem.W.Frag) (B : Box) (vs : List Nat) (g : QG) : TG := fun v σ H Q => ∃ G F ρ r P, Fl K B G F H σ ρ v r ∧ g r ρ P ∧ ∀ ρ' σ' H' F', P ρ' → σ'.length = σ.length → (∀ j, j ∉ vs → σ'[j]? = σ[j]?) → St0 K B G F' H' σ' ρ' → Same F F' → Q σ' H'
def liftGvs (K : PySem.W.Frag) (B : Box) (vs : List Nat) (g : QGs) : TGs := fun us σ H Q => ∃ G F ρ ds P, St0 K B G F H σ ρ ∧ RpAll K F us ds ∧ g ds ρ P ∧ ∀ ρ' σ' H' F', P ρ' → σ'.length = σ.length → (∀ j, j ∉ vs → σ'[j]? = σ[j]?) → St0 K B G F' H' σ' ρ' → Same F F' → Q σ' H'
variable {e : Expr} {es : List Expr} {vs : List Nat}
theorem gv_name {i : Nat} {x : Str} (hN : X.N.Nodup) (hv : i ∈ vs := by decide) (hi : X.N[i]? = some x := by rfl) (hx : Loc X.env.scope x := by first | exact Or.inl rfl | exact Or.inr rfl) (hf : X.fn x = true ∨ X.env.scope.names.lookup x = some .local := by first | exact .inl rfl | exact .inr rfl) : PG X (.Name x pos) (liftGv X.K B vs (gN i)) :=
  weakG (pg_name hN hi hx hf) fun v σ H Q ⟨G, F, ρ, r, P, k, ⟨⟨h1, h2⟩, h⟩, q⟩ => q _ _ _ _ h (by simp) (fun j hj => List.getElem?_set_ne (fun z => hj (by rw [← z]; exact hv))) (k.set h1 h2) (Same.refl F)
theorem gvs_nil : PGs X [] (liftGvs X.K B vs gNilP) := weakGs pgs_nil fun us σ H Q ⟨G, F, ρ, ds, P, k, r, ⟨e, h⟩, q⟩ => by
  subst e
  cases r
  exact ⟨rfl, q _ _ _ _ h rfl (fun _ _ => rfl) k (Same.refl F)⟩
variable {g : QG} {gs : QGs}
theorem gvs_cons (h1 : PG X e (liftGv X.K B vs g)) (h2 : PGs X es (liftGvs X.K B vs gs)) (hs : (assignEach (e :: es) X.env).map (·.2) = assign e X.env :: (assignEach es X.env).map (·.2) := by rfl) : PGs X (e :: es) (liftGvs X.K B vs (gConsP g gs)) :=
  weakGs (pgs_cons h1 h2 hs) fun us σ H Q ⟨G, F, ρ, ds, P, k, r, h, q⟩ => by
    cases r with
    | nil => exact h.elim
    | cons r1 rr =>
      exact ⟨_, _, rfl, G, F, ρ, .d _, _, k.d r1, h, fun ρ' σ' H' F' p l1 o1 k' s => ⟨G, F', ρ', _, P, k', rr.mono s, p, fun ρ2 σ2 H2 F2 p2 l2 o2 k2 s2 => q ρ2 σ2 H2 F2 p2 (l2.trans l1) (fun j hj => (o2 j hj).trans (o1 j hj)) k2 (s.trans s2)⟩⟩
theorem gv_tup {k0 : Nat} {n : Nat} (hc : X.calm = true) (h : PGs X es (liftGvs X.K B vs gs)) (hn : (assignEach es X.env).length = n := by rfl) (hst : (assignEach es X.env).findIdx? (·.1) = none := by rfl) : PG X (.Tuple es k0 pos) (liftGv X.K B vs (gT n gs)) :=
  weakG (pg_tup hc h hn hst) fun v σ H Q ⟨G, F, ρ, r, P, k, h, q⟩ => by
    unfold gT at h
    split at h
    · have rp := fl_d k
      cases rp with
      | tup s r => exact ⟨_, _, rfl, same_t k.pop.2.f s, by rw [r.length]; exact h.1, G, F, ρ, _, P, k.pop, r, h.2, q⟩
    · exact h.elim
def qYes (ρ : Env) (Q : Bool → Env → Prop) : Prop := Q true ρ
theorem weakTs {c : List Expr} {t t' : TT} (h : PTs X c t) (k : ∀ σ H Q, t' σ H Q → t σ H Q) : PTs X c t' := ⟨fun pins s σ H Q I q => h.run pins s σ H Q I (k σ H Q q)⟩
theorem ts_nil : PTs X [] (liftT X.K B qYes) := weakTs pts_nil fun σ H Q ⟨G, F, ρ, P, k, h, q⟩ => q _ _ _ _ h k (Same.refl F)
theorem ts_one {c : Expr} {t : QT} (h : PT X c (liftT X.K B t)) : PTs X [c] (liftT X.K B t) := pts_one h
theorem lift_lc {K : PySem.W.Frag} {ti : QI} {tt : QT} {te : QE} {σ : St} {H : Hp} {Q : VK} (h : lift K B (qLc ti g tt te vs) σ H Q) : tLc (liftI K B ti) (liftGv K B vs g) (liftT K B tt) (lift K B te) vs σ H Q := by
  obtain ⟨G, F, ρ, P, k, h, q⟩ := h
  refine ⟨G, F, ρ, _, k, h, fun ds ρ0 H0 F0 J ⟨hb, I, i0, turn, fin⟩ k0 s0 w => fun D hD => ?_⟩
  have hG : G D = none := (k0.2.free hD).2
  refine ⟨fun i m H => m = ds.length - i ∧ i ≤ ds.length ∧ ∃ F' acc ds', St0 K B (upd G D (.lst acc)) F' H (wipe σ vs) (wipeP ρ0 vs) ∧ Same F0 F' ∧ RpAll K F' acc ds' ∧ I i ds',
    ⟨ds.length, by simp, Nat.zero_le _, F0, [], [], wipeK (k0.lend hD) vs, Same.refl F0, .nil, i0⟩, ?_⟩
  rintro i m H1 ⟨rfl, hi, F1, acc, ds', k1, s1, ra, w1⟩
  by_cases hlt : i < ds.length
  · have wk1 := w.mono s1
    refine .inr ⟨wk1.goes i H1 hlt k1.2.f, fun H' => ∃ F' acc ds', St0 K B (upd G D (.lst acc)) F' H' (wipe σ vs) (wipeP ρ0 vs) ∧ Same F0 F' ∧ RpAll K F' acc ds' ∧ I (i + 1) ds', fun H' z => ⟨ds.length - (i + 1), by omega, rfl, hlt, z⟩, fun x H' y => ?_⟩
    obtain ⟨d, hd, hx⟩ := wk1.yields i H1 x H' hlt k1.2.f y
    obtain ⟨F2, s2, fl⟩ := k1.item hx
    refine ⟨_, F2, _, _, _, fl, turn i d ds' hd w1, fun ρ2 σ2 H2 F3 p l2 o2 k2 s3 => ?_⟩
    have hw2 : wipe σ2 vs = wipe σ vs := (wipe_eq l2 o2).trans wipe_wipe
    refine ⟨hw2, _, F3, ρ2, _, k2, p, fun b ρ3 H3 F4 p3 k3 s4 => ?_⟩
    have s14 := ((s1.trans s2).trans s3).trans s4
    have r4 := ra.mono ((s2.trans s3).trans s4)
    cases b with
    | true =>
      simp only [if_true] at p3 ⊢
      refine ⟨_, F4, ρ3, _, k3, p3, fun r ρ4 v H4 F5 ⟨d', hd', hw, hlen, i1⟩ fl s5 => ?_⟩
      obtain ⟨F6, s6, k6, rp⟩ := fl.ok.frz fl.still hd'
      have k6 : St0 K B (upd G D (.lst acc)) F6 H4 σ2 ρ4 := ⟨fl.still, k6⟩
      refine ⟨acc, k6.2.g D _ upd_same, by rw [ra.length]; exact hlen, F6, acc ++ [v], ds' ++ [d'], ?_, (s14.trans s5).trans s6, (r4.mono (s5.trans s6)).append (.one rp), i1⟩
      have k7 := wipeK k6 vs
      rw [hw2, hw] at k7
      exact k7.lent hG (B.okF k0.2.bx (((s14.trans s5).trans s6)))
    | false =>
      simp only [Bool.false_eq_true, if_false] at p3 ⊢
      have k7 := wipeK k3 vs
      rw [hw2, p3.1] at k7
      exact ⟨F4, acc, ds', k7, s14, r4, p3.2⟩
  · have e : i = ds.length := by omega
    subst e
    refine .inl ⟨(w.mono s1).stops H1 k1.2.f, ?_⟩
    have k2 := unwipeK k0 hb s1 k1
    have hD1 : H1 D = some (.lst acc) := k1.2.g D _ upd_same
    have k3 := k2.2.unpark hG (B.okF k0.2.bx s1) ra
    rw [upd_id hD1] at k3
    exact q _ _ _ _ _ (fin ds' w1) ⟨k0.1, k3, fun j z => nomatch z⟩ (s0.trans s1)
theorem q_lc {elt tg iter : Expr} {ifs : List Expr} {scope : Scope} {own : List (Str × Nat)} {ti : QI} {tt : QT} {te : QE} (hc : X.calm = true) (hN : X.N.Nodup) (hi : PI X tg iter (liftI X.K B ti)) (ok : BlkOk X.N X.env.scope scope own)
    (hg : ∀ (s : Shared) (H : Hp) (C : Addr) (cl : List (Str × Addr)) (fp : List Addr), PG (X.blk s H scope (compEnvC scope cl C X.env) fp) tg (liftGv X.K B (own.map (·.2)) g)) (ht : ∀ (s : Shared) (H : Hp) (C : Addr) (cl : List (Str × Addr)) (fp : List Addr), PTs (X.blk s H scope (compEnvC scope cl C X.env) fp) ifs (liftT X.K B tt))
    (he : ∀ (s : Shared) (H : Hp) (C : Addr) (cl : List (Str × Addr)) (fp : List Addr), PE (X.blk s H scope (compEnvC scope cl C X.env) fp) elt (lift X.K B te)) (hs : ∀ x, foldedSetIterable iter X.env x = pure x := by intro _; rfl) :
    PE X (.ListComp elt [⟨tg, iter, ifs, 0⟩] scope pos) (lift X.K B (qLc ti g tt te (own.map (·.2)))) := weakE (pe_lc hc hN hi ok hg ht he hs) fun _ _ _ => lift_lc
/-- name = [..] on one line -/
theorem s_setLc {i : Nat} {y : Str} {py spos : Pos} {elt tg iter : Expr} {ifs : List Expr} {scope : Scope} {own : List (Str × Nat)} {ti : QI} {tt : QT} {te : QE} (hc : X.calm = true) (hN : X.N.Nodup)
    (hsw : swapsWith (.ListComp elt [⟨tg, iter, ifs, 0⟩] scope pos) (some (.Name y py)) spos.line X.env = pure true) (hi : PI X tg iter (liftI X.K B ti)) (ok : BlkOk X.N X.env.scope scope own)
    (hg : ∀ (s : Shared) (H : Hp) (C : Addr) (cl : List (Str × Addr)) (fp : List Addr), PG (X.blk s H scope (compEnvC scope cl C X.env) fp) tg (liftGv X.K B (own.map (·.2)) g)) (ht : ∀ (s : Shared) (H : Hp) (C : Addr) (cl : List (Str × Addr)) (fp : List Addr), PTs (X.blk s H scope (compEnvC scope cl C X.env) fp) ifs (liftT X.K B tt))
    (he : ∀ (s : Shared) (H : Hp) (C : Addr) (cl : List (Str × Addr)) (fp : List Addr), PE (X.blk s H scope (compEnvC scope cl C X.env) fp) elt (lift X.K B te)) (hy : X.N[i]? = some y := by rfl) (hyl : X.env.scope.names.lookup y = some .local := by rfl) (hs : ∀ x, foldedSetIterable iter X.env x = pure x := by intro _; rfl) :
    PS X (.Assign [.Name y py] (.ListComp elt [⟨tg, iter, ifs, 0⟩] scope pos) spos) (liftS X.K B (sAsg (qLc ti g tt te (own.map (·.2))) (gN i))) :=
  weakS (ps_setLc hc hN hy hyl hsw hi ok hg ht he hs) fun D σ H ⟨G, F, ρ, DP, k, h, en⟩ => lift_lc (B := B) ⟨G, F, ρ, _, k, h, fun r ρ' v H' F' ⟨⟨h1, h2⟩, p⟩ fl e => en.nx _ _ _ _ p (fl.set h1 h2) e⟩
end
end PL

set_option Elab.async false
set_option linter.all false
set_option maxRecDepth 100000
/-! PL, defs where no repr is under way: FnOk's promise, told at one place. -/
namespace PL
open PySem PySem.Spec L2
open PyProof.Rows
variable [Consts]
section
variable {P : Program} {w : World} {K : PySem.W.Frag} {mg mb : Str → Option Value} {base : Heap}
/-- a def's promise at one place -/
structure FnA (P : Program) (w : World) (K : PySem.W.Frag) (mg : Str → Option Value) (base : Heap) (CX : CXT) (A : Around) (f : Addr) (fd : FuncData) (ps : List Str) (sp : Sp) : Prop where
  len : ∀ us H Q E, sp us H Q E → us.length = ps.length
  goes : ∀ (out : List PySem.Env) (st : Shared) (H : Hp) (given : Args) (us : List Value) (vs : List V) (Q : VK) (E : XK), Env0 P w K mg base A out st H → BindsTo st fd given (ps.zip us) → Vals vs us → sp vs H Q E →
    codeAny (model P w) A (.call (.ref f) given) (CR CX out P w H st Q E) st
/-- room, and no repr under way -/
structure RoomG (k : Nat) (A : Around) : Prop extends Room k A where
  gd : A.guards = some []
theorem RoomG.mono {j k : Nat} {A : Around} (r : RoomG k A) (h : j ≤ k) : RoomG j A := ⟨r.toRoom.mono h, r.gd⟩
theorem RoomG.deeper {k : Nat} {A : Around} (r : RoomG (k + 1) A) (env : PySem.Env) : RoomG k (A.deeper env) := ⟨r.toRoom.deeper env, r.gd⟩
theorem RoomG.units {k : Nat} {A : Around} (r : RoomG k A) : A.units + 64 < cLine := r.toRoom.units
def FnG (P : Program) (w : World) (K : PySem.W.Frag) (mg : Str → Option Value) (base : Heap) (CX : CXT) (k : Nat) (f : Addr) (fd : FuncData) (ps : List Str) (sp : Sp) : Prop := ∀ A : Around, RoomG k A → FnA P w K mg base CX A f fd ps sp
theorem fnG_of {CX : CXT} {k : Nat} {f : Addr} {fd : FuncData} {ps : List Str} {sp : Sp} (F : FnOk P w K mg base CX k f fd ps sp) : FnG P w K mg base CX k f fd ps sp :=
  fun A hr => ⟨F.len, fun out st H given us vs Q E h1 h2 h3 h4 => F.run A out st H given us vs Q E hr.toRoom h1 h2 h3 h4⟩
/-- the def of the law, by its body, at one place -/
theorem lawRun {CX : CXT} {k : Nat} {f : Addr} {x qual : Str} {st : Stmt} {fd : FuncData} {N ps : List Str} {A : Around} {outer : List PySem.Env} {s : Shared} {H : Hp} {us : List Value} {vs : List V} {Q : VK} {E : XK} {args : Args} (F : Fun K x qual st f fd) (S : FnScope N ps (defScope st))
    (hr : Room (k + 1) A) (e0 : Env0 P w K mg base A outer s H) (hb : BindsTo s fd args (ps.zip us)) (r : Vals vs us) (hl : vs.length = ps.length)
    (hbody : ∀ cdv : Value, Room k (A.deeper (PyProof.Rows.envOfC qual (defScope st) s.heap.objs.size f cdv)) → ∃ t, PSs (cxOf CX P w K mg base N qual (defScope st) f cdv A outer s H E).nox (defBody st) t ∧ t { nx := fun _ H' => Q .non H', rt := Q } (L2.start N vs) H) :
    codeAny (model P w) A (.call (.ref f) args) (CR CX outer P w H s Q E) s := by
  obtain ⟨oc, od, kV, doc, pm, an, cdv, ct, osl, rfl, lk, hcd⟩ := F.ex
  have KX : K.In s.heap := e0.mod.kin.keeps fun b o e => (e0.bs b o e).1
  have nl : s.heap.NoLimit := e0.mod.nolimit.keeps fun b o e => (e0.bs b o e).1
  refine codeAny_call_function hr.depth (KX _ _ lk) rfl S.co S.gen rfl (PySem.W.codeRec_of KX hcd) (hb _ _ _ _ (wpAny_newFunctionEnv_cells S.kind (fun y hy => ?_) fun env he s1 ic => ?_))
  · rcases S.par y.1 (List.of_mem_zip hy).1 with z | z
    · exact .inl z
    · exact .inr ⟨z, PySem.W.cellsFrom_some _ _ _ (.inl z)⟩
  · subst he
    obtain ⟨t, ht, hq⟩ := hbody cdv (hr.deeper _)
    have J := inv_start (CX := CX) (E := E) S hr.hd e0 hl r ic
    refine ⟨nl.keeps ic.toInCall.keep, codeAny_func (wpAny_mono (ht.nox.run [] s1 (L2.start N vs) H _ J hq) (fun fl s' z => ?_) fun _ _ z => z)⟩
    have out : ∀ {σ' : L2.St} {H' : Hp} {v : V} {u : Value}, Inv (cxOf CX P w K mg base N qual (defScope st) f cdv A outer s H E) [] σ' H' s' → RelV v u → Q v H' → CE outer P w H s Q u s' := fun {σ' H' v u} I rv q => ⟨v, H', I.os, I.bare, I.base, I.hok, rv, q⟩
    cases fl with
    | ret u => obtain ⟨v, σ', H', I, rv, q⟩ := z; exact out I rv q
    | next => obtain ⟨σ', H', I, q⟩ := z; exact out (v := .non) (u := Value.none) I rfl q
    | brk => obtain ⟨_, _, _, q⟩ := z; exact q.elim
    | cont => obtain ⟨_, _, _, q⟩ := z; exact q.elim
/-- a def's body keeps its promise -/
theorem fnG_mk {CX : CXT} {k : Nat} {f : Addr} {x qual : Str} {st : Stmt} {fd : FuncData} {N ps : List Str} {sp : Sp} (F : Fun K x qual st f fd) (S : FnScope N ps (defScope st)) (len : ∀ vs H Q E, sp vs H Q E → vs.length = ps.length)
    (hbody : ∀ (cdv : Value) (A : Around) (outer : List PySem.Env) (s : Shared) (H : Hp) (vs : List V) (Q : VK) (E : XK), RoomG k (A.deeper (envOfC qual (defScope st) s.heap.objs.size f cdv)) → sp vs H Q E →
      ∃ t, PSs (cxOf CX P w K mg base N qual (defScope st) f cdv A outer s H E).nox (defBody st) t ∧ t { nx := fun _ H' => Q .non H', rt := Q } (L2.start N vs) H) : FnG P w K mg base CX (k + 1) f fd ps sp :=
  fun A hr => ⟨len, fun out s H given us vs Q E e0 hb r h => lawRun F S hr.toRoom e0 hb r (len _ _ _ _ h) fun cdv _ => hbody cdv A out s H vs Q E (hr.deeper _) h⟩
end
/-! ### calls -/
section
variable {X : Cx} {CX : CXT} {f : Addr} {fd : FuncData} {ps ks : List Str} {sp : Sp} {E : XK} {x : Str} {p pos : Pos} {e : Expr} {es : List Expr} {te : TE} {t tk : TA} {g : List Value → List Value → List Value} {gV : List V → List V → List V} {kws : List Keyword}
theorem goA {pins : List (Addr × Obj)} {σ : L2.St} {H : Hp} {s : Shared} {Q : VK} {given : Args} {us : List Value} {vs : List V} (F : FnA X.prog X.w X.K X.mg X.base CX X.A f fd ps sp) (hb : BindsTo s fd given (ps.zip us)) (hx : Passes CX X E)
    (I : Inv X pins σ H s) (r : Vals vs us) (h : sp vs H Q E) : codeAny (model X.prog X.w) X.A (.call (.ref f) given) (fun r s' => match r with | .ok (.ret v) => EP X pins σ Q v s' | .ok _ => False | .error e => X.xe e s') s :=
  codeAny_mono (F.goes X.stack s H given us vs Q E I.env0 hb r h) fun r s' hq => match r, hq with
    | .error e, hq => hx pins σ H s e s' I hq
    | .ok (.ret u), hq => I.after hq
    | .ok .next, hq => False.elim hq
    | .ok .brk, hq => False.elim hq
    | .ok .cont, hq => False.elim hq
theorem pe_callA (F : FnA X.prog X.w X.K X.mg X.base CX X.A f fd ps sp) (hg : Gl X x) (hm : X.mg x = some (.ref f)) (hk : PySem.W.keepIn X.K (.ref f) = true) (hb : Binds X.K fd ps []) (hx : Passes CX X E)
    (ha : PA X (e :: es) t) (hdb : (x == ("__debug__" : Str)) = false := by decide) (he : starEach (e :: es) X.env = (false, eval e X.env) :: starEach es X.env := by rfl) (hpl : (backTo pos (starEach es X.env)).any (·.1) = false := by rfl) :
    PE X (.Call (.Name x p) (e :: es) [] pos) (tCall sp [] E t) := ⟨fun pins s σ H Q I h => by
  refine wpAny_Call_Name_kw (ld_glob I hg hm (PySem.W.callWith_K (h₀ := X.base) I.ok.mod.kin hk ?_ he hpl) hdb)
  refine thn (ha.run pos pins s σ H _ I h) fun us s1 ⟨vs, H1, I1, r, q⟩ => ⟨I1.kIn, ?_⟩
  have q : sp (vs ++ []) H1 Q E := q
  rw [List.append_nil] at q
  have hb1 := hb s1 us I1.kIn (by rw [List.append_nil, ← r.length]; exact F.len _ _ _ _ q)
  rw [List.append_nil] at hb1
  exact wpAny_call (goA F hb1 hx I1 r q)⟩
theorem kwA {pins : List (Addr × Obj)} {σ : L2.St} {H : Hp} {s : Shared} {Q : VK} {us ws : List Value} {vs zs : List V} (F : FnA X.prog X.w X.K X.mg X.base CX X.A f fd ps sp) (hb : KBinds X.K fd ps ks g gV) (hx : Passes CX X E)
    (I : Inv X pins σ H s) (r : Vals vs us) (rz : Vals zs ws) (h : sp (gV vs zs) H Q E) : wpAny (model X.prog X.w) X.A (call (.ref f) us (ks.zip ws)) (EP X pins σ Q) X.xe s :=
  have r2 := hb.rel r rz
  wpAny_call (goA F (hb.to s us ws I.kIn (by rw [← r2.length]; exact F.len _ _ _ _ h)) hx I r2 h)
theorem pe_callKA (F : FnA X.prog X.w X.K X.mg X.base CX X.A f fd ps sp) (hg : Gl X x) (hm : X.mg x = some (.ref f)) (hk : PySem.W.keepIn X.K (.ref f) = true) (hb : KBinds X.K fd ps ks g gV) (hx : Passes CX X E)
    (ha : PA X (e :: es) t) (hkw : PK X kws tk) (hall : (backToKw pos (keywordEach kws X.env)).all (·.1.isSome) = true) (hks : (backToKw pos (keywordEach kws X.env)).filterMap (·.1) = ks)
    (hdb : (x == ("__debug__" : Str)) = false) (he : starEach (e :: es) X.env = (false, eval e X.env) :: starEach es X.env) (hpl : ((backTo pos (starEach (e :: es) X.env)).any (·.1) || (backToKw pos (keywordEach kws X.env)).any (·.1.isNone)) = false) :
    PE X (.Call (.Name x p) (e :: es) kws pos) (tCallK sp gV E t tk) := ⟨fun pins s σ H Q I h => by
  refine wpAny_Call_Name_kw (ld_glob I hg hm (PySem.W.callWith_KW (h₀ := X.base) I.ok.mod.kin hk hall ?_ hpl he) hdb)
  refine thn (ha.run pos pins s σ H _ I h) fun us s1 ⟨vs, H1, I1, r, q⟩ => thn (hkw.run pos pins s1 σ H1 _ I1 q) fun ws s2 ⟨zs, H2, I2, rz, q2⟩ => ⟨I2.kIn, ?_⟩
  rw [hks]
  exact kwA F hb hx I2 r rz q2⟩
theorem pe_callSA {sp_ : Pos} (F : FnA X.prog X.w X.K X.mg X.base CX X.A f fd ps sp) (hb : Binds X.K fd ps []) (hk : PySem.W.keepIn X.K (.ref f) = true) (hg : Gl X x) (hm : X.mg x = some (.ref f)) (hx : Passes CX X E) (he : PE X e te) (hd : (x == ("__debug__" : Str)) = false)
    (hst : starEach [.Starred e sp_] X.env = [(true, eval e X.env)]) :
    PE X (.Call (.Name x p) [.Starred e sp_] [] pos) (fun σ H Q => te σ H fun y H1 => ∃ a xs, y = V.ref a ∧ (SqT X.K H1 a xs ∨ SqL X.K H1 a xs) ∧ sp xs H1 Q E) := ⟨fun pins s σ H Q I h => by
  refine wpAny_Call_Name_kw (ld_glob I hg hm (PySem.W.callWith_S (h₀ := X.base) I.ok.mod.kin hk ?_ hst) hd)
  refine thn (he.run pins s σ H _ I h) fun v s1 ⟨y, H1, I1, ry, a, xs, ey, hxs, q⟩ => ?_
  subst ey
  cases ry
  refine StX.star_any I1 hxs fun us s2 I2 rv => ⟨I2.kIn, ?_⟩
  have hb1 := hb s2 us I2.kIn (by rw [List.append_nil, ← rv.length]; exact F.len _ _ _ _ q)
  rw [List.append_nil] at hb1
  exact wpAny_call (goA F hb1 hx I2 rv q)⟩
end
end PL

set_option Elab.async false
set_option linter.all false
set_option maxRecDepth 100000
/-! PL, part 5: defs and their calls. -/
namespace PL
open PySem PySem.Spec L2
variable [Consts]

/-- what may be handed in -/
def T.arg : T → Prop
  | .d _ => True
  | .raw _ => True
  | .bx _ => True
  | _ => False
theorem T.arg_still {t : T} (h : t.arg) : t.still := by cases t <;> first | exact trivial | exact h.elim
/-- a def's promise by data: φ tells of the arguments and the wanted end -/
def spP (K : PySem.W.Frag) (B : Box) (n : Nat) (φ : List T → (T → Prop) → Prop) : Sp := fun vs H Q _ => ∃ G F ts P, ts.length = n ∧ (∀ t ∈ ts, t.arg) ∧ Ok K B G F H (vs.map some) ts ∧ φ ts P ∧
  ∀ r v H' F', P r → r.still → Ok K B G F' H' (vs.map some ++ [some v]) (ts ++ [r]) → Same F F' → Q v H'
theorem spP_len {K : PySem.W.Frag} {B : Box} {n : Nat} {φ : List T → (T → Prop) → Prop} : ∀ vs H Q E, spP K B n φ vs H Q E → vs.length = n := fun vs H Q E ⟨G, F, ts, P, hl, _, ok, _⟩ => by
  have := ok.len
  rw [List.length_map] at this
  omega
def startP (N : List Str) (ts : List T) : Env := ts ++ List.replicate (N.length - ts.length) .un
def keeps (ts : List T) (ρ : Env) : Prop := ∀ (i : Nat) u, ts[i]? = some (.bx u) → ρ[i]? = some (.bx u)
theorem keeps_nil (ρ : Env) : keeps [] ρ ↔ True := ⟨fun _ => trivial, fun _ i u h => by simp at h⟩
theorem keeps_cons (t r : T) (ts : List T) (ρ : Env) : keeps (t :: ts) (r :: ρ) ↔ (∀ u, t = .bx u → r = .bx u) ∧ keeps ts ρ := by
  constructor
  · intro h
    refine ⟨fun u e => ?_, fun i u e => ?_⟩
    · have := h 0 u (by simp [e])
      simpa using this
    · have := h (i + 1) u (by simpa using e)
      simpa using this
  · rintro ⟨h1, h2⟩ i u e
    cases i with
    | zero =>
      simp at e
      simp [h1 u e]
    | succ i => simpa using h2 i u (by simpa using e)
theorem keeps_d (x : D) (r : T) (ts : List T) (ρ : Env) : keeps (.d x :: ts) (r :: ρ) ↔ keeps ts ρ := by
  rw [keeps_cons]
  exact ⟨fun h => h.2, fun h => ⟨(fun u e => nomatch e), h⟩⟩
theorem keeps_raw (x : V) (r : T) (ts : List T) (ρ : Env) : keeps (.raw x :: ts) (r :: ρ) ↔ keeps ts ρ := by
  rw [keeps_cons]
  exact ⟨fun h => h.2, fun h => ⟨(fun u e => nomatch e), h⟩⟩
theorem keeps_bx (a b : Addr) (ts : List T) (ρ : Env) : keeps (.bx a :: ts) (.bx b :: ρ) ↔ a = b ∧ keeps ts ρ := by
  rw [keeps_cons]
  exact ⟨fun h => ⟨by have := h.1 a rfl; cases this; rfl, h.2⟩, fun h => ⟨(fun u e => by cases e; rw [h.1]), h.2⟩⟩

section
variable {K : PySem.W.Frag} {B : Box} {G F F' H H' : Hp} {σ : St} {ρ : Env}
theorem Ok.pad (k : Ok K B G F H σ ρ) (st : ∀ t ∈ ρ, t.still) (m : Nat) : Ok K B G F H (σ ++ List.replicate m none) (ρ ++ List.replicate m .un) := by
  obtain ⟨fp, k⟩ := k
  refine ⟨fp, k.g, k.f, k.gf, k.bx, by simp [k.len], fun i t hi => ?_, k.dj, k.out, fun i a h => by have := k.up i a h; simp; omega⟩
  by_cases h : i < ρ.length
  · rw [List.getElem?_append_left h] at hi
    rw [List.getElem?_append_left (by rw [k.len]; exact h)]
    exact (k.own i t hi).slots (st t (List.mem_of_getElem? hi))
  · rw [List.getElem?_append_right (by omega)] at hi
    rw [List.getElem?_replicate] at hi
    split at hi
    · cases hi
      exact fun a z => h (k.up i a z)
    · cases hi
/-- at a def's end: the arguments as they were handed in, and the result -/
theorem Ok.leave {vs : List V} {ts : List T} {v : V} {r : T} (k : Ok K B G F H (vs.map some) ts) (ha : ∀ t ∈ ts, t.arg) (k' : Ok K B G F' H' (σ ++ [some v]) (ρ ++ [r])) (kp : keeps ts ρ) (st : r.still) (s : Same F F') :
    Ok K B G F' H' (vs.map some ++ [some v]) (ts ++ [r]) := by
  have hl' : σ.length = ρ.length := by have := k'.len; simpa using this
  obtain ⟨fp, k⟩ := k
  obtain ⟨fq, k'⟩ := k'
  have hlt : ∀ i u, ts[i]? = some (.bx u) → i < ρ.length := fun i u h => (List.getElem?_eq_some_iff.mp (kp i u h)).1
  refine ⟨fun i => open Classical in if i = ts.length then fq ρ.length else if ∃ u, ts[i]? = some (.bx u) then fq i else fun _ => False, k'.g, k'.f, k'.gf, k'.bx, by have := k.len; simpa using this, fun i t hi => ?_, fun i j a h1 h2 => ?_, fun i a h1 => ?_, fun i a h1 => ?_⟩
  · by_cases e : i = ts.length
    · subst e
      simp only [if_true]
      rw [getA_eq] at hi
      cases hi
      rw [← k.len, getLast_append]
      have o := k'.own ρ.length _ getA_eq
      rw [← hl', getLast_append] at o
      rw [← hl']
      exact o.slots st
    · simp only [if_neg e]
      have hi2 : i < ts.length := by
        have := (List.getElem?_eq_some_iff.mp hi).1
        simp at this
        omega
      rw [getA_lt hi2] at hi
      rw [getA_lt (by rw [k.len]; exact hi2)]
      have o := k.own i t hi
      have hta := ha t (List.mem_of_getElem? hi)
      cases t with
      | d x =>
        rw [if_neg (by rw [hi]; rintro ⟨u, z⟩; cases z)]
        obtain ⟨_, w, e1, rp⟩ := o
        exact ⟨fun _ z => z, w, e1, rp.mono s⟩
      | raw w =>
        rw [if_neg (by rw [hi]; rintro ⟨u, z⟩; cases z)]
        exact ⟨fun _ z => z, o.2⟩
      | bx u =>
        rw [if_pos ⟨u, hi⟩]
        have o' := k'.own i (.bx u) (by rw [getA_lt (hlt i u hi)]; exact kp i u hi)
        exact ⟨o.1, o'.2⟩
      | un => exact hta.elim
      | l ds => exact hta.elim
      | k ds => exact hta.elim
      | kt ds => exact hta.elim
      | al i => exact hta.elim
  · by_cases e : i = ts.length <;> by_cases e' : j = ts.length <;> simp only [e, e', if_true, if_false] at h1 h2
    · omega
    · split at h2
      · rename_i hu
        obtain ⟨u, hu⟩ := hu
        have := k'.dj _ _ a h1 h2
        have := hlt j u hu
        omega
      · exact h2.elim
    · split at h1
      · rename_i hu
        obtain ⟨u, hu⟩ := hu
        have := k'.dj _ _ a h1 h2
        have := hlt i u hu
        omega
      · exact h1.elim
    · split at h1
      · split at h2
        · exact k'.dj _ _ a h1 h2
        · exact h2.elim
      · exact h1.elim
  · by_cases e : i = ts.length <;> simp only [e, if_true, if_false] at h1
    · exact k'.out _ a h1
    · split at h1
      · exact k'.out _ a h1
      · exact h1.elim
  · by_cases e : i = ts.length <;> simp only [e, if_true, if_false] at h1
    · simp [e]
    · split at h1
      · rename_i hu
        obtain ⟨u, hu⟩ := hu
        have := (List.getElem?_eq_some_iff.mp hu).1
        simp
        omega
      · exact h1.elim
end

section
variable {P : Program} {w : World} {K : PySem.W.Frag} {mg : Str → Option Value} {base : Heap}
def endsP (ts : List T) (P : T → Prop) : PEnds where
  nx := fun ρ => P (.d .none) ∧ keeps ts ρ
  rt := fun r ρ => (P r ∧ r.still) ∧ keeps ts ρ
/-- THE RULE for a def, by data -/
theorem fnP {B : Box} {x qual : Str} {st : Stmt} {f : Addr} {fd : FuncData} {N ps : List Str} {k : Nat} {φ : List T → (T → Prop) → Prop} (Fn : Fun K x qual st f fd) (S : FnScope N ps (defScope st))
    (hbody : ∀ (cdv : Value) (A : Around) (outer : List PySem.Env) (s : Shared) (H : Hp) (E : XK), RoomG k (A.deeper (PyProof.Rows.envOfC qual (defScope st) s.heap.objs.size f cdv)) → ∀ (ts : List T) (Pq : T → Prop), ts.length = ps.length → φ ts Pq →
      ∃ t : QS, PSs (cxOf CX0 P w K mg base N qual (defScope st) f cdv A outer s H E).nox (defBody st) (liftS K B t) ∧ t (endsP ts Pq) (startP N ts)) : FnG P w K mg base CX0 (k + 1) f fd ps (spP K B ps.length φ) := by
  refine fnG_mk Fn S spP_len fun cdv A outer s H vs Q E hr ⟨G, F, ts, Pq, hl, ha, ok, hφ, q⟩ => ?_
  obtain ⟨t, h, ht⟩ := hbody cdv A outer s H E hr ts Pq hl hφ
  have hvl : vs.length = ts.length := by have := ok.len; simpa using this
  have st0 : ∀ t ∈ ts, t.still := fun t ht => T.arg_still (ha t ht)
  refine ⟨_, h, G, F, startP N ts, endsP ts Pq, ⟨fun t ht => ?_, ?_⟩, ht, ⟨fun σ' H' ρ' F' ⟨p, kp⟩ k' s => ?_, fun r v σ' H' ρ' F' ⟨⟨p, sr⟩, kp⟩ fl s => ?_, fun _ _ _ _ z => z.elim, fun _ _ _ _ z => z.elim⟩⟩
  · rcases List.mem_append.mp ht with z | z
    · exact st0 t z
    · rw [List.eq_of_mem_replicate z]
      trivial
  · unfold L2.start startP
    rw [hvl]
    exact ok.pad st0 _
  · exact q _ .non H' F' p trivial (ok.leave ha (k'.2.pushD .non) kp trivial s) s
  · exact q _ v H' F' p sr (ok.leave ha fl.ok kp sr s) s
end

/-! ### calls -/
section
variable {K : PySem.W.Frag} {B : Box}
/-- what a callee finds of another's -/
noncomputable def restOf (F H : Hp) (S : Addr → Prop) : Hp := open Classical in fun a => if F a = none ∧ ¬ S a then H a else none
theorem restOf_in {F H : Hp} {S : Addr → Prop} {a : Addr} (h : F a = none) (h2 : ¬ S a) : restOf F H S a = H a := by unfold restOf; rw [if_pos ⟨h, h2⟩]
theorem of_restOf {F H : Hp} {S : Addr → Prop} {a : Addr} {o : HO} (h : restOf F H S a = some o) : F a = none ∧ ¬ S a ∧ H a = some o := by
  unfold restOf at h
  split at h
  · rename_i z; exact ⟨z.1, z.2, h⟩
  · cases h
/-- data and raw values handed in -/
def wsT : List W → Option (List T)
  | [] => some []
  | .d x :: r => (wsT r).map (.d x :: ·)
  | .raw v :: r => (wsT r).map (.raw v :: ·)
  | _ :: _ => none
theorem wsT_own {F : Hp} {σ : St} : ∀ {ws : List W} {vs : List V} {ts : List T}, WsOk K F σ ws vs → wsT ws = some ts → vs.length = ts.length ∧ (∀ t ∈ ts, t.arg) ∧ ∀ (H : Hp) (σ' : St) (i : Nat) (t : T), ts[i]? = some t → Own K B H F σ' t ((vs.map some)[i]?.join) (fun _ => False)
  | _, _, ts, .nil, e => by
    obtain rfl : [] = ts := Option.some.inj e
    exact ⟨rfl, (fun _ z => nomatch z), fun H σ' i t h => by simp at h⟩
  | .d x :: ws, _, ts, .cons h r, e => by
    cases q : wsT ws with
    | none => simp [wsT, q] at e
    | some es =>
      simp [wsT, q] at e
      subst e
      obtain ⟨h1, h2, h3⟩ := wsT_own r q
      refine ⟨by simp [h1], fun t ht => ?_, fun H σ' i t hi => ?_⟩
      · rcases List.mem_cons.mp ht with rfl | z
        · trivial
        · exact h2 t z
      · cases i with
        | zero =>
          simp at hi
          subst hi
          exact ⟨fun _ z => z, _, rfl, h⟩
        | succ i => exact h3 H σ' i t (by simpa using hi)
  | .raw u :: ws, _, ts, .cons h r, e => by
    cases q : wsT ws with
    | none => simp [wsT, q] at e
    | some es =>
      simp [wsT, q] at e
      subst e
      obtain ⟨h1, h2, h3⟩ := wsT_own r q
      refine ⟨by simp [h1], fun t ht => ?_, fun H σ' i t hi => ?_⟩
      · rcases List.mem_cons.mp ht with rfl | z
        · trivial
        · exact h2 t z
      · cases i with
        | zero =>
          simp at hi
          subst hi
          have h : _ = u := h
          subst h
          exact ⟨fun _ z => z, rfl⟩
        | succ i => exact h3 H σ' i t (by simpa using hi)
  | .al _ :: ws, _, ts, .cons h r, e => nomatch e
  | .no :: ws, _, ts, .cons h r, e => nomatch e
/-- behind a call: what the caller has -/
theorem OkW.back {G F F' H H' : Hp} {σ τ : St} {ρ θ : Env} {fp fq : Nat → Addr → Prop} {v : V} {r : T} {bi : Option (Nat × Addr)} (k : OkW K B G F H σ ρ fp)
    (hb : ∀ i u, bi = some (i, u) → ρ[i]? = some (.bx u))
    (k' : OkW K B.bare (restOf F H fun a => ∃ i u, bi = some (i, u) ∧ fp i a) F' H' (τ ++ [some v]) (θ ++ [r]) fq) (hθ : ∀ i u, bi = some (i, u) → (θ ++ [r])[0]? = some (.bx u) ∧ 0 < θ.length) (st : r.still) (s : Same F F') :
    OkW K B G F' H' (σ ++ [some v]) (ρ ++ [r]) (fun j => open Classical in if j = ρ.length then fq θ.length else if ∃ u, bi = some (j, u) then fq 0 else fp j) := by
  have hl : τ.length = θ.length := by have := k'.len; simpa using this
  have rest : ∀ a, F a = none → (∀ i u, bi = some (i, u) → ¬ fp i a) → H a ≠ none → F' a = none ∧ H' a = H a ∧ ∀ j, ¬ fq j a := fun a h1 h2 h3 => by
    have e : restOf F H (fun a => ∃ i u, bi = some (i, u) ∧ fp i a) a = H a := restOf_in h1 fun ⟨i, u, z, w⟩ => h2 i u z w
    cases q : H a with
    | none => exact (h3 q).elim
    | some o =>
      rw [q] at e
      refine ⟨k'.gf a o e, k'.g a o e, fun j z => ?_⟩
      have := (k'.out j a z).1
      rw [e] at this
      cases this
  have slot : ∀ j a, (∀ u, bi ≠ some (j, u)) → fp j a → F' a = none ∧ H' a = H a ∧ ∀ j', ¬ fq j' a := fun j a hj ha => by
    refine rest a (k.out j a ha).2 (fun i u z w => ?_) (k.live j a ha)
    have := k.dj i j a w ha
    subst this
    exact hj u z
  have gg : ∀ a o, G a = some o → F' a = none ∧ H' a = some o ∧ ∀ j', ¬ fq j' a := fun a o ha => by
    have h := rest a (k.gf a o ha) (fun i u z w => by
      have := (k.out i a w).1
      rw [ha] at this
      cases this) (by rw [k.g a o ha]; exact fun z => nomatch z)
    exact ⟨h.1, h.2.1.trans (k.g a o ha), h.2.2⟩
  refine ⟨fun a o h => (gg a o h).2.1, k'.f, fun a o h => (gg a o h).1, B.okF k.bx s, by simp [k.len], fun j t hj => ?_, fun j j' a h1 h2 => ?_, fun j a h1 => ?_, fun j a h1 => ?_⟩
  · by_cases e : j = ρ.length
    · subst e
      simp only [if_true]
      rw [getA_eq] at hj
      cases hj
      have o := k'.own θ.length _ getA_eq
      rw [← hl, getLast_append] at o
      rw [← k.len, getLast_append, ← hl]
      exact o.slots st
    · simp only [if_neg e]
      have hlt : j < ρ.length := by
        have := (List.getElem?_eq_some_iff.mp hj).1
        simp at this
        omega
      rw [getA_lt hlt] at hj
      rw [getA_lt (by rw [k.len]; exact hlt)]
      by_cases hbj : ∃ u, bi = some (j, u)
      · rw [if_pos hbj]
        obtain ⟨u, hu⟩ := hbj
        have e2 := hb j u hu
        rw [hj] at e2
        cases e2
        have o := k.own j _ hj
        obtain ⟨z1, z2⟩ := hθ j u hu
        have o' := k'.own 0 _ z1
        exact ⟨o.1, o'.2⟩
      · rw [if_neg hbj]
        have hne : ∀ u, bi ≠ some (j, u) := fun u z => hbj ⟨u, z⟩
        exact ((k.own j t hj).frame (fun a ha => (slot j a hne ha).2.1) s).more
  · by_cases e : j = ρ.length <;> by_cases e' : j' = ρ.length <;> simp only [e, e', if_true, if_false] at h1 h2
    · omega
    · split at h2
      · rename_i hbj
        obtain ⟨u, hu⟩ := hbj
        have := k'.dj _ _ a h1 h2
        have := (hθ _ u hu).2
        omega
      · rename_i hbj
        exact ((slot j' a (fun u z => hbj ⟨u, z⟩) h2).2.2 _ h1).elim
    · split at h1
      · rename_i hbj
        obtain ⟨u, hu⟩ := hbj
        have := k'.dj _ _ a h1 h2
        have := (hθ _ u hu).2
        omega
      · rename_i hbj
        exact ((slot j a (fun u z => hbj ⟨u, z⟩) h1).2.2 _ h2).elim
    · split at h1
      · rename_i hbj
        split at h2
        · rename_i hbj'
          obtain ⟨u, hu⟩ := hbj
          obtain ⟨u', hu'⟩ := hbj'
          rw [hu] at hu'
          cases hu'
          rfl
        · rename_i hbj'
          exact ((slot j' a (fun u z => hbj' ⟨u, z⟩) h2).2.2 _ h1).elim
      · rename_i hbj
        split at h2
        · exact ((slot j a (fun u z => hbj ⟨u, z⟩) h1).2.2 _ h2).elim
        · exact k.dj _ _ a h1 h2
  · have out' : ∀ x, fq x a → G a = none := fun x z => by
      cases q : G a with
      | none => rfl
      | some o => exact ((gg a o q).2.2 _ z).elim
    by_cases e : j = ρ.length <;> simp only [e, if_true, if_false] at h1
    · exact ⟨out' _ h1, (k'.out _ a h1).2⟩
    · split at h1
      · exact ⟨out' _ h1, (k'.out _ a h1).2⟩
      · rename_i hbj
        exact ⟨(k.out j a h1).1, (slot j a (fun u z => hbj ⟨u, z⟩) h1).1⟩
  · by_cases e : j = ρ.length <;> simp only [e, if_true, if_false] at h1
    · simp [e]
    · split at h1
      · rename_i hbj
        obtain ⟨u, hu⟩ := hbj
        have := (List.getElem?_eq_some_iff.mp (hb j u hu)).1
        simp
        omega
      · have := k.up j a h1
        simp
        omega
def qCallF (φ : List T → (T → Prop) → Prop) (ta : QA) (ρ : Env) (Q : T → Env → Prop) : Prop := ta ρ fun ws ρ1 => match wsT ws with
  | some ts => φ ts fun r => Q r ρ1
  | none => False
/-- the first argument is the box of slot i -/
def qCallB (i : Nat) (φ : List T → (T → Prop) → Prop) (ta : QA) (ρ : Env) (Q : T → Env → Prop) : Prop := match ρ[i]? with
  | some (.bx u) => ta ρ fun ws ρ1 => ρ1[i]? = some (.bx u) ∧ match wsT ws with
    | some ts => φ (.bx u :: ts) fun r => Q r ρ1
    | none => False
  | _ => False
theorem wsT_len : ∀ {ws : List W} {ts : List T}, wsT ws = some ts → ts.length = ws.length
  | [], ts, e => by
    obtain rfl : [] = ts := Option.some.inj e
    rfl
  | .d x :: ws, ts, e => by
    cases q : wsT ws with
    | none => simp [wsT, q] at e
    | some es =>
      simp [wsT, q] at e
      subst e
      simp [wsT_len q]
  | .raw x :: ws, ts, e => by
    cases q : wsT ws with
    | none => simp [wsT, q] at e
    | some es =>
      simp [wsT, q] at e
      subst e
      simp [wsT_len q]
  | .al _ :: ws, ts, e => nomatch e
  | .no :: ws, ts, e => nomatch e
theorem still_al {r : T} (h : r.still) : ∀ i, r = .al i → i < n := fun i e => by subst e; exact h.elim
theorem lift_callF {n : Nat} {φ : List T → (T → Prop) → Prop} {ta : QA} {E : XK} {σ : St} {H : Hp} {Q : VK} (hn : ∀ ts P, φ ts P → ts.length = n) (h : lift K B (qCallF φ ta) σ H Q) : tCall (spP K B.bare n φ) [] E (liftA K B ta) σ H Q := by
  obtain ⟨G, F, ρ, P, k, h, q⟩ := h
  refine liftA_use k h fun ws ρ1 vs H1 F1 h1 k1 w1 e1 => ?_
  split at h1
  · rename_i ts g
    rw [List.append_nil]
    obtain ⟨hl, ha, ho⟩ := wsT_own (B := B) w1 g
    obtain ⟨fp, kw⟩ := k1.2
    refine ⟨restOf F1 H1 fun a => ∃ i u, (none : Option (Nat × Addr)) = some (i, u) ∧ fp i a, F1, ts, _, hn _ _ h1, ha, ⟨fun _ _ => False, fun a o z => (of_restOf z).2.2, k1.2.f, fun a o z => (of_restOf z).1, True.intro, by simp [hl], fun i t hi => ho _ _ i t hi, fun _ _ _ z => z.elim, fun _ _ z => z.elim, fun _ _ z => z.elim⟩, h1, fun r v H' F' p sr ⟨fq, k'⟩ s => ?_⟩
    exact q r ρ1 v H' F' p ⟨k1.1, ⟨_, kw.back (bi := none) (fun _ _ z => nomatch z) k' (fun _ _ z => nomatch z) sr s⟩, fun i e => by subst e; exact sr.elim⟩ (e1.trans s)
  · exact h1.elim
end
end PL

set_option Elab.async false
set_option linter.all false
set_option maxRecDepth 100000
/-! PL, part 6: calls, methods of one's own lists, several targets, built-ins. -/
namespace PL
open PySem PySem.Spec L2
variable [Consts]
section
variable {K : PySem.W.Frag} {B : Box}
theorem lift_callB {n i : Nat} {φ : List T → (T → Prop) → Prop} {ta : QA} {E : XK} {σ : St} {H : Hp} {Q : VK} (hn : ∀ ts P, φ ts P → ts.length = n) (h : lift K B (qCallB i φ ta) σ H Q) : tCall (spP K B.bare n φ) [] E (tCons (tVar i) (liftA K B ta)) σ H Q := by
  obtain ⟨G, F, ρ, P, k, h, q⟩ := h
  unfold qCallB at h
  split at h
  · rename_i u hu
    refine ⟨.ref u, k.2.varBx hu, liftA_use k h fun ws ρ1 vs H1 F1 ⟨hu1, h1⟩ k1 w1 e1 => ?_⟩
    split at h1
    · rename_i ts g
      rw [List.append_nil]
      obtain ⟨hl, ha, ho⟩ := wsT_own (B := B) w1 g
      obtain ⟨fp, kw⟩ := k1.2
      have hbo := kw.own i _ hu1
      have hlive := kw.live i
      have hout := kw.out i
      refine ⟨restOf F1 H1 fun a => ∃ i' u', (some (i, u) : Option (Nat × Addr)) = some (i', u') ∧ fp i' a, F1, .bx u :: ts, _, hn _ _ h1, fun t ht => ?_, ⟨fun j => if j = 0 then fp i else fun _ => False, fun a o z => (of_restOf z).2.2, k1.2.f, fun a o z => (of_restOf z).1, True.intro, by simp [hl], fun j t hj => ?_, fun j j' a h1 h2 => ?_, fun j a h1 => ?_, fun j a h1 => ?_⟩, h1, fun r v H' F' p sr ⟨fq, k'⟩ s => ?_⟩
      · rcases List.mem_cons.mp ht with rfl | z
        · trivial
        · exact ha t z
      · cases j with
        | zero =>
          simp only [if_true]
          simp at hj
          subst hj
          exact ⟨rfl, hbo.2⟩
        | succ j =>
          simp only [if_neg (Nat.succ_ne_zero j)]
          exact ho _ _ j t (by simpa using hj)
      · by_cases e : j = 0 <;> by_cases e' : j' = 0 <;> simp only [e, e', if_true, if_false] at h1 h2
        omega
      · by_cases e : j = 0 <;> simp only [e, if_true, if_false] at h1
        refine ⟨?_, (hout a h1).2⟩
        cases z : restOf F1 H1 (fun a => ∃ i' u', (some (i, u) : Option (Nat × Addr)) = some (i', u') ∧ fp i' a) a with
        | none => rfl
        | some o => exact ((of_restOf z).2.1 ⟨i, u, rfl, h1⟩).elim
      · by_cases e : j = 0 <;> simp only [e, if_true, if_false] at h1
        subst e
        simp
      · refine q r ρ1 v H' F' p ⟨k1.1, ⟨_, kw.back (bi := some (i, u)) (fun i' u' z => ?_) k' (fun i' u' z => ?_) sr s⟩, fun i e => by subst e; exact sr.elim⟩ (e1.trans s)
        · cases z
          exact hu1
        · cases z
          exact ⟨rfl, Nat.zero_lt_succ _⟩
    · exact h1.elim
  · exact h.elim
end
section
variable {X : Cx} {B : Box} {pos : Pos} {x : Str} {p : Pos} {e : Expr} {es : List Expr} {ta : QA} {CX : CXT} {kk : Nat} {f : Addr} {fd : FuncData} {ps : List Str} {n : Nat} {φ : List T → (T → Prop) → Prop} {E : XK}
/-- f(..), data and raw values handed in -/
theorem q_callF (F : FnA X.prog X.w X.K X.mg X.base CX X.A f fd ps (spP X.K B.bare n φ)) (hn : ∀ ts P, φ ts P → ts.length = n) (hg : Gl X x) (hm : X.mg x = some (.ref f)) (hk : PySem.W.keepIn X.K (.ref f) = true) (hb : Binds X.K fd ps []) (hx : Passes CX X E) (ha : PA X (e :: es) (liftA X.K B ta))
    (hd : (x == ("__debug__" : Str)) = false := by decide) (he : starEach (e :: es) X.env = (false, eval e X.env) :: starEach es X.env := by rfl) (hpl : (backTo pos (starEach es X.env)).any (·.1) = false := by rfl) :
    PE X (.Call (.Name x p) (e :: es) [] pos) (lift X.K B (qCallF φ ta)) := weakE (pe_callA F hg hm hk hb hx ha hd he hpl) fun _ _ _ => lift_callF hn
theorem q_callU {i : Nat} {y : Str} {py : Pos} (F : FnA X.prog X.w X.K X.mg X.base CX X.A f fd ps (spP X.K B.bare n φ)) (hn : ∀ ts P, φ ts P → ts.length = n) (hg : Gl X x) (hm : X.mg x = some (.ref f)) (hk : PySem.W.keepIn X.K (.ref f) = true) (hb : Binds X.K fd ps []) (hx : Passes CX X E)
    (hv : PE X (.Name y py) (tVar i)) (ha : PA X es (liftA X.K B ta))
    (hd : (x == ("__debug__" : Str)) = false := by decide) (hs : starEach (.Name y py :: es) X.env = (false, eval (.Name y py) X.env) :: starEach es X.env := by rfl) (hpl : (backTo pos (starEach es X.env)).any (·.1) = false := by rfl) :
    PE X (.Call (.Name x p) (.Name y py :: es) [] pos) (lift X.K B (qCallB i φ ta)) := weakE (pe_callA F hg hm hk hb hx (pa_cons hv ha hs) hd hs hpl) fun _ _ _ => lift_callB hn
end

/-! ### methods of a list of one's own, that a name holds -/
section
variable {X : Cx} {B : Box} {x : Str} {xp apos cpos : Pos} {e : Expr} {te : QE}
def qApp (i : Nat) (te : QE) (ρ : Env) (Q : T → Env → Prop) : Prop := match ρ[i]? with
  | some (.l _) => te ρ fun r ρ1 => match r.w, ρ1[i]? with
    | .d d, some (.l ds) => ds.length < sizeLine ∧ Q (.d .none) (ρ1.set i (.l (ds ++ [d])))
    | _, _ => False
  | _ => False
theorem st_set {K : PySem.W.Frag} {G F H : Hp} {σ : St} {ρ : Env} {i : Nat} {a : Addr} {xs : List V} {ds es : List D} (k : St0 K B G F H σ ρ) (h : ρ[i]? = some (.l ds)) (ha : σ[i]? = some (some (.ref a))) (r : RpAll K F xs es) : St0 K B G F (upd H a (.lst xs)) σ (ρ.set i (.l es)) :=
  ⟨mem_set_still k.1 trivial, k.2.setL h ha r⟩
theorem lift_app {K : PySem.W.Frag} {i : Nat} {σ : St} {H : Hp} {Q : VK} (h : lift K B (qApp i te) σ H Q) : tBM K "list" rAppend (tVar i) (tCons (lift K B te) tNil) σ H Q := by
  obtain ⟨G, F, ρ, P, k, h, q⟩ := h
  unfold qApp at h
  split at h
  · rename_i ds0 hi
    obtain ⟨a, xs, ha, hH, r⟩ := k.2.varL hi
    refine ⟨.ref a, ha, .inl ⟨rfl, _, .inl (.inl hH)⟩, lift_use k h fun r ρ1 v H1 F1 h1 k1 w1 e1 => ?_⟩
    split at h1
    · rename_i d ds hw hi1
      obtain ⟨a', ys, ha', hH', r'⟩ := k1.2.varL hi1
      rw [ha] at ha'
      cases ha'
      rw [hw] at w1
      refine ⟨a, ys, v, rfl, rfl, hH', by rw [r'.length]; exact h1.1, ?_⟩
      exact q _ _ _ _ _ h1.2 ((st_set k1 hi1 ha (r'.append (.one w1))).d .non) e1
    · exact h1.elim
  · exact h.elim
theorem q_app (i : Nat) (he : PE X e (lift X.K B te)) (hN : X.N[i]? = some x := by rfl) (hv : Vis X.env.scope x := by first | exact Or.inl rfl | exact Or.inr (Or.inl rfl) | exact Or.inr (Or.inr rfl)) (hd : (x == ("__debug__" : Str)) = false := by decide)
    (hcd : (x == ("__classdict__" : Str)) = false := by decide) (hbase : attributeBase (.Name x xp) "append" X.env (eval (.Name x xp) X.env) = eval (.Name x xp) X.env := by rfl)
    (hfew : ((backTo cpos (starEach [e] X.env)).all (fun x => !x.1) && (backToKw cpos (keywordEach [] X.env)).all (fun x => x.1.isSome) && decide ([e].length + ([] : List Keyword).length + (if ([] : List Keyword).isEmpty then 0 else 1) < 30)) = true := by rfl)
    (hline : (apos.endLine == cpos.line) = true := by rfl) (hs : starEach [e] X.env = (false, eval e X.env) :: starEach [] X.env := by rfl) (hplain : (backTo cpos (starEach [] X.env)).any (·.1) = false := by rfl) :
    PE X (.Call (.Attribute (.Name x xp) "append" apos) [e] [] cpos) (lift X.K B (qApp i te)) :=
  weakE (pe_bm PySem.F.plainAttrs_list PySem.F.slot_list_append PySem.F.type_list_append mt_append (pe_var hN hv hd hcd) (pa_cons he pa_nil hs) hbase hfew hline hs hplain) fun _ _ _ => lift_app
end

/-! ### several targets -/
section
variable {K : PySem.W.Frag} {B : Box} {G F H : Hp} {σ : St} {ρ : Env}
/-- a new object that is another's for a while -/
theorem St0.lendO {p : Addr} (k : St0 K B G F H σ ρ) (h : H p = none) (o : HO) : St0 K B (upd G p o) F (upd H p o) σ ρ := by
  refine ⟨k.1, ?_⟩
  obtain ⟨fp, w⟩ := k.2
  have hf := w.free h
  have w' := w.grow (Same.refl F) (fun b u e => same_upd h (o := o) b u (w.f b u e)) (same_upd h) (fun b u e => .inl e)
  refine ⟨fp, fun b u e => ?_, w'.f, fun b u e => ?_, B.okG w'.bx hf.2, w'.len, w'.own, w'.dj, fun i b hb => ⟨?_, (w'.out i b hb).2⟩, w'.up⟩
  · by_cases hb : b = p
    · subst hb; rw [upd_same] at e ⊢; exact e
    · rw [upd_ne hb] at e; exact w'.g b u e
  · by_cases hb : b = p
    · subst hb; exact hf.1
    · rw [upd_ne hb] at e; exact w'.gf b u e
  · have hne : b ≠ p := fun z => by subst z; exact w.live i b hb h
    rw [upd_ne hne]
    exact (w'.out i b hb).1
theorem Ok.backO {a : Addr} {o o' : HO} {t : T} (k : Ok K B (upd G a o) F H σ ρ) (hg : G a = none) (hk : B.ok G F) (r : Own K B (upd H a o') F σ t (some (.ref a)) fun b => b = a) : Ok K B G F (upd H a o') (σ ++ [some (.ref a)]) (ρ ++ [t]) := by
  obtain ⟨fp, k⟩ := k
  have hF : F a = none := k.gf a _ upd_same
  have na : ∀ i b, fp i b → b ≠ a := fun i b hb z => by
    subst z
    have := (k.out i b hb).1
    rw [upd_same] at this
    cases this
  have k' : OkW K B G F (upd H a o') σ ρ fp := by
    refine ⟨fun b o e => ?_, fun b o e => ?_, fun b o e => ?_, hk, k.len, fun i t hi => (k.own i t hi).frame (fun b hb => upd_ne (na i b hb)) (Same.refl F), k.dj, fun i b hb => ?_, k.up⟩
    · have hb : b ≠ a := fun z => by subst z; rw [hg] at e; cases e
      rw [upd_ne hb]
      exact k.g b o (by rw [upd_ne hb]; exact e)
    · have hb : b ≠ a := fun z => by subst z; rw [hF] at e; cases e
      rw [upd_ne hb]
      exact k.f b o e
    · have hb : b ≠ a := fun z => by subst z; rw [hg] at e; cases e
      exact k.gf b o (by rw [upd_ne hb]; exact e)
    · have := k.out i b hb
      rw [upd_ne (na i b hb)] at this
      exact this
  refine ⟨_, k'.push (fq := fun b => b = a) r (fun b e => ?_) fun i b hb e => na i b hb e⟩
  have e : b = a := e
  subst e
  exact ⟨hg, hF⟩
/-- a value in flight, its object one's own, is another's for a while -/
theorem Ok.parkG {v : V} {t : T} {C : Addr → HO → Prop} (k : Ok K B G F H (σ ++ [some v]) (ρ ++ [t])) (st : ∀ t ∈ ρ, t.still) (ho : ∀ fp, Own K B H F (σ ++ [some v]) t (some v) fp → ∃ a o, v = .ref a ∧ H a = some o ∧ C a o ∧ ∀ b, fp b ↔ b = a) :
    ∃ a o, v = .ref a ∧ H a = some o ∧ C a o ∧ G a = none ∧ Ok K B (upd G a o) F H σ ρ := by
  have hl : σ.length = ρ.length := by have := k.len; simpa using this
  obtain ⟨fp, k⟩ := k
  have own := k.own ρ.length _ getA_eq
  rw [← hl, getLast_append] at own
  obtain ⟨a, o, rfl, e2, hC, hf⟩ := ho _ own
  have hf : ∀ b, fp ρ.length b ↔ b = a := by rw [← hl]; exact hf
  have po := k.out ρ.length a ((hf a).mpr rfl)
  have k1 := k.pop st
  refine ⟨a, o, rfl, e2, hC, po.1, _, fun b u e => ?_, k.f, fun b u e => ?_, B.okG k1.bx po.1, hl, k1.own, k1.dj, fun i b hb => ?_, k1.up⟩
  · by_cases hb : b = a
    · subst hb; rw [upd_same] at e; cases e; exact e2
    · rw [upd_ne hb] at e; exact k.g b u e
  · by_cases hb : b = a
    · subst hb; exact po.2
    · rw [upd_ne hb] at e; exact k.gf b u e
  · have hne : b ≠ a := fun z => by
      subst z
      by_cases hi : i < ρ.length
      · simp only [if_pos hi] at hb
        have := k.dj i ρ.length b hb ((hf b).mpr rfl)
        omega
      · simp only [if_neg hi] at hb
    rw [upd_ne hne]
    exact k1.out i b hb
end
/-- values in flight, lists of one's own parked -/
def FlB (K : PySem.W.Frag) (B : Box) (F H : Hp) (σ : St) (ρ : Env) : List V → List T → Hp → Prop
  | [], [], G => St0 K B G F H σ ρ
  | v :: vs, .d x :: rs, G => Rp K F v x ∧ FlB K B F H σ ρ vs rs G
  | v :: vs, .raw u :: rs, G => v = u ∧ FlB K B F H σ ρ vs rs G
  | v :: vs, .l ds :: rs, G => ∃ a xs, v = .ref a ∧ (G a = none ∧ B.ok G F) ∧ RpAll K F xs ds ∧ FlB K B F H σ ρ vs rs (upd G a (.lst xs))
  | v :: vs, .k kds :: rs, G => ∃ a kvs, v = .ref a ∧ (G a = none ∧ B.ok G F) ∧ RpKv K F kvs kds ∧ FlB K B F H σ ρ vs rs (upd G a (.dK kvs))
  | v :: vs, .kt kds :: rs, G => ∃ a kvs, v = .ref a ∧ (G a = none ∧ B.ok G F) ∧ RpKt K F kvs kds ∧ FlB K B F H σ ρ vs rs (upd G a (.dT kvs))
  | _, _, _ => False
abbrev QB := Env → (List T → Env → Prop) → Prop
def liftB (K : PySem.W.Frag) (B : Box) (t : QB) : TA := fun σ H Q => ∃ G F ρ P, St0 K B G F H σ ρ ∧ t ρ P ∧ ∀ rs ρ' vs H' F', P rs ρ' → FlB K B F' H' σ ρ' vs rs G → Same F F' → Q vs H'
def bNil (ρ : Env) (Q : List T → Env → Prop) : Prop := Q [] ρ
def bCons (te : QE) (t : QB) (ρ : Env) (Q : List T → Env → Prop) : Prop := te ρ fun r ρ1 => match r with
  | .d x => t ρ1 fun rs ρ2 => Q (.d x :: rs) ρ2
  | .raw x => t ρ1 fun rs ρ2 => Q (.raw x :: rs) ρ2
  | .l ds => t ρ1 fun rs ρ2 => Q (.l ds :: rs) ρ2
  | .k ds => t ρ1 fun rs ρ2 => Q (.k ds :: rs) ρ2
  | .kt ds => t ρ1 fun rs ρ2 => Q (.kt ds :: rs) ρ2
  | _ => False
def setAll {α : Type} : List α → List Nat → List α → List α
  | l, [], _ => l
  | l, _ :: _, [] => l
  | l, i :: is, x :: xs => setAll (l.set i x) is xs
section
variable {K : PySem.W.Frag} {B : Box} {G F H : Hp} {σ : St} {ρ : Env}
theorem setAll_len {α : Type} : ∀ {l : List α} {is : List Nat} {xs : List α}, (setAll l is xs).length = l.length
  | l, i :: is, x :: xs => by unfold setAll; rw [setAll_len, List.length_set]
  | l, [], _ => by simp [setAll]
  | l, _ :: _, [] => rfl
theorem setAll_set {α : Type} {i : Nat} {x : α} : ∀ {l : List α} {is : List Nat} {xs : List α}, i ∉ is → (setAll l is xs).set i x = setAll (l.set i x) is xs
  | l, j :: is, y :: ys, h => by
    unfold setAll
    rw [setAll_set fun z => h (List.mem_cons_of_mem _ z), List.set_comm _ _ (fun e => h (by rw [← e]; exact List.mem_cons_self))]
  | l, [], _, _ => by simp [setAll]
  | l, _ :: _, [], _ => rfl
theorem FlB.store : ∀ {vs : List V} {rs : List T} {is : List Nat} {G : Hp}, FlB K B F H σ ρ vs rs G → is.Nodup → is.length = rs.length → (∀ i ∈ is, i < ρ.length) → St0 K B G F H (setAll σ is (vs.map some)) (setAll ρ is rs)
  | [], [], [], G, k, _, _, _ => k
  | v :: vs, .d x :: rs, i :: is, G, k, nd, hl, hi => by
    obtain ⟨r, k⟩ := k
    have hn := List.nodup_cons.mp nd
    have ih := FlB.store k hn.2 (by simpa using hl) fun j hj => hi j (List.mem_cons_of_mem _ hj)
    have := (ih.d r).set (i := i) (by rw [setAll_len]; exact hi i List.mem_cons_self) trivial
    rw [setAll_set hn.1, setAll_set hn.1] at this
    exact this
  | v :: vs, .raw x :: rs, i :: is, G, k, nd, hl, hi => by
    obtain ⟨r, k⟩ := k
    subst r
    have hn := List.nodup_cons.mp nd
    have ih := FlB.store k hn.2 (by simpa using hl) fun j hj => hi j (List.mem_cons_of_mem _ hj)
    have := (ih.raw (v := v)).set (i := i) (by rw [setAll_len]; exact hi i List.mem_cons_self) trivial
    rw [setAll_set hn.1, setAll_set hn.1] at this
    exact this
  | v :: vs, .l ds :: rs, i :: is, G, k, nd, hl, hi => by
    obtain ⟨a, xs, rfl, hG, r, k⟩ := k
    have hn := List.nodup_cons.mp nd
    have ih := FlB.store k hn.2 (by simpa using hl) fun j hj => hi j (List.mem_cons_of_mem _ hj)
    have hH : H a = some (.lst xs) := ih.2.g a _ upd_same
    have k3 := ih.2.unpark hG.1 hG.2 r
    rw [upd_id hH] at k3
    have fl : Fl K B G F H _ _ (.ref a) (.l ds) := ⟨ih.1, k3, fun j z => nomatch z⟩
    have := fl.set (i := i) (by rw [setAll_len]; exact hi i List.mem_cons_self) trivial
    rw [setAll_set hn.1, setAll_set hn.1] at this
    exact this
  | v :: vs, .k ds :: rs, i :: is, G, k, nd, hl, hi => by
    obtain ⟨a, xs, rfl, hG, r, k⟩ := k
    have hn := List.nodup_cons.mp nd
    have ih := FlB.store k hn.2 (by simpa using hl) fun j hj => hi j (List.mem_cons_of_mem _ hj)
    have hH : H a = some (.dK xs) := ih.2.g a _ upd_same
    have k3 := ih.2.backO (o' := .dK xs) (t := .k ds) hG.1 hG.2 ⟨a, xs, rfl, upd_same, r, fun b => Iff.rfl⟩
    rw [upd_id hH] at k3
    have fl : Fl K B G F H _ _ (.ref a) (.k ds) := ⟨ih.1, k3, fun j z => nomatch z⟩
    have := fl.set (i := i) (by rw [setAll_len]; exact hi i List.mem_cons_self) trivial
    rw [setAll_set hn.1, setAll_set hn.1] at this
    exact this
  | v :: vs, .kt ds :: rs, i :: is, G, k, nd, hl, hi => by
    obtain ⟨a, xs, rfl, hG, r, k⟩ := k
    have hn := List.nodup_cons.mp nd
    have ih := FlB.store k hn.2 (by simpa using hl) fun j hj => hi j (List.mem_cons_of_mem _ hj)
    have hH : H a = some (.dT xs) := ih.2.g a _ upd_same
    have k3 := ih.2.backO (o' := .dT xs) (t := .kt ds) hG.1 hG.2 ⟨a, xs, rfl, upd_same, r, fun b => Iff.rfl⟩
    rw [upd_id hH] at k3
    have fl : Fl K B G F H _ _ (.ref a) (.kt ds) := ⟨ih.1, k3, fun j z => nomatch z⟩
    have := fl.set (i := i) (by rw [setAll_len]; exact hi i List.mem_cons_self) trivial
    rw [setAll_set hn.1, setAll_set hn.1] at this
    exact this
theorem FlB.len : ∀ {vs : List V} {rs : List T} {G : Hp}, FlB K B F H σ ρ vs rs G → vs.length = rs.length
  | [], [], G, k => rfl
  | v :: vs, .d x :: rs, G, k => congrArg (· + 1) (FlB.len k.2)
  | v :: vs, .raw x :: rs, G, k => congrArg (· + 1) (FlB.len k.2)
  | v :: vs, .l ds :: rs, G, ⟨a, xs, _, _, _, k⟩ => congrArg (· + 1) (FlB.len k)
  | v :: vs, .k ds :: rs, G, ⟨a, xs, _, _, _, k⟩ => congrArg (· + 1) (FlB.len k)
  | v :: vs, .kt ds :: rs, G, ⟨a, xs, _, _, _, k⟩ => congrArg (· + 1) (FlB.len k)
/-- a new object that nobody looks at -/
theorem St0.dust {p : Addr} {o : HO} (k : St0 K B G F H σ ρ) (h : H p = none) : St0 K B G F (upd H p o) σ ρ := by
  refine ⟨k.1, ?_⟩
  obtain ⟨fp, w⟩ := k.2
  exact ⟨fp, w.grow (Same.refl F) (fun b u e => same_upd h b u (w.f b u e)) (same_upd h) (fun b u e => .inl e)⟩
theorem FlB.dust {p : Addr} {o : HO} (h : H p = none) : ∀ {vs : List V} {rs : List T} {G : Hp}, FlB K B F H σ ρ vs rs G → FlB K B F (upd H p o) σ ρ vs rs G
  | [], [], G, k => St0.dust k h
  | v :: vs, .d x :: rs, G, k => ⟨k.1, FlB.dust h k.2⟩
  | v :: vs, .raw x :: rs, G, k => ⟨k.1, FlB.dust h k.2⟩
  | v :: vs, .l ds :: rs, G, ⟨a, xs, e1, e2, r, k⟩ => ⟨a, xs, e1, e2, r, FlB.dust h k⟩
  | v :: vs, .k ds :: rs, G, ⟨a, xs, e1, e2, r, k⟩ => ⟨a, xs, e1, e2, r, FlB.dust h k⟩
  | v :: vs, .kt ds :: rs, G, ⟨a, xs, e1, e2, r, k⟩ => ⟨a, xs, e1, e2, r, FlB.dust h k⟩
end
section
variable {X : Cx} {B : Box} {e : Expr} {es : List Expr} {te : QE} {t : QB} {pos : Pos}
theorem b_nil : PA X [] (liftB X.K B bNil) := weakA pa_nil fun σ H Q ⟨G, F, ρ, P, k, h, q⟩ => q [] ρ [] H F h k (Same.refl F)
theorem b_cons (ha : PE X e (lift X.K B te)) (hr : PA X es (liftB X.K B t)) (hs : starEach (e :: es) X.env = (false, eval e X.env) :: starEach es X.env := by rfl) : PA X (e :: es) (liftB X.K B (bCons te t)) :=
  weakA (pa_cons ha hr hs) fun σ H Q ⟨G, F, ρ, P, k, h, q⟩ => ⟨G, F, ρ, _, k, h, fun r ρ1 v H1 F1 h1 fl e1 => by
    split at h1
    · have rp := fl_d fl
      exact ⟨G, F1, ρ1, _, fl.pop, h1, fun rs ρ2 vs H2 F2 h2 k2 e2 => q _ ρ2 (v :: vs) H2 F2 h2 ⟨rp.mono e2, k2⟩ (e1.trans e2)⟩
    · rename_i u
      have hl : σ.length = ρ1.length := by have := fl.ok.len; simpa using this
      have rp := fl.ok.varRaw (i := ρ1.length) (v := u) getA_eq
      rw [getLastA hl.symm] at rp
      cases rp
      exact ⟨G, F1, ρ1, _, fl.pop, h1, fun rs ρ2 vs H2 F2 h2 k2 e2 => q _ ρ2 (_ :: vs) H2 F2 h2 ⟨rfl, k2⟩ (e1.trans e2)⟩
    · rename_i ds
      have hl : σ.length = ρ1.length := by have := fl.ok.len; simpa using this
      obtain ⟨a, xs, ea, _, _⟩ := fl.ok.varL (i := ρ1.length) (ds := ds) getA_eq
      rw [getLastA hl.symm] at ea
      cases ea
      obtain ⟨xs, hH, rp, hG, k1⟩ := fl.ok.park fl.still
      exact ⟨_, F1, ρ1, _, ⟨fl.still, k1⟩, h1, fun rs ρ2 vs H2 F2 h2 k2 e2 => q _ ρ2 (.ref a :: vs) H2 F2 h2 ⟨a, xs, rfl, ⟨hG, B.okF fl.ok.bx e2⟩, rp.mono e2, k2⟩ (e1.trans e2)⟩
    · rename_i ds
      obtain ⟨a, o, rfl, hH, ⟨kvs, rfl, rp⟩, hG, k1⟩ := fl.ok.parkG (C := fun _ o => ∃ kvs, o = .dK kvs ∧ RpKv X.K F1 kvs ds) fl.still fun fp ow => by
        obtain ⟨a, kvs, e1, e2, r, q⟩ := ow
        cases e1
        exact ⟨a, _, rfl, e2, ⟨kvs, rfl, r⟩, q⟩
      exact ⟨_, F1, ρ1, _, ⟨fl.still, k1⟩, h1, fun rs ρ2 vs H2 F2 h2 k2 e2 => q _ ρ2 (.ref a :: vs) H2 F2 h2 ⟨a, kvs, rfl, ⟨hG, B.okF fl.ok.bx e2⟩, rp.mono e2, k2⟩ (e1.trans e2)⟩
    · rename_i ds
      obtain ⟨a, o, rfl, hH, ⟨kvs, rfl, rp⟩, hG, k1⟩ := fl.ok.parkG (C := fun _ o => ∃ kvs, o = .dT kvs ∧ RpKt X.K F1 kvs ds) fl.still fun fp ow => by
        obtain ⟨a, kvs, e1, e2, r, q⟩ := ow
        cases e1
        exact ⟨a, _, rfl, e2, ⟨kvs, rfl, r⟩, q⟩
      exact ⟨_, F1, ρ1, _, ⟨fl.still, k1⟩, h1, fun rs ρ2 vs H2 F2 h2 k2 e2 => q _ ρ2 (.ref a :: vs) H2 F2 h2 ⟨a, kvs, rfl, ⟨hG, B.okF fl.ok.bx e2⟩, rp.mono e2, k2⟩ (e1.trans e2)⟩
    · exact h1.elim⟩
/-- names = values, side by side -/
def sPar (is : List Nat) (t : QB) (DP : PEnds) (ρ : Env) : Prop := t ρ fun rs ρ1 => rs.length = is.length ∧ (∀ i ∈ is, i < ρ1.length) ∧ DP.nx (setAll ρ1 is rs)
/-- a target list of plain names, in the order of the slots -/
def gNs : List Nat → TGs
  | [] => gNil
  | i :: is => gCons (gName i) (gNs is)
structure PNs (X : Cx) (ts : List Expr) (is : List Nat) : Prop where
  pg : PGs X ts (gNs is)
  nd : is.Nodup
theorem ns_nil : PNs X [] [] := ⟨pgs_nil, List.nodup_nil⟩
theorem ns_cons {i : Nat} {is : List Nat} {x : Str} {px : Pos} (hN : X.N.Nodup) (h2 : PNs X es is) (hn : i ∉ is := by decide) (hi : X.N[i]? = some x := by rfl) (hx : Loc X.env.scope x := by first | exact Or.inl rfl | exact Or.inr rfl) (hf : X.fn x = true ∨ X.env.scope.names.lookup x = some .local := by first | exact .inl rfl | exact .inr rfl)
    (hs : (assignEach (.Name x px :: es) X.env).map (·.2) = assign (.Name x px) X.env :: (assignEach es X.env).map (·.2) := by rfl) : PNs X (.Name x px :: es) (i :: is) := ⟨pgs_cons (pg_name hN hi hx hf) h2.pg hs, List.nodup_cons.mpr ⟨hn, h2.nd⟩⟩
theorem gNs_run : ∀ {is : List Nat} {vs : List V} {σ : St} {H : Hp} {Q : St → Hp → Prop}, vs.length = is.length → Q (setAll σ is (vs.map some)) H → gNs is vs σ H Q
  | [], [], σ, H, Q, _, q => ⟨rfl, q⟩
  | i :: is, v :: vs, σ, H, Q, hl, q => ⟨v, vs, rfl, gNs_run (is := is) (by simpa using hl) q⟩
theorem s_parT {ts : List Expr} {is : List Nat} {k1 k2 : Nat} {p1 p2 : Pos} (hc : X.calm = true) (hts : PNs X ts is) (ha : PA X es (liftB X.K B t)) (hn : (assignEach ts X.env).length = is.length := by rfl) (hst : (assignEach ts X.env).findIdx? (·.1) = none := by rfl)
    (hs : swapsWithSole [.Tuple ts k1 p1] (.Tuple es k2 p2) pos.line X.env = pure false := by rfl) (hw : swappedStores [.Tuple ts k1 p1] (.Tuple es k2 p2) X.env = pure none := by rfl) (h1 : (assignEach [.Tuple ts k1 p1] X.env).map (·.2) = [assign (.Tuple ts k1 p1) X.env] := by rfl)
    (hz : is.length ≤ 100 := by decide) : PS X (.Assign [.Tuple ts k1 p1] (.Tuple es k2 p2) pos) (liftS X.K B (sPar is t)) :=
  weakS (ps_asg (pe_tup ha) (pg_tup hc hts.pg hn hst) hs hw h1) fun D σ H ⟨G, F, ρ, DP, k, h, en⟩ => ⟨G, F, ρ, _, k, h, fun rs ρ1 vs H1 F1 ⟨h1, h2, h3⟩ fl e1 => by
    have hl := fl.len
    refine ⟨by rw [sizeLine_eq]; omega, fun p hp => ⟨p, vs, rfl, .inl (.inl upd_same), by omega, gNs_run (by omega) ?_⟩⟩
    exact en.nx _ _ _ _ h3 ((fl.dust hp).store hts.nd h1.symm h2) e1⟩
/-- two local names, three: stored without the tuple -/
theorem s_par2 {i j : Nat} {x y : Str} {a b : Expr} {px py pt : Pos} {kt k2 pt2} (hc : X.calm = true) (hN : X.N.Nodup) (hij : i ≠ j) (ha : PA X [a, b] (liftB X.K B t))
    (hw : swappedStores [.Tuple [.Name x px, .Name y py] kt pt] (.Tuple [a, b] k2 pt2) X.env = pure (some [x, y])) (hi : X.N[i]? = some x := by rfl) (hj : X.N[j]? = some y := by rfl)
    (hx : X.env.scope.names.lookup x = some .local := by rfl) (hy : X.env.scope.names.lookup y = some .local := by rfl) (hs : swapsWithSole [.Tuple [.Name x px, .Name y py] kt pt] (.Tuple [a, b] k2 pt2) pos.line X.env = pure false := by rfl) :
    PS X (.Assign [.Tuple [.Name x px, .Name y py] kt pt] (.Tuple [a, b] k2 pt2) pos) (liftS X.K B (sPar [i, j] t)) :=
  weakS (ps_par hc hN hi hj hij hx hy ha hw hs) fun D σ H ⟨G, F, ρ, DP, k, h, en⟩ => ⟨G, F, ρ, _, k, h, fun rs ρ1 vs H1 F1 ⟨h1, h2, h3⟩ fl e1 => by
    have hl := fl.len
    have h1 : rs.length = 2 := h1
    match vs, hl.trans h1 with
    | [v, w], _ => exact ⟨v, w, rfl, en.nx _ _ _ _ h3 (fl.store (is := [i, j]) (by simp [hij]) h1.symm h2) e1⟩⟩

theorem s_par3 {i j l : Nat} {x y z : Str} {a b c : Expr} {px py pz pt : Pos} {kt k2 pt2} (hc : X.calm = true) (hN : X.N.Nodup) (hij : i ≠ j) (hil : i ≠ l) (hjl : j ≠ l) (ha : PA X [a, b, c] (liftB X.K B t))
    (hw : swappedStores [.Tuple [.Name x px, .Name y py, .Name z pz] kt pt] (.Tuple [a, b, c] k2 pt2) X.env = pure (some [x, y, z])) (hi : X.N[i]? = some x := by rfl) (hj : X.N[j]? = some y := by rfl) (hl : X.N[l]? = some z := by rfl)
    (hx : X.env.scope.names.lookup x = some .local := by rfl) (hy : X.env.scope.names.lookup y = some .local := by rfl) (hz : X.env.scope.names.lookup z = some .local := by rfl) (hs : swapsWithSole [.Tuple [.Name x px, .Name y py, .Name z pz] kt pt] (.Tuple [a, b, c] k2 pt2) pos.line X.env = pure false := by rfl) :
    PS X (.Assign [.Tuple [.Name x px, .Name y py, .Name z pz] kt pt] (.Tuple [a, b, c] k2 pt2) pos) (liftS X.K B (sPar [i, j, l] t)) :=
  weakS (ps_par3 hc hN hi hj hl hij hil hjl hx hy hz ha hw hs) fun D σ H ⟨G, F, ρ, DP, k, h, en⟩ => ⟨G, F, ρ, _, k, h, fun rs ρ1 vs H1 F1 ⟨h1, h2, h3⟩ fl e1 => by
    have hl := fl.len
    have h1 : rs.length = 3 := h1
    match vs, hl.trans h1 with
    | [v, w, u], _ => exact ⟨v, w, u, rfl, en.nx _ _ _ _ h3 (fl.store (is := [i, j, l]) (by simp [hij, hil, hjl]) h1.symm h2) e1⟩⟩
end
end PL

set_option Elab.async false
set_option linter.all false
set_option maxRecDepth 100000
/-! PL, part 7: enumerate and zip as what a for walks. -/
namespace PLx
open PySem PySem.Spec L2
open AutoSeq1 (wpAny_loadPart')
set_option maxHeartbeats 2000000 in
/-- enumerate(v), v any thing whose iterator is told -/
theorem enumNew {v : Value} {ob : Obj} {Hh : Heap → Prop} (Bg : Begins v ob Hh) :
    Meets (Builtin.«enumerate.__new__» ⟨[.type "enumerate", v], []⟩) (fun _ R st => Hh st.heap ∧
      R (.ok (.ret (.ref (st.heap.push ob).objs.size))) { st with heap := (st.heap.push ob).push { cls := .type "enumerate", data := .fields #[.none, .bool false, .ref st.heap.objs.size, rawInt 0, .none, .none] } }) :=
  .of_wp fun prog w A R st hyp => by
    obtain ⟨hp, gn, dn, tn, on⟩ := st
    obtain ⟨hyp1, hyp2⟩ := hyp
    have subE := sub_enumerate
    have iterv : ∀ {A1 : Around} {E1 : Value → Shared → Prop} {Q1 : Value → Shared → Prop}, Q1 (.ref hp.objs.size) ⟨hp.push ob, gn, dn, tn, on⟩ → wpAny (model prog w) A1 (pyIter v) Q1 E1 ⟨hp, gn, dn, tn, on⟩ :=
      fun q => Bg.iter prog w _ _ ⟨hp, gn, dn, tn, on⟩ _ hyp1 q
    wp_walk using iterv
    refine wpAny_stack_any fun stk => wpAny_pure ?_
    split
    · rename_i c _ _ _ _ _
      cases (c == Value.type "enumerate") <;> (wp_walk using iterv; exact ⟨_, rfl, hyp2⟩)
    · (wp_walk using iterv; exact ⟨_, rfl, hyp2⟩)
theorem enumCall {prog : Program} {w : World} {A : Around} {E : Value → Shared → Prop} {st : Shared} {v : Value} {ob : Obj} {Hh : Heap → Prop} {Q : Value → Shared → Prop} (Bg : Begins v ob Hh) (h1 : Hh st.heap)
    (k : ∀ h', IsEnum h' (st.heap.objs.size + 1) st.heap.objs.size 0 .none → h'.get? st.heap.objs.size = some ob → h'.objs.size = st.heap.objs.size + 2 → (∀ b u, st.heap.get? b = some u → h'.get? b = some u) →
      Q (.ref (st.heap.objs.size + 1)) { st with heap := h' }) : wpAny (model prog w) A (call (.type "enumerate") [v]) Q E st := by
  refine callType_new F.called_enumerate (by decide) (F.typeCall_enumerate_1 _) (F.newCall_enumerate_1 _) (fun z => F.args_object_init_2 z _) F.entry_enumerate_new (enumNew Bg) ⟨h1, ?_⟩
  have sz : (st.heap.push ob).objs.size = st.heap.objs.size + 1 := Heap.size_push ..
  show _ ∧ _
  rw [sz]
  have en : IsEnum ((st.heap.push ob).push { cls := .type "enumerate", data := .fields #[.none, .bool false, .ref st.heap.objs.size, rawInt 0, .none, .none] }) (st.heap.objs.size + 1) st.heap.objs.size 0 .none := by
    have z := Heap.get?_push_size (st.heap.push ob) (o := { cls := .type "enumerate", data := .fields #[.none, .bool false, .ref st.heap.objs.size, rawInt 0, .none, .none] }) rfl
    rw [sz] at z
    exact z
  exact ⟨⟨_, en, rfl⟩, k _ en (Heap.get?_push_of_some _ (Heap.get?_push_size _ Bg.free)) (by rw [Heap.size_push, sz]) fun b u z => Heap.get?_push_of_some _ (Heap.get?_push_of_some _ z)⟩

/-- enumerate of a tuple, as a walk -/
def IteT (K : PySem.W.Frag) (a : Addr) : It where
  go := fun i H => ∃ (xs : List V) (x : V), SqT K H a xs ∧ xs[i]? = some x
  yld := fun i H v H' => ∃ p x, v = .ref p ∧ H p = none ∧ H' = upd H p (.tup [.int (i : Nat), x]) ∧ ∀ xs, SqT K H a xs → xs[i]? = some x
  stop := fun i H => ∃ xs : List V, SqT K H a xs ∧ xs.length ≤ i
theorem turnT {P : Program} {w : World} {K : PySem.W.Frag} {elts : List Expr} {kk : Nat} {tpos : Pos} (a e it : Addr) (hea : e ≠ a) (hia : it ≠ a) :
    Turn P w K (.Tuple elts kk tpos) (IteT K a) [e, it] e (fun i h => (∃ old, IsEnum h e it ((i : Nat) : Int) old) ∧ h.IsTupleIter it a i ∧ e ≠ it) where
  mem := List.mem_cons_self
  obj := fun i h ⟨⟨old, he⟩, ⟨o, ho, hc, hd⟩, _⟩ b hb => by
    rcases List.mem_cons.mp hb with rfl | hb
    · exact ⟨_, he, (fun v q => nomatch q)⟩
    · obtain rfl := List.mem_singleton.mp hb
      exact ⟨o, ho, fun v q => by rw [hd] at q; cases q⟩
  keep := fun i h h' ⟨⟨old, he⟩, hi, hne⟩ k => ⟨⟨old, k e (by simp) _ he⟩, hi.at fun o q => k it (by simp) o q, hne⟩
  item := by
    intro X hP hw hK hc i pins s σ H E I hf st hg
    subst hP hw hK
    obtain ⟨⟨old, he⟩, hit, hne⟩ := st
    obtain ⟨xs, x, hq, hx⟩ := hg
    obtain ⟨its, rv, pt, hz⟩ := I.tuple hq
    obtain ⟨u, hu, ru⟩ := rv.get hx
    have hel : e < s.heap.objs.size := Heap.lt_size he
    have hil : it < s.heap.objs.size := by
      obtain ⟨_, q, _⟩ := hit
      exact Heap.lt_size q
    have hlt : i < its.toArray.size := by
      have := (List.getElem?_eq_some_iff.mp hu).1
      simpa using this
    have Dr := Draws.tuple (prog := X.prog) (w := X.w) (A := X.A.in1) (I.ok.hd hc) it a (Ne.symm hia) its.toArray
    refine wpAny_pyNext_enum_itemD Dr he ⟨hit, (show s.heap.IsTuple a its.toArray from pt)⟩ hlt hne (by simp [hne, hea]) fun y h' tk hy ho hst' hT hsz hk => ?_
    obtain rfl : y = u := by
      have hy : its.toArray[i]? = some y := hy
      rw [show its.toArray[i]? = its[i]? by simp, hu] at hy
      exact (Option.some.inj hy).symm
    refine ⟨_, rfl, wpAny_letOwnedTupleGo_enum (s := { s with heap := h', toks := tk + 1 }) ho fun h'' he' sb => ?_⟩
    have hT2 : h''.get? s.heap.objs.size = some { cls := .type "tuple", data := .seq #[.int i tk, y] } := (sb.2 _ (Nat.ne_of_gt hel)).trans hT
    have nw : ObjOk X.prog X.w (upd H s.heap.objs.size (.tup [.int (i : Nat), x])) h'' s.heap.objs.size (.tup [.int (i : Nat), x]) :=
      ⟨by show 2 ≤ sizeLine; decide, [.int i tk, y], .cons ⟨_, rfl⟩ (.cons ru .nil), ⟨_, hT2, rfl, _, rfl⟩⟩
    have J : Inv X pins σ (upd H s.heap.objs.size (.tup [.int (i : Nat), x])) { s with heap := h'', toks := tk + 1 } :=
      I.turnedNew (ch := [e, it]) (fun b ob hb q => (sb.2 b (fun z => hb (by simp [z]))).trans (hk b ob (fun z => hb (by simp [z])) (fun z => hb (by simp [z])) q)) hf (Nat.le_refl _) nw
    refine ⟨.ref s.heap.objs.size, _, J, rfl, ⟨_, x, rfl, I.hok.fresh (Nat.le_refl _), rfl, fun ys hy => ?_⟩, ⟨⟨y, ?_⟩, hst'.1.at fun o q => (sb.2 it (Ne.symm hne)).trans q, hne⟩, fun b hb => ?_⟩
    · rw [I.tuple_inj hy hq]
      exact hx
    · rw [show ((i + 1 : Nat) : Int) = (i : Int) + 1 by omega]
      exact he'
    · have hb' : b < s.heap.objs.size := by
        rcases List.mem_cons.mp hb with rfl | hb
        · exact hel
        · obtain rfl := List.mem_singleton.mp hb
          exact hil
      rw [upd_ne (Nat.ne_of_lt hb')]
      exact (hf b hb).1
  done := by
    intro X hP hw hK hc i pins s σ H E I hf st hg
    subst hP hw hK
    obtain ⟨⟨old, he⟩, hit, hne⟩ := st
    obtain ⟨xs, hq, hx⟩ := hg
    obtain ⟨its, rv, pt, hz⟩ := I.tuple hq
    obtain ⟨f0, f1, f2, f3, f4, f5⟩ := hf it (by simp)
    have hl := rv.length
    obtain ⟨oi, hoi, hci, hdi⟩ := id hit
    unfold pyNext
    have hT : s.TypeIs (.ref e) "enumerate" := ⟨_, he, rfl⟩
    refine wpAny_bind (wpAny_attempt (wpAny_callSpecial?_slot (name := Str.ofString "__next__") hT F.slot_enumerate_next (wpAny_call_entry F.slot_enumerate_next hT F.entry_enumerate_next ?_ (F.args_enumerate_next_1 _))))
    show wpAny _ _ (field (.ref e) 2 >>= _) _ _ _
    refine wpAny_bind (wpAny_field he rfl (x := .ref it) rfl ?_)
    refine wpAny_bind (wpAny_nextOf_tuple_end (show (Around.in1 _).handled = none from I.ok.hd hc) hit (show s.heap.IsTuple a its.toArray from pt) (by simp; omega) fun h' x he' hx' => ?_)
    obtain ⟨o, ho, hcc⟩ := hx'
    refine wpAny_bind (wpAny_isInstance (T := "StopIteration") (b := true) ⟨o, ho, hcc⟩ isSubtype_stop ?_)
    exact wpAny_pure ⟨rfl, I.turned (t' := s.toks) (fun b o hb q => he' b o hb q) f0 f1 f3 f4 f5⟩
  self := fun A i s Q E ⟨⟨_, he⟩, _⟩ h => wpAny_pyIter_enum he h
def iEnumT (K : PySem.W.Frag) (ta : TA) : TI := fun σ H R => ta σ H fun vs H1 => ∃ a xs, vs = [.ref a] ∧ SqT K H1 a xs ∧ R (IteT K a) H1
theorem pi_enumT {X : Cx} {e : Expr} {ta : TA} {p pos tpos : Pos} {elts : List Expr} {kk : Nat} (hg : Gl X "enumerate") (hm : X.mg "enumerate" = none) (ha : PA X [e] ta) (hs : starEach [e] X.env = [(false, eval e X.env)] := by rfl) :
    PI X (.Tuple elts kk tpos) (.Call (.Name "enumerate" p) [e] [] pos) (iEnumT X.K ta) := by
  refine ⟨fun pins s σ H R I h => PyProof.Rows.Call_ (ld_blt I hg hm PyProof.Rows.boot_enumerate (PyProof.Rows.callWith_type1 (thn (ha.run pos pins s σ H _ I h) fun us s1 ⟨vs, H1, I1, r1, q1⟩ => ?_) hs rfl))⟩
  obtain ⟨a, xs, rfl, hq, q⟩ := q1
  obtain ⟨u, rfl, ru⟩ := vals1 r1
  cases ru
  obtain ⟨its, rv, pt, hz⟩ := I1.tuple hq
  obtain ⟨ot, hot, _⟩ := id pt
  have hlt : a < s1.heap.objs.size := Heap.lt_size hot
  refine enumCall (begins_tuple a its.toArray) (show s1.heap.IsTuple a its.toArray from pt) fun h' he hit hsz hk => wpAny_pyIter_enum he ?_
  have J : Inv X pins σ H1 { s1 with heap := h' } := I1.kept (t' := s1.toks) hk
  refine ⟨s1.heap.objs.size + 1, [s1.heap.objs.size + 1, s1.heap.objs.size], _, _, H1, rfl, J, turnT a (s1.heap.objs.size + 1) s1.heap.objs.size (Nat.ne_of_gt (Nat.lt_succ_of_lt hlt)) (Nat.ne_of_gt hlt), ⟨⟨.none, he⟩, ⟨_, hit, rfl, rfl⟩, Nat.succ_ne_self _⟩, fun b hb => ?_, q⟩
  have hle : s1.heap.objs.size ≤ b := by
    rcases List.mem_cons.mp hb with rfl | hb
    · omega
    · obtain rfl := List.mem_singleton.mp hb
      exact Nat.le_refl _
  exact I1.fpOk hle (I1.hok.fresh hle)
end PLx

set_option Elab.async false
set_option linter.all false
set_option maxRecDepth 100000
/-! PL, part 8: more walks; built-ins and methods by data. -/
namespace PL
open PySem PySem.Spec L2
variable [Consts]

/-! ### enumerate, zip, a range by steps -/
def enumD (ds : List D) : List D := (List.range ds.length).map fun i => .tuple [.int (i : Nat), ds.getD i .none]
theorem enumD_len (ds : List D) : (enumD ds).length = ds.length := by simp [enumD]
theorem enumD_get {ds : List D} {i : Nat} {d : D} (h : ds[i]? = some d) : (enumD ds)[i]? = some (.tuple [.int (i : Nat), d]) := by
  obtain ⟨hl, e⟩ := List.getElem?_eq_some_iff.mp h
  simp [enumD, hl, e]
def zipD (as bs : List D) : List D := List.zipWith (fun a b => .tuple [a, b]) as bs
theorem zipD_len (as bs : List D) : (zipD as bs).length = min as.length bs.length := by simp [zipD]
theorem zipD_get {as bs : List D} {i : Nat} {a b : D} (h : as[i]? = some a) (h2 : bs[i]? = some b) : (zipD as bs)[i]? = some (.tuple [a, b]) := by
  simp [zipD, List.getElem?_zipWith, h, h2]
theorem wk_pair {K : PySem.W.Frag} {J : It} {n : Nat} {F : Hp} {G : Hp → Prop} {xs ys : Nat → Option V} {ds : List D} (w : Walk J n G (YPair xs ys)) (hG : ∀ H, Same F H → G H) (hn : ds.length = n)
    (hd : ∀ i x y, i < n → xs i = some x → ys i = some y → ∃ d e, ds[i]? = some (.tuple [d, e]) ∧ Rp K F x d ∧ Rp K F y e) : Wk K J F ds := by
  subst hn
  refine ⟨fun i H hi s => w.goes i H hi (hG H s), fun H s => w.stops H (hG H s), fun i H v H' hi s q => ?_⟩
  obtain ⟨p, x, y, e1, e2, e3, e4, e5⟩ := w.yields i H v H' hi (hG H s) q
  obtain ⟨d, e, g, r1, r2⟩ := hd i x y hi e4 e5
  exact ⟨_, g, .inr (.inl ⟨p, _, [d, e], e2, e1, rfl, e3, .cons r1 (.one r2)⟩)⟩
theorem walkT {K : PySem.W.Frag} {a : Addr} {xs : List V} : Walk (PLx.IteT K a) xs.length (fun H => SqT K H a xs) (YPair (fun i => some (.int (i : Nat))) (fun i => xs[i]?)) :=
  ⟨fun i _ hi q => ⟨xs, xs[i], q, by simp [hi]⟩, fun _ q => ⟨xs, q, Nat.le_refl _⟩, fun i H v H' _ q ⟨p, x, e1, e2, e3, e4⟩ => ⟨p, .int (i : Nat), x, e1, e2, e3, rfl, e4 xs q⟩⟩
theorem walkZT {K : PySem.W.Frag} {a b : Addr} {xs ys : List V} : Walk (RZ.ItzT K a b) (min xs.length ys.length) (fun H => SqT K H a xs ∧ SqT K H b ys) (YPair (fun i => xs[i]?) (fun i => ys[i]?)) := by
  refine ⟨fun i _ hi q => ?_, fun _ q => ⟨xs, ys, q.1, q.2, by omega⟩, fun i H v H' _ q ⟨p, x, y, e1, e2, e3, e4, e5⟩ => ⟨p, x, y, e1, e2, e3, e4 xs q.1, e5 ys q.2⟩⟩
  have h1 : i < xs.length := by omega
  have h2 : i < ys.length := by omega
  exact ⟨xs, ys, xs[i], ys[i], q.1, q.2, by simp [h1], by simp [h2]⟩
theorem RpAll.two {K : PySem.W.Frag} {F : Hp} {vs : List V} {d e : D} (r : RpAll K F vs [d, e]) : ∃ x y, vs = [x, y] ∧ Rp K F x d ∧ Rp K F y e := by
  cases r with
  | cons r1 r => cases r with
    | cons r2 r => cases r; exact ⟨_, _, rfl, r1, r2⟩
theorem RpAll.single {K : PySem.W.Frag} {F : Hp} {vs : List V} {d : D} (r : RpAll K F vs [d]) : ∃ x, vs = [x] ∧ Rp K F x d := by
  cases r with
  | cons r1 r => cases r; exact ⟨_, rfl, r1⟩
section
variable {X : Cx} {B : Box} {pos p tpos : Pos} {e e2 c tg : Expr} {ta : QA} {elts : List Expr} {kk : Nat}
def iEL (ta : QA) (ρ : Env) (Q : List D → Env → Prop) : Prop := ta ρ fun ws ρ' => match wsD ws with
  | some [.list ds] => Q (enumD ds) ρ'
  | _ => False
def iET (ta : QA) (ρ : Env) (Q : List D → Env → Prop) : Prop := ta ρ fun ws ρ' => match wsD ws with
  | some [.tuple ds] => Q (enumD ds) ρ'
  | _ => False
theorem i_enumL (hg : Gl X "enumerate") (hm : X.mg "enumerate" = none) (ha : PA X [e] (liftA X.K B ta)) (hs : starEach [e] X.env = [(false, eval e X.env)] := by rfl) :
    PI X (.Tuple elts kk tpos) (.Call (.Name "enumerate" p) [e] [] pos) (liftI X.K B (iEL ta)) :=
  weakI (pi_enum hg hm ha hs) fun σ H R ⟨G, F, ρ, P, k, h, q⟩ => liftA_use k h fun ws ρ' vs H' F' p k' w e => by
    split at p
    · rename_i ds g
      obtain ⟨x, rfl, r⟩ := (wsD_ok w g).single
      cases r with
      | lst hh r =>
        refine ⟨_, _, rfl, .inl (.inl (k'.2.f _ _ hh)), q _ _ _ _ _ p k' e (wk_pair walk_enum (fun H s => .inl (.inl (s _ _ hh))) (by rw [enumD_len, r.length]) fun i x y hi e1 e2 => ?_)⟩
        cases e1
        obtain ⟨d, hd, rd⟩ := r.getV e2
        exact ⟨_, d, enumD_get hd, .int _, rd⟩
    · exact p.elim
theorem i_enumT (hg : Gl X "enumerate") (hm : X.mg "enumerate" = none) (ha : PA X [e] (liftA X.K B ta)) (hs : starEach [e] X.env = [(false, eval e X.env)] := by rfl) :
    PI X (.Tuple elts kk tpos) (.Call (.Name "enumerate" p) [e] [] pos) (liftI X.K B (iET ta)) :=
  weakI (PLx.pi_enumT hg hm ha hs) fun σ H R ⟨G, F, ρ, P, k, h, q⟩ => liftA_use k h fun ws ρ' vs H' F' p k' w e => by
    split at p
    · rename_i ds g
      obtain ⟨x, rfl, r⟩ := (wsD_ok w g).single
      cases r with
      | tup hh r =>
        refine ⟨_, _, rfl, same_t k'.2.f hh, q _ _ _ _ _ p k' e (wk_pair walkT (fun H s => same_t s hh) (by rw [enumD_len, r.length]) fun i x y hi e1 e2 => ?_)⟩
        cases e1
        obtain ⟨d, hd, rd⟩ := r.getV e2
        exact ⟨_, d, enumD_get hd, .int _, rd⟩
    · exact p.elim
def iZ (ta : QA) (ρ : Env) (Q : List D → Env → Prop) : Prop := ta ρ fun ws ρ' => match wsD ws with
  | some [.list as, .list bs] => Q (zipD as bs) ρ'
  | some [.tuple as, .tuple bs] => Q (zipD as bs) ρ'
  | _ => False
theorem i_zip (hg : Gl X "zip") (hm : X.mg "zip" = none) (ha : PA X [e, e2] (liftA X.K B ta)) (hs : starEach [e, e2] X.env = (false, eval e X.env) :: starEach [e2] X.env := by rfl) (hpl : (backTo pos (starEach [e2] X.env)).any (·.1) = false := by rfl) :
    PI X (.Tuple elts kk tpos) (.Call (.Name "zip" p) [e, e2] [] pos) (liftI X.K B (iZ ta)) :=
  weakI (RZ.pi_zipA hg hm ha hs hpl) fun σ H R ⟨G, F, ρ, P, k, h, q⟩ => liftA_use k h fun ws ρ' vs H' F' p k' w e => by
    split at p
    · rename_i as bs g
      obtain ⟨x, y, rfl, r1, r2⟩ := (wsD_ok w g).two
      cases r1 with
      | lst h1 r1 =>
        cases r2 with
        | lst h2 r2 =>
          refine ⟨_, _, _, _, rfl, .inl ⟨.inl (.inl (k'.2.f _ _ h1)), .inl (.inl (k'.2.f _ _ h2)), q _ _ _ _ _ p k' e (wk_pair (walk_zip rfl) (fun H s => ⟨.inl (.inl (s _ _ h1)), .inl (.inl (s _ _ h2))⟩) (by rw [zipD_len, r1.length, r2.length]) fun i x y hi e1 e2 => ?_)⟩⟩
          obtain ⟨d, hd, rd⟩ := r1.getV e1
          obtain ⟨d', hd', rd'⟩ := r2.getV e2
          exact ⟨d, d', zipD_get hd hd', rd, rd'⟩
    · rename_i as bs g
      obtain ⟨x, y, rfl, r1, r2⟩ := (wsD_ok w g).two
      cases r1 with
      | tup h1 r1 =>
        cases r2 with
        | tup h2 r2 =>
          refine ⟨_, _, _, _, rfl, .inr ⟨same_t k'.2.f h1, same_t k'.2.f h2, q _ _ _ _ _ p k' e (wk_pair walkZT (fun H s => ⟨same_t s h1, same_t s h2⟩) (by rw [zipD_len, r1.length, r2.length]) fun i x y hi e1 e2 => ?_)⟩⟩
          obtain ⟨d, hd, rd⟩ := r1.getV e1
          obtain ⟨d', hd', rd'⟩ := r2.getV e2
          exact ⟨d, d', zipD_get hd hd', rd, rd'⟩
    · exact p.elim
/-- range(i, j, -1) -/
def downD (lo : Int) (n : Nat) : List D := (List.range n).map fun i => .int (lo - (i : Nat))
def iR3 (ta : QA) (ρ : Env) (Q : List D → Env → Prop) : Prop := ta ρ fun ws ρ' => match wsR ρ' ws with
  | some [.int i, .int j, .int c] => c = -1 ∧ (-(2 ^ 62) ≤ i ∧ i < 2 ^ 62 ∧ -(2 ^ 62) ≤ j ∧ j < 2 ^ 62) ∧ Q (downD i (i - j).toNat) ρ'
  | _ => False
theorem i_down (hg : Gl X "range") (hm : X.mg "range" = none) (ha : PA X [e, e2, c] (liftA X.K B ta)) (hs : starEach [e, e2, c] X.env = (false, eval e X.env) :: starEach [e2, c] X.env := by rfl) (hpl : (backTo pos (starEach [e2, c] X.env)).any (·.1) = false := by rfl) :
    PI X tg (.Call (.Name "range" p) [e, e2, c] [] pos) (liftI X.K B (iR3 ta)) :=
  weakI (pi_range3 hg hm ha hs hpl) fun σ H R ⟨G, F, ρ, P, k, h, q⟩ => liftA_use k h fun ws ρ' vs H' F' p k' w e => by
    split at p
    · rename_i i j c0 g
      obtain ⟨rfl, ⟨h1, h2, h3, h4⟩, p⟩ := p
      have r := wsR_ok k' w g
      cases r with
      | cons r1 rr => cases rr with
        | cons r2 rr => cases rr with
          | cons r3 rr =>
            cases rr
            refine ⟨i, j, -1, (i - j).toNat, by rw [r1.int, r2.int, r3.int], RgC.neg h1 h2 h3 h4, q _ _ _ _ _ p k' e ?_⟩
            have w := walk_rangeC (lo := i) (c := -1) (n := (i - j).toNat)
            have hl : (downD i (i - j).toNat).length = (i - j).toNat := by simp [downD]
            refine ⟨fun n H hi s => w.goes n H (by omega) trivial, fun H s => by rw [hl]; exact w.stops H trivial, fun n H x H' hi s y => ?_⟩
            rw [hl] at hi
            obtain ⟨e, rfl⟩ := w.yields n H x H' hi trivial y
            refine ⟨.int (i - (n : Nat)), by simp [downD, hi], .inl ⟨e, ?_⟩⟩
            have : i + (n : Nat) * (-1 : Int) = i - (n : Nat) := by omega
            show Rp X.K F' (V.int (i + (n : Nat) * (-1 : Int))) _
            rw [this]
            exact .int _
    · exact p.elim
end

/-! ### built-in functions -/
section
variable {K : PySem.W.Frag} {B : Box}
theorem RqAll.single {F H : Hp} {vs : List V} {d : D} (r : RqAll K F H vs [d]) : ∃ x, vs = [x] ∧ Rq K F H x d := by
  cases r with
  | cons r1 r => cases r; exact ⟨_, rfl, r1⟩
theorem RqAll.two {F H : Hp} {vs : List V} {d e : D} (r : RqAll K F H vs [d, e]) : ∃ x y, vs = [x, y] ∧ Rq K F H x d ∧ Rq K F H y e := by
  cases r with
  | cons r1 r => cases r with
    | cons r2 r => cases r; exact ⟨_, _, rfl, r1, r2⟩
def pLen : List D → (T → Prop) → Prop
  | [.list ds], Q => Q (.d (.int (ds.length : Nat)))
  | [.tuple ds], Q => Q (.d (.int (ds.length : Nat)))
  | [.str z], Q => z.length ≤ sizeLine ∧ Q (.d (.int (z.length : Nat)))
  | _, _ => False
def rLenP (K : PySem.W.Frag) : List V → Hp → VK → Prop := fun xs H Q => (∃ p ys, xs = [.ref p] ∧ (SqL K H p ys ∨ SqT K H p ys) ∧ Q (.int ys.length) H) ∨ ∃ z, xs = [.str z] ∧ z.length ≤ sizeLine ∧ Q (.int z.length) H
theorem call_lenP {X : Cx} : CallR X (.builtin "len") (rLenP X.K) := call_len_seq.or call_len_str
theorem c_len : CallD K B (rLenP K) pLen := by
  intro G F H σ ρ P Q ds vs k r h q
  unfold pLen at h
  split at h
  · obtain ⟨x, rfl, r1⟩ := r.single
    obtain ⟨a, xs, rfl, s1, t1⟩ := r1.lst k.2.f
    exact .inl ⟨a, xs, rfl, .inl (.inl (.inl s1)), by rw [t1.length]; exact q _ _ _ _ h (k.d (.int _)) (Same.refl F)⟩
  · obtain ⟨x, rfl, r1⟩ := r.single
    obtain ⟨a, xs, rfl, s1, t1⟩ := r1.tup
    exact .inl ⟨a, xs, rfl, .inr (same_t k.2.f s1), by rw [t1.length]; exact q _ _ _ _ h (k.d (.int _)) (Same.refl F)⟩
  · obtain ⟨x, rfl, r1⟩ := r.single
    exact .inr ⟨_, by rw [r1.str], h.1, q _ _ _ _ h.2 (k.d (.int _)) (Same.refl F)⟩
  · exact h.elim
def pInt : List D → (T → Prop) → Prop
  | [.int i], Q => Q (.d (.int i))
  | [.bool b], Q => Q (.d (.int (bi b)))
  | _, _ => False
def rInt1 : List V → Hp → VK → Prop := fun xs H Q => (∃ i, xs = [.int i] ∧ Q (.int i) H) ∨ ∃ k, xs = [.bl k] ∧ Q (.int (if k then 1 else 0)) H
theorem call_intP {X : Cx} : CallR X (.type "int") rInt1 := call_int1
theorem c_int : CallD K B rInt1 pInt := by
  intro G F H σ ρ P Q ds vs k r h q
  unfold pInt at h
  split at h
  · obtain ⟨x, rfl, r1⟩ := r.single
    exact .inl ⟨_, by rw [r1.int], q _ _ _ _ h (k.d (.int _)) (Same.refl F)⟩
  · obtain ⟨x, rfl, r1⟩ := r.single
    exact .inr ⟨_, by rw [r1.bool], q _ _ _ _ h (k.d (.int _)) (Same.refl F)⟩
  · exact h.elim
def pMin2 : List D → (T → Prop) → Prop
  | [.int i, .int j], Q => Q (.d (.int (if j < i then j else i)))
  | _, _ => False
def pMax2 : List D → (T → Prop) → Prop
  | [.int i, .int j], Q => Q (.d (.int (if j > i then j else i)))
  | _, _ => False
theorem c_min2 : CallD K B (fun xs H Q => ∃ i j, xs = [.int i, .int j] ∧ Q (.int (if j < i then j else i)) H) pMin2 := by
  intro G F H σ ρ P Q ds vs k r h q
  unfold pMin2 at h
  split at h
  · obtain ⟨x, y, rfl, r1, r2⟩ := r.two
    exact ⟨_, _, by rw [r1.int, r2.int], q _ _ _ _ h (k.d (.int _)) (Same.refl F)⟩
  · exact h.elim
theorem c_max2 : CallD K B (fun xs H Q => ∃ i j, xs = [.int i, .int j] ∧ Q (.int (if j > i then j else i)) H) pMax2 := by
  intro G F H σ ρ P Q ds vs k r h q
  unfold pMax2 at h
  split at h
  · obtain ⟨x, y, rfl, r1, r2⟩ := r.two
    exact ⟨_, _, by rw [r1.int, r2.int], q _ _ _ _ h (k.d (.int _)) (Same.refl F)⟩
  · exact h.elim
def pAbs : List D → (T → Prop) → Prop
  | [.int i], Q => Q (.d (.int (if i < 0 then -i else i)))
  | _, _ => False
theorem c_abs : CallD K B (fun xs H Q => ∃ i, xs = [.int i] ∧ Q (.int (if i < 0 then -i else i)) H) pAbs := by
  intro G F H σ ρ P Q ds vs k r h q
  unfold pAbs at h
  split at h
  · obtain ⟨x, rfl, r1⟩ := r.single
    exact ⟨_, by rw [r1.int], q _ _ _ _ h (k.d (.int _)) (Same.refl F)⟩
  · exact h.elim
def pTupOf : List D → (T → Prop) → Prop
  | [.list ds], Q => Q (.d (.tuple ds))
  | [.tuple ds], Q => Q (.d (.tuple ds))
  | _, _ => False
def rTupOf (K : PySem.W.Frag) : List V → Hp → VK → Prop := fun xs H Q => ∃ p ys, xs = [.ref p] ∧ ((SqL K H p ys ∧ ∀ l, H l = none → Q (.ref l) (upd H l (.tup ys))) ∨ (SqT K H p ys ∧ Q (.ref p) H))
theorem call_tupP {X : Cx} : CallR X (.type "tuple") (rTupOf X.K) := call_tuple_of
theorem c_tupOf : CallD K B (rTupOf K) pTupOf := by
  intro G F H σ ρ P Q ds vs k r h q
  unfold pTupOf at h
  split at h
  · obtain ⟨x, rfl, r1⟩ := r.single
    obtain ⟨a, xs, rfl, s1, t1⟩ := r1.lst k.2.f
    refine ⟨a, xs, rfl, .inl ⟨.inl (.inl s1), fun l hl => ?_⟩⟩
    obtain ⟨fl, e⟩ := k.newT hl t1
    exact q _ _ _ _ h fl e
  · obtain ⟨x, rfl, r1⟩ := r.single
    obtain ⟨a, xs, rfl, s1, t1⟩ := r1.tup
    exact ⟨a, xs, rfl, .inr ⟨same_t k.2.f s1, q _ _ _ _ h (k.d (.tup s1 t1)) (Same.refl F)⟩⟩
  · exact h.elim
def pLstOf : List D → (T → Prop) → Prop
  | [.list ds], Q => Q (.l ds)
  | [.tuple ds], Q => Q (.l ds)
  | _, _ => False
def rLstOf (K : PySem.W.Frag) : List V → Hp → VK → Prop := fun xs H Q => ∃ p ys, xs = [.ref p] ∧ (SqL K H p ys ∨ SqT K H p ys) ∧ ∀ l, H l = none → Q (.ref l) (upd H l (.lst ys))
theorem call_lstP {X : Cx} : CallR X (.type "list") (rLstOf X.K) := call_list_of
theorem c_lstOf : CallD K B (rLstOf K) pLstOf := by
  intro G F H σ ρ P Q ds vs k r h q
  unfold pLstOf at h
  split at h
  · obtain ⟨x, rfl, r1⟩ := r.single
    obtain ⟨a, xs, rfl, s1, t1⟩ := r1.lst k.2.f
    exact ⟨a, xs, rfl, .inl (.inl (.inl s1)), fun l hl => q _ _ _ _ h (k.newL hl t1) (Same.refl F)⟩
  · obtain ⟨x, rfl, r1⟩ := r.single
    obtain ⟨a, xs, rfl, s1, t1⟩ := r1.tup
    exact ⟨a, xs, rfl, .inr (same_t k.2.f s1), fun l hl => q _ _ _ _ h (k.newL hl t1) (Same.refl F)⟩
  · exact h.elim
/-- repr, where no repr is under way -/
def rRepr (K : PySem.W.Frag) (A : Around) : List V → Hp → VK → Prop := fun xs H Q => ∃ x d, xs = [x] ∧ Dp K H x d ∧ d.hasDict = false ∧ d.showable = true ∧ A.units + (d.depth + 1) < cLine ∧ d.shown.length ≤ sizeLine ∧ Q (.str d.shown) H
theorem call_reprP {X : Cx} (hg : X.A.guards = some []) : CallR X (.builtin "repr") (rRepr X.K X.A) := by
  intro pins s σ H xs us Q I r h
  obtain ⟨x, d, rfl, rd, nd, hs, hu, hz, q⟩ := h
  obtain ⟨u, rfl, ru⟩ := vals1 r
  obtain ⟨as, rr⟩ := Dp.reads I d x u rd ru
  have fin : ∀ (h' : Heap) (t tk : Tok), (∀ b o, s.heap.get? b = some o → h'.get? b = some o) → EP X pins σ Q (.str d.shown t) { s with heap := h', toks := tk } := fun h' t tk kp => ⟨.str _, H, I.kept (t' := tk) kp, ⟨t, rfl⟩, q⟩
  cases rr with
  | none => exact PySem.P.repr_of_none (by simpa only [PyData.shown] using fin s.heap _ _ fun _ _ z => z)
  | bool b => exact PySem.P.repr_of_bool (by simpa only [PyData.shown] using fin s.heap _ _ fun _ _ z => z)
  | int i t => exact PySem.P.repr_of_int (by simpa [PyData.showable] using hs) (by simpa only [PyData.shown] using fin s.heap _ _ fun _ _ z => z)
  | str y t => exact PySem.P.repr_of_str (by simpa only [PyData.shown] using fin s.heap _ _ fun _ _ z => z) (by simpa only [PyData.shown] using hz)
  | list a1 a2 a3 a4 => exact repr_of_reads' (.list a1 a2 a3 a4) hs (fun z => by rw [nd] at z; cases z) hg hu (fun _ _ z => z) fin hz
  | tuple a1 a2 a3 a4 => exact repr_of_reads' (.tuple a1 a2 a3 a4) hs (fun z => by rw [nd] at z; cases z) hg hu (fun _ _ z => z) fin hz
  | dict a1 a2 a3 a4 a5 => exact (by simp [PyData.hasDict] at nd)
def pRepr (u : Nat) : List D → (T → Prop) → Prop
  | [d], Q => nod d = true ∧ d.hasDict = false ∧ d.showable = true ∧ u + (d.depth + 1) < cLine ∧ d.shown.length ≤ sizeLine ∧ Q (.d (.str d.shown))
  | _, _ => False
theorem c_repr {A : Around} : CallD K B (rRepr K A) (pRepr A.units) := by
  intro G F H σ ρ P Q ds vs k r h q
  unfold pRepr at h
  split at h
  · obtain ⟨x, rfl, r1⟩ := r.single
    obtain ⟨h0, h1, h2, h3, h4, h5⟩ := h
    exact ⟨x, _, rfl, r1.dp k.2.f h0, h1, h2, h3, h4, q _ _ _ _ h5 (k.d (.str _)) (Same.refl F)⟩
  · exact h.elim
end
end PL

set_option Elab.async false
set_option linter.all false
set_option maxRecDepth 100000
/-! PL, part 9: methods, stars, sets of tuples and of ints, keywords. -/
namespace PL
open PySem PySem.Spec L2
variable [Consts]

/-! ### methods of one argument -/
def MtD (K : PySem.W.Frag) (B : Box) (r0 : V → List V → Hp → VK → Prop) (p : D → D → (T → Prop) → Prop) : Prop := OpD K B (fun x y H Q => r0 x [y] H Q) p
section
variable {X : Cx} {B : Box} {o e : Expr} {to te : QE} {apos pos : Pos} {K : PySem.W.Frag}
/-- of a text -/
def qM1 (p : D → D → (T → Prop) → Prop) (to te : QE) (ρ : Env) (Q : T → Env → Prop) : Prop := to ρ fun r1 ρ1 => match r1.w with
  | .d (.str a) => te ρ1 fun r2 ρ2 => match r2.w.dat ρ2 with
    | some d2 => p (.str a) d2 fun r => Q r ρ2
    | none => False
  | _ => False
theorem lift_m1 {r0 : V → List V → Hp → VK → Prop} {p : D → D → (T → Prop) → Prop} (hp : MtD K B r0 p) {σ : St} {H : Hp} {Q : VK} (h : lift K B (qM1 p to te) σ H Q) : tM1 r0 (lift K B to) (lift K B te) σ H Q := by
  obtain ⟨G, F, ρ, P, k, h, q⟩ := h
  refine lift_use k h fun r1 ρ1 v1 H1 F1 h1 k1 w1 e1 => ?_
  split at h1
  · rename_i a g
    rw [g] at w1
    cases w1
    refine ⟨⟨a, rfl⟩, lift_use k1 h1 fun r2 ρ2 v2 H2 F2 h2 k2 w2 e2 => ?_⟩
    split at h2
    · rename_i d2 g2
      exact hp _ _ _ _ _ _ _ _ _ _ _ k2 (.inl (.str a)) (k2.read w2 g2) h2 fun r v H' F' p' fl e => q r ρ2 v H' F' p' fl ((e1.trans e2).trans e)
    · exact h2.elim
  · exact h1.elim
def pStarts : D → D → (T → Prop) → Prop
  | .str a, .str b, Q => Q (.d (.bool (Txt.startswith a b)))
  | _, _, _ => False
theorem m_starts : MtD K B (fun x xs H Q => ∃ a b, x = .str a ∧ xs = [.str b] ∧ Q (.bl (Txt.startswith a b)) H) pStarts := by
  intro G F H σ ρ P Q d1 d2 v1 v2 k r1 r2 h q
  unfold pStarts at h
  split at h
  · exact ⟨_, _, r1.str, by rw [r2.str], q _ _ _ _ h (k.d (.bl _)) (Same.refl F)⟩
  · exact h.elim
theorem q_starts (ho : PE X o (lift X.K B to)) (he : PE X e (lift X.K B te)) (hs : starEach [e] X.env = [(false, eval e X.env)] := by rfl) (hbase : attributeBase o "startswith" X.env (eval o X.env) = eval o X.env := by rfl) (hline : (apos.endLine == pos.line) = true := by rfl) :
    PE X (.Call (.Attribute o "startswith" apos) [e] [] pos) (lift X.K B (qM1 pStarts to te)) := weakE (pe_m1 PySem.F.slot_str_startswith PySem.F.type_str_startswith mt_startswith ho he hs hbase hline) fun _ _ _ => lift_m1 m_starts
def pSIndex : D → D → (T → Prop) → Prop
  | .str a, .str b, Q => ∃ i rest, Builtin.Str.occurrences a b 0 a.length 1 = i :: rest ∧ Q (.d (.int (i : Nat)))
  | _, _, _ => False
theorem m_sindex : MtD K B (fun x xs H Q => ∃ a b i rest, x = .str a ∧ xs = [.str b] ∧ Builtin.Str.occurrences a b 0 a.length 1 = i :: rest ∧ Q (.int (i : Nat)) H) pSIndex := by
  intro G F H σ ρ P Q d1 d2 v1 v2 k r1 r2 h q
  unfold pSIndex at h
  split at h
  · obtain ⟨i, rest, h1, h2⟩ := h
    exact ⟨_, _, i, rest, r1.str, by rw [r2.str], h1, q _ _ _ _ h2 (k.d (.int _)) (Same.refl F)⟩
  · exact h.elim
theorem q_sindex (ho : PE X o (lift X.K B to)) (he : PE X e (lift X.K B te)) (hs : starEach [e] X.env = [(false, eval e X.env)] := by rfl) (hbase : attributeBase o "index" X.env (eval o X.env) = eval o X.env := by rfl) (hline : (apos.endLine == pos.line) = true := by rfl) :
    PE X (.Call (.Attribute o "index" apos) [e] [] pos) (lift X.K B (qM1 pSIndex to te)) := weakE (pe_m1 PySem.F.slot_str_index PySem.F.type_str_index mt_sindex ho he hs hbase hline) fun _ _ _ => lift_m1 m_sindex
def pJoin : D → D → (T → Prop) → Prop
  | .str a, .list ds, Q => ∃ ys : List Str, ds = ys.map .str ∧ (ys.map (·.length)).sum + ys.length * a.length ≤ 16777216 ∧ Q (.d (.str (Txt.join a ys)))
  | .str a, .tuple ds, Q => ∃ ys : List Str, ds = ys.map .str ∧ (ys.map (·.length)).sum + ys.length * a.length ≤ 16777216 ∧ Q (.d (.str (Txt.join a ys)))
  | _, _, _ => False
theorem m_join : MtD K B (fun x xs H Q => ∃ a p, ∃ ys : List Str, x = .str a ∧ xs = [.ref p] ∧ (SqL K H p (ys.map V.str) ∨ SqT K H p (ys.map V.str)) ∧ (ys.map (·.length)).sum + ys.length * a.length ≤ 16777216 ∧ Q (.str (Txt.join a ys)) H) pJoin := by
  intro G F H σ ρ P Q d1 d2 v1 v2 k r1 r2 h q
  unfold pJoin at h
  split at h
  · obtain ⟨ys, rfl, h1, h2⟩ := h
    obtain ⟨p, xs, rfl, s1, t1⟩ := r2.lst k.2.f
    obtain rfl := t1.strs
    exact ⟨_, p, ys, r1.str, rfl, .inl (.inl (.inl s1)), h1, q _ _ _ _ h2 (k.d (.str _)) (Same.refl F)⟩
  · obtain ⟨ys, rfl, h1, h2⟩ := h
    obtain ⟨p, xs, rfl, s1, t1⟩ := r2.tup
    obtain rfl := t1.strs
    exact ⟨_, p, ys, r1.str, rfl, .inr (same_t k.2.f s1), h1, q _ _ _ _ h2 (k.d (.str _)) (Same.refl F)⟩
  · exact h.elim
theorem q_join (ho : PE X o (lift X.K B to)) (he : PE X e (lift X.K B te)) (hs : starEach [e] X.env = [(false, eval e X.env)] := by rfl) (hbase : attributeBase o "join" X.env (eval o X.env) = eval o X.env := by rfl) (hline : (apos.endLine == pos.line) = true := by rfl) :
    PE X (.Call (.Attribute o "join" apos) [e] [] pos) (lift X.K B (qM1 pJoin to te)) := weakE (pe_join ho he hs hbase hline) fun _ _ _ => lift_m1 m_join
/-- of a list, looked at -/
def qBM (p : D → D → (T → Prop) → Prop) (to te : QE) (ρ : Env) (Q : T → Env → Prop) : Prop := to ρ fun r1 ρ1 => (∃ ds, r1.w.dat ρ1 = some (.list ds)) ∧ te ρ1 fun r2 ρ2 => match r1.w.dat ρ2, r2.w.dat ρ2 with
  | some d1, some d2 => p d1 d2 fun r => Q r ρ2
  | _, _ => False
theorem lift_bm {r0 : V → List V → Hp → VK → Prop} {p : D → D → (T → Prop) → Prop} (hp : MtD K B r0 p) {σ : St} {H : Hp} {Q : VK} (h : lift K B (qBM p to te) σ H Q) : tBM K "list" r0 (lift K B to) (tCons (lift K B te) tNil) σ H Q := by
  obtain ⟨G, F, ρ, P, k, h, q⟩ := h
  refine lift_use k h fun r1 ρ1 v1 H1 F1 ⟨⟨ds, hd⟩, h1⟩ k1 w1 e1 => ?_
  obtain ⟨a, xs, rfl, s1, t1⟩ := (k1.read w1 hd).lst k1.2.f
  refine ⟨.inl ⟨rfl, _, .inl (.inl s1)⟩, lift_use k1 h1 fun r2 ρ2 v2 H2 F2 h2 k2 w2 e2 => ?_⟩
  split at h2
  · rename_i d1 d2 g1 g2
    exact hp _ _ _ _ _ _ _ _ _ _ _ k2 (k2.read (w1.mono e2) g1) (k2.read w2 g2) h2 fun r v H' F' p' fl e => q r ρ2 v H' F' p' fl ((e1.trans e2).trans e)
  · exact h2.elim
def pIndex : D → D → (T → Prop) → Prop
  | .list ds, d, Q => SeqAt.shaped (.list ds) = true ∧ SeqAt.shaped d = true ∧ ∃ j z, ds[j]? = some z ∧ PyData.eqv z d = true ∧ (∀ m z', m < j → ds[m]? = some z' → PyData.eqv z' d = false) ∧ Q (.d (.int (j : Nat)))
  | _, _, _ => False
theorem m_index : MtD K B (rIndexD K) pIndex := by
  intro G F H σ ρ P Q d1 d2 v1 v2 k r1 r2 h q
  unfold pIndex at h
  split at h
  · obtain ⟨h1, h2, j, z, h3, h4, h5, h6⟩ := h
    have r1' := r1.dpS k.2.f h1
    obtain ⟨a, xs, rfl, _, _⟩ := r1.lst k.2.f
    exact ⟨a, v2, _, _, j, z, rfl, rfl, r1', r2.dpS k.2.f h2, h1, h2, h3, h4, h5, q _ _ _ _ h6 (k.d (.int _)) (Same.refl F)⟩
  · exact h.elim
theorem q_index (hu : X.A.units + 65 < cLine) (ho : PE X o (lift X.K B to)) (he : PE X e (lift X.K B te)) (hbase : attributeBase o "index" X.env (eval o X.env) = eval o X.env := by rfl)
    (hfew : ((backTo pos (starEach [e] X.env)).all (fun x => !x.1) && (backToKw pos (keywordEach [] X.env)).all (fun x => x.1.isSome) && decide ([e].length + ([] : List Keyword).length + (if ([] : List Keyword).isEmpty then 0 else 1) < 30)) = true := by rfl)
    (hline : (apos.endLine == pos.line) = true := by rfl) (hs : starEach [e] X.env = (false, eval e X.env) :: starEach [] X.env := by rfl) (hplain : (backTo pos (starEach [] X.env)).any (·.1) = false := by rfl) :
    PE X (.Call (.Attribute o "index" apos) [e] [] pos) (lift X.K B (qBM pIndex to te)) :=
  weakE (pe_bm PySem.F.plainAttrs_list PySem.F.slot_list_index PySem.F.type_list_index (mt_indexD hu) ho (pa_cons he pa_nil hs) hbase hfew hline hs hplain) fun _ _ _ => lift_bm m_index

/-! ### a star within a display -/
def qStar (te : QE) (t : QA) (ρ : Env) (Q : List W → Env → Prop) : Prop := te ρ fun r ρ1 => match r.w with
  | .d (.list ds) => t ρ1 fun ws ρ2 => Q (ds.map .d ++ ws) ρ2
  | .d (.tuple ds) => t ρ1 fun ws ρ2 => Q (ds.map .d ++ ws) ρ2
  | _ => False
theorem WsOk.app {F : Hp} {σ : St} : ∀ {ds : List D} {vs us : List V} {ws : List W}, RpAll K F vs ds → WsOk K F σ ws us → WsOk K F σ (ds.map .d ++ ws) (vs ++ us)
  | _, _, _, _, .nil, h => h
  | _, _, _, _, .cons r rr, h => .cons r (WsOk.app rr h)
theorem a_star {es : List Expr} {t : QA} {p : Pos} (he : PE X e (lift X.K B te)) (hr : PA X es (liftA X.K B t)) (hs : starEach (.Starred e p :: es) X.env = (true, eval e X.env) :: starEach es X.env := by rfl) : PA X (.Starred e p :: es) (liftA X.K B (qStar te t)) :=
  weakA (StX.pa_star he hr hs) fun σ H Q ⟨G, F, ρ, P, k, h, q⟩ => lift_use k h fun r ρ1 v H1 F1 h1 k1 w1 e1 => by
    split at h1
    · rename_i ds g
      rw [g] at w1
      cases w1 with
      | lst hh rr => exact ⟨_, _, rfl, .inr (.inl (.inl (k1.2.f _ _ hh))), liftA_use k1 h1 fun ws ρ2 vs H2 F2 h2 k2 w2 e2 => q _ ρ2 _ H2 F2 h2 k2 (WsOk.app (rr.mono e2) w2) (e1.trans e2)⟩
    · rename_i ds g
      rw [g] at w1
      cases w1 with
      | tup hh rr => exact ⟨_, _, rfl, .inl (same_t k1.2.f hh), liftA_use k1 h1 fun ws ρ2 vs H2 F2 h2 k2 w2 e2 => q _ ρ2 _ H2 F2 h2 k2 (WsOk.app (rr.mono e2) w2) (e1.trans e2)⟩
    · exact h1.elim
end

/-! ### sorted(set(xs)), xs tuples of ints; len(set(xs)), xs ints -/
def tupI (k : List Int) : D := .tuple (k.map .int)
section
variable {X : Cx} {B : Box} {e : Expr} {te : QE} {p p2 q pos : Pos}
def pSortSet : D → (T → Prop) → Prop
  | .list ds, Q => ∃ (ks : List (List Int)) (d : Nat) (b : Int), ds = ks.map tupI ∧ ks.length < 64 ∧ 1 ≤ d ∧ (∀ k ∈ ks, k.length = d ∧ TS.Bd b k) ∧
    ∀ L : List (List Int), L.Nodup → (∀ k, k ∈ L ↔ k ∈ ks) → L.length < 64 → L.Pairwise (fun q r => TS.code b q ≤ TS.code b r) → Q (.l (L.map tupI))
  | _, _ => False
def qFn (p : D → (T → Prop) → Prop) (te : QE) (ρ : Env) (Q : T → Env → Prop) : Prop := te ρ fun r ρ1 => match r.w.dat ρ1 with
  | some d => p d fun r => Q r ρ1
  | none => False
theorem tups_of {K : PySem.W.Frag} {F : Hp} : ∀ {ks : List (List Int)} {xs : List V}, RpAll K F xs (ks.map tupI) → ∃ as : List (Addr × List Int), as.map (·.2) = ks ∧ xs = as.map (fun p => V.ref p.1) ∧ ∀ p ∈ as, Tq K F p.1 (p.2.map V.int)
  | [], _, .nil => ⟨[], rfl, rfl, fun _ z => nomatch z⟩
  | k :: ks, _, .cons r rr => by
    obtain ⟨as, h1, h2, h3⟩ := tups_of rr
    cases r with
    | tup s t =>
      rename_i a ys
      refine ⟨(a, k) :: as, by simp [h1], by simp [h2], fun p hp => ?_⟩
      rcases List.mem_cons.mp hp with rfl | z
      · rw [t.ints] at s
        exact s
      · exact h3 p z
theorem rp_tups {K : PySem.W.Frag} {F : Hp} : ∀ {L : List (Addr × List Int)}, (∀ p ∈ L, Tq K F p.1 (p.2.map V.int)) → RpAll K F (L.map fun q => V.ref q.1) ((L.map (·.2)).map tupI)
  | [], _ => .nil
  | p :: L, h => .cons (.tup (h p List.mem_cons_self) (rpAll_ints _)) (rp_tups fun q hq => h q (List.mem_cons_of_mem _ hq))
theorem q_sortSet (hc : X.calm = true) (hu : X.A.units + 64 < cLine) (hg : Gl X "sorted") (hm : X.mg "sorted" = none) (hg2 : Gl X "set") (hm2 : X.mg "set" = none) (he : PE X e (lift X.K B te))
    (hs1 : starEach [e] X.env = (false, eval e X.env) :: starEach [] X.env := by rfl) (hs2 : starEach [.Call (.Name "set" p2) [e] [] q] X.env = (false, eval (.Call (.Name "set" p2) [e] [] q) X.env) :: starEach [] X.env := by rfl) :
    PE X (.Call (.Name "sorted" p) [.Call (.Name "set" p2) [e] [] q] [] pos) (lift X.K B (qFn pSortSet te)) :=
  weakE (pe_callB (cr_sortedT hc) hg hm (by rfl) (pa_cons (pe_callTy (cr_setOfT hc hu) hg2 hm2 (by rfl) (pa_cons he pa_nil hs1) (by decide) (by decide) hs1 (by rfl)) pa_nil hs2) (by decide) (by decide) hs2 (by rfl)) fun σ H Q ⟨G, F, ρ, P, k, h, q⟩ => lift_use k h fun r ρ1 v H1 F1 h1 k1 w1 e1 => by
    split at h1
    · rename_i d g
      have rq := k1.read w1 g
      unfold pSortSet at h1
      split at h1
      · obtain ⟨ks, dd, b, rfl, h2, h3, h4, h5⟩ := h1
        obtain ⟨l, xs, rfl, s1, t1⟩ := rq.lst k1.2.f
        obtain ⟨as, rfl, rfl, hT⟩ := tups_of t1
        have hlen : as.length < 64 := by simpa using h2
        refine ⟨l, as, rfl, .inl (.inl s1), fun p hp => same_t k1.2.f (hT p hp), hlen, fun a L ha hsub hall => ?_⟩
        have k2 := k1.dust (o := SetTO X.prog X.w a L) ha
        have s2 : Same H1 (upd H1 a (SetTO X.prog X.w a L)) := same_upd ha
        have hTL : ∀ p ∈ L, Tq X.K F1 p.1 (p.2.map V.int) := fun p hp => hT p (hsub p hp)
        refine ⟨a, L, dd, b, rfl, upd_same, fun p hp => same_t k2.2.f (hTL p hp), h3, fun p hp => h4 p.2 (List.mem_map.mpr ⟨p, hsub p hp, rfl⟩), fun L' y pm nd few pw hy => ?_⟩
        have hTL' : ∀ p ∈ L', Tq X.K F1 p.1 (p.2.map V.int) := fun p hp => hTL p (pm.mem_iff.mp hp)
        refine q _ _ _ _ _ (h5 (L'.map (·.2)) nd (fun z => Iff.intro (fun hz => ?_) (fun hz => ?_)) (by simpa using few) (List.pairwise_map.mpr pw)) (k2.newL hy (rp_tups hTL')) e1
        · obtain ⟨p, hp, rfl⟩ := List.mem_map.mp hz
          exact List.mem_map.mpr ⟨p, hsub p (pm.mem_iff.mp hp), rfl⟩
        · obtain ⟨p, hp, rfl⟩ := List.mem_map.mp hz
          obtain ⟨r, hr, e⟩ := List.mem_map.mp (hall p hp)
          exact List.mem_map.mpr ⟨r, pm.mem_iff.mpr hr, e⟩
      · exact h1.elim
    · exact h1.elim
def pLenSet : D → (T → Prop) → Prop
  | .list ds, Q => ∃ ns : List Int, ds = ns.map .int ∧ ns.length ≤ 4000 ∧ ∀ l : List Int, l.Nodup → (∀ k, k ∈ l ↔ k ∈ ns) → Q (.d (.int (l.length : Nat)))
  | _, _ => False
theorem met_ok (f : Nat → Int) : ∀ n, (PyProof.Rows.firstMet f n).Nodup ∧ ∀ k, k ∈ PyProof.Rows.firstMet f n ↔ ∃ i, i < n ∧ f i = k
  | 0 => ⟨List.nodup_nil, fun k => ⟨(fun z => nomatch z), fun ⟨i, hi, _⟩ => by omega⟩⟩
  | n + 1 => by
    obtain ⟨nd, hm⟩ := met_ok f n
    rw [PyProof.Rows.firstMet_succ]
    unfold PyProof.Rows.step_dedup
    split
    · rename_i hany
      obtain ⟨x, hx, ex⟩ := List.any_eq_true.mp hany
      have ex : x = f n := eq_of_beq ex
      subst ex
      refine ⟨nd, fun k => ⟨fun z => ?_, fun ⟨i, hi, e⟩ => ?_⟩⟩
      · obtain ⟨i, hi, e⟩ := (hm k).mp z
        exact ⟨i, by omega, e⟩
      · by_cases h : i < n
        · exact (hm k).mpr ⟨i, h, e⟩
        · have : i = n := by omega
          subst this
          rw [← e]
          exact hx
    · rename_i hany
      have hn : f n ∉ PyProof.Rows.firstMet f n := fun z => hany (List.any_eq_true.mpr ⟨_, z, beq_self_eq_true _⟩)
      refine ⟨List.nodup_append.mpr ⟨nd, by simp, fun a ha b hb => ?_⟩, fun k => ?_⟩
      · obtain rfl := List.mem_singleton.mp hb
        rintro rfl
        exact hn ha
      · rw [List.mem_append, List.mem_singleton, hm k]
        constructor
        · rintro (⟨i, hi, e⟩ | e)
          · exact ⟨i, by omega, e⟩
          · exact ⟨n, by omega, e.symm⟩
        · rintro ⟨i, hi, e⟩
          by_cases h : i < n
          · exact .inl ⟨i, h, e⟩
          · have : i = n := by omega
            subst this
            exact .inr e.symm
theorem q_lenSet (hc : X.calm = true) (hg : Gl X "len") (hm : X.mg "len" = none) (hg2 : Gl X "set") (hm2 : X.mg "set" = none) (he : PE X e (lift X.K B te)) (na : starEach [e] X.env = (false, eval e X.env) :: starEach [] X.env := by rfl) :
    PE X (.Call (.Name "len" p) [.Call (.Name "set" p2) [e] [] q] [] pos) (lift X.K B (qFn pLenSet te)) := by
  refine ⟨fun pins s σ H Q I h => PyProof.Rows.Call_ (ld_blt I hg hm PySem.boot_len (PyProof.Rows.callWith_builtin1 (PyProof.Rows.args_cons ?_ rfl) rfl rfl))⟩
  obtain ⟨G, F, ρ, P, k, h, qq⟩ := h
  have hE : lift X.K B te σ H fun v H1 => ∃ l, ∃ ns : List Int, v = .ref l ∧ SqL X.K H1 l (ns.map V.int) ∧ ns.length ≤ 4000 ∧ ∀ L : List Int, L.Nodup → (∀ k, k ∈ L ↔ k ∈ ns) → Q (.int (L.length : Nat)) H1 :=
    lift_use k h fun r ρ1 v H1 F1 h1 k1 w1 e1 => by
      split at h1
      · rename_i d g
        have rq := k1.read w1 g
        unfold pLenSet at h1
        split at h1
        · obtain ⟨ns, rfl, h2, h3⟩ := h1
          obtain ⟨l, xs, rfl, s1, t1⟩ := rq.lst k1.2.f
          obtain rfl := t1.ints
          exact ⟨l, ns, rfl, .inl (.inl s1), h2, fun L a b => qq _ _ _ _ _ (h3 L a b) (k1.d (.int _)) e1⟩
        · exact h1.elim
      · exact h1.elim
  refine PyProof.Rows.Call_ (ld_blt I hg2 hm2 PyProof.Rows.boot_set (PyProof.Rows.callWith_type1 (PyProof.Rows.args_cons (thn (he.run pins s σ H _ I hE) fun v s1 ⟨x, H1, I1, r1, q1⟩ => PyProof.Rows.args_nil ?_) na) na rfl))
  obtain ⟨l, ns, rfl, hq, hn, q1⟩ := q1
  cases r1
  obtain ⟨its, rv, pl, hz⟩ := I1.list hq
  have hlen : its.toArray.size = ns.length := by rw [List.size_toArray, ← rv.length, List.length_map]
  refine call_set_list (I1.ok.hd hc) pl.isList (by simpa using RZ.intsAre_vals rv) (by rw [hlen]; unfold scanBound; omega) fun h' tk hS hk => PyProof.Rows.args_nil ?_
  rw [hlen] at hS
  obtain ⟨o, es, ep, t, ho, hex, hd, _, _, _, hf, hw⟩ := hS
  have I2 : Inv X pins σ H1 { s1 with heap := h', toks := tk } := I1.kept fun b o e => hk b o (Heap.lt_size e) e
  have hle := PyProof.Rows.firstMet_length_le (fun i => ns.getD i 0) ns.length
  obtain ⟨nd, hmem⟩ := met_ok (fun i => ns.getD i 0) ns.length
  refine PySem.call_len_set ho hex hd hf (by rw [hw] <;> omega) ⟨.int ((PyProof.Rows.firstMet (fun i => ns.getD i 0) ns.length).length : Nat), H1, I2.tok _, ⟨_, by rw [hw]⟩, q1 _ nd fun z => (hmem z).trans ⟨fun ⟨i, hi, e⟩ => ?_, fun hz => ?_⟩⟩
  · rw [← e]
    simp [List.getD_eq_getElem?_getD, hi]
  · obtain ⟨i, hi, e⟩ := List.mem_iff_getElem.mp hz
    exact ⟨i, hi, by simp [List.getD_eq_getElem?_getD, hi, e]⟩
end
end PL

set_option Elab.async false
set_option linter.all false
set_option maxRecDepth 100000
/-! PL, part 10: calls by keywords and by a star; the law's own end. -/
namespace PL
open PySem PySem.Spec L2
variable [Consts]

/-! ### keywords -/
section
variable {X : Cx} {B : Box} {e : Expr} {kws : List Keyword} {te : QE} {t : QA} {nm : Option Str} {kpos : Pos}
theorem weakK {t t' : TA} (h : PK X kws t) (k : ∀ σ H Q, t' σ H Q → t σ H Q) : PK X kws t' := ⟨fun pos pins s σ H Q I q => h.run pos pins s σ H Q I (k σ H Q q)⟩
theorem k_nil : PK X [] (liftA X.K B qNil) := weakK pk_nil fun σ H Q ⟨G, F, ρ, P, k, h, q⟩ => q [] ρ [] H F h k .nil (Same.refl F)
theorem k_cons (ha : PE X e (lift X.K B te)) (hr : PK X kws (liftA X.K B t)) : PK X (⟨nm, e, kpos⟩ :: kws) (liftA X.K B (qCons te t)) :=
  weakK (pk_cons ha hr) fun σ H Q ⟨G, F, ρ, P, k, h, q⟩ => lift_use k h fun r1 ρ1 v1 H1 F1 h1 k1 w1 e1 => liftA_use k1 h1 fun ws ρ2 vs H2 F2 h2 k2 w2 e2 => q _ ρ2 (v1 :: vs) H2 F2 h2 k2 (.cons (w1.mono e2) w2) (e1.trans e2)
/-- picked by place -/
def pickL {α : Type} (d : α) (is : List Nat) (xs : List α) : List α := is.map fun i => xs.getD i d
def ordK {α : Type} (d : α) (n m : Nat) (is : List Nat) (us ws : List α) : List α := if us.length = n ∧ ws.length = m then pickL d is (us ++ ws) else []
theorem vals_pick {vs : List V} {us : List Value} (r : Vals vs us) : ∀ is : List Nat, Vals (pickL V.non is vs) (pickL Value.none is us)
  | [] => .nil
  | i :: is => by
    refine .cons ?_ (vals_pick r is)
    cases h : vs[i]? with
    | none =>
      have hl := List.getElem?_eq_none_iff.mp h
      have h2 : us[i]? = none := List.getElem?_eq_none (by rw [← r.length]; exact hl)
      simp only [List.getD_eq_getElem?_getD, h, h2]
      exact rfl
    | some v =>
      obtain ⟨u, hu, ru⟩ := r.get h
      simp only [List.getD_eq_getElem?_getD, h, hu]
      exact ru
structure KB (K : PySem.W.Frag) (fd : FuncData) (ps ks : List Str) (n : Nat) (is : List Nat) : Prop where
  kb : KBinds K fd ps ks (ordK .none n ks.length is) (ordK .non n ks.length is)
theorem KB.mk' {K : PySem.W.Frag} {fd : FuncData} {ps ks : List Str} {n : Nat} {is : List Nat} (hp : ps ≠ []) (h : ∀ us ws : List Value, us.length = n → ws.length = ks.length → bindArgs fd ⟨us, ks.zip ws⟩ = pure (ps.zip (pickL .none is (us ++ ws)))) : KB K fd ps ks n is := by
  refine ⟨⟨fun s us ws _ hl => ?_, fun {vs us zs ws} r rz => ?_⟩⟩
  · unfold ordK at hl ⊢
    split
    · rename_i hc
      exact .of_eq (h us ws hc.1 hc.2)
    · rename_i hc
      rw [if_neg hc] at hl
      exact (hp (List.eq_nil_of_length_eq_zero hl.symm)).elim
  · unfold ordK
    rw [r.length, rz.length]
    split
    · exact vals_pick (r.append rz) is
    · exact .nil
theorem funKB {K : PySem.W.Frag} {x qual : Str} {st : Stmt} {f : Addr} {fd : FuncData} {ps ks : List Str} {n : Nat} {is : List Nat} (F : Fun K x qual st f fd) (hp : ps ≠ [])
    (h : ∀ (kV doc pm : Value) (an : Option Addr) (cdv ct : Value) (us ws : List Value), us.length = n → ws.length = ks.length → bindArgs (PySem.W.fnOf x qual (defArgs st) (defBody st) (defScope st) .none kV doc pm an cdv ct) ⟨us, ks.zip ws⟩ = pure (ps.zip (pickL .none is (us ++ ws)))) : KB K fd ps ks n is := by
  obtain ⟨oc, od, kV, doc, pm, an, cdv, ct, osl, rfl, lk, hcd⟩ := F.ex
  exact KB.mk' hp (h kV doc pm an cdv ct)
variable {CX : CXT} {kk : Nat} {f : Addr} {fd : FuncData} {ps ks : List Str} {n n0 : Nat} {is : List Nat} {φ : List T → (T → Prop) → Prop} {E : XK} {x : Str} {p pos : Pos}
def qKw (n m : Nat) (is : List Nat) (t tk : QA) (ρ : Env) (Q : List W → Env → Prop) : Prop := t ρ fun ws ρ1 => tk ρ1 fun zs ρ2 => (ws.length = n ∧ zs.length = m) ∧ Q (pickL .no is (ws ++ zs)) ρ2
theorem WsOk.append {K : PySem.W.Frag} {F : Hp} {σ : St} : ∀ {ws zs : List W} {vs us : List V}, WsOk K F σ ws vs → WsOk K F σ zs us → WsOk K F σ (ws ++ zs) (vs ++ us)
  | _, _, _, _, .nil, h => h
  | _, _, _, _, .cons r rr, h => .cons r (WsOk.append rr h)
theorem WsOk.length {K : PySem.W.Frag} {F : Hp} {σ : St} : ∀ {ws : List W} {vs : List V}, WsOk K F σ ws vs → ws.length = vs.length
  | _, _, .nil => rfl
  | _, _, .cons r rr => congrArg (· + 1) (WsOk.length rr)
theorem WsOk.get {K : PySem.W.Frag} {F : Hp} {σ : St} : ∀ {ws : List W} {vs : List V} (i : Nat), WsOk K F σ ws vs → WOk K F σ (ws.getD i .no) (vs.getD i .non)
  | _, _, _, .nil => trivial
  | _, _, 0, .cons r rr => r
  | _, _, i + 1, .cons r rr => by simpa using WsOk.get i rr
theorem WsOk.pick {K : PySem.W.Frag} {F : Hp} {σ : St} {ws : List W} {vs : List V} (h : WsOk K F σ ws vs) : ∀ is : List Nat, WsOk K F σ (pickL .no is ws) (pickL .non is vs)
  | [] => .nil
  | i :: is => .cons (h.get i) (WsOk.pick h is)
theorem lift_kw {tk : QA} {n m : Nat} {σ : St} {H : Hp} {Q : List V → Hp → Prop} (h : liftA X.K B (qKw n m is t tk) σ H Q) : liftA X.K B t σ H fun vs H1 => liftA X.K B tk σ H1 fun zs H2 => Q (ordK .non n m is vs zs) H2 := by
  obtain ⟨G, F, ρ, P, k, h, q⟩ := h
  refine liftA_use k h fun ws ρ1 vs H1 F1 h1 k1 w1 e1 => liftA_use k1 h1 fun zs ρ2 us H2 F2 h2 k2 w2 e2 => ?_
  obtain ⟨⟨l1, l2⟩, h3⟩ := h2
  unfold ordK
  rw [if_pos ⟨w1.length.symm.trans l1, w2.length.symm.trans l2⟩]
  exact q _ _ _ _ _ h3 k2 (((w1.mono e2).append w2).pick is) (e1.trans e2)
/-- f(k = v, ..) -/
theorem q_callK0 {tk : QA} (F : FnA X.prog X.w X.K X.mg X.base CX X.A f fd ps (spP X.K B.bare n φ)) (hn : ∀ ts P, φ ts P → ts.length = n) (hg : Gl X x) (hm : X.mg x = some (.ref f)) (hk : PySem.W.keepIn X.K (.ref f) = true) (hb : KB X.K fd ps ks 0 is) (hx : Passes CX X E)
    (hkw : PK X kws (liftA X.K B tk)) (hall : (backToKw pos (keywordEach kws X.env)).all (·.1.isSome) = true := by rfl) (hks : (backToKw pos (keywordEach kws X.env)).filterMap (·.1) = ks := by rfl) (hdb : (x == ("__debug__" : Str)) = false := by decide)
    (hpl : ((backTo pos (starEach [] X.env)).any (·.1) || (backToKw pos (keywordEach kws X.env)).any (·.1.isNone)) = false := by rfl) :
    PE X (.Call (.Name x p) [] kws pos) (lift X.K B (qCallF φ (qKw 0 ks.length is qNil tk))) := by
  refine ⟨fun pins s σ H Q I h => ?_⟩
  have h' := lift_kw (lift_callF (E := E) hn h)
  obtain ⟨G, F0, ρ, P, k, hP, q⟩ := h'
  have h2 := q [] ρ [] H F0 hP k .nil (Same.refl F0)
  refine wpAny_Call_Name_kw (ld_glob I hg hm (PySem.W.callWith_KW0 (h₀ := X.base) I.ok.mod.kin hk hall ?_ hpl) hdb)
  refine thn (hkw.run pos pins s σ H _ I h2) fun ws s2 ⟨zs, H2, I2, rz, q2⟩ => ⟨I2.kIn, ?_⟩
  rw [hks]
  have q3 : spP X.K B.bare n φ (ordK V.non 0 ks.length is [] zs) H2 Q E := by
    have z : spP X.K B.bare n φ (ordK V.non 0 ks.length is [] zs ++ []) H2 Q E := q2
    rw [List.append_nil] at z
    exact z
  exact kwA (us := []) (vs := []) F hb.kb hx I2 .nil rz q3
/-- f(e, .., k = v, ..) -/
theorem q_callK {a : Expr} {es : List Expr} {tk : QA} (F : FnA X.prog X.w X.K X.mg X.base CX X.A f fd ps (spP X.K B.bare n φ)) (hn : ∀ ts P, φ ts P → ts.length = n) (hg : Gl X x) (hm : X.mg x = some (.ref f)) (hk : PySem.W.keepIn X.K (.ref f) = true) (hb : KB X.K fd ps ks n0 is) (hx : Passes CX X E)
    (ha : PA X (a :: es) (liftA X.K B t)) (hkw : PK X kws (liftA X.K B tk)) (hall : (backToKw pos (keywordEach kws X.env)).all (·.1.isSome) = true := by rfl) (hks : (backToKw pos (keywordEach kws X.env)).filterMap (·.1) = ks := by rfl) (hdb : (x == ("__debug__" : Str)) = false := by decide)
    (he : starEach (a :: es) X.env = (false, eval a X.env) :: starEach es X.env := by rfl) (hpl : ((backTo pos (starEach (a :: es) X.env)).any (·.1) || (backToKw pos (keywordEach kws X.env)).any (·.1.isNone)) = false := by rfl) :
    PE X (.Call (.Name x p) (a :: es) kws pos) (lift X.K B (qCallF φ (qKw n0 ks.length is t tk))) :=
  weakE (pe_callKA F hg hm hk hb.kb hx ha hkw hall hks hdb he hpl) fun σ H Q h => by
    have h' := lift_kw (lift_callF (E := E) hn h)
    simp only [List.append_nil] at h'
    exact h'
/-- f(*e) -/
theorem q_callS {sp_ : Pos} (F : FnA X.prog X.w X.K X.mg X.base CX X.A f fd ps (spP X.K B.bare n φ)) (hn : ∀ ts P, φ ts P → ts.length = n) (hg : Gl X x) (hm : X.mg x = some (.ref f)) (hk : PySem.W.keepIn X.K (.ref f) = true) (hb : Binds X.K fd ps []) (hx : Passes CX X E)
    (he : PE X e (lift X.K B te)) (hd : (x == ("__debug__" : Str)) = false := by decide) (hst : starEach [.Starred e sp_] X.env = [(true, eval e X.env)] := by rfl) :
    PE X (.Call (.Name x p) [.Starred e sp_] [] pos) (lift X.K B (qCallF φ (qStar te qNil))) :=
  weakE (pe_callSA F hb hk hg hm hx he hd hst) fun σ H Q h => by
    obtain ⟨G, F0, ρ, P, k, h, q⟩ := lift_callF (E := E) hn h
    refine lift_use k h fun r ρ1 v H1 F1 h1 k1 w1 e1 => ?_
    split at h1
    · rename_i ds g
      rw [g] at w1
      cases w1 with
      | lst hh rr => exact ⟨_, _, rfl, .inr (.inl (.inl (k1.2.f _ _ hh))), by have z := q _ _ _ _ _ h1 k1 (WsOk.app rr .nil) e1; rw [List.append_nil, List.append_nil] at z; exact z⟩
    · rename_i ds g
      rw [g] at w1
      cases w1 with
      | tup hh rr => exact ⟨_, _, rfl, .inl (same_t k1.2.f hh), by have z := q _ _ _ _ _ h1 k1 (WsOk.app rr .nil) e1; rw [List.append_nil, List.append_nil] at z; exact z⟩
    · exact h1.elim
end

/-! ### the law's own end: its def is called where no repr is under way -/
section
open PyProof.Rows
variable {P : Program} {w : World} {K : PySem.W.Frag} {mg mb : Str → Option Value} {base : Heap}
/-- a def's promise, told where it is called at callerA -/
def RunAt (P : Program) (w : World) (K : PySem.W.Frag) (mg : Str → Option Value) (base : Heap) (CX : CXT) (f : Addr) (sp : Sp) : Prop :=
  ∀ (s : Shared) (H : Hp) (a : Addr) (Q : VK) (E : XK), Env0 P w K mg base callerA [] s H → sp [.ref a] H Q E → codeAny (model P w) callerA (.call (.ref f) ⟨[.ref a], []⟩) (CR CX [] P w H s Q E) s
theorem lawCall {CX : CXT} {fa a : Addr} {sp : Sp} {s₁ : Shared} {vs : List Value} {ns : List Int}
    (KX : K.In s₁.heap) (hns : s₁.heap.Ns mainGlobals mg) (hb : s₁.heap.Ns builtinsNs mb) (hbb : ∀ x : Str, x ≠ "__name__" → mb x = bootBuiltins x) (nl : s₁.heap.NoLimit) (hg : s₁.gens = #[])
    (ha : s₁.heap.get? a = some { cls := .type "list", data := .seq vs.toArray }) (hi : IntsAre vs ns) (hl : ns.length ≤ sizeLine)
    (F : ∀ base : Heap, K.In base → base.Ns mainGlobals mg → RunAt P w K mg base CX fa sp)
    (hsp : ∀ H : Hp, Only H → SqL K H a (ns.map V.int) → sp [.ref a] H (fun v _ => v = .bl true) fun _ _ _ => False) (hCX : ∀ H e s', CX [] H s₁ (fun _ _ _ => False) e s' → False) :
    codeAny (model P w) callerA (.call (.ref fa) ⟨[.ref a], []⟩) (fun r s' => r = .ok (.ret (.bool true)) ∧ OldK s₁.heap s'.heap ∧ s'.os = s₁.os ∧ AllBare s'.gens) s₁ := by
  have rv := vals_ints hi
  have hlen := hi.length
  have go : ∀ H : Hp, Only H → SqL K H a (ns.map V.int) → HOk P w H s₁.heap → (∀ b, H b ≠ none → b = a ∧ K.lookup a = none) →
      codeAny (model P w) callerA (.call (.ref fa) ⟨[.ref a], []⟩) (fun r s' => r = .ok (.ret (.bool true)) ∧ OldK s₁.heap s'.heap ∧ s'.os = s₁.os ∧ AllBare s'.gens) s₁ := by
    intro H only sq hok hA
    have keepD : ∀ {b : Addr} {m : Str → Option Value}, s₁.heap.Ns b m → (hidT s₁.heap H).Ns b m := fun {b m} ⟨o, es, ep, e, d, z⟩ => by
      refine ⟨o, es, ep, hidT_get e ?_, d, z⟩
      cases q : H b with
      | none => rfl
      | some u =>
        obtain ⟨rfl, _⟩ := hA b (by rw [q]; exact fun z => nomatch z)
        rw [ha] at e
        cases e
        exact nomatch d
    have inK : K.In (hidT s₁.heap H) := fun b o e => by
      refine hidT_get (KX b o e) ?_
      cases q : H b with
      | none => rfl
      | some u =>
        obtain ⟨rfl, n⟩ := hA b (by rw [q]; exact fun z => nomatch z)
        rw [n] at e
        cases e
    obtain ⟨mc, n1, n2⟩ := nl
    have e0 : Env0 P w K mg (hidT s₁.heap H) callerA [] s₁ H := ⟨rfl, ⟨inK, keepD hns, ⟨mb, keepD hb, hbb⟩, ⟨mc, keepD n1, n2⟩⟩, fun b o e => of_hidT e, Nat.le_of_eq (hidT_size _ _), trivial, (fun b z => nomatch z), hok, .of_eq hg⟩
    refine codeAny_mono (F _ inK (keepD hns) s₁ H a _ _ e0 (hsp H only sq)) fun r s' h => ?_
    match r, h with
    | .error e, h => exact (hCX H e s' h).elim
    | .ok (.ret u), h =>
      obtain ⟨v, H', os, bare, un, hok', r', q⟩ := h
      obtain rfl : v = .bl true := q
      obtain rfl : u = Value.bool true := r'
      refine ⟨rfl, OldK.of_keep fun b o e => ?_, os, bare⟩
      rcases only b with z | z
      · exact un.keep b o e z (List.not_mem_nil) (List.not_mem_nil)
      · obtain ⟨ob, xs, z⟩ := z
        have g1 := (hok b _ z).1
        rw [e] at g1
        cases g1
        exact (hok' b _ (un.frzs b _ _ z)).1
    | .ok .next, h => exact False.elim h
    | .ok .brk, h => exact False.elim h
    | .ok .cont, h => exact False.elim h
  cases hk : K.lookup a with
  | some o =>
    have e := KX a o hk
    rw [ha] at e
    cases e
    exact go (fun _ => none) (fun _ => .inl rfl) (.inr ⟨_, vs.toArray, _, hk, rfl, rfl, rfl, by rw [List.size_toArray, hlen]; exact hl, by simpa using rv⟩) (fun b u z => nomatch z) fun b z => (z rfl).elim
  | none =>
    have at_ : ∀ b, (if b = a then some (HO.frz { cls := .type "list", data := .seq vs.toArray } (.lst (ns.map V.int))) else none) ≠ none → b = a := fun b z => by
      by_cases h : b = a
      · exact h
      · rw [if_neg h] at z
        exact (z rfl).elim
    refine go (fun b => if b = a then some (.frz { cls := .type "list", data := .seq vs.toArray } (.lst (ns.map V.int))) else none) (fun b => ?_) (.inl (.inr ⟨_, if_pos rfl⟩)) (fun b u z => ?_) fun b z => ⟨at_ b z, hk⟩
    · by_cases h : b = a
      · exact .inr ⟨_, _, if_pos h⟩
      · exact .inl (if_neg h)
    · obtain rfl := at_ b (by intro q; exact nomatch (z.symm.trans q))
      have z' := (if_pos rfl).symm.trans z
      cases z'
      exact ⟨ha, by rw [List.length_map]; exact hl, vs, _, rv, ha⟩
end
/-- the head's goal, the law told where it is called -/
theorem walkAt {l : PySem.W.OpenLaw} {n : Nat} {q : Program} {loose : List Str} {XP : (Str → Option Value) → Heap → Prop} {YP : World → Heap → Prop} {d : DefRec} {K : Params → PySem.W.Frag} {CX : World → CXT} {sp : World → Sp}
    (hn : l.most = some n) (hn2 : n ≤ sizeLine) (hdf : d.params.defaults = []) (hY : ∀ (w : World) (h : Heap), YP w h → (K w.params).In h)
    (F : ∀ (w : World) (mg : Str → Option Value) (fa : Addr) (h : Heap), (K w.params).In h → h.Ns mainGlobals mg → mg d.name = some (.ref fa) → ∀ base : Heap, (K w.params).In base → base.Ns mainGlobals mg → RunAt l.prog w (K w.params) mg base (CX w) fa (sp w))
    (hsp : ∀ (w : World) (H : Hp) (a : Addr) (ns : List Int), ns.length ≤ n → Only H → SqL (K w.params) H a (ns.map V.int) → sp w [.ref a] H (fun v _ => v = .bl true) fun _ _ _ => False)
    (hCX : ∀ (w : World) (H : Hp) (s : Shared) (e : Value) (s' : Shared), CX w [] H s (fun _ _ _ => False) e s' → False) : PySem.W.WalkO q loose XP YP l.row.toRowW d [] (fun f vs => PySem.call f vs) := by
  refine Att.attach_call hn hdf fun w s₀ s₁ mg mb fa o pm cd doc a vs ns G Y ho hd hcd hmg hobj hints hlen hg => ?_
  have KX := hY w _ Y
  exact lawCall KX G.T.g G.T.b G.T.builtins G.T.nolimit hg hobj hints (Nat.le_trans hlen hn2) (F w mg fa _ KX G.T.g hmg) (fun H hO hS => hsp w H a ns hlen hO hS) fun H e s' => hCX w H s₁ e s'
end PL

set_option Elab.async false
set_option linter.all false
set_option maxRecDepth 100000
/-! PL, part 11: defs as bundles; facts about data; texts as lists of signs. -/
namespace PL
open PySem PySem.Spec L2
variable [Consts]

/-- a def of the text, by data: where it stands, how it binds, what it promises -/
structure Cal (P : Program) (w : World) (K : PySem.W.Frag) (mg : Str → Option Value) (base : Heap) (B : Box) (k : Nat) (x : Str) (ps : List Str) (n : Nat) (φ : List T → (T → Prop) → Prop) : Prop where
  ex : ∃ f fd, mg x = some (.ref f) ∧ PySem.W.keepIn K (.ref f) = true ∧ Binds K fd ps [] ∧ FnG P w K mg base CX0 k f fd ps (spP K B.bare n φ)
  len : ∀ ts Q, φ ts Q → ts.length = n
theorem Cal.to {P : Program} {w : World} {K : PySem.W.Frag} {mg : Str → Option Value} {base : Heap} {B B' : Box} {k : Nat} {x : Str} {ps : List Str} {n : Nat} {φ : List T → (T → Prop) → Prop} (c : Cal P w K mg base B k x ps n φ) (h : B.bare = B'.bare) : Cal P w K mg base B' k x ps n φ := ⟨h ▸ c.ex, c.len⟩
/-- the same, called by keywords -/
structure CalK (P : Program) (w : World) (K : PySem.W.Frag) (mg : Str → Option Value) (base : Heap) (B : Box) (k : Nat) (x : Str) (ps : List Str) (n : Nat) (φ : List T → (T → Prop) → Prop) (ks : List Str) (n0 : Nat) (is : List Nat) : Prop where
  ex : ∃ f fd, mg x = some (.ref f) ∧ PySem.W.keepIn K (.ref f) = true ∧ KB K fd ps ks n0 is ∧ FnG P w K mg base CX0 k f fd ps (spP K B.bare n φ)
  len : ∀ ts Q, φ ts Q → ts.length = n
theorem CalK.to {P : Program} {w : World} {K : PySem.W.Frag} {mg : Str → Option Value} {base : Heap} {B B' : Box} {k : Nat} {x : Str} {ps ks : List Str} {n n0 : Nat} {is : List Nat} {φ : List T → (T → Prop) → Prop} (c : CalK P w K mg base B k x ps n φ ks n0 is) (h : B.bare = B'.bare) : CalK P w K mg base B' k x ps n φ ks n0 is := ⟨h ▸ c.ex, c.len⟩
section
variable {X : Cx} {B : Box} {kk n n0 : Nat} {x : Str} {ps ks : List Str} {is : List Nat} {φ : List T → (T → Prop) → Prop} {E : XK} {p pos : Pos} {e : Expr} {es : List Expr} {te : QE} {t tk : QA} {kws : List Keyword}
theorem q_cF (C : Cal X.prog X.w X.K X.mg X.base B kk x ps n φ) (hr : RoomG kk X.A) (hg : Gl X x) (ha : PA X (e :: es) (liftA X.K B t)) (hx : Passes CX0 X E := by exact pass0) (hd : (x == ("__debug__" : Str)) = false := by decide) (he : starEach (e :: es) X.env = (false, eval e X.env) :: starEach es X.env := by rfl) (hpl : (backTo pos (starEach es X.env)).any (·.1) = false := by rfl) :
    PE X (.Call (.Name x p) (e :: es) [] pos) (lift X.K B (qCallF φ t)) :=
  let ⟨_, _, h1, h2, h3, h4⟩ := C.ex
  q_callF (h4 X.A hr) C.len hg h1 h2 h3 hx ha hd he hpl
theorem q_cU {i : Nat} {y : Str} {py : Pos} (C : Cal X.prog X.w X.K X.mg X.base B kk x ps n φ) (hr : RoomG kk X.A) (hg : Gl X x) (hv : PE X (.Name y py) (tVar i)) (ha : PA X es (liftA X.K B t)) (hx : Passes CX0 X E := by exact pass0) (hd : (x == ("__debug__" : Str)) = false := by decide) (hs : starEach (.Name y py :: es) X.env = (false, eval (.Name y py) X.env) :: starEach es X.env := by rfl) (hpl : (backTo pos (starEach es X.env)).any (·.1) = false := by rfl) :
    PE X (.Call (.Name x p) (.Name y py :: es) [] pos) (lift X.K B (qCallB i φ t)) :=
  let ⟨_, _, h1, h2, h3, h4⟩ := C.ex
  q_callU (h4 X.A hr) C.len hg h1 h2 h3 hx hv ha hd hs hpl
theorem q_cS {sp_ : Pos} (C : Cal X.prog X.w X.K X.mg X.base B kk x ps n φ) (hr : RoomG kk X.A) (hg : Gl X x) (he : PE X e (lift X.K B te)) (hx : Passes CX0 X E := by exact pass0) (hd : (x == ("__debug__" : Str)) = false := by decide) (hst : starEach [.Starred e sp_] X.env = [(true, eval e X.env)] := by rfl) :
    PE X (.Call (.Name x p) [.Starred e sp_] [] pos) (lift X.K B (qCallF φ (qStar te qNil))) :=
  let ⟨_, _, h1, h2, h3, h4⟩ := C.ex
  q_callS (h4 X.A hr) C.len hg h1 h2 h3 hx he hd hst
theorem q_cK0 (C : CalK X.prog X.w X.K X.mg X.base B kk x ps n φ ks 0 is) (hr : RoomG kk X.A) (hg : Gl X x) (hkw : PK X kws (liftA X.K B tk)) (hx : Passes CX0 X E := by exact pass0) (hall : (backToKw pos (keywordEach kws X.env)).all (·.1.isSome) = true := by rfl) (hks : (backToKw pos (keywordEach kws X.env)).filterMap (·.1) = ks := by rfl) (hdb : (x == ("__debug__" : Str)) = false := by decide)
    (hpl : ((backTo pos (starEach [] X.env)).any (·.1) || (backToKw pos (keywordEach kws X.env)).any (·.1.isNone)) = false := by rfl) :
    PE X (.Call (.Name x p) [] kws pos) (lift X.K B (qCallF φ (qKw 0 ks.length is qNil tk))) :=
  let ⟨_, _, h1, h2, h3, h4⟩ := C.ex
  q_callK0 (h4 X.A hr) C.len hg h1 h2 h3 hx hkw hall hks hdb hpl
theorem q_cK (C : CalK X.prog X.w X.K X.mg X.base B kk x ps n φ ks n0 is) (hr : RoomG kk X.A) (hg : Gl X x) (ha : PA X (e :: es) (liftA X.K B t)) (hkw : PK X kws (liftA X.K B tk)) (hx : Passes CX0 X E := by exact pass0) (hall : (backToKw pos (keywordEach kws X.env)).all (·.1.isSome) = true := by rfl) (hks : (backToKw pos (keywordEach kws X.env)).filterMap (·.1) = ks := by rfl) (hdb : (x == ("__debug__" : Str)) = false := by decide)
    (he : starEach (e :: es) X.env = (false, eval e X.env) :: starEach es X.env := by rfl) (hpl : ((backTo pos (starEach (e :: es) X.env)).any (·.1) || (backToKw pos (keywordEach kws X.env)).any (·.1.isNone)) = false := by rfl) :
    PE X (.Call (.Name x p) (e :: es) kws pos) (lift X.K B (qCallF φ (qKw n0 ks.length is t tk))) :=
  let ⟨_, _, h1, h2, h3, h4⟩ := C.ex
  q_callK (h4 X.A hr) C.len hg h1 h2 h3 hx ha hkw hall hks hdb he hpl
theorem q_gI {i : Int} (hg : Gl X x) (hm : ∃ t, X.mg x = some (.int i t)) (hd : (x == ("__debug__" : Str)) = false := by decide) : PE X (.Name x pos) (lift X.K B (qC (.int i))) :=
  let ⟨t, h⟩ := hm
  weakE (pe_glob (v := .int i) hg h ⟨t, rfl⟩ hd) fun _ _ _ => lift_c fun _ => .int i
end

/-! ### data that can be laid, of a small depth -/
def Lay (k : Nat) (d : D) : Prop := d.canLay0 = true ∧ d.depth ≤ k
theorem lay_all {k : Nat} : ∀ {ds : List D}, (∀ d ∈ ds, Lay k d) → PyData.canLayAll0 ds = true ∧ PyData.depthAll ds ≤ k
  | [], _ => ⟨rfl, Nat.zero_le _⟩
  | d :: ds, h => by
    obtain ⟨h1, h2⟩ := h d List.mem_cons_self
    obtain ⟨h3, h4⟩ := lay_all fun e he => h e (List.mem_cons_of_mem _ he)
    exact ⟨by simp [PyData.canLayAll0, h1, h3], by simp only [PyData.depthAll]; omega⟩
theorem lay_list {k : Nat} {ds : List D} (h : ∀ d ∈ ds, Lay k d) : Lay (k + 1) (.list ds) := by
  obtain ⟨h1, h2⟩ := lay_all h
  exact ⟨by simpa [PyData.canLay0] using h1, by simp only [PyData.depth]; omega⟩
theorem lay_tup {k : Nat} {ds : List D} (h : ∀ d ∈ ds, Lay k d) : Lay (k + 1) (.tuple ds) := by
  obtain ⟨h1, h2⟩ := lay_all h
  exact ⟨by simpa [PyData.canLay0] using h1, by simp only [PyData.depth]; omega⟩
theorem lay_int {k : Nat} (i : Int) : Lay k (.int i) := ⟨by simp [PyData.canLay0], by simp [PyData.depth]⟩
theorem lay_bool {k : Nat} (i : Bool) : Lay k (.bool i) := ⟨by simp [PyData.canLay0], by simp [PyData.depth]⟩
theorem lay_none {k : Nat} : Lay k .none := ⟨by simp [PyData.canLay0], by simp [PyData.depth]⟩
theorem lay_str {k : Nat} {x : Str} (h : PyData.strOk x = true) : Lay k (.str x) := ⟨by simpa [PyData.canLay0] using h, by simp [PyData.depth]⟩
theorem Lay.mono {k k' : Nat} {d : D} (h : Lay k d) (hk : k ≤ k') : Lay k' d := ⟨h.1, Nat.le_trans h.2 hk⟩
theorem Lay.shaped {k : Nat} {d : D} (h : Lay k d) (hk : k ≤ 64 := by decide) : SeqAt.shaped d = true := by
  simp [SeqAt.shaped, h.1, Nat.le_trans h.2 hk]
theorem Lay.nod {k : Nat} {d : D} (h : Lay k d) : nod d = true := nod_of d h.1
mutual
theorem noDict_of : ∀ d : D, d.canLay0 = true → d.hasDict = false
  | .none, _ => by simp only [PyData.hasDict]
  | .bool _, _ => by simp only [PyData.hasDict]
  | .int _, _ => by simp only [PyData.hasDict]
  | .str _, _ => by simp only [PyData.hasDict]
  | .list xs, h => by simpa [PyData.hasDict] using noDictAll_of xs (by simpa [PyData.canLay0] using h)
  | .tuple xs, h => by simpa [PyData.hasDict] using noDictAll_of xs (by simpa [PyData.canLay0] using h)
  | .dict _, h => by simp [PyData.canLay0] at h
theorem noDictAll_of : ∀ xs : List D, PyData.canLayAll0 xs = true → PyData.hasDictAll xs = false
  | [], _ => by simp only [PyData.hasDictAll]
  | x :: xs, h => by
    have h' : x.canLay0 = true ∧ PyData.canLayAll0 xs = true := by simpa [PyData.canLayAll0] using h
    simp only [PyData.hasDictAll, noDict_of x h'.1, noDictAll_of xs h'.2, Bool.or_self]
end
/-! data without bools: == is equality -/
mutual
def nob : D → Bool
  | .bool _ => false
  | .dict _ => false
  | .list xs => nobAll xs
  | .tuple xs => nobAll xs
  | _ => true
def nobAll : List D → Bool
  | [] => true
  | x :: xs => nob x && nobAll xs
end
mutual
theorem eqv_iff : ∀ d e : D, nob d = true → nob e = true → (PyData.eqv d e = true ↔ d = e)
  | .none, e, _, he => by cases e <;> simp [PyData.eqv, nob] at he ⊢
  | .int i, e, _, he => by cases e <;> simp [PyData.eqv, nob] at he ⊢
  | .str i, e, _, he => by cases e <;> simp [PyData.eqv, nob] at he ⊢
  | .list xs, e, h, he => by
    cases e <;> simp [PyData.eqv, nob] at he h ⊢
    exact eqvAll_iff _ _ h he
  | .tuple xs, e, h, he => by
    cases e <;> simp [PyData.eqv, nob] at he h ⊢
    exact eqvAll_iff _ _ h he
  | .bool _, _, h, _ => by simp [nob] at h
  | .dict _, _, h, _ => by simp [nob] at h
theorem eqvAll_iff : ∀ ds es : List D, nobAll ds = true → nobAll es = true → (PyData.eqvAll ds es = true ↔ ds = es)
  | [], [], _, _ => by simp [PyData.eqvAll]
  | [], _ :: _, _, _ => by simp [PyData.eqvAll]
  | _ :: _, [], _, _ => by simp [PyData.eqvAll]
  | d :: ds, e :: es, h, he => by
    simp only [nobAll, Bool.and_eq_true] at h he
    simp only [PyData.eqvAll, Bool.and_eq_true, List.cons.injEq]
    rw [eqv_iff d e h.1 he.1, eqvAll_iff ds es h.2 he.2]
end
theorem nobAll_iff : ∀ {ds : List D}, nobAll ds = true ↔ ∀ d ∈ ds, nob d = true
  | [] => by simp [nobAll]
  | d :: ds => by simp [nobAll, nobAll_iff (ds := ds)]
theorem eqv_eq {d e : D} (h : nob d = true) (he : nob e = true) [Decidable (d = e)] : PyData.eqv d e = decide (d = e) := by
  rw [Bool.eq_iff_iff, eqv_iff d e h he]
  simp
/-! ### ints in lists -/
def nats (ns : List Nat) : List D := ns.map fun n => .int (n : Nat)
theorem nob_nats (ns : List Nat) : nobAll (nats ns) = true := nobAll_iff.mpr fun d h => by
  obtain ⟨n, _, rfl⟩ := List.mem_map.mp h
  simp [nob]
theorem lay_nats {k : Nat} (ns : List Nat) : ∀ d ∈ nats ns, Lay k d := fun d h => by
  obtain ⟨n, _, rfl⟩ := List.mem_map.mp h
  exact lay_int _
theorem nats_inj : ∀ {a b : List Nat}, nats a = nats b → a = b
  | [], [], _ => rfl
  | [], _ :: _, h => by simp [nats] at h
  | _ :: _, [], h => by simp [nats] at h
  | x :: a, y :: b, h => by
    simp only [nats, List.map_cons, List.cons.injEq, PyData.int.injEq] at h
    obtain ⟨h1, h2⟩ := h
    have h3 : a = b := nats_inj h2
    subst h3
    have : x = y := by omega
    rw [this]
/-- one of a list of ints: by value -/
theorem any_nats (ns : List Nat) (n : Nat) : ((nats ns).any fun z => PyData.eqv z (.int (n : Nat))) = decide (n ∈ ns) := by
  rw [Bool.eq_iff_iff, List.any_eq_true, decide_eq_true_eq]
  constructor
  · rintro ⟨z, hz, e⟩
    obtain ⟨m, hm, rfl⟩ := List.mem_map.mp hz
    simp [PyData.eqv] at e
    have : m = n := by omega
    rw [← this]
    exact hm
  · intro h
    exact ⟨.int (n : Nat), List.mem_map.mpr ⟨n, h, rfl⟩, by simp [PyData.eqv]⟩
theorem nats_get {ns : List Nat} {i n : Nat} (h : ns[i]? = some n) : (nats ns)[i]? = some (.int (n : Nat)) := by simp [nats, h]
/-! ### texts -/
theorem sg_tl (l : List Nat) : (sg l).cps.toList = l := rfl
theorem sg_of (x : Str) : sg x.cps.toList = x := rfl
theorem sg_len (l : List Nat) : (sg l).length = l.length := by simp [sg, Str.length]
theorem sg_app (a b : List Nat) : sg a ++ sg b = sg (a ++ b) := TL.ext_tl (by rw [TL.tl_append]; rfl)
theorem sg_inj {a b : List Nat} (h : sg a = sg b) : a = b := congrArg (fun x : Str => x.cps.toList) h
theorem sg_ok {l : List Nat} (h : ∀ c ∈ l, c < 0x110000) : PyData.strOk (sg l) = true := by
  unfold PyData.strOk sg
  simp only [List.all_toArray, List.all_eq_true, decide_eq_true_eq]
  exact h
theorem sg_signs (l : List Nat) : signsD (sg l) = l.map fun c => .str (sg [c]) := by simp [signsD, sg]
theorem sg_cut (l : List Nat) (lo hi : Option Int) : cutS (sg l) lo hi = sg ((l.drop (HT.sIx l.length 0 lo)).take (HT.sIx l.length l.length hi - HT.sIx l.length 0 lo)) := by
  unfold cutS
  rw [sg_len]
  rfl
theorem sub_at (a b : List Nat) (i : Nat) : Builtin.Str.subAt (sg a) (sg b) i = decide ((a.drop i).take b.length = b) := by
  rw [StrLaws.subAt_eq, sg_tl, sg_tl, sg_len]
  rw [Bool.eq_iff_iff]
  simp
theorem sg_starts (a b : List Nat) : Txt.startswith (sg a) (sg b) = decide (b <+: a) := by
  unfold Txt.startswith
  rw [sub_at, sg_len, sg_len, Bool.eq_iff_iff]
  simp only [Bool.and_eq_true, decide_eq_true_eq, List.drop_zero, List.prefix_iff_eq_take]
  constructor
  · rintro ⟨_, h⟩
    exact h.symm
  · intro h
    refine ⟨?_, h.symm⟩
    have := congrArg List.length h
    rw [List.length_take] at this
    omega
theorem infix_at (a b : List Nat) : b <:+: a ↔ ∃ i, i + b.length ≤ a.length ∧ (a.drop i).take b.length = b := by
  constructor
  · rintro ⟨s, t, rfl⟩
    refine ⟨s.length, by simp, ?_⟩
    simp
  · rintro ⟨i, _, h⟩
    refine ⟨a.take i, a.drop (i + b.length), ?_⟩
    rw [← h]
    have e : ((a.drop i).take b.length).length = b.length := by rw [h]
    rw [e, List.append_assoc, ← List.drop_drop, List.take_append_drop, List.take_append_drop]
theorem sg_in (a b : List Nat) : hasStr (sg b) (sg a) = decide (b <:+: a) := by
  unfold hasStr
  rw [Bool.eq_iff_iff, StrLaws.found_iff, decide_eq_true_eq, infix_at]
  simp only [sub_at, sg_len, decide_eq_true_eq]
theorem sg_mul (a : List Nat) (n : Nat) : Txt.mul (sg a) (n : Nat) = sg (List.replicate n a).flatten := by
  have go : ∀ (k : Nat) (acc : Array Nat), ((List.replicate k (sg a).cps).foldl (· ++ ·) acc).toList = acc.toList ++ (List.replicate k a).flatten := fun k => by
    induction k with
    | zero => intro acc; simp
    | succ k ih =>
      intro acc
      rw [List.replicate_succ, List.foldl_cons, ih, List.replicate_succ, List.flatten_cons]
      simp [sg]
  unfold Txt.mul
  split
  · have : n = 0 := by omega
    subst this
    exact TL.ext_tl rfl
  · split
    · rename_i h1 h2
      simp only [Bool.or_eq_true, beq_iff_eq] at h2
      rcases h2 with h2 | h2
      · have : n = 1 := by omega
        subst this
        simp
      · rw [sg_len] at h2
        have : a = [] := List.eq_nil_of_length_eq_zero h2
        subst this
        simp
    · refine TL.ext_tl ?_
      show _ = (List.replicate n a).flatten
      have := go n #[]
      simpa using this
theorem sg_join (xs : List (List Nat)) : Txt.join (sg []) (xs.map sg) = sg xs.flatten := by
  have j : ∀ xs : List (List Nat), TL.joinL [] xs = xs.flatten := fun xs => by
    induction xs with
    | nil => rfl
    | cons x r ih =>
      cases r with
      | nil => simp [TL.joinL]
      | cons y r =>
        show x ++ ([] ++ TL.joinL [] (y :: r)) = _
        rw [ih]
        simp
  refine TL.ext_tl ?_
  rw [TL.join_eq, TL.tl_join]
  show TL.joinL [] ((xs.map sg).map fun x => x.cps.toList) = xs.flatten
  rw [List.map_map]
  have : ((fun x : Str => x.cps.toList) ∘ sg) = id := funext fun l => rfl
  rw [this, List.map_id, j]
theorem occ_stay (s sub : Str) (hi : Nat) : ∀ (l : List Nat) (st : Array Nat × Nat), 1 ≤ st.fst.size → (forIn l st (StrLaws.occBody s sub hi 1)).run.fst = st.fst
  | [], st, _ => rfl
  | a :: l, st, h => by
    rw [List.forIn_cons]
    unfold StrLaws.occBody
    rw [if_neg (fun z => by have := z.1.1.1; omega)]
    exact occ_stay s sub hi l _ h
theorem occ_first (s sub : Str) (hi : Nat) (i : Nat) (post : List Nat) (hm : i + sub.length ≤ hi ∧ Builtin.Str.subAt s sub i = true) : ∀ (pre : List Nat) (free : Nat), free ≤ i → (∀ j ∈ pre, ¬ (j + sub.length ≤ hi ∧ Builtin.Str.subAt s sub j = true)) →
    (forIn (pre ++ i :: post) ((#[] : Array Nat), free) (StrLaws.occBody s sub hi 1)).run.fst = #[i]
  | [], free, hf, _ => by
    rw [List.nil_append, List.forIn_cons]
    unfold StrLaws.occBody
    rw [if_pos ⟨⟨⟨by simp, hf⟩, hm.1⟩, hm.2⟩]
    exact occ_stay s sub hi post _ (by simp)
  | a :: pre, free, hf, hn => by
    rw [List.cons_append, List.forIn_cons]
    unfold StrLaws.occBody
    rw [if_neg (fun z => hn a List.mem_cons_self ⟨z.1.2, z.2⟩)]
    exact occ_first s sub hi i post hm pre free hf fun j hj => hn j (List.mem_cons_of_mem _ hj)
theorem sg_index {a : List Nat} {c i : Nat} (h : a[i]? = some c) (hn : ∀ j, j < i → a[j]? ≠ some c) : ∃ rest, Builtin.Str.occurrences (sg a) (sg [c]) 0 (sg a).length 1 = i :: rest := by
  have one : ∀ j, ((j + (sg [c]).length ≤ (sg a).length ∧ Builtin.Str.subAt (sg a) (sg [c]) j = true) ↔ a[j]? = some c) := fun j => StrLaws.subAt_one (sg a) c j
  have hl : i < a.length := (List.getElem?_eq_some_iff.mp h).1
  refine ⟨[], ?_⟩
  rw [StrLaws.occ_eq, sg_len]
  have e : List.range' 0 (a.length + 1 - 0) = List.range' 0 i ++ i :: List.range' (i + 1) (a.length - i) := by
    rw [← List.range'_succ, show a.length + 1 - 0 = i + (a.length - i + 1) by omega, ← List.range'_append]
    simp
  rw [e, occ_first (sg a) (sg [c]) a.length i _ (by have := (one i).mpr h; rwa [sg_len] at this) (List.range' 0 i) 0 (Nat.zero_le _) fun j hj z => hn j (by simp [List.mem_range'] at hj; omega) ((one j).mp (by rwa [sg_len (l := a)]))]
end PL

set_option Elab.async false
set_option linter.all false
set_option maxRecDepth 100000
/-! PL, part 12: comprehensions told by their result. -/
namespace PL
open PySem PySem.Spec L2
variable [Consts]
section
variable {g : QG} {te : QE} {tt : QT} {vs : List Nat} {ρ0 : Env} {ds : List D} {Q : T → Env → Prop}
/-- [e for x in xs] -/
theorem lc_map (out : List D) (hb : barePl ρ0 vs) (hl : out.length = ds.length) (hz : ds.length ≤ sizeLine)
    (step : ∀ (i : Nat) (d o : D), ds[i]? = some d → out[i]? = some o → ∀ R : T → Env → Prop, (∀ r ρ4, r.dat = some o → wipeP ρ4 vs = wipeP ρ0 vs → R r ρ4) → g (.d d) (wipeP ρ0 vs) fun ρ2 => te ρ2 R) (fin : Q (.l out) ρ0) :
    barePl ρ0 vs ∧ ∃ I : Nat → List D → Prop, I 0 [] ∧
      (∀ i d acc, ds[i]? = some d → I i acc → g (.d d) (wipeP ρ0 vs) fun ρ2 => qYes ρ2 fun b ρ3 => if b = true then te ρ3 fun r ρ4 => ∃ d', r.dat = some d' ∧ wipeP ρ4 vs = wipeP ρ0 vs ∧ acc.length < sizeLine ∧ I (i + 1) (acc ++ [d'])
        else wipeP ρ3 vs = wipeP ρ0 vs ∧ I (i + 1) acc) ∧ ∀ acc, I ds.length acc → Q (.l acc) ρ0 := by
  refine ⟨hb, fun i acc => acc = out.take i, rfl, fun i d acc hd ha => ?_, fun acc ha => ?_⟩
  · have hi := (List.getElem?_eq_some_iff.mp hd).1
    have ho : out[i]? = some out[i] := List.getElem?_eq_getElem (by omega)
    have := step i d _ hd ho (fun r ρ4 => ∃ d', r.dat = some d' ∧ wipeP ρ4 vs = wipeP ρ0 vs ∧ acc.length < sizeLine ∧ acc ++ [d'] = out.take (i + 1)) fun r ρ4 h1 h2 => ⟨_, h1, h2, by rw [ha, List.length_take]; omega, by rw [ha, List.take_add_one, ho]; rfl⟩
    simpa only [qYes, if_true] using this
  · rw [ha, ← hl, List.take_length]
    exact fin
/-- [e for x in xs if t] -/
def pickD (f : Nat → D → Option D) (ds : List D) (i : Nat) : List D := (List.range i).filterMap fun j => (ds[j]?).bind (f j)
theorem pickD_len (f : Nat → D → Option D) (ds : List D) (i : Nat) : (pickD f ds i).length ≤ i := by
  have := List.length_filterMap_le (fun j => (ds[j]?).bind (f j)) (List.range i)
  simpa [pickD] using this
theorem lc_pick (f : Nat → D → Option D) (hb : barePl ρ0 vs) (hz : ds.length ≤ sizeLine)
    (step : ∀ (i : Nat) (d : D), ds[i]? = some d → ∀ (R : T → Env → Prop) (R0 : Env → Prop), (∀ r ρ4 o, f i d = some o → r.dat = some o → wipeP ρ4 vs = wipeP ρ0 vs → R r ρ4) → (∀ ρ3, f i d = none → wipeP ρ3 vs = wipeP ρ0 vs → R0 ρ3) → g (.d d) (wipeP ρ0 vs) fun ρ2 => tt ρ2 fun b ρ3 => if b = true then te ρ3 R else R0 ρ3) (fin : Q (.l (pickD f ds ds.length)) ρ0) :
    barePl ρ0 vs ∧ ∃ I : Nat → List D → Prop, I 0 [] ∧
      (∀ i d acc, ds[i]? = some d → I i acc → g (.d d) (wipeP ρ0 vs) fun ρ2 => tt ρ2 fun b ρ3 => if b = true then te ρ3 fun r ρ4 => ∃ d', r.dat = some d' ∧ wipeP ρ4 vs = wipeP ρ0 vs ∧ acc.length < sizeLine ∧ I (i + 1) (acc ++ [d'])
        else wipeP ρ3 vs = wipeP ρ0 vs ∧ I (i + 1) acc) ∧ ∀ acc, I ds.length acc → Q (.l acc) ρ0 := by
  refine ⟨hb, fun i acc => acc = pickD f ds i, rfl, fun i d acc hd ha => ?_, fun acc ha => by rw [ha]; exact fin⟩
  have hi := (List.getElem?_eq_some_iff.mp hd).1
  have hp := pickD_len f ds i
  refine step i d hd _ _ (fun r ρ4 o h0 h1 h2 => ⟨_, h1, h2, by rw [ha]; omega, ?_⟩) fun ρ3 h0 h2 => ⟨h2, ?_⟩
  · show acc ++ [o] = pickD f ds (i + 1)
    rw [ha]
    unfold pickD
    rw [List.range_succ, List.filterMap_append]
    simp [hd, h0]
  · show acc = pickD f ds (i + 1)
    rw [ha]
    unfold pickD
    rw [List.range_succ, List.filterMap_append]
    simp [hd, h0]
end
section
variable {g : QG} {te : QE} {tt : QT} {ti : QI} {tb : QS} {vs : List Nat} {ρ ρ0 : Env} {ds : List D} {Q : T → Env → Prop}
theorem lc_mapT (ds : List D) (ρ0 : Env) (out : List D) (h1 : ∀ R : List D → Env → Prop, R ds ρ0 → ti ρ R) (hb : barePl ρ0 vs) (hl : out.length = ds.length) (hz : ds.length ≤ sizeLine)
    (step : ∀ (i : Nat) (d o : D), ds[i]? = some d → out[i]? = some o → ∀ R : T → Env → Prop, (∀ r ρ4, r.dat = some o → wipeP ρ4 vs = wipeP ρ0 vs → R r ρ4) → g (.d d) (wipeP ρ0 vs) fun ρ2 => te ρ2 R) (fin : Q (.l out) ρ0) : qLc ti g qYes te vs ρ Q :=
  h1 _ (lc_map out hb hl hz step fin)
theorem lc_pickT (ds : List D) (ρ0 : Env) (f : Nat → D → Option D) (h1 : ∀ R : List D → Env → Prop, R ds ρ0 → ti ρ R) (hb : barePl ρ0 vs) (hz : ds.length ≤ sizeLine)
    (step : ∀ (i : Nat) (d : D), ds[i]? = some d → ∀ (R : T → Env → Prop) (R0 : Env → Prop), (∀ r ρ4 o, f i d = some o → r.dat = some o → wipeP ρ4 vs = wipeP ρ0 vs → R r ρ4) → (∀ ρ3, f i d = none → wipeP ρ3 vs = wipeP ρ0 vs → R0 ρ3) → g (.d d) (wipeP ρ0 vs) fun ρ2 => tt ρ2 fun b ρ3 => if b = true then te ρ3 R else R0 ρ3) (fin : Q (.l (pickD f ds ds.length)) ρ0) : qLc ti g tt te vs ρ Q :=
  h1 _ (lc_pick f hb hz step fin)
theorem lc_mapS (ds : List D) (out : List D) (h1 : ∀ R : List D → Env → Prop, R ds ρ → ti ρ R) (hb : barePl ρ vs) (hl : out.length = ds.length) (hz : ds.length ≤ sizeLine)
    (step : ∀ (i : Nat) (d o : D), ds[i]? = some d → out[i]? = some o → ∀ R : T → Env → Prop, (∀ r ρ4, r.dat = some o → wipeP ρ4 vs = wipeP ρ vs → R r ρ4) → g (.d d) (wipeP ρ vs) fun ρ2 => te ρ2 R) (fin : Q (.l out) ρ) : qLc ti g qYes te vs ρ Q :=
  lc_mapT ds ρ out h1 hb hl hz step fin
theorem lc_pickS (ds : List D) (f : Nat → D → Option D) (h1 : ∀ R : List D → Env → Prop, R ds ρ → ti ρ R) (hb : barePl ρ vs) (hz : ds.length ≤ sizeLine)
    (step : ∀ (i : Nat) (d : D), ds[i]? = some d → ∀ (R : T → Env → Prop) (R0 : Env → Prop), (∀ r ρ4 o, f i d = some o → r.dat = some o → wipeP ρ4 vs = wipeP ρ vs → R r ρ4) → (∀ ρ3, f i d = none → wipeP ρ3 vs = wipeP ρ vs → R0 ρ3) → g (.d d) (wipeP ρ vs) fun ρ2 => tt ρ2 fun b ρ3 => if b = true then te ρ3 R else R0 ρ3) (fin : Q (.l (pickD f ds ds.length)) ρ) : qLc ti g tt te vs ρ Q :=
  lc_pickT ds ρ f h1 hb hz step fin
theorem forT {DP : PEnds} (ds : List D) (ρ0 : Env) (I : Nat → Env → Prop) (h1 : ∀ R : List D → Env → Prop, R ds ρ0 → ti ρ R) (h0 : I 0 ρ0)
    (step : ∀ i d ρ, ds[i]? = some d → I i ρ → g (.d d) ρ fun ρ' => tb { DP with nx := I (i + 1), ct := I (i + 1), bk := DP.nx } ρ') (fin : ∀ ρ, I ds.length ρ → DP.nx ρ) : sFor ti g tb DP ρ :=
  h1 _ ⟨I, h0, step, fin⟩
end
/-! ### sets and places, by natural numbers -/
def castL (k : List Nat) : List Int := k.map fun n => ((n : Nat) : Int)
theorem tupI_cast (k : List Nat) : tupI (castL k) = .tuple (nats k) := by simp [tupI, castL, nats]
theorem castL_inj {a b : List Nat} (h : castL a = castL b) : a = b := by
  have : (castL a).map Int.toNat = (castL b).map Int.toNat := by rw [h]
  simpa [castL, List.map_map, Function.comp_def] using this
theorem pSortSet_nat {Q : T → Prop} (ks : List (List Nat)) (d : Nat) (hl : ks.length < 64) (hd : 1 ≤ d) (hk : ∀ k ∈ ks, k.length = d ∧ ∀ x ∈ k, x < 64) (q : ∀ L : List (List Nat), L.Nodup → (∀ k, k ∈ L ↔ k ∈ ks) → L.length < 64 → Q (.l (L.map fun k => .tuple (nats k)))) :
    pSortSet (.list (ks.map fun k => .tuple (nats k))) Q := by
  refine ⟨ks.map castL, d, 64, by rw [List.map_map]; exact List.map_congr_left fun k _ => (tupI_cast k).symm, by simpa using hl, hd, fun k h => ?_, fun L nd hm h64 _ => ?_⟩
  · obtain ⟨n, hn, rfl⟩ := List.mem_map.mp h
    refine ⟨by simp [castL, (hk n hn).1], fun x hx => ?_⟩
    obtain ⟨m, hm, rfl⟩ := List.mem_map.mp hx
    have := (hk n hn).2 m hm
    omega
  · have hc : ∀ k ∈ L, castL (k.map Int.toNat) = k := fun k h => by
      obtain ⟨n, hn, rfl⟩ := List.mem_map.mp ((hm k).mp h)
      simp [castL, List.map_map, Function.comp_def]
    have e : (L.map fun k => k.map Int.toNat).map castL = L := by
      rw [List.map_map]
      conv => rhs; rw [← List.map_id L]
      exact List.map_congr_left fun k h => hc k h
    have e2 : L.map tupI = (L.map fun k => k.map Int.toNat).map fun k => .tuple (nats k) := by
      conv => lhs; rw [← e]
      rw [List.map_map]
      exact List.map_congr_left fun k _ => tupI_cast k
    rw [e2]
    refine q _ ?_ (fun k => ?_) (by simpa using h64)
    · rw [← e] at nd
      exact List.pairwise_map.mp nd |>.imp fun h z => h (congrArg castL z)
    · constructor
      · intro h
        have : castL k ∈ L := by rw [← e]; exact List.mem_map.mpr ⟨k, h, rfl⟩
        obtain ⟨n, hn, z⟩ := List.mem_map.mp ((hm _).mp this)
        rw [← castL_inj z]
        exact hn
      · intro h
        have : castL k ∈ L := (hm _).mpr (List.mem_map.mpr ⟨k, h, rfl⟩)
        refine List.mem_map.mpr ⟨_, this, ?_⟩
        simp [castL, List.map_map, Function.comp_def]
theorem pLenSet_nat {Q : T → Prop} (ns : List Nat) (hl : ns.length ≤ 4000) (q : ∀ l : List Nat, l.Nodup → (∀ k, k ∈ l ↔ k ∈ ns) → Q (.d (.int (l.length : Nat)))) : pLenSet (.list (nats ns)) Q := by
  refine ⟨castL ns, by simp [nats, castL], by simpa [castL] using hl, fun l nd hm => ?_⟩
  have hc : ∀ x ∈ l, ((x.toNat : Nat) : Int) = x := fun x h => by
    obtain ⟨n, _, rfl⟩ := List.mem_map.mp ((hm x).mp h)
    simp
  have := q (l.map Int.toNat) (List.pairwise_map.mpr (List.Pairwise.imp_of_mem (fun {a b} ha hb h z => h (by rw [← hc a ha, ← hc b hb, z])) nd)) fun k => by
    constructor
    · intro h
      obtain ⟨x, hx, rfl⟩ := List.mem_map.mp h
      obtain ⟨n, hn, e⟩ := List.mem_map.mp ((hm x).mp hx)
      rw [← e]
      simpa using hn
    · intro h
      exact List.mem_map.mpr ⟨(k : Int), (hm _).mpr (List.mem_map.mpr ⟨k, h, rfl⟩), by simp⟩
  simpa using this
theorem pIndex_of {Q : T → Prop} {ds : List D} {d : D} {j : Nat} (hs : SeqAt.shaped (.list ds) = true) (hd : SeqAt.shaped d = true) (n1 : nobAll ds = true) (n2 : nob d = true) (h : ds[j]? = some d) (hf : ∀ m, m < j → ds[m]? ≠ some d) (q : Q (.d (.int (j : Nat)))) : pIndex (.list ds) d Q :=
  ⟨hs, hd, j, d, h, (eqv_iff d d n2 n2).mpr rfl, fun m z hm hz => by
    cases e : PyData.eqv z d with
    | false => rfl
    | true => exact absurd (by rw [hz, (eqv_iff z d (nobAll_iff.mp n1 z (List.mem_of_getElem? hz)) n2).mp e]) (hf m hm), q⟩
theorem nob_tup {ns : List Nat} : nob (.tuple (nats ns)) = true := by simp only [nob, nob_nats]
theorem nob_int {i : Int} : nob (.int i) = true := by simp [nob]
theorem rows_shaped (rs : List (List Nat)) : SeqAt.shaped (.list (rs.map fun r => .tuple (nats r))) = true :=
  (lay_list (k := 1) fun d h => by
    obtain ⟨r, _, rfl⟩ := List.mem_map.mp h
    exact lay_tup (lay_nats _)).shaped
theorem rows_nob (rs : List (List Nat)) : nobAll (rs.map fun r => .tuple (nats r)) = true := nobAll_iff.mpr fun d h => by
  obtain ⟨r, _, rfl⟩ := List.mem_map.mp h
  exact nob_tup
theorem tup_inj {a b : List Nat} (h : (PyData.tuple (nats a)) = .tuple (nats b)) : a = b := nats_inj (by injection h)
theorem wsD_map : ∀ ds : List D, wsD (ds.map W.d) = some ds
  | [] => rfl
  | d :: ds => by simp [wsD, wsD_map ds]
theorem wsT_map : ∀ ds : List D, wsT (ds.map W.d) = some (ds.map T.d)
  | [] => rfl
  | d :: ds => by simp [wsT, wsT_map ds]
theorem barePl1 {ρ : Env} {i : Nat} {t : T} (h : ρ[i]? = some t) (hb : t.bare) : barePl ρ [i] := fun v hv => by
  obtain rfl := List.mem_singleton.mp hv
  rw [h]
  exact hb
theorem pick_filter {α : Type} (c : Nat → Prop) [DecidablePred c] (ds : List D) : ∀ l : List Nat, (∀ j ∈ l, j < ds.length) → (l.filterMap fun j => (ds[j]?).bind fun _ => if c j then some (PyData.int (j : Nat)) else none) = nats (l.filter fun j => decide (c j))
  | [], _ => rfl
  | j :: l, h => by
    have hj := h j List.mem_cons_self
    have ih := pick_filter (α := α) c ds l fun x hx => h x (List.mem_cons_of_mem _ hx)
    rw [List.filterMap_cons, List.getElem?_eq_getElem hj, Option.bind_some, ih]
    by_cases q : c j
    · simp [q, nats]
    · simp [q]
theorem nats_ne {l : List Nat} {m c : Nat} (h : l[m]? ≠ some c) : (nats l)[m]? ≠ some (.int (c : Nat)) := fun z => by
  cases q : l[m]? with
  | none =>
    rw [nats, List.getElem?_map, q] at z
    cases z
  | some y =>
    rw [nats_get q] at z
    have : y = c := by injection z with z; injection z with z; omega
    exact h (by rw [q, this])
/-! ### cut texts -/
theorem cut_from (l : List Nat) {k : Nat} (h : k ≤ l.length) : cutS (sg l) (some ((k : Nat) : Int)) none = sg (l.drop k) := by
  rw [sg_cut, HT.sIx_nat, HT.sIx_none, Nat.min_eq_left h]
  congr 1
  rw [List.take_of_length_le]
  rw [List.length_drop]
  omega
theorem cut_to (l : List Nat) (k : Nat) : cutS (sg l) none (some ((k : Nat) : Int)) = sg (l.take k) := by
  rw [sg_cut, HT.sIx_nat, HT.sIx_none, List.drop_zero, Nat.sub_zero]
  congr 1
  by_cases h : k ≤ l.length
  · rw [Nat.min_eq_left h]
  · rw [Nat.min_eq_right (by omega), List.take_length, List.take_of_length_le (by omega)]
theorem eqv_sg (a b : List Nat) : PyData.eqv (.str (sg a)) (.str (sg b)) = decide (a = b) := by
  rw [Bool.eq_iff_iff]
  simp only [PyData.eqv, beq_iff_eq, decide_eq_true_eq]
  exact ⟨sg_inj, fun h => by rw [h]⟩
theorem lc_inv {g : QG} {te : QE} {ti : QI} {vs : List Nat} {ρ : Env} {Q : T → Env → Prop} (ds : List D) (ρ0 : Env) (I : Nat → List D → Prop) (h1 : ∀ R : List D → Env → Prop, R ds ρ0 → ti ρ R) (hb : barePl ρ0 vs) (hz : ds.length ≤ sizeLine) (i0 : I 0 []) (hl : ∀ i acc, I i acc → acc.length ≤ i)
    (step : ∀ (i : Nat) (d : D) (acc : List D), ds[i]? = some d → I i acc → ∀ R : T → Env → Prop, (∀ r ρ4 o, r.dat = some o → wipeP ρ4 vs = wipeP ρ0 vs → I (i + 1) (acc ++ [o]) → R r ρ4) → g (.d d) (wipeP ρ0 vs) fun ρ2 => te ρ2 R) (fin : ∀ acc, I ds.length acc → Q (.l acc) ρ0) : qLc ti g qYes te vs ρ Q := by
  refine h1 _ ⟨hb, I, i0, fun i d acc hd ha => ?_, fin⟩
  have hi := (List.getElem?_eq_some_iff.mp hd).1
  have := step i d acc hd ha (fun r ρ4 => ∃ d', r.dat = some d' ∧ wipeP ρ4 vs = wipeP ρ0 vs ∧ acc.length < sizeLine ∧ I (i + 1) (acc ++ [d'])) fun r ρ4 o h1 h2 h3 => ⟨o, h1, h2, by have := hl i acc ha; omega, h3⟩
  simpa only [qYes, if_true] using this
theorem lc_any {g : QG} {te : QE} {tt : QT} {ti : QI} {vs : List Nat} {ρ : Env} {Q : T → Env → Prop} (ρ0 : Env) (DS : List D → Prop) (h1 : ∀ R : List D → Env → Prop, (∀ ds, DS ds → R ds ρ0) → ti ρ R) (h2 : ∀ ds, DS ds → qLc (fun ρ R => R ds ρ) g tt te vs ρ0 Q) : qLc ti g tt te vs ρ Q := h1 _ fun ds h => h2 ds h
theorem for_any {g : QG} {ti : QI} {tb : QS} {ρ : Env} {DP : PEnds} (ρ0 : Env) (DS : List D → Prop) (h1 : ∀ R : List D → Env → Prop, (∀ ds, DS ds → R ds ρ0) → ti ρ R) (h2 : ∀ ds, DS ds → sFor (fun ρ R => R ds ρ) g tb DP ρ0) : sFor ti g tb DP ρ := h1 _ fun ds h => h2 ds h
/-- texts of signs, joined -/
theorem one_signs (cs : List Nat) : (cs.map fun c => sg [c]) = (cs.map fun c => [c]).map sg := by rw [List.map_map]; rfl
theorem flat_ones (cs : List Nat) : (cs.map fun c => [c]).flatten = cs := by induction cs <;> simp_all
theorem join_ones (cs : List Nat) : Txt.join (Str.ofString "") (cs.map fun c => sg [c]) = sg cs := by
  have e : Str.ofString "" = sg [] := rfl
  rw [e, one_signs, sg_join, flat_ones]
theorem sum_ones (cs : List Nat) : ((cs.map fun c => sg [c]).map (·.length)).sum = cs.length := by
  rw [List.map_map]
  induction cs with
  | nil => rfl
  | cons c cs ih =>
    rw [List.map_cons, List.sum_cons, ih]
    simp [sg_len]
    omega
theorem nats_range {n i : Nat} (h : i < n) : (rangeD 0 n)[i]? = some (.int (i : Nat)) := by
  rw [rangeD_get h]
  simp
end PL

set_option Elab.async false
set_option linter.all false
set_option maxRecDepth 100000
/-! PL, part 13: list(zip(a, b)), a and b tuples. -/
namespace PLz
open PySem PySem.Spec L2
section
variable {prog : Program} {w : World} {A : Around} {E : Value → Shared → Prop} {s : Shared} {z TI TO i1 i2 a b : Addr} {k : Nat} {xs ys : Array Value} {x y : Value}
set_option maxHeartbeats 1000000 in
/-- one turn, while the tuple last handed out is still about -/
theorem nextHeld {W : Addr} {fl : Bool} {oW : Obj} {Q : Value → Shared → Prop} (D : ZipApart z TI TO i1 i2 a b) (hz : IsZipHeld s.heap z TI TO W fl) (hW : s.heap.get? W = some oW) (hI : IsPair s.heap TI (.ref i1) (.ref i2))
    (t1 : s.heap.IsTupleIter i1 a k) (t2 : s.heap.IsTupleIter i2 b k) (p1 : s.heap.IsTuple a xs) (p2 : s.heap.IsTuple b ys) (hx : xs[k]? = some x) (hy : ys[k]? = some y)
    (fin : ∀ h', IsZipHeld h' z TI TO W true → h'.IsTupleIter i1 a (k + 1) → h'.IsTupleIter i2 b (k + 1) → IsPair h' s.heap.objs.size x y → (∀ c o, c ≠ z → c ≠ i1 → c ≠ i2 → s.heap.get? c = some o → h'.get? c = some o) → Q (.ref s.heap.objs.size) { s with heap := h' }) :
    wpAny (model prog w) A (Builtin.«zip.__next__» ⟨[.ref z], []⟩) (fun r s' => ∃ v, r = .done (.ret v) ∧ Q v s') E s := by
  show wpAny _ _ (field (.ref z) 2 >>= _) _ _ _
  refine wpAny_bind (wpAny_field hz rfl (x := .bool false) rfl ?_)
  show wpAny _ _ (field (.ref z) 3 >>= _) _ _ _
  refine wpAny_bind (wpAny_field hz rfl (x := .ref TI) rfl (wpAny_bind (wpAny_seqItems hI rfl ?_)))
  show wpAny _ _ (Builtin.SmallTypes.ownedTupleIsFree (.ref z) >>= _) _ _ _
  refine wpAny_bind (wpAny_tupleHeld_zip hz hW fun g1 z1 s1 => ?_)
  simp only [Bool.false_eq_true, if_false]
  refine wpAny_bind ?_
  rw [← Array.forIn_toList]
  simp only [List.forIn_cons, List.forIn_nil]
  refine wpAny_bind (wpAny_bind (wpAny_holding ?_))
  show wpAny _ _ (Builtin.SmallTypes.nextOf (.ref i1) >>= _) _ _ _
  refine wpAny_bind (RZ.nextOf_tuple_item (s := { s with heap := g1 }) (t1.extBut s1.extBut D.i1z) (p1.extBut s1.extBut D.l1z) hx fun g2 u1 s2 => wpAny_pure (wpAny_pure ?_))
  refine wpAny_bind (wpAny_bind (wpAny_holding ?_))
  show wpAny _ _ (Builtin.SmallTypes.nextOf (.ref i2) >>= _) _ _ _
  refine wpAny_bind (RZ.nextOf_tuple_item (s := { s with heap := g2 }) ((t2.extBut s1.extBut D.i2z).extBut s2.extBut D.i12.symm) ((p2.extBut s1.extBut D.l2z).extBut s2.extBut D.l2i1) hy fun g3 u2 s3 => wpAny_pure (wpAny_pure (wpAny_pure ?_)))
  show wpAny _ _ (newTuple [x, y] >>= _) _ _ _
  refine wpAny_bind (wpAny_newTuple (wpAny_pure ⟨_, rfl, ?_⟩))
  have sz : g3.objs.size = s.heap.objs.size := by rw [s3.1, s2.1, s1.1]
  show Q (.ref g3.objs.size) _
  have np : IsPair (g3.push { cls := .type "tuple", data := .seq #[x, y] }) g3.objs.size x y := Heap.get?_push_size _ rfl
  rw [sz] at np ⊢
  exact fin _ (Heap.get?_push_of_some _ (s3.extBut _ _ D.i2z.symm (s2.extBut _ _ D.i1z.symm z1))) ((u1.extBut s3.extBut D.i12).at fun o e => Heap.get?_push_of_some _ e) (u2.at fun o e => Heap.get?_push_of_some _ e) np
    fun c o c1 c2 c3 e => Heap.get?_push_of_some _ (s3.extBut _ _ c3 (s2.extBut _ _ c2 (s1.extBut _ _ c1 e)))
set_option maxHeartbeats 1000000 in
theorem endHeld {W : Addr} {fl : Bool} {oW : Obj} {Q : Fin → Shared → Prop} (hh : A.handled = none) (D : ZipApart z TI TO i1 i2 a b) (hz : IsZipHeld s.heap z TI TO W fl) (hW : s.heap.get? W = some oW) (hI : IsPair s.heap TI (.ref i1) (.ref i2))
    (t1 : s.heap.IsTupleIter i1 a k) (t2 : s.heap.IsTupleIter i2 b k) (p1 : s.heap.IsTuple a xs) (p2 : s.heap.IsTuple b ys) (hend : xs[k]? = none ∨ ys[k]? = none)
    (fin : ∀ h' e, (∀ c o, c ≠ z → c ≠ i1 → c ≠ i2 → s.heap.get? c = some o → h'.get? c = some o) → (∃ o, h'.get? e = some o ∧ o.cls = .type "StopIteration") → E (.ref e) { s with heap := h' }) :
    wpAny (model prog w) A (Builtin.«zip.__next__» ⟨[.ref z], []⟩) Q E s := by
  show wpAny _ _ (field (.ref z) 2 >>= _) _ _ _
  refine wpAny_bind (wpAny_field hz rfl (x := .bool false) rfl ?_)
  show wpAny _ _ (field (.ref z) 3 >>= _) _ _ _
  refine wpAny_bind (wpAny_field hz rfl (x := .ref TI) rfl (wpAny_bind (wpAny_seqItems hI rfl ?_)))
  show wpAny _ _ (Builtin.SmallTypes.ownedTupleIsFree (.ref z) >>= _) _ _ _
  refine wpAny_bind (wpAny_tupleHeld_zip hz hW fun g1 z1 s1 => ?_)
  simp only [Bool.false_eq_true, if_false]
  refine wpAny_bind ?_
  rw [← Array.forIn_toList]
  simp only [List.forIn_cons, List.forIn_nil]
  refine wpAny_bind (wpAny_bind (wpAny_holding ?_))
  show wpAny _ _ (Builtin.SmallTypes.nextOf (.ref i1) >>= _) _ _ _
  cases hx : xs[k]? with
  | none => exact wpAny_bind (RZ.nextOf_tuple_end (s := { s with heap := g1 }) hh (t1.extBut s1.extBut D.i1z) (p1.extBut s1.extBut D.l1z) hx fun g2 e s2 he => fin g2 e (fun c o c1 c2 _ q => s2 _ _ c2 (s1.extBut _ _ c1 q)) he)
  | some x =>
    have hy : ys[k]? = none := hend.resolve_left (by rw [hx]; exact fun q => nomatch q)
    refine wpAny_bind (RZ.nextOf_tuple_item (s := { s with heap := g1 }) (t1.extBut s1.extBut D.i1z) (p1.extBut s1.extBut D.l1z) hx fun g2 u1 s2 => wpAny_pure (wpAny_pure ?_))
    refine wpAny_bind (wpAny_bind (wpAny_holding ?_))
    show wpAny _ _ (Builtin.SmallTypes.nextOf (.ref i2) >>= _) _ _ _
    exact wpAny_bind (RZ.nextOf_tuple_end (s := { s with heap := g2 }) hh ((t2.extBut s1.extBut D.i2z).extBut s2.extBut D.i12.symm) ((p2.extBut s1.extBut D.l2z).extBut s2.extBut D.l2i1) hy fun g3 e s3 he => fin g3 e (fun c o c1 c2 c3 q => s3 _ _ c3 (s2.extBut _ _ c2 (s1.extBut _ _ c1 q))) he)
/-- the zip as it stands: nothing handed out, or a tuple that is still about -/
def Out (h : Heap) (z TI TO i1 i2 : Addr) : Prop := IsZip h z TI TO .none ∨ ∃ W fl oW, IsZipHeld h z TI TO W fl ∧ h.get? W = some oW ∧ W ≠ z ∧ W ≠ TO ∧ W ≠ i1 ∧ W ≠ i2
structure At (h : Heap) (z TI TO i1 i2 a b : Addr) (k : Nat) : Prop where
  out : Out h z TI TO i1 i2
  ti : IsPair h TI (.ref i1) (.ref i2)
  to : ∃ x y, IsPair h TO x y
  t1 : h.IsTupleIter i1 a k
  t2 : h.IsTupleIter i2 b k
theorem At.ty (h : At s.heap z TI TO i1 i2 a b k) : s.TypeIs (.ref z) "zip" := by
  rcases h.out with q | ⟨W, fl, oW, q, _⟩
  · exact ⟨_, q, rfl⟩
  · exact ⟨_, q, rfl⟩
theorem At.keep {h h' : Heap} (t : At h z TI TO i1 i2 a b k) (q : Addr) (hz : q ≠ z) (h1 : q ≠ TI) (h2 : q ≠ TO) (h3 : q ≠ i1) (h4 : q ≠ i2) (kp : ∀ c o, c ≠ q → h.get? c = some o → h'.get? c = some o) (hq : ∃ o, h'.get? q = some o) : At h' z TI TO i1 i2 a b k := by
  obtain ⟨out, ti, ⟨x, y, to⟩, t1, t2⟩ := t
  refine ⟨?_, kp _ _ h1.symm ti, ⟨x, y, kp _ _ h2.symm to⟩, t1.at fun o e => kp _ _ h3.symm e, t2.at fun o e => kp _ _ h4.symm e⟩
  rcases out with out | ⟨W, fl, oW, o1, o2, n1, n2, n3, n4⟩
  · exact .inl (kp _ _ hz.symm out)
  · by_cases e : W = q
    · subst e
      obtain ⟨o, ho⟩ := hq
      exact .inr ⟨W, fl, o, kp _ _ hz.symm o1, ho, n1, n2, n3, n4⟩
    · exact .inr ⟨W, fl, oW, kp _ _ hz.symm o1, kp _ _ e o2, n1, n2, n3, n4⟩
theorem nextAny {Q : Option Value → Shared → Prop} (D : ZipApart z TI TO i1 i2 a b) (t : At s.heap z TI TO i1 i2 a b k) (p1 : s.heap.IsTuple a xs) (p2 : s.heap.IsTuple b ys) (hx : xs[k]? = some x) (hy : ys[k]? = some y)
    (fin : ∀ h', At h' z TI TO i1 i2 a b (k + 1) → IsPair h' s.heap.objs.size x y → (∀ c o, c ∉ [z, TO, i1, i2] → s.heap.get? c = some o → h'.get? c = some o) → Q (some (.ref s.heap.objs.size)) { s with heap := h' }) : wpAny (model prog w) A (pyNext (.ref z)) Q E s := by
  have hT := t.ty
  have mz : z < s.heap.objs.size := let ⟨o, ho, _⟩ := hT; Heap.lt_size ho
  obtain ⟨out, ti, ⟨c1, c2, to⟩, t1, t2⟩ := t
  have mTO : TO < s.heap.objs.size := Heap.lt_size to
  have m1 : i1 < s.heap.objs.size := let ⟨_, e, _⟩ := t1; Heap.lt_size e
  have m2 : i2 < s.heap.objs.size := let ⟨_, e, _⟩ := t2; Heap.lt_size e
  have nm : ∀ {c : Addr}, c ∉ [z, TO, i1, i2] → c ≠ z ∧ c ≠ TO ∧ c ≠ i1 ∧ c ≠ i2 := fun h => by simpa using h
  have nti : TI ∉ [z, TO, i1, i2] := by simp [D.TIz, D.TITO, D.TIi1, D.TIi2]
  unfold pyNext
  refine wpAny_bind (wpAny_attempt (wpAny_callSpecial?_slot (name := Str.ofString "__next__") hT F.slot_zip_next (wpAny_call_entry F.slot_zip_next hT F.entry_zip_next ?_ (F.args_zip_next_1 _))))
  rcases out with out | ⟨W, fl, oW, o1, o2, n1, n2, n3, n4⟩
  · refine RZ.zipT_next_item D out ti to t1 t2 p1 p2 hx hy fun h' a1 a2 a3 a4 a5 a6 a7 => wpAny_pure (fin h' ⟨.inr ⟨_, false, _, a1, a5, Nat.ne_of_gt mz, Nat.ne_of_gt mTO, Nat.ne_of_gt m1, Nat.ne_of_gt m2⟩, a7 _ _ D.TIz D.TITO D.TIi1 D.TIi2 ti, ⟨_, _, a2⟩, a3, a4⟩ a5 fun c o hc e => ?_)
    obtain ⟨q1, q2, q3, q4⟩ := nm hc
    exact a7 c o q1 q2 q3 q4 e
  · refine nextHeld D o1 o2 ti t1 t2 p1 p2 hx hy fun h' a1 a2 a3 a4 a5 => wpAny_pure (fin h' ⟨.inr ⟨W, true, oW, a1, a5 _ _ n1 n3 n4 o2, n1, n2, n3, n4⟩, a5 _ _ D.TIz D.TIi1 D.TIi2 ti, ⟨_, _, a5 _ _ D.TOz D.TOi1 D.TOi2 to⟩, a2, a3⟩ a4 fun c o hc e => ?_)
    obtain ⟨q1, q2, q3, q4⟩ := nm hc
    exact a5 c o q1 q3 q4 e
theorem endAny {Q : Option Value → Shared → Prop} (hh : A.handled = none) (D : ZipApart z TI TO i1 i2 a b) (t : At s.heap z TI TO i1 i2 a b k) (p1 : s.heap.IsTuple a xs) (p2 : s.heap.IsTuple b ys) (hend : xs[k]? = none ∨ ys[k]? = none)
    (fin : ∀ h', (∀ c o, c ∉ [z, TO, i1, i2] → s.heap.get? c = some o → h'.get? c = some o) → Q none { s with heap := h' }) : wpAny (model prog w) A (pyNext (.ref z)) Q E s := by
  have hT := t.ty
  obtain ⟨out, ti, ⟨c1, c2, to⟩, t1, t2⟩ := t
  have nm : ∀ {c : Addr}, c ∉ [z, TO, i1, i2] → c ≠ z ∧ c ≠ TO ∧ c ≠ i1 ∧ c ≠ i2 := fun h => by simpa using h
  unfold pyNext
  refine wpAny_bind (wpAny_attempt (wpAny_callSpecial?_slot (name := Str.ofString "__next__") hT F.slot_zip_next (wpAny_call_entry F.slot_zip_next hT F.entry_zip_next ?_ (F.args_zip_next_1 _))))
  have stop : ∀ (h' : Heap) (e : Addr), (∀ c o, c ∉ [z, TO, i1, i2] → s.heap.get? c = some o → h'.get? c = some o) → (∃ o, h'.get? e = some o ∧ o.cls = .type "StopIteration") → wpAny (model prog w) A (isInstance (.ref e) (.type "StopIteration")) (fun r s' => if r = true then Q none s' else E (.ref e) s') E { s with heap := h' } := fun h' e kp ⟨o, ho, hc⟩ =>
    wpAny_isInstance (T := "StopIteration") (b := true) ⟨o, ho, hc⟩ isSubtype_stop (by rw [if_pos rfl]; exact fin h' kp)
  rcases out with out | ⟨W, fl, oW, o1, o2, n1, n2, n3, n4⟩
  · refine RZ.zipT_next_end hh D out ti to t1 t2 p1 p2 hend fun h' e kp he => ?_
    obtain ⟨o, ho, hc⟩ := he
    refine wpAny_bind (wpAny_isInstance (T := "StopIteration") (b := true) ⟨o, ho, hc⟩ isSubtype_stop (wpAny_pure (fin h' fun c o hc e => ?_)))
    obtain ⟨q1, q2, q3, q4⟩ := nm hc
    exact kp c o q1 q2 q3 q4 e
  · refine endHeld hh D o1 o2 ti t1 t2 p1 p2 hend fun h' e kp he => ?_
    obtain ⟨o, ho, hc⟩ := he
    refine wpAny_bind (wpAny_isInstance (T := "StopIteration") (b := true) ⟨o, ho, hc⟩ isSubtype_stop (wpAny_pure (fin h' fun c o hc e => ?_)))
    obtain ⟨q1, q2, q3, q4⟩ := nm hc
    exact kp c o q1 q3 q4 e
theorem zip_no_len : typeLookup (.type "zip") "__len__" = pure none := by rw [typeLookup_type, builtinLookup_eq_fast]; kernel_rfl
theorem zip_no_hint : typeLookup (.type "zip") "__length_hint__" = pure none := by rw [typeLookup_type, builtinLookup_eq_fast]; kernel_rfl
theorem hint {Q : Bool → Shared → Prop} (hT : s.TypeIs (.ref z) "zip") (h : ∀ r, Q r s) : wpAny (model prog w) A (Builtin.List.listLengthHint (.ref z)) Q E s := by
  unfold Builtin.List.listLengthHint
  refine wpAny_bind (wpAny_specialOf hT zip_no_len ?_)
  refine PySem.W.KFB.if_not rfl ?_
  refine PySem.W.KFB.if_not rfl ?_
  refine wpAny_bind (wpAny_specialOf hT zip_no_hint ?_)
  exact wpAny_pure (h _)
end
section
variable {X : Cx} {pins : List (Addr × Obj)} {σ : L2.St} {A1 : Around} {z TI TO i1 i2 a b q : Addr} {xs ys : List V}
/-- the list at q is filled from the zip at z -/
theorem loopZ {Rs : Result → Shared → Prop} (P : Nat → List V → Hp → Prop) (n : Nat) (hn : n = min xs.length ys.length) (hh : A1.in1.handled = none) (D : ZipApart z TI TO i1 i2 a b)
    (hP : ∀ i acc H, P i acc H → H q = some (.lst acc) ∧ acc.length < sizeLine ∧ SqT X.K H a xs ∧ SqT X.K H b ys)
    (step : ∀ i acc H x y W, P i acc H → xs[i]? = some x → ys[i]? = some y → H W = none → P (i + 1) (acc ++ [.ref W]) (upd (upd H W (.tup [x, y])) q (.lst (acc ++ [.ref W]))))
    (done : ∀ acc H s, Inv X pins σ H s → P n acc H → Rs (.ok (.ret .none)) s) :
    ∀ (m i : Nat) (acc : List V) (H : Hp) (s : Shared), n - i = m → i ≤ n → Inv X pins σ H s → P i acc H → At s.heap z TI TO i1 i2 a b i → (∀ c ∈ [z, TI, TO, i1, i2], FpOk X pins H c) → codeAny (model X.prog X.w) A1 (.builtin "list.extend.loop" ⟨[.ref q, .ref z, .none], []⟩) Rs s := by
  intro m
  induction m with
  | zero =>
    intro i acc H s hm hi I p t hf
    obtain rfl : i = n := by omega
    obtain ⟨hq, _, sx, sy⟩ := hP _ _ _ p
    obtain ⟨its, rv, p1, _⟩ := I.tuple sx
    obtain ⟨its2, rv2, p2, _⟩ := I.tuple sy
    have l1 := rv.length
    have l2 := rv2.length
    refine codeAny_builtin PySem.F.entry_extend_loop ?_
    rw [Around.under_plainId PySem.F.plain_extend_loop _]
    show wpAny _ A1.in1 (pyNext (.ref z) >>= _) _ _ s
    have he : its.toArray[i]? = none ∨ its2.toArray[i]? = none := by
      by_cases c : xs.length ≤ i
      · exact .inl (by simp; omega)
      · exact .inr (by simp; omega)
    refine wpAny_bind (endAny (xs := its.toArray) (ys := its2.toArray) hh D t p1 p2 he fun h' kp => wpAny_pure (done acc H _ (I.turnedL (t' := s.toks) (ch := [z, TO, i1, i2]) kp fun c hc => hf c ?_) p))
    simp at hc ⊢
    rcases hc with h | h | h | h <;> simp [h]
  | succ m ih =>
    intro i acc H s hm hi I p t hf
    obtain ⟨hq, hz, sx, sy⟩ := hP _ _ _ p
    obtain ⟨its, rv, p1, _⟩ := I.tuple sx
    obtain ⟨its2, rv2, p2, _⟩ := I.tuple sy
    have hx : xs[i]? = some xs[i] := List.getElem?_eq_getElem (by omega)
    have hy : ys[i]? = some ys[i] := List.getElem?_eq_getElem (by omega)
    obtain ⟨u, hu, ru⟩ := rv.get hx
    obtain ⟨u2, hu2, ru2⟩ := rv2.get hy
    refine codeAny_builtin PySem.F.entry_extend_loop ?_
    rw [Around.under_plainId PySem.F.plain_extend_loop _]
    show wpAny _ A1.in1 (pyNext (.ref z) >>= _) _ _ s
    refine wpAny_bind (nextAny (xs := its.toArray) (ys := its2.toArray) (x := u) (y := u2) D t p1 p2 (by simpa using hu) (by simpa using hu2) fun h' t' np kp => ?_)
    have hn0 : H s.heap.objs.size = none := I.hok.fresh (Nat.le_refl _)
    have new : ObjOk X.prog X.w (upd H s.heap.objs.size (.tup [xs[i], ys[i]])) h' s.heap.objs.size (.tup [xs[i], ys[i]]) := ⟨by show 2 ≤ sizeLine; decide, [u, u2], .cons ru (.cons ru2 .nil), ⟨_, np, rfl, _, rfl⟩⟩
    have I1 : Inv X pins σ (upd H s.heap.objs.size (.tup [xs[i], ys[i]])) { s with heap := h' } := I.turnedNew (t' := s.toks) (ch := [z, TO, i1, i2]) kp (fun c hc => hf c (by simp at hc ⊢; rcases hc with h | h | h | h <;> simp [h])) (Nat.le_refl _) new
    have hqn : q ≠ s.heap.objs.size := fun e => by rw [e, hn0] at hq; cases hq
    have hq1 : upd H s.heap.objs.size (.tup [xs[i], ys[i]]) q = some (.lst acc) := by rw [upd_ne hqn]; exact hq
    show wpAny _ A1.in1 (updateSeq q (·.push (Value.ref s.heap.objs.size)) >>= _) _ _ _
    obtain ⟨z0, is, k, r2, hl, e⟩ := I1.lstM hq1
    refine wpAny_bind (wpAny_updateSeq e rfl (wpAny_pure ⟨plainId_quiet PySem.F.plain_extend_loop _, ?_⟩) (by rw [List.size_toArray]; omega) (by show (is.toArray.push _).size ≤ sizeLine + 1; rw [Array.size_push, List.size_toArray]; omega))
    have hne : ∀ c ∈ [z, TI, TO, i1, i2], q ≠ c := fun c hc e => by
      have := (hf c hc).1
      rw [← e, hq] at this
      cases this
    refine ih (i + 1) (acc ++ [.ref s.heap.objs.size]) _ _ (by omega) (by omega) (I1.lset (its' := is ++ [Value.ref s.heap.objs.size]) (t' := s.toks) hq1 e (by simp) (r2.append (.cons (show RelV (.ref s.heap.objs.size) (Value.ref s.heap.objs.size) from rfl) .nil)) (by rw [List.length_append, List.length_singleton]; omega)) (step i acc H _ _ _ p hx hy hn0) ?_ fun c hc => ?_
    · refine t'.keep q (hne z (by simp)) (hne TI (by simp)) (hne TO (by simp)) (hne i1 (by simp)) (hne i2 (by simp)) (fun c o hc e => (Heap.get?_update_other _ _ (Ne.symm hc)).trans e) ⟨_, Heap.get?_update_self _ e rfl⟩
    · obtain ⟨f0, f1, f2, f3, f4, f5⟩ := hf c hc
      have hlt : c ≠ s.heap.objs.size := by
        have := t
        have hz := t.ty
        obtain ⟨o, ho, _⟩ := hz
        obtain ⟨_, ti, ⟨_, _, to⟩, ⟨_, e1, _⟩, ⟨_, e2, _⟩⟩ := t
        have m1 := Heap.lt_size ho
        have m2 := Heap.lt_size ti
        have m3 := Heap.lt_size to
        have m4 := Heap.lt_size e1
        have m5 := Heap.lt_size e2
        simp at hc
        rcases hc with h | h | h | h | h <;> rw [h] <;> exact Nat.ne_of_lt (by assumption)
      exact ⟨by rw [upd_ne (Ne.symm (hne c hc)), upd_ne hlt]; exact f0, f1, f2, f3, f4, f5⟩
/-- list(zip(a, b)) -/
def tListZip (K : PySem.W.Frag) (t : TA) : TE := fun σ H Q => t σ H fun vs H1 => ∃ (a b : Addr) (xs ys : List V) (n : Nat), vs = [.ref a, .ref b] ∧ n = min xs.length ys.length ∧ SqT K H1 a xs ∧ SqT K H1 b ys ∧ ∀ q, H1 q = none → ∃ P : Nat → List V → Hp → Prop, P 0 [] (upd H1 q (.lst [])) ∧
  (∀ i acc H, P i acc H → H q = some (.lst acc) ∧ acc.length < sizeLine ∧ SqT K H a xs ∧ SqT K H b ys) ∧
  (∀ i acc H x y W, P i acc H → xs[i]? = some x → ys[i]? = some y → H W = none → P (i + 1) (acc ++ [.ref W]) (upd (upd H W (.tup [x, y])) q (.lst (acc ++ [.ref W])))) ∧ ∀ acc H, P n acc H → Q (.ref q) H
theorem pe_listZip {e e2 : Expr} {t : TA} {p p2 pos pos2 : Pos} (hc : X.calm = true) (hg : Gl X "list") (hm : X.mg "list" = none) (hg2 : Gl X "zip") (hm2 : X.mg "zip" = none) (ha : PA X [e, e2] t)
    (hs : starEach [e, e2] X.env = (false, eval e X.env) :: starEach [e2] X.env := by rfl) (hpl : (backTo pos2 (starEach [e2] X.env)).any (·.1) = false := by rfl)
    (hs1 : starEach [.Call (.Name "zip" p2) [e, e2] [] pos2] X.env = (false, eval (.Call (.Name "zip" p2) [e, e2] [] pos2) X.env) :: starEach [] X.env := by rfl) :
    PE X (.Call (.Name "list" p) [.Call (.Name "zip" p2) [e, e2] [] pos2] [] pos) (tListZip X.K t) := by
  refine ⟨fun pins s σ H Q I h => PyProof.Rows.Call_ (ld_blt I hg hm (by rfl) (PyProof.Rows.callWith_type1 (PyProof.Rows.args_cons ?_ hs1) hs1 rfl))⟩
  refine PyProof.Rows.Call_ (ld_blt I hg2 hm2 PyProof.Rows.boot_zip (PyProof.Rows.callWith_type1 (thn (ha.run pos2 pins s σ H _ I h) fun us s1 ⟨vs, H1, I1, r1, q1⟩ => ?_) hs hpl))
  obtain ⟨a, b, xs, ys, n, rfl, hn, sx, sy, q1⟩ := q1
  cases r1 with
  | cons r rr => cases rr with
    | cons r' rr =>
      cases rr
      cases r
      cases r'
      obtain ⟨its, rv, p1, _⟩ := I1.tuple sx
      obtain ⟨its2, rv2, p2, _⟩ := I1.tuple sy
      obtain ⟨o1, ho1, _⟩ := id p1
      obtain ⟨o2, ho2, _⟩ := id p2
      have hlt1 := Heap.lt_size ho1
      have hlt2 := Heap.lt_size ho2
      refine RZ.call_zipT (show s1.heap.IsTuple a its.toArray from p1) (show s1.heap.IsTuple b its2.toArray from p2) fun h' hz hTI hTO t1 t2 hsz kp => PyProof.Rows.args_nil ?_
      have D := PySem.W.ktu_apart s1.heap.objs.size a b hlt1 hlt2
      have I2 : Inv X pins σ H1 { s1 with heap := h' } := I1.kept (t' := s1.toks) kp
      have big : ∀ c ∈ [s1.heap.objs.size + 4, s1.heap.objs.size + 2, s1.heap.objs.size + 3, s1.heap.objs.size, s1.heap.objs.size + 1], s1.heap.objs.size ≤ c ∧ c < h'.objs.size := fun c hc => by
        rw [hsz]
        simp at hc
        omega
      have fz : ∀ c ∈ [s1.heap.objs.size + 4, s1.heap.objs.size + 2, s1.heap.objs.size + 3, s1.heap.objs.size, s1.heap.objs.size + 1], FpOk X pins H1 c := fun c hc => I1.fpOk (big c hc).1 (I1.hok.fresh (big c hc).1)
      revert D hz hTI hTO t1 t2 big fz
      generalize s1.heap.objs.size + 4 = z
      generalize s1.heap.objs.size + 2 = TI
      generalize s1.heap.objs.size + 3 = TO
      generalize s1.heap.objs.size + 1 = i2
      generalize s1.heap.objs.size = i1
      intro hz hTI hTO t1 t2 D big fz
      generalize hs2 : ({ s1 with heap := h' } : Shared) = s2 at I2
      have hh2 : s2.heap = h' := by rw [← hs2]
      subst hh2
      have hA : At s2.heap z TI TO i1 i2 a b 0 := ⟨.inl hz, hTI, ⟨_, _, hTO⟩, t1, t2⟩
      -- list(..)
      refine callType_codes (Q₁ := fun obj s₁ => obj = .ref s2.heap.objs.size ∧ s₁ = { s2 with heap := s2.heap.push { cls := .type "list", data := .seq #[] } }) PySem.F.called_list (PySem.F.typeCall_list_1 _) PySem.F.entry_list_init (code_list_new _ ⟨rfl, rfl⟩) fun obj s₁ h₁ => ?_
      obtain ⟨rfl, rfl⟩ := h₁
      have hS : (s2.heap.push { cls := .type "list", data := .seq #[] }).get? s2.heap.objs.size = some { cls := .type "list", data := .seq #[] } := Heap.get?_push_size _ rfl
      have fr : H1 s2.heap.objs.size = none := I2.hok.fresh (Nat.le_refl _)
      obtain ⟨P, P0, hP, step, fin⟩ := q1 _ fr
      have I3 : Inv X pins σ (upd H1 s2.heap.objs.size (.lst [])) { s2 with heap := s2.heap.push { cls := .type "list", data := .seq #[] } } := I2.lnew (its := []) (t' := s2.toks) .nil (Nat.zero_le _)
      refine ⟨⟨_, hS, rfl⟩, PySem.F.args_list_init_2 _ _, ?_⟩
      show wpAny _ _ (do let old ← Builtin.List.listItems (.ref s2.heap.objs.size); Builtin.List.listUpdate (.ref s2.heap.objs.size) (fun _ => #[]); letGo old.toList.reverse; Builtin.List.listExtendWith (.ref s2.heap.objs.size) (.ref z) .none) _ _ _
      refine wpAny_bind ?_
      unfold Builtin.List.listItems
      refine wpAny_bind (wpAny_seqItems hS rfl (wpAny_pure ?_))
      show wpAny _ _ (updateSeq s2.heap.objs.size (fun _ => #[]) >>= fun _ => letGo (#[] : Array Value).toList.reverse >>= fun _ => Builtin.List.listExtendWith (.ref s2.heap.objs.size) (.ref z) .none) _ _ _
      refine wpAny_bind (wpAny_updateSeq hS rfl ?_)
      have I4 := I3.lset (f := fun _ => #[]) (its := []) (its' := []) (ys := []) (t' := s2.toks) upd_same hS rfl .nil (Nat.zero_le _)
      rw [upd_upd] at I4
      refine wpAny_bind (wpAny_letGo ?_)
      have hne : ∀ c ∈ [z, TI, TO, i1, i2], s2.heap.objs.size ≠ c := fun c hc => by
        have := (big c hc).2
        omega
      generalize hq0 : s2.heap.objs.size = q0 at *
      have kp2 : ∀ c o, c ≠ q0 → s2.heap.get? c = some o → ((s2.heap.push { cls := .type "list", data := .seq #[] }).update q0 (Obj.mapSeq fun _ => #[])).get? c = some o := fun c o hc e => (Heap.get?_update_other _ _ (Ne.symm hc)).trans (Heap.get?_push_of_some _ e)
      have hS2 := Heap.get?_update_self (Obj.mapSeq fun _ => (#[] : Array Value)) hS rfl
      have hA2 : At ((s2.heap.push { cls := .type "list", data := .seq #[] }).update q0 (Obj.mapSeq fun _ => #[])) z TI TO i1 i2 a b 0 := hA.keep q0 (hne z (by simp)) (hne TI (by simp)) (hne TO (by simp)) (hne i1 (by simp)) (hne i2 (by simp)) kp2 ⟨_, hS2⟩
      have hz2 : IsZip ((s2.heap.push { cls := .type "list", data := .seq #[] }).update q0 (Obj.mapSeq fun _ => #[])) z TI TO .none := kp2 _ _ (hne z (by simp)).symm hz
      have f4 : ∀ c ∈ [z, TI, TO, i1, i2], FpOk X pins (upd H1 q0 (.lst [])) c := fun c hc => by
        obtain ⟨f0, f1, f2, f3, f4, f5⟩ := fz c hc
        exact ⟨by rw [upd_ne (hne c hc).symm]; exact f0, f1, f2, f3, f4, f5⟩
      have run : ∀ (H2 : Hp) (s' : Shared), Inv X pins σ H2 s' → H2 = upd H1 q0 (.lst []) → At s'.heap z TI TO i1 i2 a b 0 → codeAny (model X.prog X.w) X.A.in1 (.builtin "list.extend.loop" ⟨[.ref q0, .ref z, .none], []⟩) (PySem.wants (fun r s₂ => r = .none ∧ EP X pins σ Q (.ref q0) s₂) X.xe) s' := fun H2 s' J e t => by
        subst e
        exact loopZ (A1 := X.A.in1) (Rs := PySem.wants (fun r s₂ => r = .none ∧ EP X pins σ Q (.ref q0) s₂) X.xe) P n hn (show X.A.in1.in1.handled = none from I.ok.hd hc) D hP step (fun acc H' s'' J' p' => ⟨rfl, .ref q0, H', J', rfl, fin acc H' p'⟩) n 0 [] _ s' rfl (Nat.zero_le _) J P0 t f4
      unfold Builtin.List.listExtendWith
      refine wpAny_bind (wpAny_typeOf (T := "zip") ⟨_, hz2, rfl⟩ ?_)
      have e1 : Builtin.List.listSameRef (.ref q0) (.ref z) = false := by simp [Builtin.List.listSameRef, hne z (by simp)]
      have e2 : (Value.type "zip" == Value.type "list") = false := by decide
      have e3 : (Value.type "zip" == Value.type "tuple") = false := by decide
      simp only [e1, e2, e3, Bool.or_false, Bool.false_eq_true, if_false]
      refine wpAny_bind (wpAny_pyIter_zip hz2 ?_)
      refine wpAny_bind (wpAny_holding (hint ⟨_, hz2, rfl⟩ fun r => ?_))
      refine wpAny_ite_split (fun _ => ?_) (fun _ => wpAny_pure ⟨plainId_quiet PySem.F.plain_extend_loop _, run _ _ I4 rfl hA2⟩)
      refine wpAny_bind (wpAny_rule (wpAny_bind ?_))
      show wpAny _ _ (updateSeq q0 (·.push .none) >>= fun _ => updateSeq q0 (·.pop)) _ _ _
      refine wpAny_bind (wpAny_updateSeq hS2 rfl ?_)
      have I5 := I4.lset (f := (·.push Value.none)) (its' := [Value.none]) (ys := [.non]) (t' := s2.toks) upd_same hS2 rfl (.cons rfl .nil) (by rw [List.length_singleton, sizeLine_eq]; decide)
      obtain ⟨z4, its4, k4, r4, hl4, e4⟩ := I5.lstM upd_same
      obtain ⟨u4, rfl, ru4⟩ := r4.one
      refine wpAny_updateSeq e4 rfl ?_ (by show 1 ≤ sizeLine; rw [sizeLine_eq]; decide) (by show 0 ≤ sizeLine + 1; exact Nat.zero_le _)
      have I6 := I5.lset (f := (·.pop)) (its := [u4]) (its' := []) (ys := []) (t' := s2.toks) upd_same e4 (by rfl) .nil (Nat.zero_le _)
      rw [upd_upd, upd_upd] at I6
      refine wpAny_pure ⟨plainId_quiet PySem.F.plain_extend_loop _, run _ _ I6 rfl ?_⟩
      refine hA2.keep q0 (hne z (by simp)) (hne TI (by simp)) (hne TO (by simp)) (hne i1 (by simp)) (hne i2 (by simp)) (fun c o hc e => (Heap.get?_update_other _ _ (Ne.symm hc)).trans ((Heap.get?_update_other _ _ (Ne.symm hc)).trans e)) ⟨_, Heap.get?_update_self _ e4 rfl⟩
end
end PLz
namespace PL
open PySem PySem.Spec L2
variable [Consts]
section
variable {X : Cx} {B : Box} {e e2 : Expr} {t : QA} {p p2 pos pos2 : Pos}
def qZipL (t : QA) (ρ : Env) (Q : T → Env → Prop) : Prop := t ρ fun ws ρ1 => match wsD ws with
  | some [.tuple as, .tuple bs] => as.length < sizeLine ∧ Q (.l (zipD as bs)) ρ1
  | _ => False
theorem q_listZip (hc : X.calm = true) (hg : Gl X "list") (hm : X.mg "list" = none) (hg2 : Gl X "zip") (hm2 : X.mg "zip" = none) (ha : PA X [e, e2] (liftA X.K B t))
    (hs : starEach [e, e2] X.env = (false, eval e X.env) :: starEach [e2] X.env := by rfl) (hpl : (backTo pos2 (starEach [e2] X.env)).any (·.1) = false := by rfl)
    (hs1 : starEach [.Call (.Name "zip" p2) [e, e2] [] pos2] X.env = (false, eval (.Call (.Name "zip" p2) [e, e2] [] pos2) X.env) :: starEach [] X.env := by rfl) :
    PE X (.Call (.Name "list" p) [.Call (.Name "zip" p2) [e, e2] [] pos2] [] pos) (lift X.K B (qZipL t)) :=
  weakE (PLz.pe_listZip hc hg hm hg2 hm2 ha hs hpl hs1) fun σ H Q ⟨G, F, ρ, Pq, k, h, q⟩ => liftA_use k h fun ws ρ1 vs H1 F1 h1 k1 w1 e1 => by
    split at h1
    · rename_i as bs g
      obtain ⟨hz, h1⟩ := h1
      obtain ⟨x, y, rfl, r1, r2⟩ := (wsD_ok w1 g).two
      cases r1 with
      | tup s1 t1 =>
        cases r2 with
        | tup s2 t2 =>
          rename_i a xs b ys
          have l1 := t1.length
          have l2 := t2.length
          refine ⟨a, b, xs, ys, min as.length bs.length, rfl, by rw [l1, l2], same_t k1.2.f s1, same_t k1.2.f s2, fun d hd => ?_⟩
          have hG : G d = none := (k1.2.free hd).2
          refine ⟨fun i acc H => ∃ F', St0 X.K B (upd G d (.lst acc)) F' H σ ρ1 ∧ Same F1 F' ∧ RpAll X.K F' acc ((zipD as bs).take i) ∧ acc.length ≤ as.length, ⟨F1, k1.lend hd, Same.refl F1, .nil, Nat.zero_le _⟩, fun i acc H2 ⟨F', k2, s, _, hl⟩ => ⟨k2.2.g d _ upd_same, by omega, same_t (s.trans k2.2.f) s1, same_t (s.trans k2.2.f) s2⟩, fun i acc H2 x y W ⟨F', k2, s, rr, hl⟩ hx hy hW => ?_, fun acc H2 ⟨F', k2, s, rr, hl⟩ => ?_⟩
          · obtain ⟨dx, hdx, rx⟩ := t1.getV hx
            obtain ⟨dy, hdy, ry⟩ := t2.getV hy
            obtain ⟨fl, e2⟩ := k2.newT (p := W) hW (RpAll.cons (rx.mono s) (.one (ry.mono s)))
            have hv := fl_d fl
            refine ⟨_, fl.pop.lent hG (B.okF k1.2.bx (s.trans e2)), s.trans e2, ?_, ?_⟩
            · rw [List.take_add_one, zipD_get hdx hdy]
              exact (rr.mono e2).append (.one hv)
            · have := rr.length
              rw [List.length_take, zipD_len] at this
              have hi := (List.getElem?_eq_some_iff.mp hdx).1
              rw [List.length_append, List.length_singleton]
              omega
          · have e : (zipD as bs).take (min as.length bs.length) = zipD as bs := by rw [← zipD_len, List.take_length]
            rw [e] at rr
            have hd1 : H2 d = some (.lst acc) := k2.2.g d _ upd_same
            have k3 := k2.2.unpark hG (B.okF k1.2.bx s) rr
            rw [upd_id hd1] at k3
            exact q _ _ _ _ _ h1 ⟨k2.1, k3, fun j z => nomatch z⟩ (e1.trans s)
    · exact h1.elim
end
end PL

set_option Elab.async false
set_option linter.all false
set_option maxRecDepth 100000
/-! PL, part 14: the law's def, whose first statement makes the box that draws. -/
namespace PL
open PySem PySem.Spec L2
variable [Consts]
/-- the def that makes the box of the script's cells -/
def spBox (K : PySem.W.Frag) (B : Box) : Sp := fun vs H Q _ => ∃ (a : Addr) (ns : List Int), vs = [.ref a] ∧ SqL K H a (ns.map V.int) ∧ ns.length ≤ 63 ∧ ∀ u H' fp, B.at_ H' u fp → (∀ b, fp b → H b = none) → Same H H' → Q (.ref u) H'
def spLaw (K : PySem.W.Frag) : Sp := fun vs H Q _ => ∃ (a : Addr) (ns : List Int), vs = [.ref a] ∧ SqL K H a (ns.map V.int) ∧ ns.length ≤ 63 ∧ ∀ H', Q (.bl true) H'
/-- the law is kept -/
def lawEnds : PEnds := { nx := fun _ => False, rt := fun r _ => r = .d (.bool true) }
theorem law_read {K : PySem.W.Frag} {B : Box} {E : XK} {i n : Nat} {tr : QS} {a : Addr} {ns : List Int} {H : Hp} {Q : VK} (hi : 0 < i ∧ i < n + 1) (hS : SqL K H a (ns.map V.int)) (hl : ns.length ≤ 63)
    (h : ∀ u, tr lawEnds ((.raw (.ref a) :: List.replicate n .un).set i (.bx u))) (q : ∀ H', Q (.bl true) H') (hB : B.ok (fun _ => none) (fun _ => none) := by exact True.intro) :
    tSeq (tAsg (tCall (spBox K B) [] E (tCons (tVar 0) tNil)) (gName i)) (liftS K B tr) { nx := fun _ H' => Q .non H', rt := Q } (some (.ref a) :: List.replicate n none) H := by
  refine ⟨.ref a, rfl, a, ns, rfl, hS, hl, fun u H' fp hb hfp hs => ?_⟩
  obtain ⟨j, rfl⟩ : ∃ j, i = j + 1 := ⟨i - 1, by omega⟩
  refine ⟨fun _ => none, fun _ => none, (.raw (.ref a) :: List.replicate n .un).set (j + 1) (.bx u), lawEnds, ⟨fun t ht => ?_, fun k => if k = j + 1 then fp else fun _ => False, (fun _ _ z => nomatch z), (fun _ _ z => nomatch z), (fun _ _ z => nomatch z), hB, by simp, fun k t hk => ?_, fun k k' b h1 h2 => ?_, fun k b h1 => ⟨rfl, rfl⟩, fun k b h1 => ?_⟩, h u, fun _ _ _ _ z => z.elim, fun r v σ' H'' ρ' F' z fl _ => ?_, fun _ _ _ _ z => z.elim, fun _ _ _ _ z => z.elim⟩
  · rw [List.set_cons_succ] at ht
    rcases List.mem_cons.mp ht with rfl | z
    · trivial
    · rcases List.mem_or_eq_of_mem_set z with z | rfl
      · rw [List.eq_of_mem_replicate z]
        trivial
      · trivial
  · rw [List.set_cons_succ] at hk ⊢
    by_cases e : k = j + 1
    · subst e
      simp only [if_true, List.getElem?_cons_succ] at hk ⊢
      have hj : j < n := by omega
      rw [List.getElem?_set_self (by simpa using hj)] at hk
      rw [List.getElem?_set_self (by simpa using hj)]
      cases hk
      exact ⟨rfl, hb⟩
    · simp only [if_neg e]
      cases k with
      | zero =>
        cases hk
        exact ⟨fun _ z => z, rfl⟩
      | succ k =>
        rw [List.getElem?_cons_succ] at hk
        rw [List.getElem?_set_ne (by omega)] at hk
        have := List.eq_of_mem_replicate (List.mem_of_getElem? hk)
        subst this
        exact fun _ z => z
  · by_cases e : k = j + 1 <;> by_cases e' : k' = j + 1 <;> simp only [e, e', if_true, if_false] at h1 h2
    omega
  · by_cases e : k = j + 1 <;> simp only [e, if_true, if_false] at h1
    simp
    omega
  · have z : r = .d (.bool true) := z
    subst z
    have := fl_d fl
    cases this
    exact q _
end PL

set_option Elab.async false
set_option linter.all false
set_option maxRecDepth 100000
set_option exponentiation.threshold 3000
/-! PL, part 15: data that repr can show. -/
namespace PL
open PySem PySem.Spec L2
variable [Consts]
/-- small data: depth, bulk -/
structure Sm (k n : Nat) (d : D) : Prop where
  lay : Lay k d
  show_ : d.showable = true
  short : d.intsShort 13 = true
  few : d.bulk ≤ n
theorem Sm.mono {k k' n n' : Nat} {d : D} (h : Sm k n d) (hk : k ≤ k') (hn : n ≤ n') : Sm k' n' d := ⟨h.lay.mono hk, h.show_, h.short, Nat.le_trans h.few hn⟩
theorem sm_int {k n : Nat} {i : Int} (h1 : -999999999999 ≤ i) (h2 : i ≤ 999999999999) : Sm k n (.int i) := by
  refine ⟨lay_int _, ?_, by simpa only [PyData.intsShort, decide_eq_true_eq] using PyData.shown_int_le2 h1 h2, by simp [PyData.bulk]⟩
  have : i.natAbs.log2 < 1920 := by
    by_cases z : i.natAbs = 0
    · rw [z]; decide
    · refine (Nat.log2_lt z).mpr (Nat.lt_of_lt_of_le (m := 2 ^ 40) (by have e : (2 : Nat) ^ 40 = 1099511627776 := by decide
                                                                       omega) (Nat.pow_le_pow_right (by decide) (by decide)))
  simpa [PyData.showable] using this
theorem sm_nat {k n i : Nat} (h : i ≤ 999999999999) : Sm k n (.int (i : Nat)) := sm_int (by omega) (by omega)
theorem sm_bool {k n : Nat} {b : Bool} : Sm k n (.bool b) := ⟨lay_bool _, by simp [PyData.showable], by simp [PyData.intsShort], by simp [PyData.bulk]⟩
theorem sm_none {k n : Nat} : Sm k n .none := ⟨lay_none, by simp [PyData.showable], by simp [PyData.intsShort], by simp [PyData.bulk]⟩
theorem sm_str {k n : Nat} {x : Str} (h : PyData.strOk x = true) (hn : x.length ≤ n) : Sm k n (.str x) := ⟨lay_str h, by simp [PyData.showable], by simp [PyData.intsShort], by simp only [PyData.bulk]; exact hn⟩
theorem sm_all {k n : Nat} : ∀ {ds : List D}, (∀ d ∈ ds, Sm k n d) → PyData.showableAll ds = true ∧ PyData.intsShortAll 13 ds = true ∧ PyData.bulkAll ds ≤ ds.length * (n + 1)
  | [], _ => ⟨by simp [PyData.showableAll], by simp [PyData.intsShortAll], by simp [PyData.bulkAll]⟩
  | d :: ds, h => by
    obtain ⟨h1, h2, h3⟩ := sm_all fun e he => h e (List.mem_cons_of_mem _ he)
    have h4 := h d List.mem_cons_self
    have h5 := h4.few
    refine ⟨by simp [PyData.showableAll, h1, h4.show_], by simp [PyData.intsShortAll, h2, h4.short], ?_⟩
    simp only [PyData.bulkAll, List.length_cons, Nat.add_mul, Nat.one_mul]
    omega
theorem sm_list {k n m : Nat} {ds : List D} (h : ∀ d ∈ ds, Sm k n d) (hm : ds.length * (n + 1) ≤ m) : Sm (k + 1) m (.list ds) := by
  obtain ⟨h1, h2, h3⟩ := sm_all h
  exact ⟨lay_list fun d hd => (h d hd).lay, by simpa [PyData.showable] using h1, by simpa [PyData.intsShort] using h2, by simp only [PyData.bulk]; omega⟩
theorem sm_tup {k n m : Nat} {ds : List D} (h : ∀ d ∈ ds, Sm k n d) (hm : ds.length * (n + 1) ≤ m) : Sm (k + 1) m (.tuple ds) := by
  obtain ⟨h1, h2, h3⟩ := sm_all h
  exact ⟨lay_tup fun d hd => (h d hd).lay, by simpa [PyData.showable] using h1, by simpa [PyData.intsShort] using h2, by simp only [PyData.bulk]; omega⟩
theorem all2 {k n : Nat} {a b : D} (h1 : Sm k n a) (h2 : Sm k n b) : ∀ d ∈ [a, b], Sm k n d := fun d h => by
  simp at h
  rcases h with rfl | rfl <;> assumption
theorem all3 {k n : Nat} {a b c : D} (h1 : Sm k n a) (h2 : Sm k n b) (h3 : Sm k n c) : ∀ d ∈ [a, b, c], Sm k n d := fun d h => by
  simp at h
  rcases h with rfl | rfl | rfl <;> assumption
theorem all4 {k n : Nat} {a b c e : D} (h1 : Sm k n a) (h2 : Sm k n b) (h3 : Sm k n c) (h4 : Sm k n e) : ∀ d ∈ [a, b, c, e], Sm k n d := fun d h => by
  simp at h
  rcases h with rfl | rfl | rfl | rfl <;> assumption
/-- repr of small data -/
theorem sm_repr {k n u : Nat} {d : D} {Q : T → Prop} (h : Sm k n d) (hu : u + 64 < cLine) (q : Q (.d (.str d.shown))) (hk : k < 64 := by decide) (hn : n ≤ 1048576 := by decide) : pRepr u [d] Q := by
  have := h.lay.2
  refine ⟨h.lay.nod, noDict_of d h.lay.1, h.show_, by omega, PyData.shown_fits_bulk (B := 13) (by decide) (by decide) (PyData.leavesShort_of_canLay0 13 d h.lay.1 h.short) ?_, q⟩
  have e : (2 : Nat) ^ 20 = 1048576 := by decide
  have := h.few
  omega
/-- texts that repr wrote, compared -/
def pNeR : D → D → (T → Prop) → Prop
  | .str a, .str b, Q => Q (.d (.bool (!decide (a = b))))
  | _, _, _ => False
def pEqR : D → D → (T → Prop) → Prop
  | .str a, .str b, Q => Q (.d (.bool (decide (a = b))))
  | _, _, _ => False
section
variable {K : PySem.W.Frag} {B : Box}
theorem vstr_eq {a b : Str} : decide (V.str a = V.str b) = decide (a = b) := by
  rw [Bool.eq_iff_iff]
  simp
theorem o_neR : OpD K B rNe pNeR := by
  intro G F H σ ρ P Q d1 d2 v1 v2 k r1 r2 h q
  unfold pNeR at h
  split at h
  · refine ⟨by rw [r1.str, r2.str]; rfl, ?_⟩
    rw [r1.str, r2.str, vstr_eq]
    exact q _ _ _ _ h (k.d (.bl _)) (Same.refl F)
  · exact h.elim
theorem o_eqR : OpD K B rEq pEqR := by
  intro G F H σ ρ P Q d1 d2 v1 v2 k r1 r2 h q
  unfold pEqR at h
  split at h
  · refine ⟨by rw [r1.str, r2.str]; rfl, ?_⟩
    rw [r1.str, r2.str, vstr_eq]
    exact q _ _ _ _ h (k.d (.bl _)) (Same.refl F)
  · exact h.elim
end
/-! ### statement by statement -/
theorem seq_to {t u : QS} {DP : PEnds} {ρ : Env} (I : Env → Prop) (h1 : ∀ DP' : PEnds, (∀ ρ', I ρ' → DP'.nx ρ') → t DP' ρ) (h2 : ∀ ρ', I ρ' → u DP ρ') : sSeq t u DP ρ := h1 _ h2
/-- a check that holds: its branch is not come to -/
theorem seq_pass {c : QT} {t u : QS} {DP : PEnds} {ρ : Env} (ρ0 : Env) (h1 : ∀ R : Bool → Env → Prop, R false ρ0 → c ρ R) (h2 : u DP ρ0) : sSeq (sIf c t sNext) u DP ρ := h1 _ h2
theorem one_pass {c : QT} {t : QS} {DP : PEnds} {ρ : Env} (ρ0 : Env) (h1 : ∀ R : Bool → Env → Prop, R false ρ0 → c ρ R) (h2 : DP.nx ρ0) : sIf c t sNext DP ρ := h1 _ h2
end PL

set_option Elab.async false
set_option linter.all false
set_option maxRecDepth 100000
/-! PL, part 16: lists of one's own changed in place; dicts of one's own. -/
namespace PL
open PySem PySem.Spec L2
variable [Consts]
section
variable {X : Cx} {B : Box} {x : Str} {xp apos cpos spos tpos pos : Pos} {e e2 o : Expr} {te ti tv ty tx : QE}
def isL (ρ : Env) (i : Nat) : Prop := match ρ[i]? with
  | some (.l _) => True
  | _ => False
theorem isL_ref {K : PySem.W.Frag} {G F H : Hp} {σ : St} {ρ : Env} {i : Nat} (k : St0 K B G F H σ ρ) (h : isL ρ i) : ∃ a xs ds, ρ[i]? = some (.l ds) ∧ σ[i]? = some (some (.ref a)) ∧ H a = some (.lst xs) ∧ RpAll K F xs ds := by
  unfold isL at h
  split at h
  · rename_i ds e
    obtain ⟨a, xs, h1, h2, h3⟩ := k.2.varL e
    exact ⟨a, xs, ds, e, h1, h2, h3⟩
  · exact h.elim
/-- xs[e] = value -/
def sPutL (i : Nat) (ti tv : QE) (DP : PEnds) (ρ : Env) : Prop := tv ρ fun r ρ1 => isL ρ1 i ∧ ti ρ1 fun n ρ2 => match r.w, n.w, ρ2[i]? with
  | .d d, .d (.int j), some (.l ds) => ∃ k, ixN ds.length j = some k ∧ DP.nx (ρ2.set i (.l (ds.set k d)))
  | _, _, _ => False
theorem lift_putL {K : PySem.W.Frag} {i : Nat} {D : Ends} {σ : St} {H : Hp} (h : liftS K B (sPutL i ti tv) D σ H) : tAsg (lift K B tv) (gSub (tVar i) (lift K B ti) rSetL) D σ H := by
  obtain ⟨G, F, ρ, DP, k, h, en⟩ := h
  refine lift_use k h fun r ρ1 v H1 F1 ⟨hi, h1⟩ k1 w1 e1 => ?_
  obtain ⟨a, xs, ds, r1, r2, r3, r4⟩ := isL_ref k1 hi
  refine ⟨.ref a, r2, lift_use k1 h1 fun n ρ2 u H2 F2 h2 k2 w2 e2 => ?_⟩
  split at h2
  · rename_i d j ds' g1 g2 g3
    obtain ⟨q, h3, h4⟩ := h2
    rw [g1] at w1
    rw [g2] at w2
    cases w2
    obtain ⟨a', xs', s1, s2, s3⟩ := k2.2.varL g3
    rw [r2] at s1
    cases s1
    exact ⟨a, xs', j, q, rfl, rfl, s2, by rw [s3.length]; exact h3, en.nx _ _ _ _ h4 (st_set k2 g3 r2 (s3.set (Rp.mono e2 w1) q)) (e1.trans e2)⟩
  · exact h2.elim
theorem s_putL (i : Nat) (hv : PE X e2 (lift X.K B tv)) (hi : PE X e (lift X.K B ti)) (hN : X.N[i]? = some x := by rfl) (hx : Vis X.env.scope x := by first | exact Or.inl rfl | exact Or.inr (Or.inl rfl) | exact Or.inr (Or.inr rfl)) (hd : (x == ("__debug__" : Str)) = false := by decide) (hcd : (x == ("__classdict__" : Str)) = false := by decide)
    (hs : swapsWithSole [.Subscript (.Name x xp) e tpos] e2 spos.line X.env = pure false := by rfl) (hw : swappedStores [.Subscript (.Name x xp) e tpos] e2 X.env = pure none := by rfl) (h1 : (assignEach [.Subscript (.Name x xp) e tpos] X.env).map (·.2) = [assign (.Subscript (.Name x xp) e tpos) X.env] := by rfl)
    (ha : ∀ v, assign (.Subscript (.Name x xp) e tpos) X.env v = (do
      let ov ← holding [v] (eval (.Name x xp) X.env)
      let iv ← holding [v, ov] (eval e X.env)
      standAt tpos
      holding [v, ov, iv] (setItem ov iv v)
      release [v, ov, iv] []) := by intro _; rfl) : PS X (.Assign [.Subscript (.Name x xp) e tpos] e2 spos) (liftS X.K B (sPutL i ti tv)) :=
  weakS (ps_asg hv (pg_sub (pe_var hN hx hd hcd) hi set_list ha) hs hw h1) fun _ _ _ => lift_putL
/-- xs.pop(e) -/
def qPopAt (i : Nat) (te : QE) (ρ : Env) (Q : T → Env → Prop) : Prop := isL ρ i ∧ te ρ fun r ρ1 => match r.w, ρ1[i]? with
  | .d (.int j), some (.l ds) => (-(2 ^ 63) ≤ j ∧ j < 2 ^ 63) ∧ ∃ k d, seqIndex? j ds.length = some k ∧ ds[k]? = some d ∧ Q (.d d) (ρ1.set i (.l (ds.eraseIdx k)))
  | _, _ => False
theorem lift_popAt {K : PySem.W.Frag} {i : Nat} {σ : St} {H : Hp} {Q : VK} (h : lift K B (qPopAt i te) σ H Q) : tBM K "list" rPopAt (tVar i) (tCons (lift K B te) tNil) σ H Q := by
  obtain ⟨G, F, ρ, P, k, ⟨hi, h⟩, q⟩ := h
  obtain ⟨a, xs, ds, r1, r2, r3, r4⟩ := isL_ref k hi
  refine ⟨.ref a, r2, .inl ⟨rfl, _, .inl (.inl r3)⟩, lift_use k h fun r ρ1 v H1 F1 h1 k1 w1 e1 => ?_⟩
  split at h1
  · rename_i j ds' g1 g2
    obtain ⟨⟨b1, b2⟩, n, d, h3, h4, h5⟩ := h1
    rw [g1] at w1
    cases w1
    obtain ⟨a', xs', s1, s2, s3⟩ := k1.2.varL g2
    rw [r2] at s1
    cases s1
    obtain ⟨y, hy, ry⟩ := s3.get h4
    exact ⟨a, xs', j, n, y, rfl, rfl, s2, b1, b2, by rw [s3.length]; exact h3, hy, q _ _ _ _ _ h5 ((st_set k1 g2 r2 (s3.eraseIdx n)).d ry) e1⟩
  · exact h1.elim
theorem q_popAt (i : Nat) (he : PE X e (lift X.K B te)) (hN : X.N[i]? = some x := by rfl) (hv : Vis X.env.scope x := by first | exact Or.inl rfl | exact Or.inr (Or.inl rfl) | exact Or.inr (Or.inr rfl)) (hd : (x == ("__debug__" : Str)) = false := by decide)
    (hcd : (x == ("__classdict__" : Str)) = false := by decide) (hbase : attributeBase (.Name x xp) "pop" X.env (eval (.Name x xp) X.env) = eval (.Name x xp) X.env := by rfl)
    (hfew : ((backTo cpos (starEach [e] X.env)).all (fun x => !x.1) && (backToKw cpos (keywordEach [] X.env)).all (fun x => x.1.isSome) && decide ([e].length + ([] : List Keyword).length + (if ([] : List Keyword).isEmpty then 0 else 1) < 30)) = true := by rfl)
    (hline : (apos.endLine == cpos.line) = true := by rfl) (hs : starEach [e] X.env = (false, eval e X.env) :: starEach [] X.env := by rfl) (hplain : (backTo cpos (starEach [] X.env)).any (·.1) = false := by rfl) :
    PE X (.Call (.Attribute (.Name x xp) "pop" apos) [e] [] cpos) (lift X.K B (qPopAt i te)) :=
  weakE (pe_bm PySem.F.plainAttrs_list PySem.F.slot_list_pop PySem.F.type_list_pop mt_popAt (pe_var hN hv hd hcd) (pa_cons he pa_nil hs) hbase hfew hline hs hplain) fun _ _ _ => lift_popAt
/-- xs.pop() -/
def qPop (i : Nat) (ρ : Env) (Q : T → Env → Prop) : Prop := match ρ[i]? with
  | some (.l ds) => ∃ d, ds[ds.length - 1]? = some d ∧ Q (.d d) (ρ.set i (.l ds.dropLast))
  | _ => False
theorem RpAll.dropLast {K : PySem.W.Frag} {F : Hp} {xs : List V} {ds : List D} (r : RpAll K F xs ds) : RpAll K F xs.dropLast ds.dropLast := by
  rw [List.dropLast_eq_take, List.dropLast_eq_take, r.length]
  generalize ds.length - 1 = n
  induction n generalizing xs ds with
  | zero => simp; exact .nil
  | succ n ih =>
    cases r with
    | nil => simp; exact .nil
    | cons h t => exact .cons h (ih t)
theorem lift_pop {K : PySem.W.Frag} {i : Nat} {σ : St} {H : Hp} {Q : VK} (h : lift K B (qPop i) σ H Q) : tBM0 K "list" rPop (tVar i) σ H Q := by
  obtain ⟨G, F, ρ, P, k, h, q⟩ := h
  unfold qPop at h
  split at h
  · rename_i ds g
    obtain ⟨d, h1, h2⟩ := h
    obtain ⟨a, xs, s1, s2, s3⟩ := k.2.varL g
    obtain ⟨y, hy, ry⟩ := s3.get h1
    rw [← s3.length] at hy
    exact ⟨.ref a, s1, .inl ⟨rfl, _, .inl (.inl s2)⟩, a, xs, y, rfl, rfl, s2, hy, q _ _ _ _ _ h2 ((st_set k g s1 s3.dropLast).d ry) (Same.refl F)⟩
  · exact h.elim
theorem q_pop (i : Nat) (hN : X.N[i]? = some x := by rfl) (hv : Vis X.env.scope x := by first | exact Or.inl rfl | exact Or.inr (Or.inl rfl) | exact Or.inr (Or.inr rfl)) (hd : (x == ("__debug__" : Str)) = false := by decide)
    (hcd : (x == ("__classdict__" : Str)) = false := by decide) (hbase : attributeBase (.Name x xp) "pop" X.env (eval (.Name x xp) X.env) = eval (.Name x xp) X.env := by rfl) (hline : (apos.endLine == cpos.line) = true := by rfl) :
    PE X (.Call (.Attribute (.Name x xp) "pop" apos) [] [] cpos) (lift X.K B (qPop i)) :=
  weakE (pe_bm0 PySem.F.plainAttrs_list PySem.F.slot_list_pop PySem.F.type_list_pop mt_pop (pe_var hN hv hd hcd) hbase hline) fun _ _ _ => lift_pop
/-- xs.extend(e) -/
def qExt (i : Nat) (te : QE) (ρ : Env) (Q : T → Env → Prop) : Prop := isL ρ i ∧ te ρ fun r ρ1 => match r.w, ρ1[i]? with
  | .d (.list es), some (.l ds) => ds.length + es.length ≤ sizeLine ∧ Q (.d .none) (ρ1.set i (.l (ds ++ es)))
  | _, _ => False
theorem lift_ext {K : PySem.W.Frag} {i : Nat} {σ : St} {H : Hp} {Q : VK} (h : lift K B (qExt i te) σ H Q) : tBM K "list" rExtend (tVar i) (tCons (lift K B te) tNil) σ H Q := by
  obtain ⟨G, F, ρ, P, k, ⟨hi, h⟩, q⟩ := h
  obtain ⟨a, xs, ds, r1, r2, r3, r4⟩ := isL_ref k hi
  refine ⟨.ref a, r2, .inl ⟨rfl, _, .inl (.inl r3)⟩, lift_use k h fun r ρ1 v H1 F1 h1 k1 w1 e1 => ?_⟩
  split at h1
  · rename_i es ds' g1 g2
    obtain ⟨h3, h5⟩ := h1
    rw [g1] at w1
    obtain ⟨a', xs', s1, s2, s3⟩ := k1.2.varL g2
    rw [r2] at s1
    cases s1
    cases w1 with
    | lst hh rr =>
      exact ⟨a, _, xs', _, rfl, rfl, s2, k1.2.f _ _ hh, by rw [s3.length, rr.length]; exact h3, q _ _ _ _ _ h5 ((st_set k1 g2 r2 (s3.append rr)).d .non) e1⟩
  · exact h1.elim
theorem q_ext (i : Nat) (he : PE X e (lift X.K B te)) (hN : X.N[i]? = some x := by rfl) (hv : Vis X.env.scope x := by first | exact Or.inl rfl | exact Or.inr (Or.inl rfl) | exact Or.inr (Or.inr rfl)) (hd : (x == ("__debug__" : Str)) = false := by decide)
    (hcd : (x == ("__classdict__" : Str)) = false := by decide) (hbase : attributeBase (.Name x xp) "extend" X.env (eval (.Name x xp) X.env) = eval (.Name x xp) X.env := by rfl)
    (hfew : ((backTo cpos (starEach [e] X.env)).all (fun x => !x.1) && (backToKw cpos (keywordEach [] X.env)).all (fun x => x.1.isSome) && decide ([e].length + ([] : List Keyword).length + (if ([] : List Keyword).isEmpty then 0 else 1) < 30)) = true := by rfl)
    (hline : (apos.endLine == cpos.line) = true := by rfl) (hs : starEach [e] X.env = (false, eval e X.env) :: starEach [] X.env := by rfl) (hplain : (backTo cpos (starEach [] X.env)).any (·.1) = false := by rfl) :
    PE X (.Call (.Attribute (.Name x xp) "extend" apos) [e] [] cpos) (lift X.K B (qExt i te)) :=
  weakE (pe_bm PySem.F.plainAttrs_list PySem.F.slot_list_extend PySem.F.type_list_extend mt_extend (pe_var hN hv hd hcd) (pa_cons he pa_nil hs) hbase hfew hline hs hplain) fun _ _ _ => lift_ext
end
end PL

set_option Elab.async false
set_option linter.all false
set_option maxRecDepth 100000
/-! PL, part 17: dicts of one's own, keys ints and texts (k) or tuples of them (kt). -/
namespace PL
open PySem PySem.Spec L2
variable [Consts]
section
variable {κ : Type} [DecidableEq κ]
def valD (kds : List (κ × D)) (k : κ) : Option D := (kds.find? fun kv => decide (kv.1 = k)).map (·.2)
def putD (kds : List (κ × D)) (k : κ) (d : D) : List (κ × D) :=
  if (kds.any fun kv => decide (kv.1 = k)) = true then kds.map (fun kv => if kv.1 = k then (kv.1, d) else kv) else kds ++ [(k, d)]
inductive RK (K : PySem.W.Frag) (F : Hp) : List (κ × V) → List (κ × D) → Prop
  | nil : RK K F [] []
  | cons {k : κ} {v : V} {vs : List (κ × V)} {d : D} {ds : List (κ × D)} : Rp K F v d → RK K F vs ds → RK K F ((k, v) :: vs) ((k, d) :: ds)
variable {K : PySem.W.Frag} {F : Hp}
theorem RK.any : ∀ {kvs : List (κ × V)} {kds : List (κ × D)} (k : κ), RK K F kvs kds → (kvs.any fun kv => decide (kv.1 = k)) = kds.any fun kv => decide (kv.1 = k)
  | _, _, _, .nil => rfl
  | _, _, k, .cons _ r => by simp only [List.any_cons, RK.any k r]
theorem RK.length : ∀ {kvs : List (κ × V)} {kds : List (κ × D)}, RK K F kvs kds → kvs.length = kds.length
  | _, _, .nil => rfl
  | _, _, .cons _ r => congrArg (· + 1) r.length
theorem RK.val : ∀ {kvs : List (κ × V)} {kds : List (κ × D)} (k : κ), RK K F kvs kds → (valV kvs k = none ∧ valD kds k = none) ∨ ∃ v d, valV kvs k = some v ∧ valD kds k = some d ∧ Rp K F v d
  | _, _, _, .nil => .inl ⟨rfl, rfl⟩
  | _, _, k, .cons (k := k') (v := v) (d := d) h r => by
    unfold valV valD
    by_cases e : k' = k
    · exact .inr ⟨v, d, by simp [e], by simp [e], h⟩
    · have := RK.val k r
      unfold valV valD at this
      simpa [List.find?_cons, e] using this
theorem RK.map {v : V} {d : D} (k : κ) (h : Rp K F v d) : ∀ {kvs : List (κ × V)} {kds : List (κ × D)}, RK K F kvs kds → RK K F (kvs.map fun kv => if kv.1 = k then (kv.1, v) else kv) (kds.map fun kv => if kv.1 = k then (kv.1, d) else kv)
  | _, _, .nil => .nil
  | _, _, .cons (k := k') q r => by
    simp only [List.map_cons]
    by_cases e : k' = k
    · simp only [e, if_true]
      exact .cons h (RK.map k h r)
    · simp only [e, if_false]
      exact .cons q (RK.map k h r)
theorem RK.snoc {v : V} {d : D} (k : κ) (h : Rp K F v d) : ∀ {kvs : List (κ × V)} {kds : List (κ × D)}, RK K F kvs kds → RK K F (kvs ++ [(k, v)]) (kds ++ [(k, d)])
  | _, _, .nil => .cons h .nil
  | _, _, .cons q r => .cons q (RK.snoc k h r)
theorem RK.put {v : V} {d : D} {kvs : List (κ × V)} {kds : List (κ × D)} (k : κ) (r : RK K F kvs kds) (h : Rp K F v d) : RK K F (putK kvs k v) (putD kds k d) := by
  unfold putK putD
  rw [r.any k]
  split
  · exact r.map k h
  · exact r.snoc k h
theorem RK.mono {F' : Hp} (e : Same F F') : ∀ {kvs : List (κ × V)} {kds : List (κ × D)}, RK K F kvs kds → RK K F' kvs kds
  | _, _, .nil => .nil
  | _, _, .cons q r => .cons (q.mono e) (r.mono e)
theorem valD_nil {k : κ} : valD ([] : List (κ × D)) k = none := rfl
theorem length_putD (kds : List (κ × D)) (k : κ) (d : D) : (putD kds k d).length ≤ kds.length + 1 := by
  unfold putD
  split
  · rw [List.length_map]; omega
  · rw [List.length_append]; exact Nat.le_refl _
end
section
variable {K : PySem.W.Frag} {F : Hp}
theorem rk_of : ∀ {kvs : List (Key × V)} {kds : List (Key × D)}, RpKv K F kvs kds → RK K F kvs kds
  | _, _, .nil => .nil
  | _, _, .cons h r => .cons h (rk_of r)
theorem of_rk : ∀ {kvs : List (Key × V)} {kds : List (Key × D)}, RK K F kvs kds → RpKv K F kvs kds
  | _, _, .nil => .nil
  | _, _, .cons h r => .cons h (of_rk r)
theorem rt_of : ∀ {kvs : List (List Key × V)} {kds : List (List Key × D)}, RpKt K F kvs kds → RK K F kvs kds
  | _, _, .nil => .nil
  | _, _, .cons h r => .cons h (rt_of r)
theorem of_rt : ∀ {kvs : List (List Key × V)} {kds : List (List Key × D)}, RK K F kvs kds → RpKt K F kvs kds
  | _, _, .nil => .nil
  | _, _, .cons h r => .cons h (of_rt r)
/-! ### keys of data -/
def keyOf : D → Option Key
  | .int i => some (.inl i)
  | .str x => some (.inr x)
  | _ => none
def keysAll : List D → Option (List Key)
  | [] => some []
  | d :: ds => match keyOf d, keysAll ds with
    | some k, some ks => some (k :: ks)
    | _, _ => none
def keysOf : D → Option (List Key)
  | .tuple ds => keysAll ds
  | _ => none
theorem key_rp {v : V} {d : D} {k : Key} (h : Rp K F v d) (e : keyOf d = some k) : v = kV k := by
  cases h <;> simp [keyOf] at e <;> subst e <;> rfl
theorem keys_rp : ∀ {xs : List V} {ds : List D} {ks : List Key}, RpAll K F xs ds → keysAll ds = some ks → xs = ks.map kV
  | _, _, _, .nil, e => by
    cases e
    rfl
  | _, _, _, .cons (d := d) (ds := ds) h r, e => by
    unfold keysAll at e
    cases h1 : keyOf d with
    | none => rw [h1] at e; cases e
    | some k =>
      cases h2 : keysAll ds with
      | none => rw [h1, h2] at e; cases e
      | some ks =>
        rw [h1, h2] at e
        cases e
        rw [key_rp h h1, keys_rp r h2]
        rfl
theorem keys_t {v : V} {d : D} {ks : List Key} (hC : NoC) (h : Rp K F v d) (e : keysOf d = some ks) : ∃ b, v = .ref b ∧ F b = some (.tup (ks.map kV)) := by
  unfold keysOf at e
  split at e
  · cases h with
    | tup s r =>
      rw [keys_rp r e] at s
      exact ⟨_, rfl, s.resolve_right fun z => hC _ z.1⟩
  · cases e
theorem keysAll_nats : ∀ ns : List Nat, keysAll (nats ns) = some (ns.map fun n => .inl ((n : Nat) : Int))
  | [] => rfl
  | n :: ns => by
    have ih := keysAll_nats ns
    unfold nats at ih
    simp only [nats, List.map_cons, keysAll, keyOf, ih]
theorem keysOf_nats (ns : List Nat) : keysOf (.tuple (nats ns)) = some (ns.map fun n => .inl ((n : Nat) : Int)) := keysAll_nats ns
/-! ### the slot holds a dict of one's own -/
def isDct (ρ : Env) (i : Nat) : Prop := match ρ[i]? with
  | some (.k _) => True
  | some (.kt _) => True
  | _ => False
/-- what the dict of slot i holds at the key -/
def atD (ρ : Env) (i : Nat) (d : D) (Q : Option D → Prop) : Prop := match ρ[i]? with
  | some (.k kds) => match keyOf d with
    | some k => Q (valD kds k)
    | none => False
  | some (.kt kds) => match keysOf d with
    | some k => NoC ∧ Q (valD kds k)
    | none => False
  | _ => False
def setD (ρ : Env) (i : Nat) (d e : D) (Q : Env → Prop) : Prop := match ρ[i]? with
  | some (.k kds) => match keyOf d with
    | some k => kds.length < sizeLine ∧ Q (ρ.set i (.k (putD kds k e)))
    | none => False
  | some (.kt kds) => match keysOf d with
    | some k => NoC ∧ kds.length < sizeLine ∧ Q (ρ.set i (.kt (putD kds k e)))
    | none => False
  | _ => False
variable {B : Box} {G H : Hp} {σ : St} {ρ : Env} {i : Nat}
theorem isDct_ref (k : St0 K B G F H σ ρ) (h : isDct ρ i) : ∃ a, σ[i]? = some (some (.ref a)) ∧ IsD H a := by
  unfold isDct at h
  obtain ⟨fp, k'⟩ := k.2
  split at h
  · rename_i kds e
    obtain ⟨a, kvs, h1, h2, _⟩ := k'.own i _ e
    exact ⟨a, join_get h1, .inl ⟨kvs, .inl h2⟩⟩
  · rename_i kds e
    obtain ⟨a, kvs, h1, h2, _⟩ := k'.own i _ e
    exact ⟨a, join_get h1, .inr ⟨kvs, .inl h2⟩⟩
  · exact h.elim
theorem atD_get {a : Addr} {y : V} {d : D} {Q : Option D → Prop} (k : St0 K B G F H σ ρ) (ha : σ[i]? = some (some (.ref a))) (hy : Rp K F y d) (h : atD ρ i d Q) : ∃ o r, DGet H a y o ∧ Q r ∧ ((o = none ∧ r = none) ∨ ∃ v e, o = some v ∧ r = some e ∧ Rp K F v e) := by
  unfold atD at h
  obtain ⟨fp, k'⟩ := k.2
  split at h
  · rename_i kds e
    split at h
    · rename_i key hk
      obtain ⟨a', kvs, h1, h2, h3, _⟩ := k'.own i _ e
      rw [get_join ha] at h1
      cases h1
      rw [key_rp hy hk]
      exact ⟨_, _, DGet.k h2, h, (rk_of h3).val key⟩
    · exact h.elim
  · rename_i kds e
    split at h
    · rename_i key hk
      obtain ⟨a', kvs, h1, h2, h3, _⟩ := k'.own i _ e
      rw [get_join ha] at h1
      cases h1
      obtain ⟨hC, h⟩ := h
      obtain ⟨b, rfl, hb⟩ := keys_t hC hy hk
      exact ⟨_, _, DGet.t h2 (k'.f _ _ hb), h, (rt_of h3).val key⟩
    · exact h.elim
  · exact h.elim
theorem setD_put {a : Addr} {y v : V} {d e : D} {Q : Env → Prop} (k : St0 K B G F H σ ρ) (ha : σ[i]? = some (some (.ref a))) (hy : Rp K F y d) (hv : Rp K F v e) (h : setD ρ i d e Q) : ∃ H' ρ', DPut H a y v H' ∧ Q ρ' ∧ St0 K B G F H' σ ρ' := by
  unfold setD at h
  split at h
  · rename_i kds g
    split at h
    · rename_i key hk
      obtain ⟨hl, h⟩ := h
      have own : ∃ kvs, H a = some (.dK kvs) ∧ RpKv K F kvs kds := by
        obtain ⟨fp, k'⟩ := k.2
        obtain ⟨a', kvs, h1, h2, h3, _⟩ := k'.own i _ g
        rw [get_join ha] at h1
        cases h1
        exact ⟨kvs, h2, h3⟩
      obtain ⟨kvs, h2, h3⟩ := own
      rw [key_rp hy hk]
      refine ⟨_, _, DPut.k h2 (by rw [(rk_of h3).length]; exact hl), h, mem_set_still k.1 trivial, k.2.write (o := .dK kvs) g fun fp hq => ?_⟩
      obtain ⟨b, xs, e1, e2, q, hf⟩ := hq
      rw [get_join ha] at e1
      cases e1
      exact ⟨hf, _, _, get_join ha, upd_same, of_rk ((rk_of h3).put key hv), hf⟩
    · exact h.elim
  · rename_i kds g
    split at h
    · rename_i key hk
      obtain ⟨hC, hl, h⟩ := h
      have own : ∃ kvs, H a = some (.dT kvs) ∧ RpKt K F kvs kds := by
        obtain ⟨fp, k'⟩ := k.2
        obtain ⟨a', kvs, h1, h2, h3, _⟩ := k'.own i _ g
        rw [get_join ha] at h1
        cases h1
        exact ⟨kvs, h2, h3⟩
      obtain ⟨kvs, h2, h3⟩ := own
      obtain ⟨b, rfl, hb⟩ := keys_t hC hy hk
      refine ⟨_, _, DPut.t h2 (k.2.f _ _ hb) (by rw [(rt_of h3).length]; exact hl), h, mem_set_still k.1 trivial, k.2.write (o := .dT kvs) g fun fp hq => ?_⟩
      obtain ⟨b, xs, e1, e2, q, hf⟩ := hq
      rw [get_join ha] at e1
      cases e1
      exact ⟨hf, _, _, get_join ha, upd_same, of_rt ((rt_of h3).put key hv), hf⟩
    · exact h.elim
  · exact h.elim
theorem St0.newK {p : Addr} (k : St0 K B G F H σ ρ) (h : H p = none) : Fl K B G F (upd H p (.dK [])) σ ρ (.ref p) (.k []) := ⟨k.1, k.2.newO h ⟨p, [], rfl, upd_same, .nil, fun b => Iff.rfl⟩, fun i e => nomatch e⟩
theorem St0.newKt {p : Addr} (k : St0 K B G F H σ ρ) (h : H p = none) : Fl K B G F (upd H p (.dT [])) σ ρ (.ref p) (.kt []) := ⟨k.1, k.2.newO h ⟨p, [], rfl, upd_same, .nil, fun b => Iff.rfl⟩, fun i e => nomatch e⟩
end
section
variable {X : Cx} {B : Box} {x : Str} {xp apos cpos spos tpos pos p : Pos} {e e2 : Expr} {te tv ty tx : QE}
/-- {} -/
def qNewK (ρ : Env) (Q : T → Env → Prop) : Prop := Q (.k []) ρ
def qNewKt (ρ : Env) (Q : T → Env → Prop) : Prop := Q (.kt []) ρ
theorem q_newK : PE X (.Dict [] [] pos) (lift X.K B qNewK) := weakE pe_dnewK fun σ H Q ⟨G, F, ρ, P, k, h, q⟩ => fun a ha => q _ _ _ _ _ h (k.newK ha) (Same.refl F)
theorem q_newKt : PE X (.Dict [] [] pos) (lift X.K B qNewKt) := weakE pe_dnewT fun σ H Q ⟨G, F, ρ, P, k, h, q⟩ => fun a ha => q _ _ _ _ _ h (k.newKt ha) (Same.refl F)
/-- d[e] = value -/
def sPutD (i : Nat) (ty tv : QE) (DP : PEnds) (ρ : Env) : Prop := tv ρ fun r ρ1 => isDct ρ1 i ∧ ty ρ1 fun n ρ2 => match r.w, n.w with
  | .d e, .d d => setD ρ2 i d e DP.nx
  | _, _ => False
theorem s_putD (i : Nat) (hu : X.A.units + 64 < cLine) (hv : PE X e2 (lift X.K B tv)) (hi : PE X e (lift X.K B ty)) (hN : X.N[i]? = some x := by rfl) (hx : Vis X.env.scope x := by first | exact Or.inl rfl | exact Or.inr (Or.inl rfl) | exact Or.inr (Or.inr rfl)) (hd : (x == ("__debug__" : Str)) = false := by decide) (hcd : (x == ("__classdict__" : Str)) = false := by decide)
    (hs : swapsWith e2 (some (.Subscript (.Name x xp) e tpos)) spos.line X.env = pure false := by rfl) : PS X (.Assign [.Subscript (.Name x xp) e tpos] e2 spos) (liftS X.K B (sPutD i ty tv)) :=
  weakS (ps_dput (Nat.lt_of_le_of_lt (by omega) hu) (pe_var hN hx hd hcd) hi hv hs) fun D σ H ⟨G, F, ρ, DP, k, h, en⟩ => by
    refine lift_use k h fun r ρ1 v H1 F1 ⟨hi, h1⟩ k1 w1 e1 => ?_
    obtain ⟨a, r1, r2⟩ := isDct_ref k1 hi
    refine ⟨.ref a, r1, lift_use k1 h1 fun n ρ2 y H2 F2 h2 k2 w2 e2 => ?_⟩
    split at h2
    · rename_i ev kd g1 g2
      rw [g1] at w1
      rw [g2] at w2
      obtain ⟨H', ρ', z1, z2, z3⟩ := setD_put k2 r1 w2 (Rp.mono e2 w1) h2
      exact ⟨a, H', rfl, z1, en.nx _ _ _ _ z2 z3 (e1.trans e2)⟩
    · exact h2.elim
/-- d[e] -/
def qGetD (i : Nat) (ty : QE) (ρ : Env) (Q : T → Env → Prop) : Prop := isDct ρ i ∧ ty ρ fun n ρ1 => match n.w with
  | .d d => atD ρ1 i d fun o => match o with
    | some e => Q (.d e) ρ1
    | none => False
  | _ => False
theorem q_getD (i : Nat) (hu : X.A.units + 64 < cLine) (hi : PE X e (lift X.K B ty)) (hsl : NoSl e := by exact fun _ _ => rfl) (hN : X.N[i]? = some x := by rfl) (hx : Vis X.env.scope x := by first | exact Or.inl rfl | exact Or.inr (Or.inl rfl) | exact Or.inr (Or.inr rfl)) (hd : (x == ("__debug__" : Str)) = false := by decide) (hcd : (x == ("__classdict__" : Str)) = false := by decide) :
    PE X (.Subscript (.Name x xp) e pos) (lift X.K B (qGetD i ty)) :=
  weakE (pe_dget (Nat.lt_of_le_of_lt (by omega) hu) (pe_var hN hx hd hcd) hi hsl) fun σ H Q ⟨G, F, ρ, P, k, ⟨hi, h⟩, q⟩ => by
    obtain ⟨a, r1, r2⟩ := isDct_ref k hi
    refine ⟨.ref a, r1, lift_use k h fun n ρ1 y H1 F1 h1 k1 w1 e1 => ?_⟩
    split at h1
    · rename_i kd g1
      rw [g1] at w1
      obtain ⟨o, r, z1, z2, z3⟩ := atD_get k1 r1 w1 h1
      rcases z3 with ⟨rfl, rfl⟩ | ⟨v, ev, rfl, rfl, rv⟩
      · exact z2.elim
      · exact ⟨a, v, rfl, z1, q _ _ _ _ _ z2 (k1.d rv) e1⟩
    · exact h1.elim
/-- e in d, e not in d -/
def qInD (neg : Bool) (i : Nat) (ty : QE) (ρ : Env) (Q : T → Env → Prop) : Prop := ty ρ fun n ρ1 => isDct ρ1 i ∧ match n.w with
  | .d d => atD ρ1 i d fun o => Q (.d (.bool (xor neg o.isSome))) ρ1
  | _ => False
theorem rd_in {K : PySem.W.Frag} {i : Nat} {σ : St} {H : Hp} {Q : VK} (h : lift K B (qInD false i ty) σ H Q) : tDIn (lift K B ty) (tVar i) σ H Q := by
  obtain ⟨G, F, ρ, P, k, h, q⟩ := h
  refine lift_use k h fun n ρ1 y H1 F1 ⟨hi, h1⟩ k1 w1 e1 => ?_
  obtain ⟨a, r1, r2⟩ := isDct_ref k1 hi
  split at h1
  · rename_i kd g1
    rw [g1] at w1
    obtain ⟨o, r, z1, z2, z3⟩ := atD_get k1 r1 w1 h1
    refine ⟨.ref a, r1, a, o, rfl, z1, ?_⟩
    rcases z3 with ⟨rfl, rfl⟩ | ⟨v, ev, rfl, rfl, rv⟩
    · exact q _ _ _ _ _ z2 (k1.d (.bl _)) e1
    · exact q _ _ _ _ _ z2 (k1.d (.bl _)) e1
  · exact h1.elim
theorem rd_ni {K : PySem.W.Frag} {i : Nat} {σ : St} {H : Hp} {Q : VK} (h : lift K B (qInD true i ty) σ H Q) : tDNotIn (lift K B ty) (tVar i) σ H Q := by
  obtain ⟨G, F, ρ, P, k, h, q⟩ := h
  refine lift_use k h fun n ρ1 y H1 F1 ⟨hi, h1⟩ k1 w1 e1 => ?_
  obtain ⟨a, r1, r2⟩ := isDct_ref k1 hi
  split at h1
  · rename_i kd g1
    rw [g1] at w1
    obtain ⟨o, r, z1, z2, z3⟩ := atD_get k1 r1 w1 h1
    refine ⟨.ref a, r1, a, o, rfl, z1, ?_⟩
    rcases z3 with ⟨rfl, rfl⟩ | ⟨v, ev, rfl, rfl, rv⟩
    · exact q _ _ _ _ _ z2 (k1.d (.bl _)) e1
    · exact q _ _ _ _ _ z2 (k1.d (.bl _)) e1
  · exact h1.elim
theorem lift_tB {K : PySem.W.Frag} {t : QE} {t0 : TE} (w : ∀ {σ : St} {H : Hp} {Q : VK}, lift K B t σ H Q → t0 σ H Q) {σ : St} {H : Hp} {Q : Bool → Hp → Prop} (h : liftT K B (qTst t) σ H Q) : tB t0 σ H Q := by
  obtain ⟨G, F, ρ, P, k, h, q⟩ := h
  refine w ⟨G, F, ρ, _, k, h, fun r ρ' v H' F' h' fl e => ?_⟩
  split at h'
  · have := fl_d fl
    cases this
    exact ⟨_, rfl, q _ _ _ _ h' fl.pop e⟩
  · exact h'.elim
theorem t_inD (i : Nat) (hu : X.A.units + 64 < cLine) (hi : PE X e (lift X.K B ty)) (hN : X.N[i]? = some x := by rfl) (hx : Vis X.env.scope x := by first | exact Or.inl rfl | exact Or.inr (Or.inl rfl) | exact Or.inr (Or.inr rfl)) (hd : (x == ("__debug__" : Str)) = false := by decide) (hcd : (x == ("__classdict__" : Str)) = false := by decide) :
    PT X (.Compare e [.In] [.Name x xp] pos) (liftT X.K B (qTst (qInD false i ty))) :=
  weakT (pt_cmp (pc_din (Nat.lt_of_le_of_lt (by omega) hu) hi (pe_var hN hx hd hcd)) (by rfl)) fun _ _ _ => lift_tB rd_in
theorem t_niD (i : Nat) (hu : X.A.units + 64 < cLine) (hi : PE X e (lift X.K B ty)) (hN : X.N[i]? = some x := by rfl) (hx : Vis X.env.scope x := by first | exact Or.inl rfl | exact Or.inr (Or.inl rfl) | exact Or.inr (Or.inr rfl)) (hd : (x == ("__debug__" : Str)) = false := by decide) (hcd : (x == ("__classdict__" : Str)) = false := by decide) :
    PT X (.Compare e [.NotIn] [.Name x xp] pos) (liftT X.K B (qTst (qInD true i ty))) :=
  weakT (pt_cmp (pc_dnotin (Nat.lt_of_le_of_lt (by omega) hu) hi (pe_var hN hx hd hcd)) (by rfl)) fun _ _ _ => lift_tB rd_ni
/-- d.get(e, e2) -/
def qGet2D (i : Nat) (ty tx : QE) (ρ : Env) (Q : T → Env → Prop) : Prop := isDct ρ i ∧ ty ρ fun n ρ1 => tx ρ1 fun z ρ2 => match n.w, z.w with
  | .d d, .d f => atD ρ2 i d fun o => Q (.d (o.getD f)) ρ2
  | _, _ => False
theorem q_get2D (i : Nat) (hu : X.A.units + 64 < cLine) (hy : PE X e (lift X.K B ty)) (hz : PE X e2 (lift X.K B tx)) (hN : X.N[i]? = some x := by rfl) (hx : Vis X.env.scope x := by first | exact Or.inl rfl | exact Or.inr (Or.inl rfl) | exact Or.inr (Or.inr rfl)) (hd : (x == ("__debug__" : Str)) = false := by decide) (hcd : (x == ("__classdict__" : Str)) = false := by decide)
    (m : M2 X (.Name x xp) "get" apos e e2 cpos := by exact ⟨rfl, rfl, rfl, rfl⟩) : PE X (.Call (.Attribute (.Name x xp) "get" apos) [e, e2] [] cpos) (lift X.K B (qGet2D i ty tx)) :=
  weakE (pe_dget2 (Nat.lt_of_le_of_lt (by omega) hu) (pe_var hN hx hd hcd) hy hz m) fun σ H Q ⟨G, F, ρ, P, k, ⟨hi, h⟩, q⟩ => by
    obtain ⟨a, r1, r2⟩ := isDct_ref k hi
    refine ⟨.ref a, r1, a, rfl, r2, lift_use k h fun n ρ1 y H1 F1 h1 k1 w1 e1 => lift_use k1 h1 fun z ρ2 u H2 F2 h2 k2 w2 e2 => ?_⟩
    split at h2
    · rename_i kd f g1 g2
      rw [g1] at w1
      rw [g2] at w2
      obtain ⟨o, r, z1, z2, z3⟩ := atD_get k2 r1 (Rp.mono e2 w1) h2
      rcases z3 with ⟨rfl, rfl⟩ | ⟨v, ev, rfl, rfl, rv⟩
      · exact ⟨_, z1, q _ _ _ _ _ z2 (k2.d w2) (e1.trans e2)⟩
      · exact ⟨_, z1, q _ _ _ _ _ z2 (k2.d rv) (e1.trans e2)⟩
    · exact h2.elim
/-- len(d) -/
def qLenD (i : Nat) (ρ : Env) (Q : T → Env → Prop) : Prop := match ρ[i]? with
  | some (.k kds) => Q (.d (.int ((kds.length : Nat) : Int))) ρ
  | some (.kt kds) => Q (.d (.int ((kds.length : Nat) : Int))) ρ
  | _ => False
def rLenDct : List V → Hp → VK → Prop := fun xs H Q => (∃ a kvs, xs = [V.ref a] ∧ H a = some (.dK kvs) ∧ Q (.int kvs.length) H) ∨ rLenT xs H Q
theorem call_lenDct : CallR X (.builtin "len") rLenDct := by
  intro pins s σ H xs us Q I r h
  rcases h with h | h
  · exact call_lenD pins s σ H xs us Q I r h
  · exact call_len_dT pins s σ H xs us Q I r h
theorem q_lenD (i : Nat) (hg : Gl X "len") (hm : X.mg "len" = none) (hN : X.N[i]? = some x := by rfl) (hx : Vis X.env.scope x := by first | exact Or.inl rfl | exact Or.inr (Or.inl rfl) | exact Or.inr (Or.inr rfl)) (hd : (x == ("__debug__" : Str)) = false := by decide) (hcd : (x == ("__classdict__" : Str)) = false := by decide)
    (hs : starEach [.Name x xp] X.env = (false, eval (.Name x xp) X.env) :: starEach [] X.env := by rfl) : PE X (.Call (.Name "len" p) [.Name x xp] [] cpos) (lift X.K B (qLenD i)) :=
  weakE (pe_callB call_lenDct hg hm PySem.boot_len (pa_cons (pe_var hN hx hd hcd) pa_nil hs) (by decide) (by decide) hs (by rfl)) fun σ H Q ⟨G, F, ρ, P, k, h, q⟩ => by
    unfold qLenD at h
    obtain ⟨fp, k'⟩ := k.2
    split at h
    · rename_i kds e
      obtain ⟨a, kvs, h1, h2, h3, _⟩ := k'.own i _ e
      refine ⟨.ref a, join_get h1, .inl ⟨a, kvs, rfl, h2, ?_⟩⟩
      rw [(rk_of h3).length]
      exact q _ _ _ _ _ h (k.d (.int _)) (Same.refl F)
    · rename_i kds e
      obtain ⟨a, kvs, h1, h2, h3, _⟩ := k'.own i _ e
      refine ⟨.ref a, join_get h1, .inr ⟨a, kvs, rfl, h2, ?_⟩⟩
      rw [(rt_of h3).length]
      exact q _ _ _ _ _ h (k.d (.int _)) (Same.refl F)
    · exact h.elim
end
end PL

set_option Elab.async false
set_option linter.all false
set_option maxRecDepth 100000
/-! PL, part 18: displays of dicts, sorted ints, list(range), len(set(tuples)). -/
namespace PL
open PySem PySem.Spec L2
variable [Consts]
/-! ### {k: v, ..} -/
def qPairs : List (QE × QE) → Env → (List (D × D) → Env → Prop) → Prop
  | [], ρ, Q => Q [] ρ
  | (tk, tv) :: r, ρ, Q => tk ρ fun a ρ1 => tv ρ1 fun b ρ2 => qPairs r ρ2 fun ps ρ3 => match a.w, b.w with
    | .d x, .d y => Q ((x, y) :: ps) ρ3
    | _, _ => False
def keysP : List (D × D) → Option (List (Key × D))
  | [] => some []
  | (x, y) :: r => match keyOf x, keysP r with
    | some k, some ks => some ((k, y) :: ks)
    | _, _ => none
def mergeD (kds more : List (Key × D)) : List (Key × D) := more.foldl (fun acc kv => putD acc kv.1 kv.2) kds
def qDisp (trs : List (QE × QE)) (ρ : Env) (Q : T → Env → Prop) : Prop := qPairs trs ρ fun ps ρ' => match keysP ps with
  | some kds => kds.length ≤ 15 ∧ Q (.k (mergeD [] kds)) ρ'
  | none => False
section
variable {X : Cx} {B : Box} {pos p p2 q2 q3 : Pos} {keys : List (Option Expr)} {values : List Expr} {trs : List (QE × QE)} {e e1 e2 : Expr} {te tk tv : QE}
def liftP (K : PySem.W.Frag) (B : Box) (trs : List (QE × QE)) : List (TE × TE) := trs.map fun p => (lift K B p.1, lift K B p.2)
theorem pp_nil : PPs X pos [] [] (liftP X.K B []) := pps_nil
theorem pp_cons (hk : PE X e1 (lift X.K B tk)) (hv : PE X e2 (lift X.K B tv)) (hr : PPs X pos keys values (liftP X.K B trs)) : PPs X pos (some e1 :: keys) (e2 :: values) (liftP X.K B ((tk, tv) :: trs)) := pps_cons hk hv hr
inductive PsOk (K : PySem.W.Frag) (F : Hp) : List (D × D) → List (V × V) → Prop
  | nil : PsOk K F [] []
  | cons {x y : D} {v u : V} {ds : List (D × D)} {vs : List (V × V)} : Rp K F v x → Rp K F u y → PsOk K F ds vs → PsOk K F ((x, y) :: ds) ((v, u) :: vs)
theorem pairs_use {K : PySem.W.Frag} {σ : St} : ∀ {trs : List (QE × QE)} {G F H : Hp} {ρ : Env} {P : List (D × D) → Env → Prop} {Q : List (V × V) → Hp → Prop}, St0 K B G F H σ ρ → qPairs trs ρ P →
    (∀ ps ρ' vs H' F', P ps ρ' → St0 K B G F' H' σ ρ' → PsOk K F' ps vs → Same F F' → Q vs H') → tPairs (liftP K B trs) σ H Q
  | [], G, F, H, ρ, P, Q, k, h, q => q _ _ _ _ _ h k .nil (Same.refl F)
  | (tk, tv) :: r, G, F, H, ρ, P, Q, k, h, q => lift_use k h fun a ρ1 v H1 F1 h1 k1 w1 e1 => lift_use k1 h1 fun b ρ2 u H2 F2 h2 k2 w2 e2 => pairs_use k2 h2 fun ps ρ3 vs H3 F3 h3 k3 w3 e3 => by
    split at h3
    · rename_i x y g1 g2
      rw [g1] at w1
      rw [g2] at w2
      exact q _ _ _ _ _ h3 k3 (.cons (Rp.mono (e2.trans e3) w1) (Rp.mono e3 w2) w3) ((e1.trans e2).trans e3)
    · exact h3.elim
theorem keysP_ok {K : PySem.W.Frag} {F : Hp} : ∀ {ps : List (D × D)} {vs : List (V × V)} {kds : List (Key × D)}, PsOk K F ps vs → keysP ps = some kds → ∃ kvs : List (Key × V), vs = kvs.map (fun kv => (kV kv.1, kv.2)) ∧ RK K F kvs kds
  | _, _, _, .nil, e => by
    cases e
    exact ⟨[], rfl, .nil⟩
  | _, _, _, .cons (x := x) (ds := ds) h1 h2 r, e => by
    unfold keysP at e
    cases g1 : keyOf x with
    | none => rw [g1] at e; cases e
    | some k =>
      cases g2 : keysP ds with
      | none => rw [g1, g2] at e; cases e
      | some ks =>
        rw [g1, g2] at e
        cases e
        obtain ⟨kvs, rfl, rr⟩ := keysP_ok r g2
        rw [key_rp h1 g1]
        exact ⟨(k, _) :: kvs, rfl, .cons h2 rr⟩
theorem RK.merge {K : PySem.W.Frag} {F : Hp} : ∀ {more : List (Key × V)} {mds : List (Key × D)} {kvs : List (Key × V)} {kds : List (Key × D)}, RK K F more mds → RK K F kvs kds → RK K F (mergeK kvs more) (mergeD kds mds)
  | _, _, _, _, .nil, r => r
  | _, _, _, _, .cons (k := k) h t, r => by
    have := RK.merge t (r.put k h)
    exact this
theorem q_disp (h : PPs X pos keys values (liftP X.K B trs)) (hall : keys.all (·.isSome) = true := by rfl) (hl : keys.length = values.length := by rfl) (h0 : keys ≠ [] := by decide) (h15 : keys.length ≤ 15 := by decide) : PE X (.Dict keys values pos) (lift X.K B (qDisp trs)) :=
  weakE (pe_disp h hall hl h0 h15) fun σ H Q ⟨G, F, ρ, P, k, h, q⟩ => fun a ha => by
    have hG : G a = none := (k.2.free ha).2
    refine pairs_use (k.lendO ha (.dK [])) h fun ps ρ' vs H' F' h' k' w' e' => ?_
    split at h'
    · rename_i kds g
      obtain ⟨h1, h2⟩ := h'
      obtain ⟨kvs, rfl, r⟩ := keysP_ok w' g
      refine ⟨k'.2.g a _ upd_same, kvs, rfl, by rw [r.length]; exact h1, q _ _ _ _ _ h2 ⟨k'.1, k'.2.backO hG (B.okF k.2.bx e') ⟨a, _, rfl, upd_same, of_rk (RK.merge r .nil), fun b => Iff.rfl⟩, fun i z => nomatch z⟩ e'⟩
    · exact h'.elim
/-! ### sorted(xs), ints -/
def pSortedI : List D → (T → Prop) → Prop
  | [.list ds], Q => ∃ ns : List Int, ds = ns.map .int ∧ ∀ ns' : List Int, ns'.Perm ns → ns'.Pairwise (· ≤ ·) → Q (.l (ns'.map .int))
  | _, _ => False
theorem c_sortedI {K : PySem.W.Frag} : CallD K B (rSortedI K) pSortedI := by
  intro G F H σ ρ P Q ds vs k r h q
  unfold pSortedI at h
  split at h
  · obtain ⟨ns, rfl, h⟩ := h
    obtain ⟨x, rfl, r1⟩ := r.single
    obtain ⟨a, xs, rfl, s1, t1⟩ := r1.lst k.2.f
    obtain rfl := t1.ints
    exact ⟨a, ns, rfl, .inl (.inl s1), fun ns' p h1 h2 hp => q _ _ _ _ (h ns' h1 h2) (k.newL hp (rpAll_ints _)) (Same.refl F)⟩
  · exact h.elim
/-! ### list(range(..)) -/
theorem rp_rg {K : PySem.W.Frag} {F : Hp} (a : Int) (n : Nat) : RpAll K F ((List.range n).map fun i => V.int (a + (i : Nat))) (rangeD a n) := by
  unfold rangeD
  induction List.range n with
  | nil => exact .nil
  | cons i l ih => exact .cons (.int _) ih
def qLstRg1 (te : QE) (ρ : Env) (Q : T → Env → Prop) : Prop := te ρ fun r ρ1 => match r.w with
  | .d (.int n) => (0 ≤ n ∧ n ≤ 16777216) ∧ Q (.l (rangeD 0 n.toNat)) ρ1
  | _ => False
theorem q_listRg1 (hc : X.calm = true) (hg : Gl X "list") (hm : X.mg "list" = none) (hg2 : Gl X "range") (hm2 : X.mg "range" = none) (he : PE X e (lift X.K B te))
    (na : starEach [e] X.env = (false, eval e X.env) :: starEach [] X.env := by rfl) (na2 : starEach [.Call (.Name "range" p2) [e] [] q2] X.env = (false, eval (.Call (.Name "range" p2) [e] [] q2) X.env) :: starEach [] X.env := by rfl) :
    PE X (.Call (.Name "list" p) [.Call (.Name "range" p2) [e] [] q2] [] pos) (lift X.K B (qLstRg1 te)) :=
  weakE (pe_listRg hc hg hm (prg_1 hg2 hm2 he na) na2) fun σ H Q ⟨G, F, ρ, P, k, h, q⟩ => lift_use k h fun r ρ1 v H1 F1 h1 k1 w1 e1 => by
    split at h1
    · rename_i n g
      obtain ⟨⟨b1, b2⟩, h1⟩ := h1
      rw [g] at w1
      cases w1
      refine ⟨n, rfl, RgOk.of_le (by decide) b2 (by decide) b1, fun d hd => ?_⟩
      have e0 : rgV 0 n = (List.range n.toNat).map fun i => V.int (0 + (i : Nat)) := by
        unfold rgV
        rw [Int.sub_zero]
      rw [e0]
      exact q _ _ _ _ _ h1 (k1.newL hd (rp_rg 0 n.toNat)) e1
    · exact h1.elim
/-! ### len(set(xs)), xs tuples of ints -/
def rLenST (P : Program) (w : World) (K : PySem.W.Frag) : List V → Hp → VK → Prop := fun vs H Q => ∃ (a : Addr) (L : List (Addr × List Int)), vs = [V.ref a] ∧ H a = some (SetTO P w a L) ∧ (∀ p ∈ L, SqT K H p.1 (p.2.map V.int)) ∧ ((L.map (·.2)).Nodup → Q (.int (L.length : Nat)) H)
theorem call_lenST : CallR X (.builtin "len") (rLenST X.prog X.w X.K) := by
  intro pins s σ H vs us Q I r h
  obtain ⟨a, L, rfl, ha, hk, q⟩ := h
  have R0 : SetT0 X.prog X.w s.heap a L := (I.hok a _ ha).1
  obtain ⟨es, ep, t, R⟩ := R0.full fun p hp => I.isT (hk p hp)
  rw [Vals.ref1 r]
  obtain ⟨o, ho, hex, hd⟩ := R.ob
  have hs := R.size
  have hf := R.few
  refine call_len_set ho hex hd R.fits (by rw [hs]; omega) ?_
  rw [hs]
  exact ⟨.int (L.length : Nat), H, I.tok _, ⟨_, rfl⟩, q R.nd⟩
def pLenSetT : D → (T → Prop) → Prop
  | .list ds, Q => ∃ ks : List (List Int), ds = ks.map tupI ∧ ks.length < 64 ∧ ∀ L : List (List Int), L.Nodup → (∀ k, k ∈ L ↔ k ∈ ks) → Q (.d (.int (L.length : Nat)))
  | _, _ => False
theorem q_lenSetT (hc : X.calm = true) (hu : X.A.units + 64 < cLine) (hg : Gl X "len") (hm : X.mg "len" = none) (hg2 : Gl X "set") (hm2 : X.mg "set" = none) (he : PE X e (lift X.K B te))
    (hs1 : starEach [e] X.env = (false, eval e X.env) :: starEach [] X.env := by rfl) (hs2 : starEach [.Call (.Name "set" p2) [e] [] q2] X.env = (false, eval (.Call (.Name "set" p2) [e] [] q2) X.env) :: starEach [] X.env := by rfl) :
    PE X (.Call (.Name "len" p) [.Call (.Name "set" p2) [e] [] q2] [] pos) (lift X.K B (qFn pLenSetT te)) :=
  weakE (pe_callB call_lenST hg hm PySem.boot_len (pa_cons (pe_callTy (cr_setOfT hc hu) hg2 hm2 (by rfl) (pa_cons he pa_nil hs1) (by decide) (by decide) hs1 (by rfl)) pa_nil hs2) (by decide) (by decide) hs2 (by rfl)) fun σ H Q ⟨G, F, ρ, P, k, h, q⟩ => lift_use k h fun r ρ1 v H1 F1 h1 k1 w1 e1 => by
    split at h1
    · rename_i d g
      have rq := k1.read w1 g
      unfold pLenSetT at h1
      split at h1
      · obtain ⟨ks, rfl, h2, h5⟩ := h1
        obtain ⟨l, xs, rfl, s1, t1⟩ := rq.lst k1.2.f
        obtain ⟨as, rfl, rfl, hT⟩ := tups_of t1
        have hlen : as.length < 64 := by simpa using h2
        refine ⟨l, as, rfl, .inl (.inl s1), fun p hp => same_t k1.2.f (hT p hp), hlen, fun a L ha hsub hall => ?_⟩
        have k2 := k1.dust (o := SetTO X.prog X.w a L) ha
        have hTL : ∀ p ∈ L, Tq X.K F1 p.1 (p.2.map V.int) := fun p hp => hT p (hsub p hp)
        refine ⟨a, L, rfl, upd_same, fun p hp => same_t k2.2.f (hTL p hp), fun nd => ?_⟩
        have z := h5 (L.map (·.2)) nd fun z => Iff.intro (fun hz => ?_) (fun hz => ?_)
        · rw [List.length_map] at z
          exact q _ _ _ _ _ z (k2.d (.int _)) e1
        · obtain ⟨p, hp, rfl⟩ := List.mem_map.mp hz
          exact List.mem_map.mpr ⟨p, hsub p hp, rfl⟩
        · obtain ⟨p, hp, rfl⟩ := List.mem_map.mp hz
          exact hall p hp
      · exact h1.elim
    · exact h1.elim
end
end PL

set_option Elab.async false
set_option linter.all false
set_option maxRecDepth 100000
/-! PL, part 19: comprehensions with a test, told by an invariant; more facts of data. -/
namespace PL
open PySem PySem.Spec L2
variable [Consts]
theorem lc_invT {g : QG} {te : QE} {tt : QT} {ti : QI} {vs : List Nat} {ρ : Env} {Q : T → Env → Prop} (ds : List D) (ρ0 : Env) (I : Nat → List D → Prop) (h1 : ∀ R : List D → Env → Prop, R ds ρ0 → ti ρ R) (hb : barePl ρ0 vs) (hz : ds.length ≤ sizeLine) (i0 : I 0 []) (hl : ∀ i acc, I i acc → acc.length ≤ i)
    (step : ∀ (i : Nat) (d : D) (acc : List D), ds[i]? = some d → I i acc → ∀ (R : T → Env → Prop) (R0 : Env → Prop), (∀ r ρ4 o, r.dat = some o → wipeP ρ4 vs = wipeP ρ0 vs → I (i + 1) (acc ++ [o]) → R r ρ4) → (∀ ρ3, wipeP ρ3 vs = wipeP ρ0 vs → I (i + 1) acc → R0 ρ3) →
      g (.d d) (wipeP ρ0 vs) fun ρ2 => tt ρ2 fun b ρ3 => if b = true then te ρ3 R else R0 ρ3) (fin : ∀ acc, I ds.length acc → Q (.l acc) ρ0) : qLc ti g tt te vs ρ Q := by
  refine h1 _ ⟨hb, I, i0, fun i d acc hd ha => ?_, fin⟩
  have hi := (List.getElem?_eq_some_iff.mp hd).1
  exact step i d acc hd ha _ _ (fun r ρ4 o h1 h2 h3 => ⟨o, h1, h2, by have := hl i acc ha; omega, h3⟩) fun ρ3 h1 h2 => ⟨h1, h2⟩
/-- a list of numbers drawn, one for each item -/
theorem lc_nats {g : QG} {te : QE} {ti : QI} {vs : List Nat} {ρ : Env} {Q : T → Env → Prop} (ds : List D) (ρ0 : Env) (C : Nat → Prop) (h1 : ∀ R : List D → Env → Prop, R ds ρ0 → ti ρ R) (hb : barePl ρ0 vs) (hz : ds.length ≤ sizeLine)
    (step : ∀ (i : Nat) (d : D), ds[i]? = some d → ∀ R : T → Env → Prop, (∀ (n : Nat) ρ4, C n → wipeP ρ4 vs = wipeP ρ0 vs → R (.d (.int (n : Nat))) ρ4) → g (.d d) (wipeP ρ0 vs) fun ρ2 => te ρ2 R) (fin : ∀ ns : List Nat, ns.length = ds.length → (∀ n ∈ ns, C n) → Q (.l (nats ns)) ρ0) : qLc ti g qYes te vs ρ Q := by
  refine lc_inv ds ρ0 (fun i acc => ∃ ns : List Nat, ns.length = i ∧ acc = nats ns ∧ ∀ n ∈ ns, C n) h1 hb hz ⟨[], rfl, rfl, fun n z => nomatch z⟩ (fun i acc ⟨ns, a1, a2, _⟩ => by rw [a2]; simp [nats, a1]) (fun i d acc hd ⟨ns, a1, a2, a3⟩ R hR => step i d hd R fun n ρ4 hn hw => hR _ _ _ rfl hw ⟨ns ++ [n], by simp [a1], by rw [a2]; simp [nats], fun x hx => ?_⟩) fun acc ⟨ns, a1, a2, a3⟩ => by rw [a2]; exact fin ns a1 a3
  rcases List.mem_append.mp hx with z | z
  · exact a3 x z
  · rw [List.mem_singleton] at z
    rw [z]
    exact hn
/-- numbers below n picked by tests -/
theorem lc_sub {g : QG} {te : QE} {tt : QT} {ti : QI} {vs : List Nat} {ρ : Env} {Q : T → Env → Prop} (n : Nat) (ρ0 : Env) (h1 : ∀ R : List D → Env → Prop, R (rangeD 0 n) ρ0 → ti ρ R) (hb : barePl ρ0 vs) (hz : n ≤ 1000)
    (step : ∀ (i : Nat), i < n → ∀ (R : T → Env → Prop) (R0 : Env → Prop), (∀ ρ4, wipeP ρ4 vs = wipeP ρ0 vs → R (.d (.int (i : Nat))) ρ4) → (∀ ρ3, wipeP ρ3 vs = wipeP ρ0 vs → R0 ρ3) →
      g (.d (.int (i : Nat))) (wipeP ρ0 vs) fun ρ2 => tt ρ2 fun b ρ3 => if b = true then te ρ3 R else R0 ρ3) (fin : ∀ es : List Nat, es.length ≤ n → (∀ e ∈ es, e < n) → es.Pairwise (· < ·) → Q (.l (nats es)) ρ0) : qLc ti g tt te vs ρ Q := by
  refine lc_invT (rangeD 0 n) ρ0 (fun i acc => ∃ es : List Nat, es.length ≤ i ∧ acc = nats es ∧ (∀ e ∈ es, e < i) ∧ es.Pairwise (· < ·)) h1 hb (by rw [rangeD_len, sizeLine_eq]; omega) ⟨[], Nat.le_refl _, rfl, (fun e z => nomatch z), .nil⟩ (fun i acc ⟨es, a1, a2, _⟩ => by rw [a2]; simpa [nats] using a1) (fun i d acc hd ⟨es, a1, a2, a3, a4⟩ R R0 hR hR0 => ?_) fun acc ⟨es, a1, a2, a3, a4⟩ => ?_
  · have hi : i < n := by have := (List.getElem?_eq_some_iff.mp hd).1; rwa [rangeD_len] at this
    rw [nats_range hi] at hd
    cases hd
    refine step i hi R R0 (fun ρ4 hw => hR _ _ _ rfl hw ⟨es ++ [i], by simp; omega, by rw [a2]; simp [nats], fun e he => ?_, ?_⟩) fun ρ3 hw => hR0 _ hw ⟨es, by omega, a2, fun e he => by have := a3 e he; omega, a4⟩
    · rcases List.mem_append.mp he with z | z
      · have := a3 e z
        omega
      · rw [List.mem_singleton] at z
        omega
    · exact List.pairwise_append.mpr ⟨a4, by simp, fun x hx y hy => by rw [List.mem_singleton] at hy; have := a3 x hx; omega⟩
  · rw [rangeD_len] at a1 a3
    rw [a2]
    exact fin es a1 a3 a4
theorem natOf {r : Int} (h : 0 ≤ r) : ∃ i : Nat, r = (i : Nat) := ⟨r.toNat, by omega⟩
theorem shInt (i : Int) : SeqAt.shaped (.int i) = true := (lay_int (k := 0) i).shaped
theorem shBool (i : Bool) : SeqAt.shaped (.bool i) = true := (lay_bool (k := 0) i).shaped
theorem shNats (l : List Nat) : SeqAt.shaped (.tuple (nats l)) = true := (lay_tup (k := 0) (lay_nats _)).shaped
theorem shNatsL (l : List Nat) : SeqAt.shaped (.list (nats l)) = true := (lay_list (k := 0) (lay_nats _)).shaped
theorem szL {m : Nat} (h : m < 10000) : m ≤ sizeLine := by rw [sizeLine_eq]; omega
theorem szLt {m : Nat} (h : m < 10000) : m < sizeLine := by rw [sizeLine_eq]; omega
end PL

set_option linter.all false
set_option maxRecDepth 10000
/-! Plain facts of lists and machines, part 1: no program in sight. -/
namespace PM
section
variable {α : Type} [DecidableEq α]
/-- the first place -/
def ixOf (c : α) : List α → Option Nat
  | [] => none
  | x :: l => if x = c then some 0 else (ixOf c l).map (· + 1)
theorem ixOf_at {c : α} : ∀ {l : List α} {i : Nat}, ixOf c l = some i → l[i]? = some c ∧ ∀ j, j < i → l[j]? ≠ some c
  | [], i, h => by simp [ixOf] at h
  | x :: l, i, h => by
    unfold ixOf at h
    split at h
    · rename_i e
      cases h
      exact ⟨by simp [e], fun j hj => by omega⟩
    · rename_i e
      cases hq : ixOf c l with
      | none => rw [hq] at h; cases h
      | some k =>
        rw [hq] at h
        cases h
        obtain ⟨h1, h2⟩ := ixOf_at hq
        refine ⟨by simpa using h1, fun j hj => ?_⟩
        cases j with
        | zero => simpa using e
        | succ j => simpa using h2 j (Nat.lt_of_succ_lt_succ hj)
theorem ixOf_mem {c : α} : ∀ {l : List α}, c ∈ l → ∃ i, ixOf c l = some i
  | x :: l, h => by
    unfold ixOf
    by_cases e : x = c
    · exact ⟨0, by rw [if_pos e]⟩
    · rw [if_neg e]
      obtain ⟨i, hi⟩ := ixOf_mem ((List.mem_cons.mp h).resolve_left (Ne.symm e))
      exact ⟨i + 1, by rw [hi]; rfl⟩
theorem nodup_get {l : List α} (nd : l.Nodup) {i j : Nat} {c : α} (h : l[i]? = some c) (h2 : l[j]? = some c) : i = j := by
  obtain ⟨a1, a2⟩ := List.getElem?_eq_some_iff.mp h
  obtain ⟨b1, b2⟩ := List.getElem?_eq_some_iff.mp h2
  rcases Nat.lt_trichotomy i j with q | q | q
  · exact absurd (a2.trans b2.symm) (List.pairwise_iff_getElem.mp nd i j a1 b1 q)
  · exact q
  · exact absurd (b2.trans a2.symm) (List.pairwise_iff_getElem.mp nd j i b1 a1 q)
theorem ixOf_nodup {c : α} {l : List α} {i : Nat} (nd : l.Nodup) (h : l[i]? = some c) : ixOf c l = some i := by
  obtain ⟨j, hj⟩ := ixOf_mem (List.mem_of_getElem? h)
  rw [hj, nodup_get nd (ixOf_at hj).1 h]
/-! ### how many -/
theorem sub_len : ∀ {a b : List α}, a.Nodup → (∀ x ∈ a, x ∈ b) → a.length ≤ b.length
  | [], _, _, _ => Nat.zero_le _
  | x :: a, b, nd, h => by
    have hn := List.nodup_cons.mp nd
    have hb : x ∈ b := h x List.mem_cons_self
    have ih := sub_len (b := b.erase x) hn.2 fun y hy => (List.mem_erase_of_ne (fun e => hn.1 (by rw [← e]; exact hy))).mpr (h y (List.mem_cons_of_mem _ hy))
    rw [List.length_erase_of_mem hb] at ih
    have : 0 < b.length := List.length_pos_of_mem hb
    simp only [List.length_cons]
    omega
theorem nodup_of_len : ∀ {l a : List α}, a.Nodup → (∀ x ∈ a, x ∈ l) → l.length ≤ a.length → l.Nodup
  | [], _, _, _, _ => List.nodup_nil
  | x :: l, a, nd, h, hl => by
    by_cases hx : x ∈ l
    · have := sub_len nd fun y hy => by
        rcases List.mem_cons.mp (h y hy) with rfl | z
        · exact hx
        · exact z
      simp only [List.length_cons] at hl
      omega
    · refine List.nodup_cons.mpr ⟨hx, nodup_of_len (a := a.erase x) (nd.erase x) (fun y hy => ?_) ?_⟩
      · have hy' := List.mem_of_mem_erase hy
        rcases List.mem_cons.mp (h y hy') with rfl | z
        · exact absurd hy (List.Nodup.not_mem_erase nd)
        · exact z
      · have h1 : (a.erase x).length ≥ a.length - 1 := by rw [List.length_erase]; split <;> omega
        simp only [List.length_cons] at hl
        omega
theorem map_inj_of {β : Type} [DecidableEq β] {f : α → β} {l : List α} (nd : (l.map f).Nodup) {x y : α} (hx : x ∈ l) (hy : y ∈ l) (e : f x = f y) : x = y := by
  obtain ⟨i, hi⟩ := List.mem_iff_getElem?.mp hx
  obtain ⟨j, hj⟩ := List.mem_iff_getElem?.mp hy
  have h1 : (l.map f)[i]? = some (f x) := by simp [hi]
  have h2 : (l.map f)[j]? = some (f x) := by simp [hj, e]
  have := nodup_get nd h1 h2
  subst this
  rw [hi] at hj
  cases hj
  rfl
end

theorem distinct {α : Type} [DecidableEq α] : ∀ l : List α, ∃ L : List α, L.Nodup ∧ ∀ x, x ∈ L ↔ x ∈ l
  | [] => ⟨[], List.nodup_nil, fun x => Iff.rfl⟩
  | a :: l => by
    obtain ⟨L, nd, h⟩ := distinct l
    by_cases q : a ∈ L
    · refine ⟨L, nd, fun x => ?_⟩
      rw [List.mem_cons, ← h x]
      exact ⟨.inr, fun z => z.elim (fun e => e ▸ q) id⟩
    · refine ⟨a :: L, List.nodup_cons.mpr ⟨q, nd⟩, fun x => ?_⟩
      rw [List.mem_cons, List.mem_cons, h x]
/-! ### tables -/
def nx (st : List (List Nat)) (s i : Nat) : Nat := (st.getD s []).getD i 0
def rn (st : List (List Nat)) (s : Nat) (w : List Nat) : Nat := w.foldl (nx st) s
def same (st : List (List Nat)) (en : List Nat) (k a b : Nat) : Prop := ∀ w : List Nat, (∀ i ∈ w, i < k) → (rn st a w ∈ en ↔ rn st b w ∈ en)
/-- n rows of k goals each -/
structure Tab (st : List (List Nat)) (n k : Nat) : Prop where
  len : st.length = n
  row : ∀ s, s < n → ∃ r, st[s]? = some r ∧ r.length = k ∧ ∀ g ∈ r, g < n
theorem Tab.nx {st : List (List Nat)} {n k : Nat} (h : Tab st n k) {s i : Nat} (hs : s < n) (hi : i < k) : PM.nx st s i < n := by
  obtain ⟨r, e, hl, hg⟩ := h.row s hs
  unfold PM.nx
  have hi' : i < r.length := by omega
  simp only [List.getD_eq_getElem?_getD, e, Option.getD_some, List.getElem?_eq_getElem hi']
  exact hg _ (List.getElem_mem hi')
theorem Tab.rn {st : List (List Nat)} {n k : Nat} (h : Tab st n k) : ∀ {w : List Nat} {s : Nat}, s < n → (∀ i ∈ w, i < k) → PM.rn st s w < n
  | [], _, hs, _ => hs
  | i :: w, s, hs, hw => h.rn (w := w) (h.nx hs (hw i List.mem_cons_self)) fun j hj => hw j (List.mem_cons_of_mem _ hj)
theorem rn_cons (st : List (List Nat)) (s i : Nat) (w : List Nat) : rn st s (i :: w) = rn st (nx st s i) w := rfl
theorem rn_app (st : List (List Nat)) (s : Nat) (v w : List Nat) : rn st s (v ++ w) = rn st (rn st s v) w := by simp [rn]
theorem row_get {st : List (List Nat)} {s : Nat} {r : List Nat} (h : st[s]? = some r) (i : Nat) : r.getD i 0 = nx st s i := by
  unfold nx
  simp [List.getD_eq_getElem?_getD, h]

/-! ### parting -/
def lo (lots : List Nat) (s : Nat) : Nat := lots.getD s 0
/-- a mark: the lot and the goals' lots -/
def mark (st : List (List Nat)) (lots : List Nat) (s : Nat) : List Nat := lo lots s :: (st.getD s []).map (lo lots)
structure Coarse (st : List (List Nat)) (en : List Nat) (n k : Nat) (lots : List Nat) : Prop where
  len : lots.length = n
  sm : ∀ a b, a < n → b < n → same st en k a b → lo lots a = lo lots b
  ac : ∀ a b, a < n → b < n → lo lots a = lo lots b → (a ∈ en ↔ b ∈ en)
structure Lots (st : List (List Nat)) (en : List Nat) (n k : Nat) (lots : List Nat) : Prop where
  len : lots.length = n
  iff : ∀ a b, a < n → b < n → (lo lots a = lo lots b ↔ same st en k a b)
section
variable {st : List (List Nat)} {en : List Nat} {n k : Nat} {lots : List Nat}
theorem same_nx {a b i : Nat} (h : same st en k a b) (hi : i < k) : same st en k (nx st a i) (nx st b i) := fun w hw => by
  have := h (i :: w) fun j hj => by
    rcases List.mem_cons.mp hj with rfl | z
    · exact hi
    · exact hw j z
  simpa [rn_cons] using this
theorem mark_eq (T : Tab st n k) {a b : Nat} (ha : a < n) (hb : b < n) : mark st lots a = mark st lots b ↔ lo lots a = lo lots b ∧ ∀ i, i < k → lo lots (nx st a i) = lo lots (nx st b i) := by
  obtain ⟨r, e1, l1, _⟩ := T.row a ha
  obtain ⟨q, e2, l2, _⟩ := T.row b hb
  unfold mark
  simp only [List.getD_eq_getElem?_getD, e1, e2, Option.getD_some, List.cons.injEq]
  constructor
  · rintro ⟨h1, h2⟩
    refine ⟨h1, fun i hi => ?_⟩
    have := congrArg (fun l : List Nat => l[i]?) h2
    simp only [List.getElem?_map, List.getElem?_eq_getElem (show i < r.length by omega), List.getElem?_eq_getElem (show i < q.length by omega), Option.map_some, Option.some.injEq] at this
    rw [← row_get e1 i, ← row_get e2 i]
    simpa [List.getD_eq_getElem?_getD, List.getElem?_eq_getElem (show i < r.length by omega), List.getElem?_eq_getElem (show i < q.length by omega)] using this
  · rintro ⟨h1, h2⟩
    refine ⟨h1, List.ext_getElem (by simp [l1, l2]) fun i hi hj => ?_⟩
    simp only [List.length_map] at hi hj
    have := h2 i (by omega)
    rw [← row_get e1 i, ← row_get e2 i] at this
    simpa [List.getD_eq_getElem?_getD, List.getElem?_eq_getElem hi, List.getElem?_eq_getElem hj] using this
theorem lo_lt {s : Nat} (h : s < lots.length) : lots[s]? = some (lo lots s) := by
  simp [lo, List.getD_eq_getElem?_getD, List.getElem?_eq_getElem h]
/-- the first lots -/
theorem coarse0 : Coarse st en n k ((List.range n).map fun s => if s ∈ en then 1 else 0) := by
  have e : ∀ s, s < n → lo ((List.range n).map fun s => if s ∈ en then 1 else 0) s = if s ∈ en then 1 else 0 := fun s hs => by
    unfold lo
    simp [List.getD_eq_getElem?_getD, hs]
  refine ⟨by simp, fun a b ha hb h => ?_, fun a b ha hb h => ?_⟩
  · rw [e a ha, e b hb]
    have := h [] (by simp)
    simp only [rn, List.foldl_nil] at this
    by_cases q : a ∈ en
    · rw [if_pos q, if_pos (this.mp q)]
    · rw [if_neg q, if_neg fun z => q (this.mpr z)]
  · rw [e a ha, e b hb] at h
    by_cases q : a ∈ en <;> by_cases q' : b ∈ en <;> simp [q, q'] at h ⊢
/-- the next lots: the marks' places -/
theorem coarse_next (T : Tab st n k) (C : Coarse st en n k lots) {known : List (List Nat)} (nd : known.Nodup) (hm : ∀ x, x ∈ known ↔ ∃ s, s < n ∧ mark st lots s = x) {lots' : List Nat} (hl : lots'.length = n)
    (h : ∀ s, s < n → known[lo lots' s]? = some (mark st lots s)) : Coarse st en n k lots' := by
  refine ⟨hl, fun a b ha hb q => ?_, fun a b ha hb q => ?_⟩
  · have e : mark st lots a = mark st lots b := (mark_eq T ha hb).mpr ⟨C.sm a b ha hb q, fun i hi => C.sm _ _ (T.nx ha hi) (T.nx hb hi) (same_nx q hi)⟩
    exact nodup_get nd (h a ha) (by rw [e]; exact h b hb)
  · have e : mark st lots a = mark st lots b := by
      have h1 := h a ha
      rw [q, h b hb] at h1
      exact (Option.some.inj h1).symm
    exact C.ac a b ha hb ((mark_eq T ha hb).mp e).1
/-- as many marks as lots: done -/
theorem lots_done (T : Tab st n k) (C : Coarse st en n k lots) {known : List (List Nat)} {L : List Nat} (nd : known.Nodup) (hm : ∀ x, x ∈ known ↔ ∃ s, s < n ∧ mark st lots s = x) (nl : L.Nodup) (hL : ∀ x, x ∈ L ↔ ∃ s, s < n ∧ lo lots s = x)
    (he : known.length = L.length) : Lots st en n k lots := by
  have hd : (known.map fun x => x.headD 0).Nodup := by
    refine nodup_of_len nl (fun x hx => ?_) (by simp [he])
    obtain ⟨s, hs, e⟩ := (hL x).mp hx
    exact List.mem_map.mpr ⟨mark st lots s, (hm _).mpr ⟨s, hs, rfl⟩, by simpa [mark] using e⟩
  have stab : ∀ a b, a < n → b < n → lo lots a = lo lots b → ∀ i, i < k → lo lots (nx st a i) = lo lots (nx st b i) := fun a b ha hb e => by
    have := map_inj_of hd ((hm _).mpr ⟨a, ha, rfl⟩) ((hm _).mpr ⟨b, hb, rfl⟩) (by simpa [mark] using e)
    exact ((mark_eq T ha hb).mp this).2
  refine ⟨C.len, fun a b ha hb => ⟨fun e w => ?_, C.sm a b ha hb⟩⟩
  induction w generalizing a b with
  | nil => intro _; simpa [rn] using C.ac a b ha hb e
  | cons i w ih =>
    intro hw
    have hi := hw i List.mem_cons_self
    rw [rn_cons, rn_cons]
    exact ih _ _ (T.nx ha hi) (T.nx hb hi) (stab a b ha hb e i hi) fun j hj => hw j (List.mem_cons_of_mem _ hj)
/-- never fewer marks than lots -/
theorem marks_more {known : List (List Nat)} {L : List Nat} (hm : ∀ x, x ∈ known ↔ ∃ s, s < n ∧ mark st lots s = x) (nl : L.Nodup) (hL : ∀ x, x ∈ L ↔ ∃ s, s < n ∧ lo lots s = x) : L.length ≤ known.length := by
  have := sub_len (b := known.map fun x => x.headD 0) nl fun x hx => by
    obtain ⟨s, hs, e⟩ := (hL x).mp hx
    exact List.mem_map.mpr ⟨mark st lots s, (hm _).mpr ⟨s, hs, rfl⟩, by simpa [mark] using e⟩
  simpa using this
end
end PM

set_option linter.all false
set_option maxRecDepth 10000
/-! Plain facts of machines, part 2: the least machine. -/
namespace PM
/-- a goal shown, if its lot is new -/
def add (lots : List Nat) (sh : List Nat) (g : Nat) : List Nat := if lo lots g ∈ sh.map (lo lots) then sh else sh ++ [g]
def turn (st : List (List Nat)) (lots sh : List Nat) (p : Nat) : List Nat := (st.getD (sh.getD p 0) []).foldl (add lots) sh
def it (st : List (List Nat)) (lots : List Nat) (b : Nat) : Nat → List Nat
  | 0 => [b]
  | p + 1 => turn st lots (it st lots b p) p
/-- the machine that is told -/
def itemsOf (st : List (List Nat)) (lots sh : List Nat) : List (List Nat) := sh.map fun s => (st.getD s []).map fun g => (ixOf (lo lots g) (sh.map (lo lots))).getD 0
def endsOf (en sh : List Nat) : List Nat := (List.range sh.length).filter fun i => decide (sh.getD i 0 ∈ en)
structure Shown (n : Nat) (lots : List Nat) (b : Nat) (sh : List Nat) : Prop where
  lt : ∀ s ∈ sh, s < n
  nd : (sh.map (lo lots)).Nodup
  hd : sh[0]? = some b
section
variable {st : List (List Nat)} {en : List Nat} {n k b : Nat} {lots sh : List Nat}
theorem add_shown (h : Shown n lots b sh) {g : Nat} (hg : g < n) : Shown n lots b (add lots sh g) := by
  unfold add
  split
  · exact h
  · rename_i hn
    refine ⟨fun s hs => ?_, ?_, ?_⟩
    · rcases List.mem_append.mp hs with z | z
      · exact h.lt s z
      · obtain rfl := List.mem_singleton.mp z
        exact hg
    · rw [List.map_append]
      refine List.nodup_append.mpr ⟨h.nd, by simp, fun x hx y hy => ?_⟩
      rintro rfl
      simp at hy
      subst hy
      exact hn hx
    · have : 0 < sh.length := (List.getElem?_eq_some_iff.mp h.hd).1
      rw [List.getElem?_append_left this]
      exact h.hd
theorem add_pre (lots sh : List Nat) (g : Nat) : sh <+: add lots sh g := by
  unfold add
  split
  · exact List.prefix_refl _
  · exact List.prefix_append _ _
theorem add_has (lots sh : List Nat) (g : Nat) : lo lots g ∈ (add lots sh g).map (lo lots) := by
  unfold add
  split
  · assumption
  · simp
theorem fold_shown : ∀ (r : List Nat) {sh : List Nat}, Shown n lots b sh → (∀ g ∈ r, g < n) → Shown n lots b (r.foldl (add lots) sh)
  | [], _, h, _ => h
  | g :: r, _, h, hr => fold_shown r (add_shown h (hr g List.mem_cons_self)) fun x hx => hr x (List.mem_cons_of_mem _ hx)
theorem fold_pre (lots : List Nat) : ∀ (r sh : List Nat), sh <+: r.foldl (add lots) sh
  | [], sh => List.prefix_refl _
  | g :: r, sh => (add_pre lots sh g).trans (fold_pre lots r _)
theorem fold_has (lots : List Nat) : ∀ (r sh : List Nat), ∀ g ∈ r, lo lots g ∈ (r.foldl (add lots) sh).map (lo lots)
  | x :: r, sh, g, hg => by
    rcases List.mem_cons.mp hg with rfl | z
    · obtain ⟨t, ht⟩ := fold_pre lots r (add lots sh g)
      show lo lots g ∈ (r.foldl (add lots) (add lots sh g)).map (lo lots)
      rw [← ht, List.map_append]
      exact List.mem_append_left _ (add_has lots sh g)
    · exact fold_has lots r _ g z
theorem nodup_map {f : Nat → Nat} {l : List Nat} (h : (l.map f).Nodup) : l.Nodup := by
  refine List.pairwise_map.mp h |>.imp ?_
  rintro a c q rfl
  exact q rfl
theorem shown_len (h : Shown n lots b sh) : sh.length ≤ n := by
  have nd : sh.Nodup := nodup_map h.nd
  have := sub_len (b := List.range n) nd fun s hs => List.mem_range.mpr (h.lt s hs)
  simpa using this
theorem it_shown (T : Tab st n k) (hb : b < n) : ∀ p, Shown n lots b (it st lots b p)
  | 0 => ⟨fun s hs => by obtain rfl := List.mem_singleton.mp hs; exact hb, by simp [it], rfl⟩
  | p + 1 => by
    have ih := it_shown T hb p
    unfold it turn
    refine fold_shown _ ih fun g hg => ?_
    by_cases hp : p < (it st lots b p).length
    · have hm : (it st lots b p).getD p 0 ∈ it st lots b p := by simp [List.getD_eq_getElem?_getD, List.getElem?_eq_getElem hp]
      obtain ⟨r, e, _, hr⟩ := T.row _ (ih.lt _ hm)
      simp only [List.getD_eq_getElem?_getD] at e hg
      rw [e] at hg
      exact hr g hg
    · have hz : (it st lots b p).getD p 0 = 0 := by simp [List.getD_eq_getElem?_getD, List.getElem?_eq_none (Nat.le_of_not_lt hp)]
      rw [hz] at hg
      obtain ⟨r, e, _, hr⟩ := T.row 0 (by omega)
      simp only [List.getD_eq_getElem?_getD] at hg
      rw [e] at hg
      exact hr g hg
theorem it_pre (p : Nat) : it st lots b p <+: it st lots b (p + 1) := fold_pre _ _ _
theorem it_le {q : Nat} : ∀ {p : Nat}, q ≤ p → it st lots b q <+: it st lots b p
  | 0, h => by obtain rfl : q = 0 := by omega
               exact List.prefix_refl _
  | p + 1, h => by
    by_cases e : q = p + 1
    · subst e
      exact List.prefix_refl _
    · exact (it_le (p := p) (by omega)).trans (it_pre p)
theorem pre_getD {l m : List Nat} (h : l <+: m) {i : Nat} (hi : i < l.length) : m.getD i 0 = l.getD i 0 := by
  obtain ⟨t, rfl⟩ := h
  simp only [List.getD_eq_getElem?_getD]
  rw [List.getElem?_append_left hi]
def Live (st : List (List Nat)) (lots : List Nat) (b p : Nat) : Prop := ∀ q, q < p → q < (it st lots b q).length
/-- what has had its turn leads to what is shown -/
theorem it_done : ∀ {p : Nat}, Live st lots b p → ∀ q, q < p → ∀ g ∈ st.getD ((it st lots b p).getD q 0) [], lo lots g ∈ (it st lots b p).map (lo lots)
  | p + 1, L, q, hq, g, hg => by
    have hl := L q hq
    by_cases e : q = p
    · subst e
      rw [pre_getD (it_pre q) hl] at hg
      exact fold_has lots _ _ g hg
    · have hp := (it_le (st := st) (lots := lots) (b := b) (q := q) (p := p) (by omega))
      have hlt : q < (it st lots b p).length := Nat.lt_of_lt_of_le hl hp.length_le
      rw [pre_getD (it_pre p) hlt] at hg
      have := it_done (p := p) (fun x hx => L x (by omega)) q (by omega) g hg
      obtain ⟨t, ht⟩ := it_pre (st := st) (lots := lots) (b := b) p
      rw [← ht, List.map_append]
      exact List.mem_append_left _ this
/-- the whole of it: as many turns as are shown -/
structure Whole (st : List (List Nat)) (n : Nat) (lots : List Nat) (b : Nat) (sh : List Nat) : Prop where
  ok : Shown n lots b sh
  cl : ∀ s ∈ sh, ∀ g ∈ st.getD s [], lo lots g ∈ sh.map (lo lots)
theorem it_whole (T : Tab st n k) (hb : b < n) {p : Nat} (L : Live st lots b p) (hp : (it st lots b p).length ≤ p) : Whole st n lots b (it st lots b p) := by
  refine ⟨it_shown T hb p, fun s hs g hg => ?_⟩
  obtain ⟨q, hq⟩ := List.mem_iff_getElem?.mp hs
  have hl := (List.getElem?_eq_some_iff.mp hq).1
  refine it_done L q (by omega) g ?_
  simpa [List.getD_eq_getElem?_getD, hq] using hg
/-! ### the machine that is told takes the same -/
theorem item_at (T : Tab st n k) (W : Whole st n lots b sh) {i s : Nat} (h : sh[i]? = some s) : ∃ r, (itemsOf st lots sh)[i]? = some r ∧ r.length = k ∧ ∀ c, c < k → ∃ j t, r[c]? = some j ∧ sh[j]? = some t ∧ lo lots t = lo lots (nx st s c) := by
  obtain ⟨q, e, hl, hg⟩ := T.row s (W.ok.lt s (List.mem_of_getElem? h))
  refine ⟨q.map fun g => (ixOf (lo lots g) (sh.map (lo lots))).getD 0, by simp [itemsOf, h, List.getD_eq_getElem?_getD, e], by simp [hl], fun c hc => ?_⟩
  have hc' : c < q.length := by omega
  have hm : q[c] ∈ st.getD s [] := by simp [List.getD_eq_getElem?_getD, e]
  obtain ⟨j, hj⟩ := ixOf_mem (W.cl s (List.mem_of_getElem? h) _ hm)
  have h1 := (ixOf_at hj).1
  rw [List.getElem?_map] at h1
  cases ht : sh[j]? with
  | none => rw [ht] at h1; cases h1
  | some t =>
    rw [ht] at h1
    have h2 : lo lots t = lo lots q[c] := Option.some.inj h1
    refine ⟨j, t, by simp [List.getElem?_eq_getElem hc', hj], ht, ?_⟩
    rw [h2, ← row_get e c]
    simp [List.getD_eq_getElem?_getD, List.getElem?_eq_getElem hc']
theorem items_tab (T : Tab st n k) (W : Whole st n lots b sh) : Tab (itemsOf st lots sh) sh.length k := by
  refine ⟨by simp [itemsOf], fun i hi => ?_⟩
  obtain ⟨r, e, hl, hr⟩ := item_at T W (List.getElem?_eq_getElem hi)
  refine ⟨r, e, hl, fun g hg => ?_⟩
  obtain ⟨c, hc⟩ := List.mem_iff_getElem?.mp hg
  have hc2 := (List.getElem?_eq_some_iff.mp hc).1
  obtain ⟨j, t, e1, e2, _⟩ := hr c (by omega)
  rw [hc] at e1
  cases e1
  exact (List.getElem?_eq_some_iff.mp e2).1
theorem lots_nx (T : Tab st n k) (O : Lots st en n k lots) {a c i : Nat} (ha : a < n) (hc : c < n) (h : lo lots a = lo lots c) (hi : i < k) : lo lots (nx st a i) = lo lots (nx st c i) :=
  (O.iff _ _ (T.nx ha hi) (T.nx hc hi)).mpr (same_nx ((O.iff a c ha hc).mp h) hi)
theorem least_goes (T : Tab st n k) (O : Lots st en n k lots) (W : Whole st n lots b sh) : ∀ {w : List Nat} {i s t : Nat}, sh[i]? = some t → s < n → lo lots t = lo lots s → (∀ c ∈ w, c < k) → ∃ t', sh[rn (itemsOf st lots sh) i w]? = some t' ∧ lo lots t' = lo lots (rn st s w)
  | [], i, s, t, h, _, e, _ => ⟨t, h, e⟩
  | c :: w, i, s, t, h, hs, e, hw => by
    have hc := hw c List.mem_cons_self
    have ht := W.ok.lt t (List.mem_of_getElem? h)
    obtain ⟨r, e1, _, hr⟩ := item_at T W h
    obtain ⟨j, t2, f1, f2, f3⟩ := hr c hc
    have hj : nx (itemsOf st lots sh) i c = j := by
      rw [← row_get e1 c]
      simp [List.getD_eq_getElem?_getD, f1]
    rw [rn_cons, rn_cons, hj]
    exact least_goes T O W f2 (T.nx hs hc) (f3.trans (lots_nx T O ht hs e hc)) fun d hd => hw d (List.mem_cons_of_mem _ hd)
theorem mem_ends {i : Nat} : i ∈ endsOf en sh ↔ i < sh.length ∧ sh.getD i 0 ∈ en := by simp [endsOf]
theorem least_takes (T : Tab st n k) (O : Lots st en n k lots) (W : Whole st n lots b sh) (hb : b < n) {w : List Nat} (hw : ∀ c ∈ w, c < k) : rn (itemsOf st lots sh) 0 w ∈ endsOf en sh ↔ rn st b w ∈ en := by
  obtain ⟨t, h1, h2⟩ := least_goes T O W W.ok.hd hb rfl hw
  have hl := (List.getElem?_eq_some_iff.mp h1).1
  have hrn := T.rn hb hw
  have ht := W.ok.lt t (List.mem_of_getElem? h1)
  rw [mem_ends]
  have e : sh.getD (rn (itemsOf st lots sh) 0 w) 0 = t := by simp [List.getD_eq_getElem?_getD, h1]
  rw [e]
  have := (O.iff t _ ht hrn).mp h2 [] (by simp)
  simp only [rn, List.foldl_nil] at this
  exact ⟨fun z => this.mp z.2, fun z => ⟨hl, this.mpr z⟩⟩
end
end PM

set_option linter.all false
set_option maxRecDepth 10000
/-! Plain facts of machines, part 3: how much of a word stands at a row's end. -/
namespace PM
def kbGo (w row : List Nat) : Nat → Nat
  | 0 => 0
  | m + 1 => if row.drop (row.length - (m + 1)) = w.take (m + 1) then m + 1 else kbGo w row m
def kb (w row : List Nat) : Nat := kbGo w row (min w.length row.length)
section
variable {w row : List Nat}
theorem suf_iff {m : Nat} (h : m ≤ w.length) (h2 : m ≤ row.length) : row.drop (row.length - m) = w.take m ↔ w.take m <:+ row := by
  rw [List.suffix_iff_eq_drop, List.length_take, Nat.min_eq_left h]
  exact eq_comm
theorem kbGo_le (m : Nat) : kbGo w row m ≤ m := by
  induction m with
  | zero => exact Nat.le_refl _
  | succ m ih =>
    unfold kbGo
    split
    · exact Nat.le_refl _
    · omega
theorem kbGo_suf : ∀ m, m ≤ w.length → m ≤ row.length → w.take (kbGo w row m) <:+ row
  | 0, _, _ => by simp [kbGo]
  | m + 1, h, h2 => by
    unfold kbGo
    split
    · rename_i e
      exact (suf_iff h h2).mp e
    · exact kbGo_suf m (by omega) (by omega)
theorem kbGo_most : ∀ m, m ≤ w.length → m ≤ row.length → ∀ j, j ≤ m → w.take j <:+ row → j ≤ kbGo w row m
  | 0, _, _, j, hj, _ => by omega
  | m + 1, h, h2, j, hj, hs => by
    unfold kbGo
    split
    · exact hj
    · rename_i e
      by_cases q : j = m + 1
      · subst q
        exact absurd ((suf_iff h h2).mpr hs) e
      · exact kbGo_most m (by omega) (by omega) j (by omega) hs
theorem kb_suf : w.take (kb w row) <:+ row := kbGo_suf _ (Nat.min_le_left _ _) (Nat.min_le_right _ _)
theorem kb_le : kb w row ≤ w.length := Nat.le_trans (kbGo_le _) (Nat.min_le_left _ _)
theorem kb_row : kb w row ≤ row.length := Nat.le_trans (kbGo_le _) (Nat.min_le_right _ _)
theorem kb_most {j : Nat} (h : j ≤ w.length) (hs : w.take j <:+ row) : j ≤ kb w row := by
  have := hs.length_le
  rw [List.length_take] at this
  exact kbGo_most _ (Nat.min_le_left _ _) (Nat.min_le_right _ _) j (by omega) hs
/-- the longest one by the law's way: the row is cut ahead till a beginning is left -/
theorem kb_uniq {j : Nat} (h : j ≤ w.length) (hs : w.take j <:+ row) (hm : ∀ i, i ≤ w.length → w.take i <:+ row → i ≤ j) : j = kb w row := Nat.le_antisymm (kb_most h hs) (hm _ kb_le kb_suf)
theorem kb_full : kb w row = w.length ↔ w <:+ row := by
  constructor
  · intro h
    have := kb_suf (w := w) (row := row)
    rw [h, List.take_length] at this
    exact this
  · intro h
    exact Nat.le_antisymm kb_le (kb_most (Nat.le_refl _) (by rw [List.take_length]; exact h))
/-- one sign more -/
theorem kb_step {c : Nat} (hlt : kb w row < w.length) : kb w (w.take (kb w row) ++ [c]) = kb w (row ++ [c]) := by
  have hs := kb_suf (w := w) (row := row)
  have hs2 : w.take (kb w row) ++ [c] <:+ row ++ [c] := by
    obtain ⟨t, ht⟩ := hs
    exact ⟨t, by rw [← List.append_assoc, ht]⟩
  refine Nat.le_antisymm (kb_most kb_le (kb_suf.trans hs2)) (kb_most kb_le ?_)
  have hb := kb_suf (w := w) (row := row ++ [c])
  have hl := kb_le (w := w) (row := row ++ [c])
  revert hb hl
  generalize kb w (row ++ [c]) = m
  intro hb hl
  cases m with
  | zero => simp
  | succ j =>
    have hj : j < w.length := hl
    have e1 : w.take (j + 1) = w.take j ++ [w[j]] := by rw [List.take_add_one, List.getElem?_eq_getElem hj]; rfl
    rw [e1] at hb ⊢
    obtain ⟨t, ht⟩ := hb
    rw [← List.append_assoc] at ht
    have h2 := List.append_inj' ht rfl
    have h3 : w[j] = c := by simpa using h2.2
    have h4 : w.take j <:+ row := ⟨t, h2.1⟩
    have h5 : j ≤ kb w row := kb_most (by omega) h4
    have h6 : w.take j <:+ w.take (kb w row) := List.suffix_of_suffix_length_le h4 hs (by simp only [List.length_take]; omega)
    obtain ⟨u, hu⟩ := h6
    exact ⟨u, by rw [← List.append_assoc, hu, h3]⟩
end
/-! ### the word's machine -/
def kst (sgl w : List Nat) : List (List Nat) := (List.range w.length).map (fun m => sgl.map fun c => kb w (w.take m ++ [c])) ++ [List.replicate sgl.length w.length]
structure Word (sgl w : List Nat) : Prop where
  nd : sgl.Nodup
  sub : ∀ c ∈ w, c ∈ sgl
  ne : w ≠ []
def ixs (sgl row : List Nat) : List Nat := row.map fun c => (ixOf c sgl).getD 0
section
variable {sgl w row : List Nat}
theorem kst_row {s : Nat} (h : s < w.length) : (kst sgl w)[s]? = some (sgl.map fun c => kb w (w.take s ++ [c])) := by
  unfold kst
  rw [List.getElem?_append_left (by simpa using h)]
  simp [h]
theorem kst_last : (kst sgl w)[w.length]? = some (List.replicate sgl.length w.length) := by
  unfold kst
  rw [List.getElem?_append_right (by simp)]
  simp
theorem kst_tab (sgl w : List Nat) : Tab (kst sgl w) (w.length + 1) sgl.length := by
  refine ⟨by simp [kst], fun s hs => ?_⟩
  by_cases h : s < w.length
  · refine ⟨_, kst_row h, by simp, fun g hg => ?_⟩
    obtain ⟨c, _, rfl⟩ := List.mem_map.mp hg
    have := kb_le (w := w) (row := w.take s ++ [c])
    omega
  · have e : s = w.length := by omega
    subst e
    refine ⟨_, kst_last, by simp, fun g hg => ?_⟩
    rw [List.eq_of_mem_replicate hg]
    exact Nat.lt_succ_self _
theorem kst_nx {s i c : Nat} (h : s < w.length) (hc : sgl[i]? = some c) : nx (kst sgl w) s i = kb w (w.take s ++ [c]) := by
  rw [← row_get (kst_row h) i]
  simp [List.getD_eq_getElem?_getD, hc]
theorem kst_stay {i : Nat} (h : i < sgl.length) : nx (kst sgl w) w.length i = w.length := by
  rw [← row_get kst_last i]
  simp [List.getD_eq_getElem?_getD, h]
theorem ixs_lt (hr : ∀ c ∈ row, c ∈ sgl) : ∀ i ∈ ixs sgl row, i < sgl.length := fun i hi => by
  obtain ⟨c, hc, rfl⟩ := List.mem_map.mp hi
  obtain ⟨j, hj⟩ := ixOf_mem (hr c hc)
  rw [hj]
  exact (List.getElem?_eq_some_iff.mp (ixOf_at hj).1).1
/-- the stand behind a row -/
def stand (w row : List Nat) : Nat := open Classical in if w <:+: row then w.length else kb w row
theorem kb_lt (h : ¬ w <:+: row) : kb w row < w.length := by
  rcases Nat.lt_or_eq_of_le (kb_le (w := w) (row := row)) with z | z
  · exact z
  · exact absurd (kb_full.mp z).isInfix h
theorem stand_step {c i : Nat} (hc : sgl[i]? = some c) : nx (kst sgl w) (stand w row) i = stand w (row ++ [c]) := by
  have hi : i < sgl.length := (List.getElem?_eq_some_iff.mp hc).1
  unfold stand
  by_cases h : w <:+: row
  · rw [if_pos h, if_pos (h.trans (List.prefix_append _ _).isInfix)]
    exact kst_stay hi
  · rw [if_neg h, kst_nx (kb_lt h) hc, kb_step (kb_lt h)]
    by_cases h2 : w <:+: row ++ [c]
    · rw [if_pos h2]
      rcases List.infix_concat_iff.mp h2 with z | z
      · exact kb_full.mpr z
      · exact absurd z h
    · rw [if_neg h2]
theorem stand_go : ∀ (rest row : List Nat), (∀ c ∈ rest, c ∈ sgl) → rn (kst sgl w) (stand w row) (ixs sgl rest) = stand w (row ++ rest)
  | [], row, _ => by simp [ixs, rn]
  | c :: rest, row, h => by
    obtain ⟨i, hi⟩ := ixOf_mem (h c List.mem_cons_self)
    show rn _ (nx _ _ ((ixOf c sgl).getD 0)) (ixs sgl rest) = _
    rw [hi, Option.getD_some, stand_step (ixOf_at hi).1, stand_go rest _ fun d hd => h d (List.mem_cons_of_mem _ hd)]
    simp
theorem stand_nil (h : w ≠ []) : stand w [] = 0 := by
  unfold stand
  rw [if_neg fun z => h (List.infix_nil.mp z)]
  have := kb_row (w := w) (row := [])
  simpa using this
/-- it takes the rows in which the word stands -/
theorem word_takes (W : Word sgl w) (hr : ∀ c ∈ row, c ∈ sgl) : rn (kst sgl w) 0 (ixs sgl row) ∈ [w.length] ↔ w <:+: row := by
  have := stand_go (sgl := sgl) (w := w) row [] hr
  rw [stand_nil W.ne, List.nil_append] at this
  rw [this, List.mem_singleton]
  unfold stand
  by_cases h : w <:+: row
  · rw [if_pos h]
    exact ⟨fun _ => h, fun _ => rfl⟩
  · rw [if_neg h]
    have := kb_lt h
    exact ⟨fun z => by omega, fun z => absurd z h⟩
theorem nx_le {s i : Nat} (hs : s ≤ w.length) (hi : i < sgl.length) : nx (kst sgl w) s i ≤ s + 1 := by
  by_cases h : s < w.length
  · rw [kst_nx h (List.getElem?_eq_getElem hi)]
    have := kb_row (w := w) (row := w.take s ++ [sgl[i]])
    rw [List.length_append, List.length_take, List.length_singleton] at this
    omega
  · have : s = w.length := by omega
    subst this
    rw [kst_stay hi]
    omega
theorem nx_up {s i : Nat} (hs : s < w.length) (hi : sgl[i]? = some w[s]) : nx (kst sgl w) s i = s + 1 := by
  rw [kst_nx hs hi]
  have e1 : w.take s ++ [w[s]] = w.take (s + 1) := by rw [List.take_add_one, List.getElem?_eq_getElem hs]; rfl
  rw [e1]
  refine Nat.le_antisymm ?_ (kb_most hs (List.suffix_refl _))
  have := kb_row (w := w) (row := w.take (s + 1))
  rw [List.length_take] at this
  omega
theorem rn_le : ∀ (v : List Nat) {s : Nat}, s ≤ w.length → (∀ i ∈ v, i < sgl.length) → rn (kst sgl w) s v ≤ s + v.length
  | [], s, _, _ => Nat.le_refl _
  | i :: v, s, hs, h => by
    have h1 := nx_le (w := w) hs (h i List.mem_cons_self)
    have h2 := (kst_tab sgl w).nx (s := s) (by omega) (h i List.mem_cons_self)
    have := rn_le v (s := nx (kst sgl w) s i) (by omega) fun j hj => h j (List.mem_cons_of_mem _ hj)
    rw [rn_cons]
    simp only [List.length_cons]
    omega
theorem rn_up (W : Word sgl w) : ∀ (d s : Nat), s + d = w.length → rn (kst sgl w) s (ixs sgl (w.drop s)) = w.length
  | 0, s, h => by
    have : s = w.length := by omega
    subst this
    simp [ixs, rn]
  | d + 1, s, h => by
    have hs : s < w.length := by omega
    rw [List.drop_eq_getElem_cons hs]
    obtain ⟨i, hi⟩ := ixOf_mem (W.sub _ (List.getElem_mem hs))
    show rn _ (nx _ _ ((ixOf w[s] sgl).getD 0)) (ixs sgl (w.drop (s + 1))) = _
    rw [hi, Option.getD_some, nx_up hs (ixOf_at hi).1]
    exact rn_up W d (s + 1) (by omega)
theorem word_apart (W : Word sgl w) {a b : Nat} (hab : a < b) (hb : b ≤ w.length) : ¬ same (kst sgl w) [w.length] sgl.length a b := fun h => by
  have hv := ixs_lt (sgl := sgl) (row := w.drop b) fun c hc => W.sub c (List.mem_of_mem_drop hc)
  have h1 := (h _ hv).mpr (by rw [rn_up W (w.length - b) b (by omega)]; simp)
  have h2 := rn_le (w := w) (ixs sgl (w.drop b)) (s := a) (by omega) hv
  rw [List.mem_singleton] at h1
  have hl : (ixs sgl (w.drop b)).length = w.length - b := by simp [ixs]
  rw [hl] at h2
  omega
variable {lots : List Nat}
theorem word_inj (W : Word sgl w) (O : Lots (kst sgl w) [w.length] (w.length + 1) sgl.length lots) {a b : Nat} (ha : a ≤ w.length) (hb : b ≤ w.length) (e : lo lots a = lo lots b) : a = b := by
  have s := (O.iff a b (by omega) (by omega)).mp e
  rcases Nat.lt_trichotomy a b with q | q | q
  · exact absurd s (word_apart W q hb)
  · exact q
  · exact absurd (fun v hv => (s v hv).symm) (word_apart W q ha)
theorem add_in (W : Word sgl w) (O : Lots (kst sgl w) [w.length] (w.length + 1) sgl.length lots) {m g : Nat} (hg : g < m) (hm : m ≤ w.length + 1) : add lots (List.range m) g = List.range m := by
  unfold add
  rw [if_pos (List.mem_map.mpr ⟨g, List.mem_range.mpr hg, rfl⟩)]
theorem add_new (W : Word sgl w) (O : Lots (kst sgl w) [w.length] (w.length + 1) sgl.length lots) {m : Nat} (hm : m ≤ w.length) : add lots (List.range m) m = List.range (m + 1) := by
  unfold add
  rw [if_neg, List.range_succ]
  intro h
  obtain ⟨a, ha, e⟩ := List.mem_map.mp h
  have ha := List.mem_range.mp ha
  have := word_inj W O (by omega) hm e
  omega
theorem fold_in (W : Word sgl w) (O : Lots (kst sgl w) [w.length] (w.length + 1) sgl.length lots) {m : Nat} (hm : m ≤ w.length + 1) : ∀ {r : List Nat}, (∀ g ∈ r, g < m) → r.foldl (add lots) (List.range m) = List.range m
  | [], _ => rfl
  | g :: r, h => by
    rw [List.foldl_cons, add_in W O (h g List.mem_cons_self) hm]
    exact fold_in W O hm fun x hx => h x (List.mem_cons_of_mem _ hx)
theorem fold_new (W : Word sgl w) (O : Lots (kst sgl w) [w.length] (w.length + 1) sgl.length lots) {m : Nat} (hm : m ≤ w.length) : ∀ {r : List Nat}, (∀ g ∈ r, g ≤ m) → m ∈ r → r.foldl (add lots) (List.range m) = List.range (m + 1)
  | g :: r, h, hr => by
    rw [List.foldl_cons]
    by_cases e : g = m
    · subst e
      rw [add_new W O hm]
      exact fold_in W O (by omega) fun x hx => Nat.lt_succ_of_le (h x (List.mem_cons_of_mem _ hx))
    · have := h g List.mem_cons_self
      rw [add_in W O (by omega) (by omega)]
      exact fold_new W O hm (fun x hx => h x (List.mem_cons_of_mem _ hx)) ((List.mem_cons.mp hr).resolve_left (Ne.symm e))
theorem word_it (W : Word sgl w) (O : Lots (kst sgl w) [w.length] (w.length + 1) sgl.length lots) : ∀ p, p ≤ w.length → it (kst sgl w) lots 0 p = List.range (p + 1)
  | 0, _ => rfl
  | p + 1, h => by
    have ih := word_it W O p (by omega)
    have hp : p < w.length := by omega
    unfold it turn
    rw [ih]
    have e : (List.range (p + 1)).getD p 0 = p := by simp [List.getD_eq_getElem?_getD]
    rw [e]
    simp only [List.getD_eq_getElem?_getD, kst_row hp, Option.getD_some]
    refine fold_new W O (by omega) (fun g hg => ?_) ?_
    · obtain ⟨c, hc, rfl⟩ := List.mem_map.mp hg
      have := kb_row (w := w) (row := w.take p ++ [c])
      rw [List.length_append, List.length_take, List.length_singleton] at this
      omega
    · obtain ⟨i, hi⟩ := ixOf_mem (W.sub _ (List.getElem_mem hp))
      refine List.mem_map.mpr ⟨w[p], W.sub _ (List.getElem_mem hp), ?_⟩
      rw [← kst_nx hp (ixOf_at hi).1]
      exact nx_up hp (ixOf_at hi).1
theorem word_it1 (W : Word sgl w) (O : Lots (kst sgl w) [w.length] (w.length + 1) sgl.length lots) : it (kst sgl w) lots 0 (w.length + 1) = List.range (w.length + 1) := by
  unfold it turn
  rw [word_it W O _ (Nat.le_refl _)]
  have e : (List.range (w.length + 1)).getD w.length 0 = w.length := by simp [List.getD_eq_getElem?_getD]
  rw [e]
  simp only [List.getD_eq_getElem?_getD, kst_last, Option.getD_some]
  refine fold_in W O (Nat.le_refl _) fun g hg => ?_
  rw [List.eq_of_mem_replicate hg]
  exact Nat.lt_succ_self _
/-- the word's machine is its own least one -/
theorem word_least (W : Word sgl w) (O : Lots (kst sgl w) [w.length] (w.length + 1) sgl.length lots) {p : Nat} (L : Live (kst sgl w) lots 0 p) (hp : (it (kst sgl w) lots 0 p).length ≤ p) :
    itemsOf (kst sgl w) lots (it (kst sgl w) lots 0 p) = kst sgl w ∧ endsOf [w.length] (it (kst sgl w) lots 0 p) = [w.length] := by
  have e : p = w.length + 1 := by
    rcases Nat.lt_trichotomy p (w.length + 1) with q | q | q
    · rw [word_it W O p (by omega), List.length_range] at hp
      omega
    · exact q
    · have := L _ q
      rw [word_it1 W O, List.length_range] at this
      omega
  subst e
  rw [word_it1 W O]
  have T := kst_tab sgl w
  have nd : ((List.range (w.length + 1)).map (lo lots)).Nodup := by
    have := (it_shown T (lots := lots) (b := 0) (by omega) (w.length + 1)).nd
    rwa [word_it1 W O] at this
  refine ⟨List.ext_getElem? fun s => ?_, ?_⟩
  · unfold itemsOf
    by_cases hs : s < w.length + 1
    · obtain ⟨r, e, _, hr⟩ := T.row s hs
      rw [List.getElem?_map, List.getElem?_range hs, e, Option.map_some]
      simp only [List.getD_eq_getElem?_getD, e, Option.getD_some, Option.some.injEq]
      conv => rhs; rw [← List.map_id r]
      refine List.map_congr_left fun g hg => ?_
      rw [ixOf_nodup (i := g) nd (by simp [hr g hg])]
      rfl
    · rw [List.getElem?_eq_none (by simp; omega), List.getElem?_eq_none (by rw [T.len]; omega)]
  · unfold endsOf
    rw [List.length_range, List.range_succ, List.filter_append]
    have h1 : (List.range w.length).filter (fun i => decide ((List.range w.length ++ [w.length]).getD i 0 ∈ [w.length])) = [] := by
      refine List.filter_eq_nil_iff.mpr fun i hi => ?_
      have hi := List.mem_range.mp hi
      simp [List.getD_eq_getElem?_getD, List.getElem?_append_left, hi]
      omega
    rw [h1]
    simp [List.getD_eq_getElem?_getD]
end
end PM

set_option linter.all false
set_option maxRecDepth 10000
/-! Plain facts of machines, part 4: two machines at once. -/
namespace PM
structure Stab (st : List (List Nat)) (en : List Nat) (n k : Nat) (lots : List Nat) : Prop where
  nx : ∀ a b, a < n → b < n → lo lots a = lo lots b → ∀ i, i < k → lo lots (nx st a i) = lo lots (nx st b i)
  en : ∀ a b, a < n → b < n → lo lots a = lo lots b → (a ∈ en ↔ b ∈ en)
theorem lo_range {n s : Nat} (h : s < n) : lo (List.range n) s = s := by simp [lo, List.getD_eq_getElem?_getD, h]
theorem map_lo_range {n : Nat} {sh : List Nat} (h : ∀ s ∈ sh, s < n) : sh.map (lo (List.range n)) = sh := by
  conv => rhs; rw [← List.map_id sh]
  exact List.map_congr_left fun g hg => lo_range (h g hg)
section
variable {st : List (List Nat)} {en : List Nat} {n k b : Nat} {lots sh : List Nat}
theorem Lots.stab (T : Tab st n k) (O : Lots st en n k lots) : Stab st en n k lots := by
  refine ⟨fun a b ha hb h i hi => lots_nx T O ha hb h hi, fun a b ha hb h => ?_⟩
  have := (O.iff a b ha hb).mp h [] (by simp)
  simpa [rn] using this
theorem stab_range : Stab st en n k (List.range n) := by
  refine ⟨fun a b ha hb h i _ => ?_, fun a b ha hb h => ?_⟩
  · rw [lo_range ha, lo_range hb] at h
    rw [h]
  · rw [lo_range ha, lo_range hb] at h
    rw [h]
theorem stab_goes (T : Tab st n k) (O : Stab st en n k lots) (W : Whole st n lots b sh) : ∀ {w : List Nat} {i s t : Nat}, sh[i]? = some t → s < n → lo lots t = lo lots s → (∀ c ∈ w, c < k) → ∃ t', sh[rn (itemsOf st lots sh) i w]? = some t' ∧ lo lots t' = lo lots (rn st s w)
  | [], i, s, t, h, _, e, _ => ⟨t, h, e⟩
  | c :: w, i, s, t, h, hs, e, hw => by
    have hc := hw c List.mem_cons_self
    have ht := W.ok.lt t (List.mem_of_getElem? h)
    obtain ⟨r, e1, _, hr⟩ := item_at T W h
    obtain ⟨j, t2, f1, f2, f3⟩ := hr c hc
    have hj : PM.nx (itemsOf st lots sh) i c = j := by
      rw [← row_get e1 c]
      simp [List.getD_eq_getElem?_getD, f1]
    rw [rn_cons, rn_cons, hj]
    exact stab_goes T O W f2 (T.nx hs hc) (f3.trans (O.nx _ _ ht hs e _ hc)) fun d hd => hw d (List.mem_cons_of_mem _ hd)
theorem stab_takes (T : Tab st n k) (O : Stab st en n k lots) (W : Whole st n lots b sh) {w : List Nat} {i s : Nat} (hi : sh[i]? = some s) (hw : ∀ c ∈ w, c < k) : rn (itemsOf st lots sh) i w ∈ endsOf en sh ↔ rn st s w ∈ en := by
  have hs := W.ok.lt s (List.mem_of_getElem? hi)
  obtain ⟨t, h1, h2⟩ := stab_goes T O W hi hs rfl hw
  have hl := (List.getElem?_eq_some_iff.mp h1).1
  have hrn := T.rn hs hw
  have ht := W.ok.lt t (List.mem_of_getElem? h1)
  rw [mem_ends]
  have e : sh.getD (rn (itemsOf st lots sh) i w) 0 = t := by simp [List.getD_eq_getElem?_getD, h1]
  rw [e]
  have := O.en t _ ht hrn h2
  exact ⟨fun z => this.mp z.2, fun z => ⟨hl, this.mpr z⟩⟩
/-- a walk without parting, then the least one of it -/
theorem two_steps (T : Tab st n k) (hb : b < n) (W : Whole st n (List.range n) b sh) {lots2 sh2 : List Nat} (O : Lots (itemsOf st (List.range n) sh) (endsOf en sh) sh.length k lots2) (W2 : Whole (itemsOf st (List.range n) sh) sh.length lots2 0 sh2) :
    (∀ w : List Nat, (∀ c ∈ w, c < k) → (rn (itemsOf (itemsOf st (List.range n) sh) lots2 sh2) 0 w ∈ endsOf (endsOf en sh) sh2 ↔ rn st b w ∈ en)) ∧
    ∃ S : List Nat, S.length = sh2.length ∧ (∀ s ∈ S, s < n) ∧ S.Pairwise fun x y => ¬ same st en k x y := by
  have T2 := items_tab T W
  have h0 : 0 < sh.length := (List.getElem?_eq_some_iff.mp W.ok.hd).1
  refine ⟨fun w hw => (least_takes T2 O W2 h0 hw).trans (stab_takes T stab_range W W.ok.hd hw), sh2.map fun i => sh.getD i 0, by simp, fun s hs => ?_, ?_⟩
  · obtain ⟨i, hi, rfl⟩ := List.mem_map.mp hs
    have hi := W2.ok.lt i hi
    refine W.ok.lt _ ?_
    simp [List.getD_eq_getElem?_getD, List.getElem?_eq_getElem hi]
  · have nd : sh2.Pairwise fun x y => lo lots2 x ≠ lo lots2 y := List.pairwise_map.mp W2.ok.nd
    refine List.pairwise_map.mpr ?_
    refine nd.imp_of_mem fun {x y} hx hy hxy h => hxy ?_
    have hx := W2.ok.lt x hx
    have hy := W2.ok.lt y hy
    refine (O.iff x y hx hy).mpr fun w hw => ?_
    have ex : sh[x]? = some (sh.getD x 0) := by simp [List.getD_eq_getElem?_getD, List.getElem?_eq_getElem hx]
    have ey : sh[y]? = some (sh.getD y 0) := by simp [List.getD_eq_getElem?_getD, List.getElem?_eq_getElem hy]
    exact (stab_takes T stab_range W ex hw).trans ((h w hw).trans (stab_takes T stab_range W ey hw).symm)
end
/-! ### the pairs as codes -/
def pst (st1 st2 : List (List Nat)) (n1 n2 : Nat) : List (List Nat) := (List.range (n1 * n2)).map fun c => List.zipWith (fun x y => x * n2 + y) (st1.getD (c / n2) []) (st2.getD (c % n2) [])
section
variable {st1 st2 : List (List Nat)} {n1 n2 k : Nat}
theorem pair_lt {x y : Nat} (hx : x < n1) (hy : y < n2) : x * n2 + y < n1 * n2 := by
  have : (x + 1) * n2 ≤ n1 * n2 := Nat.mul_le_mul_right _ hx
  rw [Nat.add_mul, Nat.one_mul] at this
  omega
theorem pair_div {x y : Nat} (hy : y < n2) : (x * n2 + y) / n2 = x ∧ (x * n2 + y) % n2 = y := by
  have h0 : 0 < n2 := by omega
  constructor
  · rw [Nat.mul_comm, Nat.mul_add_div h0, Nat.div_eq_of_lt hy, Nat.add_zero]
  · rw [Nat.mul_comm, Nat.mul_add_mod, Nat.mod_eq_of_lt hy]
theorem div_lt {c : Nat} (h : c < n1 * n2) : c / n2 < n1 ∧ c % n2 < n2 := by
  have h0 : 0 < n2 := by
    rcases Nat.eq_zero_or_pos n2 with z | z
    · rw [z, Nat.mul_zero] at h
      omega
    · exact z
  exact ⟨(Nat.div_lt_iff_lt_mul h0).mpr h, Nat.mod_lt _ h0⟩
theorem code_eq (c : Nat) : c / n2 * n2 + c % n2 = c := by rw [Nat.mul_comm]; exact Nat.div_add_mod c n2
theorem pst_row {x y : Nat} {r1 r2 : List Nat} (hx : x < n1) (hy : y < n2) (e1 : st1[x]? = some r1) (e2 : st2[y]? = some r2) : (pst st1 st2 n1 n2)[x * n2 + y]? = some (List.zipWith (fun x y => x * n2 + y) r1 r2) := by
  obtain ⟨d1, d2⟩ := pair_div (x := x) hy
  unfold pst
  simp [pair_lt hx hy, d1, d2, e1, e2]
theorem pst_tab (T1 : Tab st1 n1 k) (T2 : Tab st2 n2 k) : Tab (pst st1 st2 n1 n2) (n1 * n2) k := by
  refine ⟨by simp [pst], fun c hc => ?_⟩
  obtain ⟨h1, h2⟩ := div_lt hc
  obtain ⟨r1, e1, l1, g1⟩ := T1.row _ h1
  obtain ⟨r2, e2, l2, g2⟩ := T2.row _ h2
  have := pst_row h1 h2 e1 e2
  rw [code_eq] at this
  refine ⟨_, this, by simp [l1, l2], fun g hg => ?_⟩
  obtain ⟨i, hi⟩ := List.mem_iff_getElem?.mp hg
  rw [List.getElem?_zipWith] at hi
  cases a1 : r1[i]? with
  | none => rw [a1] at hi; cases hi
  | some u =>
    cases a2 : r2[i]? with
    | none => rw [a1, a2] at hi; cases hi
    | some v =>
      rw [a1, a2] at hi
      cases hi
      exact pair_lt (g1 u (List.mem_of_getElem? a1)) (g2 v (List.mem_of_getElem? a2))
theorem pst_nx (T1 : Tab st1 n1 k) (T2 : Tab st2 n2 k) {x y i : Nat} (hx : x < n1) (hy : y < n2) (hi : i < k) : nx (pst st1 st2 n1 n2) (x * n2 + y) i = nx st1 x i * n2 + nx st2 y i := by
  obtain ⟨r1, e1, l1, g1⟩ := T1.row _ hx
  obtain ⟨r2, e2, l2, g2⟩ := T2.row _ hy
  rw [← row_get (pst_row hx hy e1 e2) i, ← row_get e1 i, ← row_get e2 i]
  simp [List.getD_eq_getElem?_getD, List.getElem?_zipWith, List.getElem?_eq_getElem (show i < r1.length by omega), List.getElem?_eq_getElem (show i < r2.length by omega)]
theorem pst_rn (T1 : Tab st1 n1 k) (T2 : Tab st2 n2 k) : ∀ {w : List Nat} {x y : Nat}, x < n1 → y < n2 → (∀ c ∈ w, c < k) → rn (pst st1 st2 n1 n2) (x * n2 + y) w = rn st1 x w * n2 + rn st2 y w
  | [], _, _, _, _, _ => rfl
  | c :: w, x, y, hx, hy, hw => by
    have hc := hw c List.mem_cons_self
    rw [rn_cons, rn_cons, rn_cons, pst_nx T1 T2 hx hy hc]
    exact pst_rn T1 T2 (T1.nx hx hc) (T2.nx hy hc) fun d hd => hw d (List.mem_cons_of_mem _ hd)
end
/-- the codes of the pairs at an end -/
def pen (c : Nat → Nat → Bool) (n1 n2 : Nat) : List Nat := (List.range (n1 * n2)).filter fun x => c (x / n2) (x % n2)
theorem mem_pen {c : Nat → Nat → Bool} {n1 n2 x y : Nat} (hx : x < n1) (hy : y < n2) : x * n2 + y ∈ pen c n1 n2 ↔ c x y = true := by
  obtain ⟨d1, d2⟩ := pair_div (x := x) hy
  unfold pen
  rw [List.mem_filter, List.mem_range, d1, d2]
  exact ⟨fun h => h.2, fun h => ⟨pair_lt hx hy, h⟩⟩
theorem mem_pen' {c : Nat → Nat → Bool} {n1 n2 x : Nat} (hx : x < n1 * n2) : x ∈ pen c n1 n2 ↔ c (x / n2) (x % n2) = true := by
  unfold pen
  rw [List.mem_filter, List.mem_range]
  exact ⟨fun h => h.2, fun h => ⟨hx, h⟩⟩
end PM

set_option linter.all false
set_option maxRecDepth 10000
/-! Plain facts of machines, part 5: machines that take the same rows have one least machine. -/
namespace PM
def lang (st1 : List (List Nat)) (en1 : List Nat) (a : Nat) (st2 : List (List Nat)) (en2 : List Nat) (b k : Nat) : Prop := ∀ w : List Nat, (∀ i ∈ w, i < k) → (rn st1 a w ∈ en1 ↔ rn st2 b w ∈ en2)
def Alike (R : Nat → Nat → Prop) (l m : List Nat) : Prop := l.length = m.length ∧ ∀ (i x y : Nat), l[i]? = some x → m[i]? = some y → R x y
theorem Alike.cons {R : Nat → Nat → Prop} {x y : Nat} {l m : List Nat} (h : Alike R (x :: l) (y :: m)) : R x y ∧ Alike R l m :=
  ⟨h.2 0 x y rfl rfl, by simpa using h.1, fun i u v a b => h.2 (i + 1) u v (by simpa using a) (by simpa using b)⟩
theorem ixOf_alike : ∀ {A B : List Nat} {a b : Nat}, A.length = B.length → (∀ (i x y : Nat), A[i]? = some x → B[i]? = some y → (x = a ↔ y = b)) → ixOf a A = ixOf b B
  | [], [], _, _, _, _ => rfl
  | x :: A, y :: B, a, b, hl, h => by
    unfold ixOf
    have h0 := h 0 x y rfl rfl
    by_cases e : x = a
    · rw [if_pos e, if_pos (h0.mp e)]
    · rw [if_neg e, if_neg fun z => e (h0.mpr z), ixOf_alike (A := A) (B := B) (by simpa using hl) fun i u v p q => h (i + 1) u v (by simpa using p) (by simpa using q)]
  | [], _ :: _, _, _, hl, _ => by simp at hl
  | _ :: _, [], _, _, hl, _ => by simp at hl
structure Two (st1 : List (List Nat)) (en1 : List Nat) (n1 : Nat) (lots1 : List Nat) (st2 : List (List Nat)) (en2 : List Nat) (n2 : Nat) (lots2 : List Nat) (k : Nat) : Prop where
  t1 : Tab st1 n1 k
  t2 : Tab st2 n2 k
  o1 : Lots st1 en1 n1 k lots1
  o2 : Lots st2 en2 n2 k lots2
section
variable {st1 st2 : List (List Nat)} {en1 en2 lots1 lots2 : List Nat} {n1 n2 k : Nat}
def Rel (st1 : List (List Nat)) (en1 : List Nat) (n1 : Nat) (st2 : List (List Nat)) (en2 : List Nat) (n2 k : Nat) (x y : Nat) : Prop := x < n1 ∧ y < n2 ∧ lang st1 en1 x st2 en2 y k
theorem Two.nx (W : Two st1 en1 n1 lots1 st2 en2 n2 lots2 k) {x y i : Nat} (h : Rel st1 en1 n1 st2 en2 n2 k x y) (hi : i < k) : Rel st1 en1 n1 st2 en2 n2 k (nx st1 x i) (nx st2 y i) :=
  ⟨W.t1.nx h.1 hi, W.t2.nx h.2.1 hi, fun w hw => h.2.2 (i :: w) fun j hj => by
    rcases List.mem_cons.mp hj with rfl | z
    · exact hi
    · exact hw j z⟩
theorem Two.lo (W : Two st1 en1 n1 lots1 st2 en2 n2 lots2 k) {x y x' y' : Nat} (h : Rel st1 en1 n1 st2 en2 n2 k x y) (h' : Rel st1 en1 n1 st2 en2 n2 k x' y') : lo lots1 x = lo lots1 x' ↔ lo lots2 y = lo lots2 y' := by
  rw [W.o1.iff x x' h.1 h'.1, W.o2.iff y y' h.2.1 h'.2.1]
  exact ⟨fun s w hw => (h.2.2 w hw).symm.trans ((s w hw).trans (h'.2.2 w hw)), fun s w hw => (h.2.2 w hw).trans ((s w hw).trans (h'.2.2 w hw).symm)⟩
theorem Two.ix (W : Two st1 en1 n1 lots1 st2 en2 n2 lots2 k) {sh1 sh2 : List Nat} (A : Alike (Rel st1 en1 n1 st2 en2 n2 k) sh1 sh2) {g1 g2 : Nat} (h : Rel st1 en1 n1 st2 en2 n2 k g1 g2) :
    ixOf (PM.lo lots1 g1) (sh1.map (PM.lo lots1)) = ixOf (PM.lo lots2 g2) (sh2.map (PM.lo lots2)) := by
  refine ixOf_alike (by simp [A.1]) fun i x y hx hy => ?_
  rw [List.getElem?_map] at hx hy
  cases e1 : sh1[i]? with
  | none => rw [e1] at hx; cases hx
  | some u =>
    cases e2 : sh2[i]? with
    | none => rw [e2] at hy; cases hy
    | some v =>
      rw [e1] at hx
      rw [e2] at hy
      cases hx
      cases hy
      exact W.lo (A.2 i u v e1 e2) h
theorem ixOf_none {c : Nat} : ∀ {l : List Nat}, ixOf c l = none ↔ c ∉ l
  | [] => by simp [ixOf]
  | x :: l => by
    unfold ixOf
    by_cases e : x = c
    · simp [e]
    · have ih := ixOf_none (c := c) (l := l)
      simp [e, ih, Ne.symm e]
theorem Two.mem (W : Two st1 en1 n1 lots1 st2 en2 n2 lots2 k) {sh1 sh2 : List Nat} (A : Alike (Rel st1 en1 n1 st2 en2 n2 k) sh1 sh2) {g1 g2 : Nat} (h : Rel st1 en1 n1 st2 en2 n2 k g1 g2) :
    PM.lo lots1 g1 ∈ sh1.map (PM.lo lots1) ↔ PM.lo lots2 g2 ∈ sh2.map (PM.lo lots2) := by
  have e := W.ix A h
  rw [← Decidable.not_iff_not, ← ixOf_none, ← ixOf_none, e]
theorem Two.add (W : Two st1 en1 n1 lots1 st2 en2 n2 lots2 k) {sh1 sh2 : List Nat} (A : Alike (Rel st1 en1 n1 st2 en2 n2 k) sh1 sh2) {g1 g2 : Nat} (h : Rel st1 en1 n1 st2 en2 n2 k g1 g2) :
    Alike (Rel st1 en1 n1 st2 en2 n2 k) (PM.add lots1 sh1 g1) (PM.add lots2 sh2 g2) := by
  unfold PM.add
  by_cases e : PM.lo lots1 g1 ∈ sh1.map (PM.lo lots1)
  · rw [if_pos e, if_pos ((W.mem A h).mp e)]
    exact A
  · rw [if_neg e, if_neg fun z => e ((W.mem A h).mpr z)]
    refine ⟨by simp [A.1], fun i x y hx hy => ?_⟩
    by_cases hi : i < sh1.length
    · rw [List.getElem?_append_left hi] at hx
      rw [List.getElem?_append_left (by rw [← A.1]; exact hi)] at hy
      exact A.2 i x y hx hy
    · rw [List.getElem?_append_right (by omega)] at hx
      rw [List.getElem?_append_right (by rw [← A.1]; omega)] at hy
      have e1 := List.mem_of_getElem? hx
      have e2 := List.mem_of_getElem? hy
      rw [List.mem_singleton] at e1 e2
      rw [e1, e2]
      exact h
theorem Two.fold (W : Two st1 en1 n1 lots1 st2 en2 n2 lots2 k) : ∀ {r1 r2 sh1 sh2 : List Nat}, Alike (Rel st1 en1 n1 st2 en2 n2 k) r1 r2 → Alike (Rel st1 en1 n1 st2 en2 n2 k) sh1 sh2 → Alike (Rel st1 en1 n1 st2 en2 n2 k) (r1.foldl (PM.add lots1) sh1) (r2.foldl (PM.add lots2) sh2)
  | [], [], _, _, _, A => A
  | g1 :: r1, g2 :: r2, _, _, h, A => by
    have := W.fold h.cons.2 (W.add A h.cons.1)
    exact this
  | [], _ :: _, _, _, h, _ => by simp [Alike] at h
  | _ :: _, [], _, _, h, _ => by simp [Alike] at h
theorem Two.row (W : Two st1 en1 n1 lots1 st2 en2 n2 lots2 k) {x y : Nat} (h : Rel st1 en1 n1 st2 en2 n2 k x y) : Alike (Rel st1 en1 n1 st2 en2 n2 k) (st1.getD x []) (st2.getD y []) := by
  obtain ⟨r1, e1, l1, _⟩ := W.t1.row x h.1
  obtain ⟨r2, e2, l2, _⟩ := W.t2.row y h.2.1
  simp only [List.getD_eq_getElem?_getD, e1, e2, Option.getD_some]
  refine ⟨by omega, fun i u v hu hv => ?_⟩
  have hi := (List.getElem?_eq_some_iff.mp hu).1
  have a1 : u = PM.nx st1 x i := by rw [← row_get e1 i]; simp [List.getD_eq_getElem?_getD, hu]
  have a2 : v = PM.nx st2 y i := by rw [← row_get e2 i]; simp [List.getD_eq_getElem?_getD, hv]
  rw [a1, a2]
  exact W.nx h (by omega)
theorem Two.it (W : Two st1 en1 n1 lots1 st2 en2 n2 lots2 k) {b1 b2 : Nat} (h : Rel st1 en1 n1 st2 en2 n2 k b1 b2) : ∀ p, Live st1 lots1 b1 p → Alike (Rel st1 en1 n1 st2 en2 n2 k) (PM.it st1 lots1 b1 p) (PM.it st2 lots2 b2 p)
  | 0, _ => ⟨rfl, fun i x y hx hy => by
    have e1 := List.mem_of_getElem? hx
    have e2 := List.mem_of_getElem? hy
    unfold PM.it at e1 e2
    rw [List.mem_singleton] at e1 e2
    rw [e1, e2]
    exact h⟩
  | p + 1, L => by
    have A := W.it h p fun q hq => L q (by omega)
    have hp := L p (Nat.lt_succ_self p)
    unfold PM.it turn
    refine W.fold (W.row ?_) A
    have hp2 : p < (PM.it st2 lots2 b2 p).length := by rw [← A.1]; exact hp
    simp only [List.getD_eq_getElem?_getD, List.getElem?_eq_getElem hp, List.getElem?_eq_getElem hp2, Option.getD_some]
    exact A.2 p _ _ (List.getElem?_eq_getElem hp) (List.getElem?_eq_getElem hp2)
theorem Rel.symm {x y : Nat} (h : Rel st1 en1 n1 st2 en2 n2 k x y) : Rel st2 en2 n2 st1 en1 n1 k y x := ⟨h.2.1, h.1, fun w hw => (h.2.2 w hw).symm⟩
theorem Two.symm (W : Two st1 en1 n1 lots1 st2 en2 n2 lots2 k) : Two st2 en2 n2 lots2 st1 en1 n1 lots1 k := ⟨W.t2, W.t1, W.o2, W.o1⟩
/-- one least machine -/
theorem Two.least (W : Two st1 en1 n1 lots1 st2 en2 n2 lots2 k) {b1 b2 p1 p2 : Nat} (h : Rel st1 en1 n1 st2 en2 n2 k b1 b2) (L1 : Live st1 lots1 b1 p1) (e1 : (PM.it st1 lots1 b1 p1).length ≤ p1) (L2 : Live st2 lots2 b2 p2) (e2 : (PM.it st2 lots2 b2 p2).length ≤ p2) :
    itemsOf st1 lots1 (PM.it st1 lots1 b1 p1) = itemsOf st2 lots2 (PM.it st2 lots2 b2 p2) ∧ endsOf en1 (PM.it st1 lots1 b1 p1) = endsOf en2 (PM.it st2 lots2 b2 p2) := by
  have hp : p1 = p2 := by
    rcases Nat.lt_trichotomy p1 p2 with q | q | q
    · have A := W.it h p1 L1
      have := L2 p1 q
      rw [← A.1] at this
      omega
    · exact q
    · have A := W.symm.it h.symm p2 L2
      have := L1 p2 q
      rw [← A.1] at this
      omega
  subst hp
  have A := W.it h p1 L1
  revert A
  generalize PM.it st1 lots1 b1 p1 = sh1
  generalize PM.it st2 lots2 b2 p1 = sh2
  intro A
  refine ⟨List.ext_getElem? fun i => ?_, ?_⟩
  · unfold itemsOf
    rw [List.getElem?_map, List.getElem?_map]
    by_cases hi : i < sh1.length
    · have hi2 : i < sh2.length := by rw [← A.1]; exact hi
      rw [List.getElem?_eq_getElem hi, List.getElem?_eq_getElem hi2, Option.map_some, Option.map_some]
      have B := W.row (A.2 i _ _ (List.getElem?_eq_getElem hi) (List.getElem?_eq_getElem hi2))
      congr 1
      refine List.ext_getElem? fun j => ?_
      rw [List.getElem?_map, List.getElem?_map]
      revert B
      generalize st1.getD sh1[i] [] = r1
      generalize st2.getD sh2[i] [] = r2
      intro B
      by_cases hj : j < r1.length
      · have hj2 : j < r2.length := by rw [← B.1]; exact hj
        rw [List.getElem?_eq_getElem hj, List.getElem?_eq_getElem hj2, Option.map_some, Option.map_some, W.ix A (B.2 j _ _ (List.getElem?_eq_getElem hj) (List.getElem?_eq_getElem hj2))]
      · rw [List.getElem?_eq_none (by omega), List.getElem?_eq_none (by rw [← B.1]; omega)]
        rfl
    · rw [List.getElem?_eq_none (by omega), List.getElem?_eq_none (by rw [← A.1]; omega)]
      rfl
  · unfold endsOf
    rw [← A.1]
    refine List.filter_congr fun i hi => ?_
    have hi := List.mem_range.mp hi
    have hi2 : i < sh2.length := by rw [← A.1]; exact hi
    simp only [List.getD_eq_getElem?_getD, List.getElem?_eq_getElem hi, List.getElem?_eq_getElem hi2, Option.getD_some]
    have := (A.2 i _ _ (List.getElem?_eq_getElem hi) (List.getElem?_eq_getElem hi2)).2.2 [] (by simp)
    simp only [rn, List.foldl_nil] at this
    exact decide_eq_decide.mpr this
end
/-- a machine that goes as another one does -/
theorem lang_of {st1 st2 : List (List Nat)} {en1 en2 : List Nat} {n k : Nat} (T : Tab st2 n k) (h : Nat → Nat) (hn : ∀ s i, s < n → i < k → h (nx st2 s i) = nx st1 (h s) i) (he : ∀ s, s < n → (s ∈ en2 ↔ h s ∈ en1)) : ∀ {s : Nat}, s < n → lang st1 en1 (h s) st2 en2 s k := by
  intro s hs w
  induction w generalizing s with
  | nil => intro _; exact (he s hs).symm
  | cons i w ih =>
    intro hw
    have hi := hw i List.mem_cons_self
    rw [rn_cons, rn_cons, ← hn s i hs hi]
    exact ih (T.nx hs hi) fun j hj => hw j (List.mem_cons_of_mem _ hj)
theorem lang.symm {st1 st2 : List (List Nat)} {en1 en2 : List Nat} {a b k : Nat} (h : lang st1 en1 a st2 en2 b k) : lang st2 en2 b st1 en1 a k := fun w hw => (h w hw).symm
theorem lang.trans {st1 st2 st3 : List (List Nat)} {en1 en2 en3 : List Nat} {a b c k : Nat} (h : lang st1 en1 a st2 en2 b k) (g : lang st2 en2 b st3 en3 c k) : lang st1 en1 a st3 en3 c k := fun w hw => (h w hw).trans (g w hw)
theorem lang.refl {st : List (List Nat)} {en : List Nat} {a k : Nat} : lang st en a st en a k := fun _ _ => Iff.rfl
end PM

set_option linter.all false
set_option maxRecDepth 10000
/-! Plain facts of machines, part 6: lots by other ways; how soon stands part. -/
namespace PM
section
variable {st : List (List Nat)} {en : List Nat} {n k : Nat} {lots : List Nat}
/-- lots made once more from lots are lots -/
theorem lots_next (T : Tab st n k) (O : Lots st en n k lots) {known : List (List Nat)} (nd : known.Nodup) {lots' : List Nat} (hl : lots'.length = n) (h : ∀ s, s < n → known[lo lots' s]? = some (mark st lots s)) : Lots st en n k lots' := by
  refine ⟨hl, fun a b ha hb => ?_⟩
  rw [← O.iff a b ha hb]
  have e : mark st lots a = mark st lots b ↔ lo lots a = lo lots b := by
    rw [mark_eq T ha hb]
    exact ⟨fun z => z.1, fun z => ⟨z, fun i hi => lots_nx T O ha hb z hi⟩⟩
  rw [← e]
  constructor
  · intro q
    have h1 := h a ha
    rw [q, h b hb] at h1
    exact (Option.some.inj h1).symm
  · intro q
    exact nodup_get nd (h a ha) (by rw [q]; exact h b hb)
/-! ### rows of the least machine, told as they come -/
def rowAt (st : List (List Nat)) (lots sh : List Nat) (s : Nat) : List Nat := (st.getD s []).map fun g => (ixOf (lo lots g) (sh.map (lo lots))).getD 0
theorem items_rowAt (st : List (List Nat)) (lots sh : List Nat) : itemsOf st lots sh = sh.map (rowAt st lots sh) := rfl
theorem ixOf_app {c i : Nat} : ∀ {l t : List Nat}, ixOf c l = some i → ixOf c (l ++ t) = some i
  | x :: l, t, h => by
    unfold ixOf at h
    show (if x = c then some 0 else (ixOf c (l ++ t)).map (· + 1)) = some i
    by_cases e : x = c
    · rw [if_pos e] at h ⊢
      exact h
    · rw [if_neg e] at h ⊢
      cases q : ixOf c l with
      | none => rw [q] at h; cases h
      | some j =>
        rw [q] at h
        rw [ixOf_app q]
        exact h
  | [], _, h => by cases h
theorem ixOf_pre {c : Nat} {l m : List Nat} (h : l <+: m) (hc : c ∈ l) : ixOf c m = ixOf c l := by
  obtain ⟨t, rfl⟩ := h
  obtain ⟨i, hi⟩ := ixOf_mem hc
  rw [hi, ixOf_app hi]
theorem rowAt_pre {sh sh' : List Nat} (h : sh <+: sh') {s : Nat} (hc : ∀ g ∈ st.getD s [], lo lots g ∈ sh.map (lo lots)) : rowAt st lots sh' s = rowAt st lots sh s := by
  unfold rowAt
  refine List.map_congr_left fun g hg => ?_
  obtain ⟨t, rfl⟩ := h
  rw [List.map_append]
  obtain ⟨i, hi⟩ := ixOf_mem (hc g hg)
  rw [hi, ixOf_app hi]
theorem take_pre {l m : List Nat} (h : l <+: m) {p : Nat} (hp : p ≤ l.length) : m.take p = l.take p := by
  obtain ⟨t, rfl⟩ := h
  exact List.take_append_of_le_length hp
/-- behind a turn: one row more -/
theorem rows_turn {b p : Nat} (L : Live st lots b (p + 1)) : ((it st lots b (p + 1)).take (p + 1)).map (rowAt st lots (it st lots b (p + 1))) = ((it st lots b p).take p).map (rowAt st lots (it st lots b p)) ++ [rowAt st lots (it st lots b (p + 1)) ((it st lots b p).getD p 0)] := by
  have hp := L p (Nat.lt_succ_self p)
  have hpre := it_pre (st := st) (lots := lots) (b := b) p
  have e1 : (it st lots b (p + 1)).take (p + 1) = (it st lots b p).take p ++ [(it st lots b p).getD p 0] := by
    rw [take_pre hpre (by omega), List.take_add_one, List.getElem?_eq_getElem hp]
    simp [List.getD_eq_getElem?_getD, List.getElem?_eq_getElem hp]
  rw [e1, List.map_append]
  congr 1
  refine List.map_congr_left fun s hs => rowAt_pre hpre fun g hg => ?_
  obtain ⟨q, hq⟩ := List.mem_iff_getElem?.mp hs
  have hql : q < p := by
    have := (List.getElem?_eq_some_iff.mp hq).1
    rw [List.length_take] at this
    omega
  have e2 : (it st lots b p).getD q 0 = s := by
    rw [List.getElem?_take_of_lt hql] at hq
    simp [List.getD_eq_getElem?_getD, hq]
  exact it_done (fun x hx => L x (by omega)) q hql g (by rw [e2]; exact hg)
/-! ### rows of a length -/
def words (k : Nat) : Nat → List (List Nat)
  | 0 => [[]]
  | t + 1 => (words k t).flatMap fun w => (List.range k).map fun i => w ++ [i]
theorem mem_words {k : Nat} : ∀ {t : Nat} {w : List Nat}, w ∈ words k t ↔ w.length = t ∧ ∀ i ∈ w, i < k
  | 0, w => by
    unfold words
    rw [List.mem_singleton]
    constructor
    · rintro rfl
      simp
    · rintro ⟨h, _⟩
      exact List.eq_nil_of_length_eq_zero h
  | t + 1, w => by
    unfold words
    rw [List.mem_flatMap]
    constructor
    · rintro ⟨v, hv, h⟩
      obtain ⟨i, hi, rfl⟩ := List.mem_map.mp h
      obtain ⟨h1, h2⟩ := mem_words.mp hv
      refine ⟨by simp [h1], fun j hj => ?_⟩
      rcases List.mem_append.mp hj with z | z
      · exact h2 j z
      · rw [List.mem_singleton] at z
        rw [z]
        exact List.mem_range.mp hi
    · rintro ⟨h1, h2⟩
      have hne : w ≠ [] := fun z => by rw [z] at h1; simp at h1
      refine ⟨w.dropLast, mem_words.mpr ⟨by rw [List.length_dropLast]; omega, fun i hi => h2 i ((List.dropLast_sublist w).subset hi)⟩, List.mem_map.mpr ⟨w.getLast hne, List.mem_range.mpr (h2 _ (List.getLast_mem hne)), List.dropLast_concat_getLast hne⟩⟩
def bit (en : List Nat) (s : Nat) : Nat := if s ∈ en then 1 else 0
def sigs (st : List (List Nat)) (en : List Nat) (k t s : Nat) : List Nat := ((List.range (t + 1)).flatMap (words k)).map fun w => bit en (rn st s w)
def E (st : List (List Nat)) (en : List Nat) (k t a b : Nat) : Prop := ∀ w : List Nat, w.length ≤ t → (∀ i ∈ w, i < k) → (rn st a w ∈ en ↔ rn st b w ∈ en)
theorem bit_eq {a b : Nat} : bit en a = bit en b ↔ (a ∈ en ↔ b ∈ en) := by
  unfold bit
  by_cases h : a ∈ en <;> by_cases g : b ∈ en <;> simp [h, g]
theorem sigs_eq {t a b : Nat} : sigs st en k t a = sigs st en k t b ↔ E st en k t a b := by
  unfold sigs
  rw [List.map_inj_left]
  constructor
  · intro h w hw hk
    refine bit_eq.mp (h w (List.mem_flatMap.mpr ⟨w.length, List.mem_range.mpr (by omega), mem_words.mpr ⟨rfl, hk⟩⟩))
  · intro h w hw
    obtain ⟨j, hj, hw⟩ := List.mem_flatMap.mp hw
    obtain ⟨h1, h2⟩ := mem_words.mp hw
    exact bit_eq.mpr (h w (by have := List.mem_range.mp hj; omega) h2)
theorem E_refl {t a : Nat} : E st en k t a a := fun _ _ _ => Iff.rfl
theorem E_symm {t a b : Nat} (h : E st en k t a b) : E st en k t b a := fun w h1 h2 => (h w h1 h2).symm
theorem E_trans {t a b c : Nat} (h : E st en k t a b) (g : E st en k t b c) : E st en k t a c := fun w h1 h2 => (h w h1 h2).trans (g w h1 h2)
theorem E_down {t a b : Nat} (h : E st en k (t + 1) a b) : E st en k t a b := fun w h1 h2 => h w (by omega) h2
theorem E_stable (T : Tab st n k) {t : Nat} (h : ∀ a b, a < n → b < n → E st en k t a b → E st en k (t + 1) a b) : ∀ {w : List Nat} {a b : Nat}, a < n → b < n → E st en k t a b → (∀ i ∈ w, i < k) → (rn st a w ∈ en ↔ rn st b w ∈ en)
  | [], a, b, _, _, e, hw => e [] (Nat.zero_le _) hw
  | i :: w, a, b, ha, hb, e, hw => by
    have hi := hw i List.mem_cons_self
    rw [rn_cons, rn_cons]
    refine E_stable T h (T.nx ha hi) (T.nx hb hi) (fun v hv hk => ?_) fun j hj => hw j (List.mem_cons_of_mem _ hj)
    have := h a b ha hb e (i :: v) (by simp; omega) fun j hj => by
      rcases List.mem_cons.mp hj with rfl | z
      · exact hi
      · exact hk j z
    simpa [rn_cons] using this
/-- as many rounds, as many classes, or all are parted -/
theorem classes (T : Tab st n k) (h0 : 0 < n) (hs : ∀ a b, a < n → b < n → same st en k a b → a = b) : ∀ t, (∀ a b, a < n → b < n → E st en k t a b → a = b) ∨ ∃ L : List Nat, t + 1 ≤ L.length ∧ (∀ x ∈ L, x < n) ∧ L.Pairwise fun x y => ¬ E st en k t x y
  | 0 => .inr ⟨[0], Nat.le_refl _, fun x hx => by rw [List.mem_singleton] at hx; omega, by simp⟩
  | t + 1 => by
    rcases classes T h0 hs t with h | ⟨L, h1, h2, h3⟩
    · exact .inl fun a b ha hb e => h a b ha hb (E_down e)
    · by_cases q : ∀ a b, a < n → b < n → E st en k t a b → E st en k (t + 1) a b
      · exact .inl fun a b ha hb e => hs a b ha hb fun w hw => E_stable T q ha hb (E_down e) hw
      · refine .inr ?_
        simp only [Classical.not_forall] at q
        obtain ⟨a, b, ha, hb, e, ne⟩ := q
        have more : ∀ c, c < n → (∀ x ∈ L, ¬ E st en k (t + 1) x c) → ∃ L : List Nat, t + 1 + 1 ≤ L.length ∧ (∀ x ∈ L, x < n) ∧ L.Pairwise fun x y => ¬ E st en k (t + 1) x y := fun c hc hx => by
          refine ⟨L ++ [c], by simp; omega, fun x hx' => ?_, List.pairwise_append.mpr ⟨h3.imp fun z y => z (E_down y), by simp, fun x hx' y hy => ?_⟩⟩
          · rcases List.mem_append.mp hx' with z | z
            · exact h2 x z
            · rw [List.mem_singleton] at z
              rw [z]
              exact hc
          · rw [List.mem_singleton] at hy
            rw [hy]
            exact hx x hx'
        by_cases g : ∃ x ∈ L, E st en k (t + 1) x a
        · obtain ⟨x, hx, ex⟩ := g
          refine more b hb fun y hy ey => ?_
          by_cases z : y = x
          · subst z
            exact ne (E_trans (E_symm ex) ey)
          · have exy : E st en k t y x := E_trans (E_down ey) (E_trans (E_symm e) (E_symm (E_down ex)))
            obtain ⟨i, hi⟩ := List.mem_iff_getElem.mp hx
            obtain ⟨j, hj⟩ := List.mem_iff_getElem.mp hy
            obtain ⟨hi, rfl⟩ := hi
            obtain ⟨hj, rfl⟩ := hj
            rcases Nat.lt_trichotomy i j with o | o | o
            · exact List.pairwise_iff_getElem.mp h3 i j hi hj o (E_symm exy)
            · exact z (by subst o; rfl)
            · exact List.pairwise_iff_getElem.mp h3 j i hj hi o exy
        · exact more a ha fun x hx z => g ⟨x, hx, z⟩
theorem parted_by (T : Tab st n k) (hs : ∀ a b, a < n → b < n → same st en k a b → a = b) {a b : Nat} (ha : a < n) (hb : b < n) (h : E st en k n a b) : a = b := by
  rcases classes T (by omega) hs n with g | ⟨L, h1, h2, h3⟩
  · exact g a b ha hb h
  · have nd : L.Nodup := h3.imp fun z e => z (by rw [e]; exact E_refl)
    have := sub_len (b := List.range n) nd fun x hx => List.mem_range.mpr (h2 x hx)
    rw [List.length_range] at this
    omega
end
end PM

set_option Elab.async false
set_option linter.all false
set_option maxRecDepth 100000
/-! Dicts of one's own, told by lists of numbers; a slot frozen ahead of a statement. -/
namespace PL
open PySem PySem.Spec L2 PM
variable [Consts]
/-! ### a slot frozen -/
def sFrz (i : Nat) (t : QS) (DP : PEnds) (ρ : Env) : Prop := match ρ[i]? with
  | some (.l ds) => t DP (ρ.set i (.d (.list ds)))
  | _ => t DP ρ
theorem s_frz {X : Cx} {B : Box} {st : Stmt} {t : QS} (i : Nat) (h : PS X st (liftS X.K B t)) : PS X st (liftS X.K B (sFrz i t)) :=
  weakS h fun D σ H ⟨G, F, ρ, DP, k, h, en⟩ => by
    unfold sFrz at h
    split at h
    · rename_i ds e
      obtain ⟨F', v, e0, k', e1, r⟩ := k.2.frzL k.1 e
      exact ⟨G, F', ρ.set i (.d (.list ds)), DP, ⟨mem_set_still k.1 trivial, k'⟩, h, en.mono e0⟩
    · exact ⟨G, F, ρ, DP, k, h, en⟩
/-! ### keys that are rows of numbers, told by place -/
def keyN (r : List Nat) : List Key := r.map fun n => .inl ((n : Nat) : Int)
theorem keyN_inj {a b : List Nat} (h : keyN a = keyN b) : a = b := by
  have : (keyN a).map (fun k => match k with | .inl i => i.toNat | .inr _ => 0) = (keyN b).map (fun k => match k with | .inl i => i.toNat | .inr _ => 0) := by rw [h]
  simpa [keyN, List.map_map, Function.comp_def] using this
theorem keysOf_keyN (ns : List Nat) : keysOf (.tuple (nats ns)) = some (keyN ns) := keysOf_nats ns
def kdFrom : Nat → List (List Nat) → List (List Key × D)
  | _, [] => []
  | i, r :: rs => (keyN r, .int (i : Nat)) :: kdFrom (i + 1) rs
def kdict (kn : List (List Nat)) : List (List Key × D) := kdFrom 0 kn
theorem kdFrom_len : ∀ (kn : List (List Nat)) (i : Nat), (kdFrom i kn).length = kn.length
  | [], _ => rfl
  | _ :: rs, i => congrArg (· + 1) (kdFrom_len rs (i + 1))
theorem kdict_len (kn : List (List Nat)) : (kdict kn).length = kn.length := kdFrom_len kn 0
theorem ixOf_ne {α : Type} [DecidableEq α] {c x : α} {l : List α} (h : ¬ x = c) : ixOf c (x :: l) = (ixOf c l).map (· + 1) := if_neg h
theorem kdFrom_val (r : List Nat) : ∀ (kn : List (List Nat)) (i : Nat), valD (kdFrom i kn) (keyN r) = (ixOf r kn).map fun j => .int ((i + j : Nat) : Int)
  | [], i => rfl
  | x :: kn, i => by
    unfold kdFrom valD
    have ih := kdFrom_val r kn (i + 1)
    unfold valD at ih
    by_cases e : x = r
    · subst e
      simp [ixOf]
    · have e2 : ¬ keyN x = keyN r := fun z => e (keyN_inj z)
      rw [List.find?_cons_of_neg (by simpa using e2), ih, ixOf_ne e]
      cases ixOf r kn with
      | none => rfl
      | some j =>
        rw [Option.map_some, Option.map_some, Option.map_some, show i + 1 + j = i + (j + 1) by omega]
theorem kdict_val (r : List Nat) (kn : List (List Nat)) : valD (kdict kn) (keyN r) = (ixOf r kn).map fun j => .int (j : Nat) := by
  have := kdFrom_val r kn 0
  simp only [Nat.zero_add] at this
  exact this
theorem any_val {κ : Type} [DecidableEq κ] (k : κ) : ∀ kds : List (κ × D), (kds.any fun kv => decide (kv.1 = k)) = (valD kds k).isSome
  | [] => rfl
  | x :: kds => by
    have ih := any_val k kds
    unfold valD at ih ⊢
    by_cases e : x.1 = k
    · simp [e]
    · simp [e] at ih ⊢
      rw [← ih]
theorem putD_new {κ : Type} [DecidableEq κ] {kds : List (κ × D)} {k : κ} {d : D} (h : valD kds k = none) : putD kds k d = kds ++ [(k, d)] := by
  unfold putD
  rw [any_val, h]
  rfl
theorem putD_same {κ : Type} [DecidableEq κ] {k : κ} {d : D} : ∀ {kds : List (κ × D)}, (kds.map (·.1)).Nodup → valD kds k = some d → putD kds k d = kds := by
  intro kds nd h
  unfold putD
  rw [any_val, h]
  simp only [Option.isSome_some, if_true]
  induction kds with
  | nil => rfl
  | cons x kds ih =>
    have hn := List.nodup_cons.mp nd
    by_cases e : x.1 = k
    · have e2 : x.2 = d := by simpa [valD, e] using h
      have e3 : kds.map (fun kv => if kv.1 = k then (kv.1, d) else kv) = kds := by
        conv => rhs; rw [← List.map_id kds]
        refine List.map_congr_left fun y hy => ?_
        rw [if_neg (fun z => hn.1 (by show x.1 ∈ _; rw [e, ← z]; exact List.mem_map.mpr ⟨y, hy, rfl⟩))]
        rfl
      rw [List.map_cons, if_pos e, e3, ← e2]
    · rw [List.map_cons, if_neg e, ih hn.2 (by simpa [valD, e] using h)]
theorem kdFrom_app (r : List Nat) : ∀ (kn : List (List Nat)) (i : Nat), kdFrom i (kn ++ [r]) = kdFrom i kn ++ [(keyN r, .int ((i + kn.length : Nat) : Int))]
  | [], i => by simp [kdFrom]
  | x :: kn, i => by
    show (keyN x, _) :: kdFrom (i + 1) (kn ++ [r]) = _
    rw [kdFrom_app r kn (i + 1)]
    simp only [kdFrom, List.length_cons, List.cons_append]
    congr 5
    omega
theorem kdict_app (r : List Nat) (kn : List (List Nat)) : kdict (kn ++ [r]) = kdict kn ++ [(keyN r, .int (kn.length : Nat))] := by
  have := kdFrom_app r kn 0
  simpa [kdict] using this
theorem kdFrom_keys : ∀ (kn : List (List Nat)) (i : Nat), (kdFrom i kn).map (·.1) = kn.map keyN
  | [], _ => rfl
  | x :: kn, i => by simp [kdFrom, kdFrom_keys kn (i + 1)]
theorem kdict_nodup {kn : List (List Nat)} (h : kn.Nodup) : ((kdict kn).map (·.1)).Nodup := by
  unfold kdict
  rw [kdFrom_keys]
  exact List.pairwise_map.mpr (h.imp fun h z => h (keyN_inj z))
theorem ixOf_noneL {α : Type} [DecidableEq α] {c : α} : ∀ {l : List α}, ixOf c l = none ↔ c ∉ l
  | [] => by simp [ixOf]
  | x :: l => by
    unfold ixOf
    by_cases e : x = c
    · simp [e]
    · have ih := ixOf_noneL (c := c) (l := l)
      simp [e, ih, Ne.symm e]
theorem ixOf_appL {α : Type} [DecidableEq α] {c : α} : ∀ {l t : List α} {i : Nat}, ixOf c l = some i → ixOf c (l ++ t) = some i
  | x :: l, t, i, h => by
    unfold ixOf at h
    show (if x = c then some 0 else (ixOf c (l ++ t)).map (· + 1)) = some i
    by_cases e : x = c
    · rw [if_pos e] at h ⊢
      exact h
    · rw [if_neg e] at h ⊢
      cases q : ixOf c l with
      | none => rw [q] at h; cases h
      | some j =>
        rw [q] at h
        rw [ixOf_appL q]
        exact h
  | [], _, _, h => by cases h
theorem ixOf_last {α : Type} [DecidableEq α] {c : α} : ∀ {l : List α}, c ∉ l → ixOf c (l ++ [c]) = some l.length
  | [], _ => by simp [ixOf]
  | x :: l, h => by
    have e : ¬ x = c := fun z => h (by rw [z]; exact List.mem_cons_self)
    show (if x = c then some 0 else (ixOf c (l ++ [c])).map (· + 1)) = _
    rw [if_neg e, ixOf_last fun z => h (List.mem_cons_of_mem _ z)]
    rfl
/-! ### keys that are numbers, each with its head -/
def hdict (f : Nat → Nat) (sh : List Nat) : List (Key × D) := sh.map fun s => (.inl ((f s : Nat) : Int), .int (s : Nat))
theorem hdict_len (f : Nat → Nat) (sh : List Nat) : (hdict f sh).length = sh.length := by simp [hdict]
theorem hdict_val (f : Nat → Nat) (c : Nat) : ∀ sh : List Nat, valD (hdict f sh) (.inl ((c : Nat) : Int)) = (ixOf c (sh.map f)).map fun i => .int ((sh.getD i 0 : Nat) : Int)
  | [] => rfl
  | s :: sh => by
    have ih := hdict_val f c sh
    unfold hdict valD at ih ⊢
    by_cases e : f s = c
    · simp [ixOf, e]
    · have e2 : ¬ (Sum.inl ((f s : Nat) : Int) : Key) = .inl ((c : Nat) : Int) := fun z => e (by injection z with z; omega)
      rw [List.map_cons, List.find?_cons_of_neg (by simpa using e2), ih, List.map_cons, ixOf_ne e]
      cases ixOf c (sh.map f) with
      | none => rfl
      | some i => simp
theorem hdict_app (f : Nat → Nat) (sh : List Nat) (s : Nat) : hdict f (sh ++ [s]) = hdict f sh ++ [(.inl ((f s : Nat) : Int), .int (s : Nat))] := by simp [hdict]
theorem mergeD_one (k : Key) (d : D) : mergeD [] [(k, d)] = [(k, d)] := by simp [mergeD, putD]
end PL

set_option Elab.async false
set_option linter.all false
set_option maxRecDepth 100000
/-! Slices of rows, sorted numbers, lists that are empty. -/
namespace PL
open PySem PySem.Spec L2 PM
variable [Consts]
theorem cutD_to (ds : List D) (k : Nat) : cutD ds none (some ((k : Nat) : Int)) = ds.take k := by
  unfold cutD
  rw [HT.sIx_nat, HT.sIx_none, List.drop_zero, Nat.sub_zero]
  by_cases h : k ≤ ds.length
  · rw [Nat.min_eq_left h]
  · rw [Nat.min_eq_right (by omega), List.take_length, List.take_of_length_le (by omega)]
theorem cutD_from (ds : List D) {k : Nat} (h : k ≤ ds.length) : cutD ds (some ((k : Nat) : Int)) none = ds.drop k := by
  unfold cutD
  rw [HT.sIx_nat, HT.sIx_none, Nat.min_eq_left h, List.take_of_length_le]
  rw [List.length_drop]
  omega
theorem nats_take (l : List Nat) (k : Nat) : (nats l).take k = nats (l.take k) := by simp [nats]
theorem nats_drop (l : List Nat) (k : Nat) : (nats l).drop k = nats (l.drop k) := by simp [nats]
theorem nats_app (a b : List Nat) : nats a ++ nats b = nats (a ++ b) := by simp [nats]
theorem nats_one (n : Nat) : [PyData.int ((n : Nat) : Int)] = nats [n] := rfl
theorem eqv_nil (l : List Nat) : PyData.eqv (.list (nats l)) (.list []) = decide (l = []) := by
  cases l <;> simp [nats, PyData.eqv, PyData.eqvAll]
theorem pSortedI_nat {Q : T → Prop} (l : List Nat) (q : ∀ l' : List Nat, l'.Perm l → l'.Pairwise (· ≤ ·) → Q (.l (nats l'))) : pSortedI [.list (nats l)] Q := by
  refine ⟨l.map fun n => ((n : Nat) : Int), by simp [nats], fun ns' hp hw => ?_⟩
  have hc : ∀ x ∈ ns', ((x.toNat : Nat) : Int) = x := fun x hx => by
    obtain ⟨n, _, rfl⟩ := List.mem_map.mp (hp.mem_iff.mp hx)
    simp
  have e : (ns'.map Int.toNat).map (fun n => ((n : Nat) : Int)) = ns' := by
    rw [List.map_map]
    conv => rhs; rw [← List.map_id ns']
    exact List.map_congr_left fun x hx => hc x hx
  have e2 : ns'.map PyData.int = nats (ns'.map Int.toNat) := by
    unfold nats
    conv => lhs; rw [← e]
    rw [List.map_map]
    rfl
  rw [e2]
  refine q _ ?_ (List.pairwise_map.mpr (hw.imp fun h => by omega))
  have := hp.map Int.toNat
  simpa [List.map_map, Function.comp_def] using this
theorem seqIx {i n : Nat} (h : i < n) : seqIndex? ((i : Nat) : Int) n = some i := (seqIndex_of (by omega) (by omega)).trans (by simp)
theorem map_erase {α β : Type} (f : α → β) : ∀ (l : List α) (i : Nat), (l.map f).eraseIdx i = (l.eraseIdx i).map f
  | [], _ => rfl
  | _ :: _, 0 => rfl
  | x :: l, i + 1 => by simp [map_erase f l i]
theorem nats_erase (l : List Nat) (i : Nat) : (nats l).eraseIdx i = nats (l.eraseIdx i) := map_erase _ l i
theorem erase_perm {α : Type} : ∀ {l : List α} {i : Nat} (h : i < l.length), (l[i] :: l.eraseIdx i).Perm l
  | _ :: _, 0, _ => List.Perm.refl _
  | x :: l, i + 1, h => (List.Perm.swap x _ _).trans ((erase_perm (l := l) (i := i) (by simpa using h)).cons x)
/-- an if, its test told apart -/
theorem if_any {c : QT} {t u : QS} {DP : PEnds} {ρ : Env} (ρ0 : Env) (C : Bool → Prop) (h1 : ∀ R : Bool → Env → Prop, (∀ b, C b → R b ρ0) → c ρ R) (ht : C true → t DP ρ0) (hu : C false → u DP ρ0) : sIf c t u DP ρ :=
  h1 _ fun b h => by
    cases b
    · exact hu h
    · exact ht h
theorem seq_if {c : QT} {t u : QS} {DP : PEnds} {ρ : Env} (ρ0 : Env) (C : Bool → Prop) (h1 : ∀ R : Bool → Env → Prop, (∀ b, C b → R b ρ0) → c ρ R) (ht : C true → t { DP with nx := u DP } ρ0) (hu : C false → u DP ρ0) : sSeq (sIf c t sNext) u DP ρ :=
  h1 _ fun b h => by
    cases b
    · exact hu h
    · exact ht h
/-- a row with one place changed -/
theorem set_cut (r : List Nat) (k n : Nat) (h : k < r.length) : r.take k ++ [n] ++ r.drop (k + 1) = r.set k n := by
  rw [List.set_eq_take_append_cons_drop, if_pos h]
  simp
end PL

set_option Elab.async false
set_option linter.all false
set_option maxRecDepth 100000
/-! Sets of rows counted; rows of a length. -/
namespace PL
open PySem PySem.Spec L2 PM
variable [Consts]
theorem pLenSetT_nat {Q : T → Prop} (ks : List (List Nat)) (hl : ks.length < 64) (q : ∀ L : List (List Nat), L.Nodup → (∀ k, k ∈ L ↔ k ∈ ks) → Q (.d (.int (L.length : Nat)))) : pLenSetT (.list (ks.map fun k => .tuple (nats k))) Q := by
  refine ⟨ks.map castL, by rw [List.map_map]; exact List.map_congr_left fun k _ => (tupI_cast k).symm, by simpa using hl, fun L nd hm => ?_⟩
  have hc : ∀ k ∈ L, castL (k.map Int.toNat) = k := fun k h => by
    obtain ⟨n, hn, rfl⟩ := List.mem_map.mp ((hm k).mp h)
    simp [castL, List.map_map, Function.comp_def]
  have e : (L.map fun k => k.map Int.toNat).map castL = L := by
    rw [List.map_map]
    conv => rhs; rw [← List.map_id L]
    exact List.map_congr_left fun k h => hc k h
  have := q (L.map fun k => k.map Int.toNat) ?_ (fun k => ?_)
  · simpa using this
  · rw [← e] at nd
    exact List.pairwise_map.mp nd |>.imp fun h z => h (congrArg castL z)
  · constructor
    · intro h
      have : castL k ∈ L := by rw [← e]; exact List.mem_map.mpr ⟨k, h, rfl⟩
      obtain ⟨n, hn, z⟩ := List.mem_map.mp ((hm _).mp this)
      rw [← castL_inj z]
      exact hn
    · intro h
      have : castL k ∈ L := (hm _).mpr (List.mem_map.mpr ⟨k, h, rfl⟩)
      refine List.mem_map.mpr ⟨_, this, ?_⟩
      simp [castL, List.map_map, Function.comp_def]
theorem seq_toR {t u : QS} {DP : PEnds} {ρ : Env} (I : Env → Prop) (h1 : ∀ N : Env → Prop, (∀ ρ', I ρ' → N ρ') → t { DP with nx := N } ρ) (h2 : ∀ ρ', I ρ' → u DP ρ') : sSeq t u DP ρ := h1 _ h2
theorem len_const {α β : Type} {f : α → List β} {c : Nat} : ∀ {l : List α}, (∀ x, (f x).length = c) → (l.flatMap f).length = l.length * c
  | [], _ => by simp
  | x :: l, h => by
    rw [List.flatMap_cons, List.length_append, h x, len_const h, List.length_cons, Nat.add_mul]
    omega
theorem words_len {k : Nat} (h : k ≤ 2) : ∀ t, (words k t).length ≤ 2 ^ t
  | 0 => by simp [words]
  | t + 1 => by
    unfold words
    rw [len_const (c := k) fun x => by simp]
    have ih := words_len h t
    have := Nat.mul_le_mul ih h
    rw [Nat.pow_succ]
    exact this
theorem upto_len {k : Nat} (h : k ≤ 2) : ∀ t, ((List.range (t + 1)).flatMap (words k)).length < 2 ^ (t + 1)
  | 0 => by simp [words]
  | t + 1 => by
    have ih := upto_len h t
    have h2 := words_len h (t + 1)
    rw [List.range_succ, List.flatMap_append, List.length_append]
    simp only [List.flatMap_cons, List.flatMap_nil, List.append_nil]
    rw [Nat.pow_succ 2 (t + 1)]
    omega
/-- as many as there are, if they differ -/
theorem len_inj {L ks : List (List Nat)} (nd : L.Nodup) (hm : ∀ k, k ∈ L ↔ k ∈ ks) (nk : ks.Nodup) : L.length = ks.length :=
  Nat.le_antisymm (sub_len nd fun x hx => (hm x).mp hx) (sub_len nk fun x hx => (hm x).mpr hx)
end PL

set_option Elab.async false
set_option linter.all false
set_option maxRecDepth 100000
/-! PE, part 0: an own exception whose __init__ hands a text to super().__init__, and may keep one field. -/
namespace PL
open PySem PySem.Spec L2
open PyProof.Rows
variable [Consts]
abbrev veMro : List Value := [.type "ValueError", .type "Exception", .type "BaseException", .type "object"]
/-- what the written part says of such a class -/
structure SupC (P : Program) (K : PySem.W.Frag) (C fI : Addr) (qual : Str) (params : Arguments) (body : List Stmt) (scope : Scope) : Prop where
  ex : PySem.W.excInitIn K C veMro "ValueError.__new__" = true
  iC : PySem.W.findIn K (.ref C) "__init__" = some (some (.ref fI))
  tI : PySem.W.typeIn K (.ref fI) = some (.type "function")
  kC : PySem.W.keepIn K (.ref C) = true
  cd : ∃ cdD, PySem.W.clsIn K C = some cdD
  sub : PySem.W.mroIn K C (.ref C) = some true
  sup : PySem.W.ks_superIn K C C "__init__" = some (some (.builtin "ValueError.__init__"))
  subV : PySem.W.subIn K (.ref C) (.type "ValueError") = some true
  exC : PySem.W.subIn K (.ref C) (.type "BaseException") = some true
  tyC : PySem.W.typeIn K (.ref C) = some (.type "type")
  tp : PySem.W.nsIn K cStatics "thirdparty.any" = some none
  su : PySem.W.nsIn K mainGlobals "super" = some none
  top : (P.main.scope.names.lookup ("super" : Str)).isSome = false
  fn : ∃ (oc kV doc pm ct ccl cl : Value) (od an cdd cld : Option Addr) (osl ccs csl : Array (Option Value)) (cda cc : Addr) (vs : Array Value) (file : Str) (tf : Tok),
    K.lookup fI = some ⟨oc, od, .func (PySem.W.ksFn "__init__" qual params body scope .none kV doc pm an (.ref cda) ct cc), osl⟩ ∧ PySem.W.codeIn K (.ref cda) qual = true ∧
    K.lookup cda = some ⟨ccl, cdd, .fields vs, ccs⟩ ∧ vs[2]? = some (.str file tf) ∧ ((P.main.file : Str) == file) = true ∧
    K.lookup cc = some ⟨cl, cld, .cell (some (.ref C)), csl⟩
/-- how a method call is read -/
def MCall (o : Expr) (name : Str) (p2 : Pos) (args : List Expr) (p4 : Pos) (env : PySem.Env) : Prop := ∃ pl : Sem Bool, eval (.Call (.Attribute o name p2) args [] p4) env = (do
  let ov ← attributeBase o name env (eval o env)
  standAt p2.atName
  let (f, first) ← holding [ov] (getMethod ov name pl)
  callWith p4 f first (backTo p4 (starEach args env)) [])
/-- the scope of such a def -/
structure SupS (ps : List Str) (scope : Scope) : Prop where
  cell : ∀ x ∈ scope.names, x.2 ≠ .cell
  loc : ∀ x ∈ ps, scope.names.lookup x = some .local
  su : scope.names.lookup ("super" : Str) = some .globalImplicit
  cl : scope.names.lookup ("__class__" : Str) = some .free
  co : scope.isCoroutine = false
  gen : scope.isGenerator = false
  kind : scope.kind = .function
  ia : ∀ (q : Str) (L f : Addr) (cd : Value) (cc : Addr), interactive (PySem.W.ksEnv q scope L f cd cc) = false
section
variable {P : Program} {w : World} {K : PySem.W.Frag} {mg mb : Str → Option Value} {A : Around} {s : Shared} {h₀ : Heap} {C fI e t : Addr} {qual : Str} {params : Arguments} {body : List Stmt} {scope : Scope} {R : Result → Shared → Prop}
theorem lookup_local {scope : Scope} {names : List Str} {m : Str → Option Value} : True := trivial
/-- super().__init__('..') -/
theorem sup_first {L cda cc : Addr} {m : Str → Option Value} {so : Str} {fd : FuncData} {ar : Arg} {oc ccl cl : Value} {od cdd cld : Option Addr} {osl ccs csl : Array (Option Value)} {vs : Array Value} {file : Str} {tf : Tok} {cdD : ClassData}
    {p0 p1 p2 p3 p4 p5 : Pos} {txt : Str} {j : Nat} {Q : Flow → Shared → Prop} {E : Value → Shared → Prop} {bd : List Stmt}
    (F : Fr h₀ L s.heap m) (X₀ : K.In h₀) (hg : h₀.Ns mainGlobals mg) (hb : h₀.Ns builtinsNs mb) (hbb : mb "super" = some (.type "super")) (hmg : mg "super" = none)
    (N : News h₀ L s.heap [(e, PySem.W.excObj C t none .none)]) (S : SupS [ar.arg] scope)
    (hf : K.lookup fI = some ⟨oc, od, .func fd, osl⟩) (hp : (fd.params.posonlyargs ++ fd.params.args).head? = some ar) (hv : m ar.arg = some (.ref e))
    (hcode : K.lookup cda = some ⟨ccl, cdd, .fields vs, ccs⟩) (hvs : vs[2]? = some (.str file tf)) (hfile : ((P.main.file : Str) == file) = true)
    (hcell : K.lookup cc = some ⟨cl, cld, .cell (some (.ref C)), csl⟩) (hD : PySem.W.clsIn K C = some cdD) (hsub : PySem.W.mroIn K C (.ref C) = some true)
    (htop : (P.main.scope.names.lookup ("super" : Str)).isSome = false) (ho : PySem.W.nsIn K cStatics "thirdparty.any" = some none)
    (hsup : PySem.W.ks_superIn K C C "__init__" = some (some (.builtin "ValueError.__init__"))) (hsubV : PySem.W.subIn K (.ref C) (.type "ValueError") = some true) (hex : PySem.W.excInitIn K C veMro "ValueError.__new__" = true)
    (hmc : MCall (.Call (.Name "super" p0) [] [] p1) "__init__" p2 [.Constant (.str txt) j p3] p4 (PySem.W.ksEnv qual scope L fI (.ref cda) cc))
    (h : ∀ h' t' tk, Fr h₀ L h' m → News h₀ L h' [(e, PySem.W.excObj C t' none .none)] → Q .next { s with heap := h', toks := tk }) :
    _root_.PySem.wpAt (model P w) A (.func bd (PySem.W.ksEnv qual scope L fI (.ref cda) cc)) (exec (.Expr (.Call (.Attribute (.Call (.Name "super" p0) [] [] p1) "__init__" p2) [.Constant (.str txt) j p3] [] p4) p5) (PySem.W.ksEnv qual scope L fI (.ref cda) cc)) Q E s := by
  have XK : K.In s.heap := X₀.keeps F.keep
  obtain ⟨pl, hmc⟩ := hmc
  refine ks_wpAt_Expr_any (ks_wpAt_MethodCall (pl := pl) ?_ hmc) (S.ia _ _ _ _ _)
  refine ks_wpAt_super_base (env := PySem.W.ksEnv qual scope L fI (.ref cda) cc) S.su S.cl (by decide) rfl (XK _ _ hf) rfl hp rfl (XK _ _ hcode) rfl hvs hfile htop ?_
  refine PySem.W.ks_loadName_global S.kind S.su (Calls.loadGlobal_builtin (env := PySem.W.ksEnv qual scope L fI (.ref cda) cc) (hg.keeps F.keep) hmg (hb.keeps F.keep) hbb ⟨rfl, ?_⟩)
  refine wpAny_loadName_free S.kind S.cl rfl ⟨_, XK _ _ hcell, rfl⟩ (wpAny_loadName_local S.kind (S.loc _ List.mem_cons_self) F.ns hv ?_)
  obtain ⟨oD, hD1, hD2⟩ : ∃ oD, s.heap.get? C = some oD ∧ oD.data = .cls cdD := by
    unfold PySem.W.clsIn at hD
    split at hD
    · rename_i z
      cases hD
      exact ⟨_, XK _ _ z, rfl⟩
    · cases hD
  have I : PySem.W.InstAt s.heap e (PySem.W.excObj C t none .none) C none := PySem.W.InstAt.of_exc0 N List.mem_cons_self
  have hm1 : (e, PySem.W.excObj C t none .none) ∈ [(e, PySem.W.excObj C t none .none)] := List.mem_cons_self
  obtain ⟨hh, g, d, tt, os⟩ := s
  refine ks_wpAny_isType_cls hD1 hD2 ⟨rfl, ks_wpAny_call_super hD1 hD2 I.at_ I.cls (fun c z => nomatch z) (PySem.W.looks_mroIn XK hsub) fun h' e1 k1 => ?_⟩
  obtain ⟨F1, N1, l1⟩ := PySem.W.ks_newsPush (s := ⟨hh, g, d, tt, os⟩) F N rfl e1 k1
  have I1 : PySem.W.InstAt h' e (PySem.W.excObj C t none .none) C none := PySem.W.InstAt.of_exc0 N1 (.tail _ hm1)
  refine PySem.W.kxs_method (s := ⟨h', g, d, tt, os⟩) PySem.W.kxs_ValueError F1 X₀ N1 List.mem_cons_self I1 ho hsup hsubV (by decide) fun q h2 F2 N2 l2 => ?_
  refine PySem.W.kxs_callWith1 N2 List.mem_cons_self (spliced_more (wpAny_Constant_str (spliced_none ⟨PySem.W.kxs_at N2 List.mem_cons_self, ?_⟩)))
  refine PySem.W.kxs_call F2 X₀ N2 PySem.F.excBase_ValueError hex List.mem_cons_self (PySem.W.UpdF.tail (fun z => ?_) (PySem.W.UpdF.tail (fun z => ?_) (PySem.W.UpdF.head (fun p hp => nomatch hp)))) (by rw [sizeLine_eq]; simp) fun t' h3 F3 N3 l3 => ?_
  · have z2 := l2 _ (.tail _ hm1)
    have z : q = e := z
    rw [z] at z2
    exact absurd z2 (Nat.lt_irrefl _)
  · have z2 := l1 _ hm1
    have z : hh.objs.size = e := z
    have z2 : e < hh.objs.size := z2
    rw [z] at z2
    exact absurd z2 (Nat.lt_irrefl _)
  · refine h h3 t' _ F3 fun p hp => N3 p ?_
    rcases List.mem_cons.mp hp with rfl | hp
    · exact .tail _ (.tail _ (.tail _ List.mem_cons_self))
    · exact nomatch hp
/-- such a def's run: no field -/
theorem sup_run0 {mg mb : Str → Option Value} {p0 p1 p2 p3 p4 p5 : Pos} {txt : Str} {j : Nat} {ar : Arg} {x : Str}
    (T : SupC P K C fI qual params [.Expr (.Call (.Attribute (.Call (.Name "super" p0) [] [] p1) "__init__" p2) [.Constant (.str txt) j p3] [] p4) p5] scope) (S : SupS [x] scope) (hp : (params.posonlyargs ++ params.args).head? = some ar) (hx : ar.arg = x)
    (hbind : ∀ (kV doc pm : Value) (an : Option Addr) (cdv ct : Value) (cc : Addr) (u : Value), bindArgs (PySem.W.ksFn "__init__" qual params [.Expr (.Call (.Attribute (.Call (.Name "super" p0) [] [] p1) "__init__" p2) [.Constant (.str txt) j p3] [] p4) p5] scope .none kV doc pm an cdv ct cc) ⟨[u], []⟩ = pure [(x, u)])
    (hmc : ∀ (L : Addr) (cd : Value) (cc : Addr), MCall (.Call (.Name "super" p0) [] [] p1) "__init__" p2 [.Constant (.str txt) j p3] p4 (PySem.W.ksEnv qual scope L fI cd cc))
    (X₀ : K.In h₀) (hg : h₀.Ns mainGlobals mg) (hb : h₀.Ns builtinsNs mb) (hbb : mb "super" = some (.type "super")) (nl : h₀.NoLimit)
    (hk : ∀ b o, h₀.get? b = some o → s.heap.get? b = some o) (hsz : h₀.objs.size ≤ s.heap.objs.size) (he : s.heap.get? e = some (PySem.W.excObj C t none .none)) (hn : h₀.get? e = none) (hroom : A.depth < recursionLimit)
    (hR : ∀ h' t' tk, (∀ b o, h₀.get? b = some o → h'.get? b = some o) → h'.get? e = some (PySem.W.excObj C t' none .none) → R (.ok (.ret .none)) { s with heap := h', toks := tk }) :
    codeAny (model P w) A (.call (.ref fI) ⟨[.ref e], []⟩) R s := by
  obtain ⟨oc, kV, doc, pm, ct, ccl, cl, od, an, cdd, cld, osl, ccs, csl, cda, cc, vs, file, tf, l1, l2, l3, l4, l5, l6⟩ := T.fn
  obtain ⟨cdD, hcd⟩ := T.cd
  have XK : K.In s.heap := X₀.keeps hk
  subst hx
  refine ks_codeAny_call_defAt (fd := PySem.W.ksFn "__init__" qual params _ scope .none kV doc pm an (.ref cda) ct cc) (binds := [(ar.arg, .ref e)]) hroom (XK _ _ l1) rfl (nl.keeps hk) (PySem.W.codeRec_of XK l2) rfl (BindsTo.of_eq (hbind _ _ _ _ _ _ _ _)) S.cell (fun y hy => ?_) (fun h1 hns hk1 => ?_) S.co S.gen S.kind
  · rcases List.mem_cons.mp hy with rfl | hy
    · exact S.loc _ List.mem_cons_self
    · exact nomatch hy
  · have F : Fr h₀ s.heap.objs.size h1 (fun y => [(ar.arg, Value.ref e)].reverse.lookup y) := ⟨hns, fun b o z => hk1 b o (hk b o z), hsz⟩
    have N : News h₀ s.heap.objs.size h1 [(e, PySem.W.excObj C t none .none)] := fun p hp => by
      rcases List.mem_cons.mp hp with rfl | hp
      · exact ⟨hk1 _ _ he, Nat.ne_of_lt (Heap.lt_size he), hn⟩
      · exact nomatch hp
    refine ks_wpAt_execs_cons (sup_first (qual := qual) (so := "") (E := _) (ar := ar) (s := { s with heap := h1, toks := s.toks + [(ar.arg, Value.ref e)].length }) F X₀ hg hb hbb (PySem.W.mg_none_of X₀ hg T.su) N S l1 hp (by simp) l3 l4 l5 l6 hcd T.sub T.top T.tp T.sup T.subV T.ex (hmc _ _ _) fun h2 t2 tk2 F2 N2 => ?_)
    exact _root_.PySem.wpAt_of_wpAny (wpAny_execs_nil (hR h2 t2 tk2 F2.keep (N2 _ List.mem_cons_self).1))
/-- the class, as the store of a field sees it -/
structure SupF (K : PySem.W.Frag) (C : Addr) (f : Str) : Prop where
  sa : PySem.W.findIn K (.ref C) "__setattr__" = some (some (.builtin "object.__setattr__"))
  no : PySem.W.findIn K (.ref C) f = some none
  cd : ∃ cd, PySem.W.clsIn K C = some cd ∧ PySem.HandSPX.refsVE cd.mro = true ∧ cd.hasDict = true
/-- .. one field, that the argument gives -/
theorem sup_run1 {mg mb : Str → Option Value} {p0 p1 p2 p3 p4 p5 q0 q1 q2 q3 : Pos} {txt : Str} {j : Nat} {ar : Arg} {x f : Str} {v : Value}
    (T : SupC P K C fI qual params [.Expr (.Call (.Attribute (.Call (.Name "super" p0) [] [] p1) "__init__" p2) [.Constant (.str txt) j p3] [] p4) p5, .Assign [.Attribute (.Name x q0) f q1] (.Name f q2) q3] scope) (TF : SupF K C f) (S : SupS [x, f] scope) (hp : (params.posonlyargs ++ params.args).head? = some ar) (hx : ar.arg = x) (hxf : x ≠ f)
    (hbind : ∀ (kV doc pm : Value) (an : Option Addr) (cdv ct : Value) (cc : Addr) (u v : Value), bindArgs (PySem.W.ksFn "__init__" qual params [.Expr (.Call (.Attribute (.Call (.Name "super" p0) [] [] p1) "__init__" p2) [.Constant (.str txt) j p3] [] p4) p5, .Assign [.Attribute (.Name x q0) f q1] (.Name f q2) q3] scope .none kV doc pm an cdv ct cc) ⟨[u, v], []⟩ = pure [(x, u), (f, v)])
    (hmc : ∀ (L : Addr) (cd : Value) (cc : Addr), MCall (.Call (.Name "super" p0) [] [] p1) "__init__" p2 [.Constant (.str txt) j p3] p4 (PySem.W.ksEnv qual scope L fI cd cc))
    (hsw : ∀ (L : Addr) (cd : Value) (cc : Addr), swapsWith (.Name f q2) (some (.Attribute (.Name x q0) f q1)) q3.line (PySem.W.ksEnv qual scope L fI cd cc) = pure false)
    (hd1 : (x == ("__debug__" : Str)) = false) (hd2 : (f == ("__debug__" : Str)) = false)
    (X₀ : K.In h₀) (hg : h₀.Ns mainGlobals mg) (hb : h₀.Ns builtinsNs mb) (hbb : mb "super" = some (.type "super")) (nl : h₀.NoLimit)
    (hk : ∀ b o, h₀.get? b = some o → s.heap.get? b = some o) (hsz : h₀.objs.size ≤ s.heap.objs.size) (he : s.heap.get? e = some (PySem.W.excObj C t none .none)) (hn : h₀.get? e = none) (hroom : A.depth < recursionLimit)
    (hR : ∀ h' t' tk dx, (∀ b o, h₀.get? b = some o → h'.get? b = some o) → h'.get? e = some (PySem.W.excObj C t' (some dx) .none) → h'.Ns1 dx (fun y => if y = f then some v else none) → h₀.objs.size ≤ dx → dx ≠ e → R (.ok (.ret .none)) { s with heap := h', toks := tk }) :
    codeAny (model P w) A (.call (.ref fI) ⟨[.ref e, v], []⟩) R s := by
  obtain ⟨oc, kV, doc, pm, ct, ccl, cl, od, an, cdd, cld, osl, ccs, csl, cda, cc, vs, file, tf, l1, l2, l3, l4, l5, l6⟩ := T.fn
  obtain ⟨cdD, hcd⟩ := T.cd
  have XK : K.In s.heap := X₀.keeps hk
  subst hx
  have Sx : SupS [ar.arg] scope := ⟨S.cell, fun y hy => S.loc y (by rcases List.mem_cons.mp hy with rfl | hy; exact List.mem_cons_self; exact nomatch hy), S.su, S.cl, S.co, S.gen, S.kind, S.ia⟩
  refine ks_codeAny_call_defAt (fd := PySem.W.ksFn "__init__" qual params _ scope .none kV doc pm an (.ref cda) ct cc) (binds := [(ar.arg, .ref e), (f, v)]) hroom (XK _ _ l1) rfl (nl.keeps hk) (PySem.W.codeRec_of XK l2) rfl (BindsTo.of_eq (hbind _ _ _ _ _ _ _ _ _)) S.cell (fun y hy => ?_) (fun h1 hns hk1 => ?_) S.co S.gen S.kind
  · rcases List.mem_cons.mp hy with rfl | hy
    · exact S.loc _ List.mem_cons_self
    · rcases List.mem_cons.mp hy with rfl | hy
      · exact S.loc _ (.tail _ List.mem_cons_self)
      · exact nomatch hy
  · have F : Fr h₀ s.heap.objs.size h1 (fun y => [(ar.arg, Value.ref e), (f, v)].reverse.lookup y) := ⟨hns, fun b o z => hk1 b o (hk b o z), hsz⟩
    have N : News h₀ s.heap.objs.size h1 [(e, PySem.W.excObj C t none .none)] := fun p hp => by
      rcases List.mem_cons.mp hp with rfl | hp
      · exact ⟨hk1 _ _ he, Nat.ne_of_lt (Heap.lt_size he), hn⟩
      · exact nomatch hp
    have hxf' : (ar.arg == f) = false := by simpa using hxf
    have v1 : [(ar.arg, Value.ref e), (f, v)].reverse.lookup ar.arg = some (.ref e) := by simp [List.lookup, hxf']
    have v2 : [(ar.arg, Value.ref e), (f, v)].reverse.lookup f = some v := by simp [List.lookup]
    refine ks_wpAt_execs_cons (sup_first (qual := qual) (so := "") (E := _) (ar := ar) (s := { s with heap := h1, toks := s.toks + [(ar.arg, Value.ref e), (f, v)].length }) F X₀ hg hb hbb (PySem.W.mg_none_of X₀ hg T.su) N Sx l1 hp v1 l3 l4 l5 l6 hcd T.sub T.top T.tp T.sup T.subV T.ex (hmc _ _ _) fun h2 t2 tk2 F2 N2 => ?_)
    refine ks_wpAt_execs_cons (ks_wpAt_Assign_Attr ?_ (hsw _ _ _))
    refine _root_.PySem.wpAt_of_wpAny (wpAny_Name (wpAny_loadName_local S.kind (S.loc _ (.tail _ List.mem_cons_self)) F2.ns v2 (wpAny_Name (wpAny_loadName_local S.kind (S.loc _ List.mem_cons_self) F2.ns v1 ?_) hd1)) hd2)
    have g2 := (N2 _ List.mem_cons_self).1
    obtain ⟨cd, c1, c2, c3⟩ := TF.cd
    have X2 : K.In h2 := X₀.keeps F2.keep
    obtain ⟨hh, g, d, tt, os⟩ := s
    refine PySem.W.set_plain X2 (PySem.W.InstAt.of_exc0 N2 List.mem_cons_self) TF.sa (PySem.HandSPX.exc_osa X2 g2 c1 c2 c3 TF.no fun h3 tk3 dx k3 z1 z2 z3 z4 => ?_)
    refine _root_.PySem.wpAt_of_wpAny (wpAny_execs_nil (hR h3 t2 tk3 dx (fun b o z => k3 b o (fun y => by rw [y, hn] at z; cases z) (F2.keep b o z)) z3 z4 (Nat.le_trans ?_ z1) z2))
    exact Nat.le_trans F2.above (Nat.le_of_lt F2.ns.lt)
end
end PL

set_option Elab.async false
set_option linter.all false
set_option maxRecDepth 100000
/-! PE, part 1: such an exception, made in a def that is walked. -/
namespace PL
open PySem PySem.Spec L2
open PyProof.Rows
variable [Consts]
inductive Mk0 (P : Program) (K : PySem.W.Frag) (C : Addr) : Prop
  | mk {fI : Addr} {qual : Str} {params : Arguments} {scope : Scope} {p0 p1 p2 p3 p4 p5 : Pos} {txt : Str} {j : Nat} {ar : Arg} {x : Str}
    (T : SupC P K C fI qual params [.Expr (.Call (.Attribute (.Call (.Name "super" p0) [] [] p1) "__init__" p2) [.Constant (.str txt) j p3] [] p4) p5] scope) (S : SupS [x] scope) (hp : (params.posonlyargs ++ params.args).head? = some ar) (hx : ar.arg = x)
    (hbind : ∀ (kV doc pm : Value) (an : Option Addr) (cdv ct : Value) (cc : Addr) (u : Value), bindArgs (PySem.W.ksFn "__init__" qual params [.Expr (.Call (.Attribute (.Call (.Name "super" p0) [] [] p1) "__init__" p2) [.Constant (.str txt) j p3] [] p4) p5] scope .none kV doc pm an cdv ct cc) ⟨[u], []⟩ = pure [(x, u)])
    (hmc : ∀ (L : Addr) (cd : Value) (cc : Addr), MCall (.Call (.Name "super" p0) [] [] p1) "__init__" p2 [.Constant (.str txt) j p3] p4 (PySem.W.ksEnv qual scope L fI cd cc)) : Mk0 P K C
inductive Mk1 (P : Program) (K : PySem.W.Frag) (C : Addr) (f : Str) : Prop
  | mk {fI : Addr} {qual : Str} {params : Arguments} {scope : Scope} {p0 p1 p2 p3 p4 p5 q0 q1 q2 q3 : Pos} {txt : Str} {j : Nat} {ar : Arg} {x : Str}
    (T : SupC P K C fI qual params [.Expr (.Call (.Attribute (.Call (.Name "super" p0) [] [] p1) "__init__" p2) [.Constant (.str txt) j p3] [] p4) p5, .Assign [.Attribute (.Name x q0) f q1] (.Name f q2) q3] scope) (TF : SupF K C f) (S : SupS [x, f] scope) (hp : (params.posonlyargs ++ params.args).head? = some ar) (hx : ar.arg = x) (hxf : x ≠ f)
    (hbind : ∀ (kV doc pm : Value) (an : Option Addr) (cdv ct : Value) (cc : Addr) (u v : Value), bindArgs (PySem.W.ksFn "__init__" qual params [.Expr (.Call (.Attribute (.Call (.Name "super" p0) [] [] p1) "__init__" p2) [.Constant (.str txt) j p3] [] p4) p5, .Assign [.Attribute (.Name x q0) f q1] (.Name f q2) q3] scope .none kV doc pm an cdv ct cc) ⟨[u, v], []⟩ = pure [(x, u), (f, v)])
    (hmc : ∀ (L : Addr) (cd : Value) (cc : Addr), MCall (.Call (.Name "super" p0) [] [] p1) "__init__" p2 [.Constant (.str txt) j p3] p4 (PySem.W.ksEnv qual scope L fI cd cc))
    (hsw : ∀ (L : Addr) (cd : Value) (cc : Addr), swapsWith (.Name f q2) (some (.Attribute (.Name x q0) f q1)) q3.line (PySem.W.ksEnv qual scope L fI cd cc) = pure false)
    (hd1 : (x == ("__debug__" : Str)) = false) (hd2 : (f == ("__debug__" : Str)) = false) : Mk1 P K C f
section
variable {X : Cx} {C : Addr} {nm f : Str} {p pos : Pos}
theorem sup_name : ("super" : Str) ≠ "__name__" := by decide
/-- X() -/
theorem pmk_sup0 (M : Mk0 X.prog X.K C) (hr : Room 1 X.A) (hg : Gl X nm) (hm : X.mg nm = some (.ref C)) (hd : (nm == ("__debug__" : Str)) = false := by decide) : PMk X (.Call (.Name nm p) [] [] pos) (fun _ H Q => Q (.ref C) none H) := by
  intro pins s σ H Q I h
  cases M with
  | mk T S hp hx hbind hmc =>
    obtain ⟨n1, N', qn, bs, bm, hdct, sn, sub, ab, col, dd, k0, k1, k2, k3, k5, hC, hT⟩ := PySem.W.excInit_of I.kIn T.ex
    obtain ⟨mb, hb1, hb2⟩ := I.mod.blt
    refine wpAny_Call_Name_kw (ld_glob I hg hm (PySem.W.callWith_K0 I.kIn T.kC ?_) hd)
    have hglob := I.mod.glob.keeps I.bk
    have hblt := hb1.keeps I.bk
    have nl := I.nolimit
    have KI := I.kIn
    have hfr : H (s.heap.objs.size + 1) = none := I.hok.fresh (Nat.le_succ _)
    have bare := I.bare
    obtain ⟨hh, g, d, tt, os⟩ := s
    refine wpAny_call (PySem.HandSPX.call_own PySem.F.excBase_ValueError hT hC (PySem.W.looks_findIn KI T.iC) (fun self => PySem.W.bind_fn KI self T.tI) (by simp) ?_)
    have hget : ((hh.push (PySem.W.kdv_tup [])).push (PySem.HandSPX.excO C hh.objs.size)).get? (hh.objs.size + 1) = some (PySem.HandSPX.excO C hh.objs.size) := by heap_get
    have kk : ∀ b o, hh.get? b = some o → ((hh.push (PySem.W.kdv_tup [])).push (PySem.HandSPX.excO C hh.objs.size)).get? b = some o := fun b o z => Heap.get?_push_of_some _ (Heap.get?_push_of_some _ z)
    have hnone : hh.get? (hh.objs.size + 1) = none := by
      cases q : hh.get? (hh.objs.size + 1) with
      | none => rfl
      | some o => exact absurd (Heap.lt_size q) (Nat.not_lt.mpr (Nat.le_succ _))
    have big : hh.objs.size ≤ ((hh.push (PySem.W.kdv_tup [])).push (PySem.HandSPX.excO C hh.objs.size)).objs.size := by
      rw [Heap.size_push, Heap.size_push]; omega
    refine sup_run0 (mg := X.mg) (mb := mb) (h₀ := hh) (s := ⟨(hh.push (PySem.W.kdv_tup [])).push (PySem.HandSPX.excO C hh.objs.size), g, d, tt, os⟩) T S hp hx hbind hmc KI hglob hblt ((hb2 _ sup_name).trans (by first | rfl | kernel_rfl)) nl kk big hget hnone (hr.make C [] []).depth fun h' t' tk k' he' => ?_
    exact ⟨rfl, _, _, _, ⟨hh, g, d, tt, os⟩, H, .ref C, none, rfl, I, k', hnone, he', ⟨rfl, rfl⟩, rfl, rfl, hfr, rfl, bare, raises_own T.exC T.tyC, h⟩
/-- X(e), one field -/
theorem pmk_sup1 {e : Expr} {te : TE} (M : Mk1 X.prog X.K C f) (hr : Room 1 X.A) (hg : Gl X nm) (hm : X.mg nm = some (.ref C)) (he : PE X e te) (hd : (nm == ("__debug__" : Str)) = false := by decide) (hst : starEach [e] X.env = (false, eval e X.env) :: starEach [] X.env := by rfl) :
    PMk X (.Call (.Name nm p) [e] [] pos) (fun σ H Q => tCons te tNil σ H fun vs H1 => ∃ v, vs = [v] ∧ ∀ dx, H1 dx = none → Q (.ref C) (some dx) (upd H1 dx (.xd [(f, v)]))) := by
  intro pins s σ H Q I h
  cases M with
  | mk T TF S hp hx hxf hbind hmc hsw hd1 hd2 =>
    refine wpAny_Call_Name_kw (ld_glob I hg hm ?_ hd)
    have ha : PA X [e] (tCons te tNil) := pa_cons he pa_nil hst
    refine PySem.W.callWith_K (h₀ := X.base) I.ok.mod.kin T.kC (thn (ha.run pos pins s σ H (fun vs H1 => ∃ v, vs = [v] ∧ ∀ dx, H1 dx = none → Q (.ref C) (some dx) (upd H1 dx (.xd [(f, v)]))) I h) fun us s1 hh => ?_) hst
    obtain ⟨vs, H1, I1, r1, v, rfl, q⟩ := hh
    refine ⟨I1.kIn, ?_⟩
    cases r1 with
    | cons ru rn =>
      rename_i u us'
      cases rn
      obtain ⟨n1, N', qn, bs, bm, hdct, sn, sub, ab, col, dd, k0, k1, k2, k3, k5, hC, hT⟩ := PySem.W.excInit_of I1.kIn T.ex
      obtain ⟨mb, hb1, hb2⟩ := I1.mod.blt
      have hglob := I1.mod.glob.keeps I1.bk
      have hblt := hb1.keeps I1.bk
      have nl := I1.nolimit
      have KI := I1.kIn
      have bare := I1.bare
      show wpAny _ _ (call (.ref C) [u]) _ _ _
      obtain ⟨hh, g, d, tt, os⟩ := s1
      refine wpAny_call (PySem.HandSPX.call_own PySem.F.excBase_ValueError hT hC (PySem.W.looks_findIn KI T.iC) (fun self => PySem.W.bind_fn KI self T.tI) (by show 1 ≤ sizeLine; rw [sizeLine_eq]; omega) ?_)
      have hget : ((hh.push (PySem.W.kdv_tup [u])).push (PySem.HandSPX.excO C hh.objs.size)).get? (hh.objs.size + 1) = some (PySem.HandSPX.excO C hh.objs.size) := by heap_get
      have kk : ∀ b o, hh.get? b = some o → ((hh.push (PySem.W.kdv_tup [u])).push (PySem.HandSPX.excO C hh.objs.size)).get? b = some o := fun b o z => Heap.get?_push_of_some _ (Heap.get?_push_of_some _ z)
      have hnone : hh.get? (hh.objs.size + 1) = none := by
        cases q : hh.get? (hh.objs.size + 1) with
        | none => rfl
        | some o => exact absurd (Heap.lt_size q) (Nat.not_lt.mpr (Nat.le_succ _))
      have big : hh.objs.size ≤ ((hh.push (PySem.W.kdv_tup [u])).push (PySem.HandSPX.excO C hh.objs.size)).objs.size := by
        rw [Heap.size_push, Heap.size_push]; omega
      refine sup_run1 (mg := X.mg) (mb := mb) (h₀ := hh) (s := ⟨(hh.push (PySem.W.kdv_tup [u])).push (PySem.HandSPX.excO C hh.objs.size), g, d, tt, os⟩) T TF S hp hx hxf hbind hmc hsw hd1 hd2 KI hglob hblt ((hb2 _ sup_name).trans (by first | rfl | kernel_rfl)) nl kk big hget hnone (hr.make C [u] []).depth fun h' t' tk dx k' he' hn' hdx hde => ?_
      have hH1 : H1 dx = none := I1.hok.fresh hdx
      have hid : ∀ b o, b ≠ hh.objs.size + 1 → h'.get? b = some o → (PySem.W.hideAll h' [hh.objs.size + 1]).get? b = some o := fun b o nb z => PySem.W.hideAll_get _ z (by simpa using nb)
      have kG : ∀ b o, hh.get? b = some o → (PySem.W.hideAll h' [hh.objs.size + 1]).get? b = some o := fun b o z => hid b o (fun y => by rw [y, hnone] at z; cases z) (k' b o z)
      have hnG : (PySem.W.hideAll h' [hh.objs.size + 1]).Ns1 dx (fun y => if y = f then some u else none) := hn'.at fun o z => hid dx o hde z
      have J : Inv X pins σ (upd H1 dx (.xd [(f, v)])) ⟨PySem.W.hideAll h' [hh.objs.size + 1], g, d, tt, os⟩ :=
        I1.laid (t' := tt) (a := dx) (o := .xd [(f, v)]) (h' := PySem.W.hideAll h' [hh.objs.size + 1]) kG hdx ?_
      · refine ⟨rfl, _, _, _, ⟨PySem.W.hideAll h' [hh.objs.size + 1], g, d, tt, os⟩, _, .ref C, some dx, rfl, J, fun b o z => PySem.W.of_hideAll _ z, PySem.W.hideAll_none _ List.mem_cons_self, he', ⟨rfl, rfl⟩, rfl, rfl, ?_, rfl, bare, raises_own T.exC T.tyC, q dx hH1⟩
        rw [upd_ne (Ne.symm hde)]
        exact I1.hok.fresh (Nat.le_succ _)
      · refine ⟨_, hnG, fun g => ?_⟩
        by_cases hg : g = f
        · rw [if_pos hg, hg]
          have z : List.lookup f [(f, v)] = some v := by simp [List.lookup]
          rw [z]
          exact ru
        · have e : (g == f) = false := by simpa using hg
          rw [if_neg hg]
          simp [List.lookup, e, RelO]
end
end PL

set_option Elab.async false
set_option linter.all false
set_option maxRecDepth 100000
/-! PE, part 2: try with several clauses that name the exception. -/
namespace PL
open PySem PySem.Spec L2
open PyProof.Rows
variable [Consts]
/-- what the clauses wish, one behind the other; slot i is the name's -/
def wAsN (K : PySem.W.Frag) (i : Nat) (Wo : WX) (D : Ends) : List (Value × (Addr → Value → Option Addr → TS)) → WX
  | [] => Wo
  | cl :: r => fun cls d σ H => ∃ b, PySem.W.exmOne K cls cl.1 = some b ∧ (b = true → ∀ a, H a = none → cl.2 a cls d { nx := fun τ H' => D.nx (τ.set i none) H', rt := D.rt, bk := fun τ H' => D.bk (τ.set i none) H', ct := fun τ H' => D.ct (τ.set i none) H' } (σ.set i (some (.ref a))) H) ∧ (b = false → wAsN K i Wo D r cls d σ H)
inductive HdN (X : Cx) (n : Str) : List ExceptHandler → List (Value × (Addr → Value → Option Addr → TS)) → Prop
  | nil : HdN X n [] []
  | cons {x : Str} {cl : Value × (Addr → Value → Option Addr → TS)} {b₀ : Stmt} {bs : List Stmt} {np hp : Pos} {hds : List ExceptHandler} {l : List (Value × (Addr → Value → Option Addr → TS))} (hc : Names X x cl.1)
    (hsu : ∀ (a : Addr) (oe : Obj) (cls : Value) (d : Option Addr) (pn : List (Addr × Obj)), Zc cls d oe → (∃ vs, oe.data = .fields vs) → PSs (X.suite a ((a, oe) :: pn)) (b₀ :: bs) (cl.2 a cls d)) (r : HdN X n hds l) :
    HdN X n (.ExceptHandler (some (.Name x np)) (some n) (b₀ :: bs) hp :: hds) (cl :: l)
section
variable {X : Cx} {body : List Stmt} {h₀ : ExceptHandler} {hds : List ExceptHandler} {l : List (Value × (Addr → Value → Option Addr → TS))} {pos : Pos} {tb : WX → TS} {Wo : WX} {n : Str} {i : Nat}
theorem tail_back {X : Cx} {pins pn' : List (Addr × Obj)} {D : Ends} {xe : Value → Shared → Prop} {f : Flow} {s1 : Shared} (ok : X.Ok) (hsp : SP (X.tr (X.pn ++ pins) xe) pn' D f s1) : SP X pins D f s1 := by
  cases f with
  | next => obtain ⟨σ', H', J', q⟩ := hsp; exact ⟨σ', H', J'.ofTry ok, q⟩
  | brk => obtain ⟨σ', H', J', q⟩ := hsp; exact ⟨σ', H', J'.ofTry ok, q⟩
  | cont => obtain ⟨σ', H', J', q⟩ := hsp; exact ⟨σ', H', J'.ofTry ok, q⟩
  | ret u => obtain ⟨v, σ', H', J', r, q⟩ := hsp; exact ⟨v, σ', H', J'.ofTry ok, r, q⟩
/-- one clause after the other -/
theorem hd_run {pins : List (Addr × Obj)} {D : Ends} {a : Addr} {B : Heap} {sI s' : Shared} {σ : L2.St} {H : Hp} {cls : Value} {d : Option Addr} {h3 : Heap} (hs : X.stack = X.env :: X.outer) (hf : X.env.frame = some X.env.locals) (hN : X.N.Nodup) (hi : X.N[i]? = some n) (hln : X.env.kindOf n = some .local) (tk : Takes X Wo) (ok : X.Ok)
    (J : Inv X pins σ H sI) (nb : ∀ b o, sI.heap.get? b = some o → b ∉ frs X.stack → B.get? b = some o) (up : sI.heap.UpToSlots h3) (os : s'.os = sI.os) (ag : AllBare s'.gens) (na : H a = none)
    (fl3 : HandSPX.FlyingZ B (X.env :: X.outer) a (Zc cls d) h3) (nL : a ≠ X.env.locals) (nF : a ∉ X.fs) :
    ∀ {hds : List ExceptHandler} {l : List (Value × (Addr → Value → Option Addr → TS))}, HdN X n hds l → wAsN X.K i Wo D l cls d σ H → wpAny (model X.prog X.w) X.A (handleBy (.ref a) X.env hds) (SP X pins D) X.xe { s' with heap := h3 } := by
  intro hds l hk
  induction hk with
  | nil =>
    intro w
    obtain ⟨k1, k2, k3, oe, vs, T, oT, ts', he, hz, hd, h1, hr⟩ := id fl3
    refine wpAny_handleBy_nil ?_
    unfold PySem.passOn
    refine wpAny_bind (wpAny_field he hd h1 ?_)
    rw [if_neg (show ¬ ((Value.ref T == Value.none) = true) from by simp)]
    have out : wpAny (model X.prog X.w) X.A (setFlight (.ref a) X.env.frame) (fun _ s4 => wpAny (model X.prog X.w) X.A (throw (.ref a) : Sem Flow) (SP X pins D) X.xe s4) X.xe { s' with heap := h3 } := by
      rw [hf]
      exact HandSPX.setFlight_upZ fl3 fun h4 hh4 up4 => wpAny_throw (tk _ _ ⟨a, B, sI, pins, σ, H, cls, d, rfl, J, nb, up.trans up4, .inr (.inr (by rw [hs]; exact hh4)), na, os, ag, w⟩)
    first | exact wpAny_bind (wpAny_pure (wpAny_bind out)) | exact wpAny_bind out
  | @cons x cl b₀ bs np hp hds l hc hsu r ih =>
    intro w
    obtain ⟨b, hb1, hyes, hno⟩ := w
    have J3 : Inv X pins σ H { s' with heap := h3 } := J.landed nb fl3.1 up os ag
    obtain ⟨oe3, vs3, he3, hz3, hd3⟩ := fl3.there
    have S3 := J3.suite he3 hd3 na nL nF
    refine wpAny_handleBy_cons (codeAny_handlers_test ?_) (by intro q; cases q)
    have LT : PySem.W.Looks (model X.prog X.w) h3 (typeOf (.ref a)) cls := fun A Q E s k q => wpAny_typeOf_ref (k _ _ he3) (by rw [hz3.1]; exact q)
    have LM := PySem.W.exm_one (M := model X.prog X.w) (J3.kIn) LT hb1
    have test : ∀ {Q E : Value → Shared → Prop}, Q cl.1 { s' with heap := h3 } → wpAny (model X.prog X.w) (X.A.mark (some (.ref a))) (eval (.Name x np) X.env) Q E { s' with heap := h3 } := fun q => by
      rcases hc with ⟨hg, hdbg, hm | ⟨hm, hv, hnn⟩⟩
      · exact ld_glob (X := X.suite a ((a, oe3) :: (X.pn ++ pins))) S3 hg hm q hdbg
      · exact ld_blt (X := X.suite a ((a, oe3) :: (X.pn ++ pins))) S3 hg hm hv q hnn hdbg
    refine test (LM.here ?_)
    cases b with
    | false => exact ih (hno rfl)
    | true =>
      refine codeAny_handlers_suite_as (HandSPX.lands_againZ fl3 fun h4 fl4 up4 => ?_)
      have J4 : Inv X pins σ H { s' with heap := h4 } := J.landed nb fl4.1 (up.trans up4) os ag
      obtain ⟨oe4, vs4, he4, hz4, hd4⟩ := fl4.there
      refine store_ok (X := X.suite a ((a, oe4) :: (X.pn ++ pins))) (v := .ref a) (J4.suite he4 hd4 na nL nF) hN hi (.inl hln) rfl (fun s5 S5 => ?_) (.inr hln)
      refine wpAny_mono ((hsu a oe4 cls d (X.pn ++ pins) hz4 ⟨_, hd4⟩).run [] s5 _ H _ S5 (hyes rfl a na)) (fun f s6 hsp => ?_) (fun _ _ z => z.elim)
      cases f with
      | next => obtain ⟨σ6, H6, S6, q6⟩ := hsp; exact gone_ok (S6.unsuite ok) hN hi hln fun s7 J7 => ⟨_, _, J7, q6⟩
      | brk => obtain ⟨σ6, H6, S6, q6⟩ := hsp; exact gone_ok (S6.unsuite ok) hN hi hln fun s7 J7 => ⟨_, _, J7, q6⟩
      | cont => obtain ⟨σ6, H6, S6, q6⟩ := hsp; exact gone_ok (S6.unsuite ok) hN hi hln fun s7 J7 => ⟨_, _, J7, q6⟩
      | ret u => obtain ⟨v6, σ6, H6, S6, r6, q6⟩ := hsp; exact gone_ok (S6.unsuite ok) hN hi hln fun s7 J7 => ⟨_, _, _, J7, r6, q6⟩
/-- try: body, except x as n: .., except y as n: .. -/
theorem ps_try_asN (hs : X.stack = X.env :: X.outer) (hf : X.env.frame = some X.env.locals) (hN : X.N.Nodup) (hi : X.N[i]? = some n) (hln : X.env.kindOf n = some .local) (tk : Takes X Wo)
    (hb : ∀ (W : WX) (pn : List (Addr × Obj)) (xe : Value → Shared → Prop), Takes (X.tr pn xe) W → PassesOwn (model X.prog X.w) X.A X.env xe → PSs (X.tr pn xe) body (tb W)) (hh : HdN X n (h₀ :: hds) l) :
    PS X (.Try body (h₀ :: hds) [] [] pos) (fun D σ H => tb (wAsN X.K i Wo D l) D σ H) := by
  refine ⟨fun pins s σ H D I h => wpAny_Try_except ?_⟩
  have ok := I.ok
  have hfr : X.A.frames = some (X.env :: X.outer) := ok.frames.trans (by rw [hs])
  refine wpAny_mono ((hb (wAsN X.K i Wo D l) (X.pn ++ pins) (fun e s1 => wpAny (model X.prog X.w) X.A (noteFrame e X.env) (fun _ s2 => wpAny (model X.prog X.w) X.A (setFlight e none) (fun _ s3 => wpAny (model X.prog X.w) X.A (handleBy e X.env (h₀ :: hds)) (SP X pins D) X.xe s3) X.xe s2) X.xe s1) (fun u s' xx => ?_) PassesOwn.looking).run [] s σ H D (I.toTry _) h)
    (fun f s1 hsp => ?_) fun _ _ z => z
  · obtain ⟨a, B, sI, pins', σ', H', cls, d, rfl, J', nb, up, sky, na, os, ag, w⟩ := xx
    rw [show (X.tr (X.pn ++ pins) _).stack = X.stack from rfl, hs] at sky
    refine Sky.land Zc.steady hfr hf sky fun h3 fl3 up3 => ?_
    obtain ⟨oe3, vs3, he3, hz3, hd3⟩ := fl3.there
    have nfr : a ∉ frs (X.env :: X.outer) := fun hm => by
      obtain ⟨_, o', e', hnf⟩ := fl3.2.2.1.mem hm
      rw [he3] at e'
      cases e'
      exact hnf _ hd3
    refine hd_run hs hf hN hi hln tk ok (J'.ofTry ok) nb (up.trans up3) os ag na fl3 (fun z => nfr ?_) (fun hm => nfr ?_) hh w
    · exact List.mem_filterMap.mpr ⟨X.env, List.mem_cons_self, by rw [hf, z]⟩
    · obtain ⟨e, he, q⟩ := List.mem_filterMap.mp hm
      exact List.mem_filterMap.mpr ⟨e, List.mem_cons_of_mem _ he, q⟩
  · have z := tail_back ok hsp
    cases f with
    | next => exact wpAny_execs_nil z
    | ret v => exact z
    | brk => exact z
    | cont => exact z
end
end PL

set_option Elab.async false
set_option linter.all false
set_option maxRecDepth 100000
/-! PE, part 3: exceptions by data. -/
namespace PL
open PySem PySem.Spec L2
open PyProof.Rows
variable [Consts]
/-- an exception, by data: its class, its one field -/
structure EX where
  c : Value
  fs : Option (Str × D)
def ExOk (K : PySem.W.Frag) (F : Hp) (x : EX) (cls : Value) (d : Option Addr) : Prop := cls = x.c ∧ match x.fs with
  | none => d = none
  | some f => ∃ a v, d = some a ∧ F a = some (.xd [(f.1, v)]) ∧ Rp K F v f.2
/-- a box that knows where it began -/
def Box.at (B : Box) (G0 F0 : Hp) : Box where
  at_ := B.at_
  frame := B.frame
  live := B.live
  ok := fun G F => Same G0 G ∧ Same F0 F
  okF := fun h s => ⟨h.1, h.2.trans s⟩
  okG := fun h hn => ⟨fun b o z => by rw [upd_ne (ne_of_none (h.1 _ _ z) hn)]; exact h.1 _ _ z, h.2⟩
theorem Box.at_bare (B : Box) (G0 F0 : Hp) : (B.at G0 F0).bare = B.bare := rfl
section
variable {K : PySem.W.Frag} {B : Box} {G G0 F F0 H : Hp} {σ : L2.St} {ρ : Env} {fp : Nat → Addr → Prop}
theorem OkW.at (k : OkW K B G F H σ ρ fp) : OkW K (B.at G F) G F H σ ρ fp := ⟨k.g, k.f, k.gf, ⟨Same.refl G, Same.refl F⟩, k.len, k.own, k.dj, k.out, k.up⟩
theorem St0.at (k : St0 K B G F H σ ρ) : St0 K (B.at G F) G F H σ ρ := ⟨k.1, let ⟨fp, w⟩ := k.2; ⟨fp, w.at⟩⟩
theorem OkW.less (hB : ∀ G F, B.ok G F) (k : OkW K (B.at G0 F0) G F H σ ρ fp) : OkW K B G0 F H σ ρ fp :=
  ⟨k.bx.1.trans k.g, k.f, fun a o z => k.gf a o (k.bx.1 a o z), hB _ _, k.len, k.own, k.dj, fun i a z => ⟨k.bx.1.free (k.out i a z).1, (k.out i a z).2⟩, k.up⟩
theorem St0.less (hB : ∀ G F, B.ok G F) (k : St0 K (B.at G0 F0) G F H σ ρ) : St0 K B G0 F H σ ρ ∧ Same F0 F := ⟨⟨k.1, let ⟨fp, w⟩ := k.2; ⟨fp, w.less hB⟩⟩, let ⟨_, w⟩ := k.2; w.bx.2⟩
theorem St0.know (k : St0 K B G F H σ ρ) : B.ok G F := k.2.bx
theorem Fl.less {v : V} {r : T} (hB : ∀ G F, B.ok G F) (k : Fl K (B.at G0 F0) G F H σ ρ v r) : Fl K B G0 F H σ ρ v r ∧ Same F0 F := ⟨⟨k.still, let ⟨fp, w⟩ := k.ok; ⟨fp, w.less hB⟩, k.al⟩, let ⟨_, w⟩ := k.ok; w.bx.2⟩
theorem EndsOk.at {DP : PEnds} {E : Ends} (hB : ∀ G F, B.ok G F) (en : EndsOk K B G0 F0 DP E) : EndsOk K (B.at G0 F0) G0 F0 DP E :=
  ⟨fun σ' H' ρ' F' p k s => en.nx σ' H' ρ' F' p (k.less hB).1 s, fun r v σ' H' ρ' F' p k s => en.rt r v σ' H' ρ' F' p (k.less hB).1 s, fun σ' H' ρ' F' p k s => en.bk σ' H' ρ' F' p (k.less hB).1 s, fun σ' H' ρ' F' p k s => en.ct σ' H' ρ' F' p (k.less hB).1 s⟩
end
/-- the wish W is borne by ω -/
def Bears (K : PySem.W.Frag) (B : Box) (W : WX) (ω : EX → Env → Prop) : Prop := ∀ x ρ, ω x ρ → ∀ G F H σ cls d, St0 K B G F H σ ρ → ExOk K F x cls d → W cls d σ H
/-! ### raise -/
section
variable {X : Cx} {B : Box} {W : WX} {ω : EX → Env → Prop} {C : Addr} {nm f : Str} {p pos pos' : Pos} {e : Expr} {te : QE}
def sRaise (ω : EX → Env → Prop) (x : EX) (DP : PEnds) (ρ : Env) : Prop := ω x ρ
theorem s_raise0 (hr : Room 1 X.A) (M : Mk0 X.prog X.K C) (tk : Takes X W) (bw : Bears X.K B W ω) (hg : Gl X nm) (hm : X.mg nm = some (.ref C)) (hc : X.calm = true := by rfl) (hd : (nm == ("__debug__" : Str)) = false := by decide) :
    PS X (.Raise (some (.Call (.Name nm p) [] [] pos)) none pos') (liftS X.K B (sRaise ω ⟨.ref C, none⟩)) :=
  weakS (ps_raise hc tk (pmk_sup0 M hr hg hm hd)) fun D σ H ⟨G, F, ρ, DP, k, h, en⟩ => bw _ _ h _ _ _ _ _ _ k ⟨rfl, rfl⟩
def sRaiseF (ω : EX → Env → Prop) (C : Addr) (f : Str) (te : QE) (DP : PEnds) (ρ : Env) : Prop := te ρ fun r ρ' => ∃ d, r = .d d ∧ ω ⟨.ref C, some (f, d)⟩ ρ'
theorem s_raise1 (hr : Room 1 X.A) (M : Mk1 X.prog X.K C f) (tk : Takes X W) (bw : Bears X.K B W ω) (hg : Gl X nm) (hm : X.mg nm = some (.ref C)) (he : PE X e (lift X.K B te)) (hc : X.calm = true := by rfl) (hd : (nm == ("__debug__" : Str)) = false := by decide) (hst : starEach [e] X.env = (false, eval e X.env) :: starEach [] X.env := by rfl) :
    PS X (.Raise (some (.Call (.Name nm p) [e] [] pos)) none pos') (liftS X.K B (sRaiseF ω C f te)) :=
  weakS (ps_raise hc tk (pmk_sup1 M hr hg hm he hd hst)) fun D σ H ⟨G, F, ρ, DP, k, h, en⟩ => ⟨G, F, ρ, _, k, h, fun r ρ1 v H1 F1 ⟨d, hrd, h1⟩ fl s1 => ⟨v, rfl, fun dx hdx => by
    subst hrd
    have rp := fl_d fl
    have hF := (fl.ok.free hdx).1
    have k2 : St0 X.K B G (upd F1 dx (.xd [(f, v)])) (upd H1 dx (.xd [(f, v)])) σ ρ1 := ⟨fl.still, (fl.ok.newF hdx _).pop fl.still⟩
    exact bw _ _ h1 _ _ _ _ _ _ k2 ⟨rfl, dx, v, rfl, upd_same, rp.mono (same_upd hF)⟩⟩⟩
end
/-! ### defs that may raise -/
def spX (K : PySem.W.Frag) (B : Box) (n : Nat) (φ : List T → (T → Prop) → (EX → Prop) → Prop) : Sp := fun vs H Q E => ∃ G F ts P PX, ts.length = n ∧ (∀ t ∈ ts, t.arg) ∧ Ok K B G F H (vs.map some) ts ∧ φ ts P PX ∧
  (∀ r v H' F', P r → r.still → Ok K B G F' H' (vs.map some ++ [some v]) (ts ++ [r]) → Same F F' → Q v H') ∧ ∀ x cls d H' F', PX x → Ok K B G F' H' (vs.map some) ts → Same F F' → ExOk K F' x cls d → E cls d H'
theorem spX_len {K : PySem.W.Frag} {B : Box} {n : Nat} {φ : List T → (T → Prop) → (EX → Prop) → Prop} : ∀ vs H Q E, spX K B n φ vs H Q E → vs.length = n := fun vs H Q E ⟨G, F, ts, P, PX, hl, _, ok, _⟩ => by
  have := ok.len
  rw [List.length_map] at this
  omega
section
variable {P : Program} {w : World} {K : PySem.W.Frag} {mg mb : Str → Option Value} {base : Heap}
theorem fnX_mk {k : Nat} {f : Addr} {x qual : Str} {st : Stmt} {fd : FuncData} {N ps : List Str} {sp : Sp} (F : Fun K x qual st f fd) (S : FnScope N ps (defScope st)) (len : ∀ vs H Q E, sp vs H Q E → vs.length = ps.length)
    (hbody : ∀ (cdv : Value) (A : Around) (outer : List PySem.Env) (s : Shared) (H : Hp) (vs : List V) (Q : VK) (E : XK), RoomG k (A.deeper (envOfC qual (defScope st) s.heap.objs.size f cdv)) → sp vs H Q E →
      ∃ t, PSs (cxOf (L2.CX P w) P w K mg base N qual (defScope st) f cdv A outer s H E) (defBody st) t ∧ t { nx := fun _ H' => Q .non H', rt := Q } (L2.start N vs) H) : FnG P w K mg base (L2.CX P w) (k + 1) f fd ps sp :=
  fun A hr => ⟨len, fun outer s H args us vs Q E e0 hb r h => by
    obtain ⟨oc, od, kV, doc, pm, an, cdv, ct, osl, rfl, lk, hcd⟩ := F.ex
    have KX : K.In s.heap := e0.mod.kin.keeps fun b o e => (e0.bs b o e).1
    have nl : s.heap.NoLimit := e0.mod.nolimit.keeps fun b o e => (e0.bs b o e).1
    refine codeAny_call_function hr.depth (KX _ _ lk) rfl S.co S.gen rfl (PySem.W.codeRec_of KX hcd) (hb _ _ _ _ (wpAny_newFunctionEnv_cells S.kind (fun y hy => ?_) fun env he s1 ic => ?_))
    · rcases S.par y.1 (List.of_mem_zip hy).1 with z | z
      · exact .inl z
      · exact .inr ⟨z, PySem.W.cellsFrom_some _ _ _ (.inl z)⟩
    · subst he
      obtain ⟨t, ht, hq⟩ := hbody cdv A outer s H vs Q E (hr.deeper _) h
      have J := inv_start (CX := L2.CX P w) (E := E) S hr.hd e0 (len _ _ _ _ h) r ic
      refine ⟨nl.keeps ic.toInCall.keep, codeAny_func (wpAny_mono (ht.run [] s1 (L2.start N vs) H _ J hq) (fun fl s' z => ?_) fun _ _ z => z)⟩
      have out : ∀ {σ' : L2.St} {H' : Hp} {v : V} {u : Value}, Inv (cxOf (L2.CX P w) P w K mg base N qual (defScope st) f cdv A outer s H E) [] σ' H' s' → RelV v u → Q v H' → CE outer P w H s Q u s' := fun {σ' H' v u} I rv q => ⟨v, H', I.os, I.bare, I.base, I.hok, rv, q⟩
      cases fl with
      | ret u => obtain ⟨v, σ', H', I, rv, q⟩ := z; exact out I rv q
      | next => obtain ⟨σ', H', I, q⟩ := z; exact out (v := .non) (u := Value.none) I rfl q
      | brk => obtain ⟨_, _, _, q⟩ := z; exact q.elim
      | cont => obtain ⟨_, _, _, q⟩ := z; exact q.elim⟩
/-- what a def that raises leaves: the box as the caller has it -/
def outX (ts : List T) (PX : EX → Prop) (x : EX) (ρ : Env) : Prop := PX x ∧ keeps ts ρ
/-- THE RULE for a def that may raise, by data -/
theorem fnX {B : Box} (hB : ∀ G F, B.ok G F) {x qual : Str} {st : Stmt} {f : Addr} {fd : FuncData} {N ps : List Str} {k : Nat} {φ : List T → (T → Prop) → (EX → Prop) → Prop} (Fn : Fun K x qual st f fd) (S : FnScope N ps (defScope st))
    (hbody : ∀ (cdv : Value) (A : Around) (outer : List PySem.Env) (s : Shared) (H : Hp) (E : XK), RoomG k (A.deeper (PyProof.Rows.envOfC qual (defScope st) s.heap.objs.size f cdv)) → ∀ (ts : List T) (Pq : T → Prop) (PX : EX → Prop), ts.length = ps.length → φ ts Pq PX → ∀ (G0 F0 : Hp),
      Bears K (B.at G0 F0) (fun cls d _ H => E cls d H) (outX ts PX) → Takes (cxOf (L2.CX P w) P w K mg base N qual (defScope st) f cdv A outer s H E) (fun cls d _ H => E cls d H) →
      ∃ t : QS, PSs (cxOf (L2.CX P w) P w K mg base N qual (defScope st) f cdv A outer s H E) (defBody st) (liftS K (B.at G0 F0) t) ∧ t (endsP ts Pq) (startP N ts)) : FnG P w K mg base (L2.CX P w) (k + 1) f fd ps (spX K B ps.length φ) := by
  refine fnX_mk Fn S spX_len fun cdv A outer s H vs Q E hr ⟨G, F, ts, Pq, PX, hl, ha, ok, hφ, q, qx⟩ => ?_
  have st0 : ∀ t ∈ ts, t.still := fun t ht => T.arg_still (ha t ht)
  have bears : Bears K (B.at G F) (fun cls d _ H => E cls d H) (outX ts PX) := fun x ρ ⟨px, kp⟩ G' F' H' σ' cls d k' hx => by
    obtain ⟨k2, s⟩ := k'.less hB
    have z := ok.leave ha (k2.2.pushD .non) kp trivial s
    exact qx x cls d H' F' px (z.pop st0) s hx
  obtain ⟨t, h, ht⟩ := hbody cdv A outer s H E hr ts Pq PX hl hφ G F bears (takes_of rfl rfl rfl rfl)
  have hvl : vs.length = ts.length := by have := ok.len; simpa using this
  have k0 : St0 K B G F H (L2.start N vs) (startP N ts) := ⟨fun t ht => by
    rcases List.mem_append.mp ht with z | z
    · exact st0 t z
    · rw [List.eq_of_mem_replicate z]
      trivial, by
    unfold L2.start startP
    rw [hvl]
    exact ok.pad st0 _⟩
  refine ⟨_, h, G, F, startP N ts, endsP ts Pq, k0.at, ht, EndsOk.at hB ⟨fun σ' H' ρ' F' ⟨p, kp⟩ k' s => ?_, fun r v σ' H' ρ' F' ⟨⟨p, sr⟩, kp⟩ fl s => ?_, fun _ _ _ _ z => z.elim, fun _ _ _ _ z => z.elim⟩⟩
  · exact q _ .non H' F' p trivial (ok.leave ha (k'.2.pushD .non) kp trivial s) s
  · exact q _ v H' F' p sr (ok.leave ha fl.ok kp sr s) s
end
end PL

set_option Elab.async false
set_option linter.all false
set_option maxRecDepth 100000
/-! PE, part 4: calls of defs that may raise; try; what a suite asks of the exception. -/
namespace PL
open PySem PySem.Spec L2
open PyProof.Rows
variable [Consts]
/-! ### calls, at the heap -/
section
variable {X : Cx} {W : WX} {f : Addr} {fd : FuncData} {ps ks : List Str} {sp : Sp} {x : Str} {p pos : Pos} {e : Expr} {es : List Expr} {t tk : TA} {g : List Value → List Value → List Value} {gV : List V → List V → List V} {kws : List Keyword}
theorem goX {pins : List (Addr × Obj)} {σ : L2.St} {H : Hp} {s : Shared} {Q : VK} {given : Args} {us : List Value} {vs : List V} (F : FnA X.prog X.w X.K X.mg X.base (L2.CX X.prog X.w) X.A f fd ps sp) (hb : BindsTo s fd given (ps.zip us)) (tw : Takes X W)
    (I : Inv X pins σ H s) (r : Vals vs us) (h : sp vs H Q (WE W σ)) : codeAny (model X.prog X.w) X.A (.call (.ref f) given) (fun r s' => match r with | .ok (.ret v) => EP X pins σ Q v s' | .ok _ => False | .error e => X.xe e s') s :=
  codeAny_mono (F.goes X.stack s H given us vs Q (WE W σ) I.env0 hb r h) fun r s' hq => match r, hq with
    | .error e, hq => passAt tw σ pins H s e s' I hq
    | .ok (.ret u), hq => I.after hq
    | .ok .next, hq => False.elim hq
    | .ok .brk, hq => False.elim hq
    | .ok .cont, hq => False.elim hq
theorem pe_callAX (F : FnA X.prog X.w X.K X.mg X.base (L2.CX X.prog X.w) X.A f fd ps sp) (hg : Gl X x) (hm : X.mg x = some (.ref f)) (hk : PySem.W.keepIn X.K (.ref f) = true) (hb : Binds X.K fd ps []) (tw : Takes X W)
    (ha : PA X (e :: es) t) (hdb : (x == ("__debug__" : Str)) = false := by decide) (he : starEach (e :: es) X.env = (false, eval e X.env) :: starEach es X.env := by rfl) (hpl : (backTo pos (starEach es X.env)).any (·.1) = false := by rfl) :
    PE X (.Call (.Name x p) (e :: es) [] pos) (tCallS sp (WE W) t) := ⟨fun pins s σ H Q I h => by
  refine wpAny_Call_Name_kw (ld_glob I hg hm (PySem.W.callWith_K (h₀ := X.base) I.ok.mod.kin hk ?_ he hpl) hdb)
  refine thn (ha.run pos pins s σ H _ I h) fun us s1 ⟨vs, H1, I1, r, q⟩ => ⟨I1.kIn, ?_⟩
  have hb1 := hb s1 us I1.kIn (by rw [List.append_nil, ← r.length]; exact F.len _ _ _ _ q)
  rw [List.append_nil] at hb1
  exact wpAny_call (goX F hb1 tw I1 r q)⟩
theorem kwX {pins : List (Addr × Obj)} {σ : L2.St} {H : Hp} {s : Shared} {Q : VK} {us ws : List Value} {vs zs : List V} (F : FnA X.prog X.w X.K X.mg X.base (L2.CX X.prog X.w) X.A f fd ps sp) (hb : KBinds X.K fd ps ks g gV) (tw : Takes X W)
    (I : Inv X pins σ H s) (r : Vals vs us) (rz : Vals zs ws) (h : sp (gV vs zs) H Q (WE W σ)) : wpAny (model X.prog X.w) X.A (call (.ref f) us (ks.zip ws)) (EP X pins σ Q) X.xe s :=
  have r2 := hb.rel r rz
  wpAny_call (goX F (hb.to s us ws I.kIn (by rw [← r2.length]; exact F.len _ _ _ _ h)) tw I r2 h)
end
/-! ### .. by data -/
def qCallX (ω : EX → Env → Prop) (φ : List T → (T → Prop) → (EX → Prop) → Prop) (ta : QA) (ρ : Env) (Q : T → Env → Prop) : Prop := ta ρ fun ws ρ1 => match wsT ws with
  | some ts => φ ts (fun r => Q r ρ1) fun x => ω x ρ1
  | none => False
section
variable {K : PySem.W.Frag} {B : Box}
theorem lift_callX {n : Nat} {φ : List T → (T → Prop) → (EX → Prop) → Prop} {ω : EX → Env → Prop} {W : WX} {ta : QA} {σ : L2.St} {H : Hp} {Q : VK} (hn : ∀ ts P PX, φ ts P PX → ts.length = n) (bw : Bears K B W ω) (h : lift K B (qCallX ω φ ta) σ H Q) : tCallS (spX K B.bare n φ) (WE W) (liftA K B ta) σ H Q := by
  obtain ⟨G, F, ρ, P, k, h, q⟩ := h
  refine liftA_use k h fun ws ρ1 vs H1 F1 h1 k1 w1 e1 => ?_
  split at h1
  · rename_i ts g
    obtain ⟨hl, ha, ho⟩ := wsT_own (B := B) w1 g
    obtain ⟨fp, kw⟩ := k1.2
    refine ⟨restOf F1 H1 fun a => ∃ i u, (none : Option (Nat × Addr)) = some (i, u) ∧ fp i a, F1, ts, _, _, hn _ _ _ h1, ha, ⟨fun _ _ => False, fun a o z => (of_restOf z).2.2, k1.2.f, fun a o z => (of_restOf z).1, True.intro, by simp [hl], fun i t hi => ho _ _ i t hi, fun _ _ _ z => z.elim, fun _ _ z => z.elim, fun _ _ z => z.elim⟩, h1, fun r v H' F' p sr ⟨fq, k'⟩ s => ?_, fun x cls d H' F' px k' s hx => ?_⟩
    · exact q r ρ1 v H' F' p ⟨k1.1, ⟨_, kw.back (bi := none) (fun _ _ z => nomatch z) k' (fun _ _ z => nomatch z) sr s⟩, fun i e => by subst e; exact sr.elim⟩ (e1.trans s)
    · obtain ⟨fq, k2⟩ := k'.pushD (v := .non) (d := .none) .non
      have z : Ok K B G F' H' (σ ++ [some .non]) (ρ1 ++ [.d .none]) := ⟨_, kw.back (bi := none) (fun _ _ z => nomatch z) k2 (fun _ _ z => nomatch z) trivial s⟩
      exact bw x ρ1 px G F' H' σ cls d ⟨k1.1, z.pop k1.1⟩ hx
  · exact h1.elim
end
/-- a def that may raise, as a bundle -/
structure CalX (P : Program) (w : World) (K : PySem.W.Frag) (mg : Str → Option Value) (base : Heap) (B : Box) (k : Nat) (x : Str) (ps : List Str) (n : Nat) (φ : List T → (T → Prop) → (EX → Prop) → Prop) : Prop where
  ex : ∃ f fd, mg x = some (.ref f) ∧ PySem.W.keepIn K (.ref f) = true ∧ Binds K fd ps [] ∧ FnG P w K mg base (L2.CX P w) k f fd ps (spX K B.bare n φ)
  len : ∀ ts Q E, φ ts Q E → ts.length = n
structure CalKX (P : Program) (w : World) (K : PySem.W.Frag) (mg : Str → Option Value) (base : Heap) (B : Box) (k : Nat) (x : Str) (ps : List Str) (n : Nat) (φ : List T → (T → Prop) → (EX → Prop) → Prop) (ks : List Str) (n0 : Nat) (is : List Nat) : Prop where
  ex : ∃ f fd, mg x = some (.ref f) ∧ PySem.W.keepIn K (.ref f) = true ∧ KB K fd ps ks n0 is ∧ FnG P w K mg base (L2.CX P w) k f fd ps (spX K B.bare n φ)
  len : ∀ ts Q E, φ ts Q E → ts.length = n
theorem CalX.to {P : Program} {w : World} {K : PySem.W.Frag} {mg : Str → Option Value} {base : Heap} {B B' : Box} {k : Nat} {x : Str} {ps : List Str} {n : Nat} {φ : List T → (T → Prop) → (EX → Prop) → Prop} (c : CalX P w K mg base B k x ps n φ) (h : B.bare = B'.bare) : CalX P w K mg base B' k x ps n φ := ⟨h ▸ c.ex, c.len⟩
theorem CalKX.to {P : Program} {w : World} {K : PySem.W.Frag} {mg : Str → Option Value} {base : Heap} {B B' : Box} {k : Nat} {x : Str} {ps ks : List Str} {n n0 : Nat} {is : List Nat} {φ : List T → (T → Prop) → (EX → Prop) → Prop} (c : CalKX P w K mg base B k x ps n φ ks n0 is) (h : B.bare = B'.bare) : CalKX P w K mg base B' k x ps n φ ks n0 is := ⟨h ▸ c.ex, c.len⟩
section
variable {X : Cx} {B : Box} {kk n n0 : Nat} {x : Str} {ps ks : List Str} {is : List Nat} {φ : List T → (T → Prop) → (EX → Prop) → Prop} {W : WX} {ω : EX → Env → Prop} {p pos : Pos} {e : Expr} {es : List Expr} {te : QE} {t tk : QA} {kws : List Keyword}
theorem q_xF (C : CalX X.prog X.w X.K X.mg X.base B kk x ps n φ) (hr : RoomG kk X.A) (hg : Gl X x) (tw : Takes X W) (bw : Bears X.K B W ω) (ha : PA X (e :: es) (liftA X.K B t)) (hd : (x == ("__debug__" : Str)) = false := by decide) (he : starEach (e :: es) X.env = (false, eval e X.env) :: starEach es X.env := by rfl) (hpl : (backTo pos (starEach es X.env)).any (·.1) = false := by rfl) :
    PE X (.Call (.Name x p) (e :: es) [] pos) (lift X.K B (qCallX ω φ t)) :=
  let ⟨_, _, h1, h2, h3, h4⟩ := C.ex
  weakE (pe_callAX (h4 X.A hr) hg h1 h2 h3 tw ha hd he hpl) fun _ _ _ => lift_callX C.len bw
theorem q_xK0 (C : CalKX X.prog X.w X.K X.mg X.base B kk x ps n φ ks 0 is) (hr : RoomG kk X.A) (hg : Gl X x) (tw : Takes X W) (bw : Bears X.K B W ω) (hkw : PK X kws (liftA X.K B tk)) (hall : (backToKw pos (keywordEach kws X.env)).all (·.1.isSome) = true := by rfl) (hks : (backToKw pos (keywordEach kws X.env)).filterMap (·.1) = ks := by rfl) (hdb : (x == ("__debug__" : Str)) = false := by decide)
    (hpl : ((backTo pos (starEach [] X.env)).any (·.1) || (backToKw pos (keywordEach kws X.env)).any (·.1.isNone)) = false := by rfl) :
    PE X (.Call (.Name x p) [] kws pos) (lift X.K B (qCallX ω φ (qKw 0 ks.length is qNil tk))) := by
  obtain ⟨f, fd, h1, h2, h3, h4⟩ := C.ex
  refine ⟨fun pins s σ H Q I h => ?_⟩
  have h' := lift_kw (lift_callX C.len bw h)
  obtain ⟨G, F0, ρ, P, k, hP, q⟩ := h'
  have h2' := q [] ρ [] H F0 hP k .nil (Same.refl F0)
  refine wpAny_Call_Name_kw (ld_glob I hg h1 (PySem.W.callWith_KW0 (h₀ := X.base) I.ok.mod.kin h2 hall ?_ hpl) hdb)
  refine thn (hkw.run pos pins s σ H _ I h2') fun ws s2 ⟨zs, H2, I2, rz, q2⟩ => ⟨I2.kIn, ?_⟩
  rw [hks]
  exact kwX (us := []) (vs := []) (h4 X.A hr) h3.kb tw I2 .nil rz q2
end
/-! ### try -/
/-- a clause: the class that it names, the exceptions that it is told of, its suite -/
structure Cl where
  c : Value
  ok : EX → Prop
  ts : EX → Addr → QS
def endsUn (i : Nat) (DP : PEnds) : PEnds := { nx := fun ρ => DP.nx (ρ.set i .un), rt := DP.rt, bk := fun ρ => DP.bk (ρ.set i .un), ct := fun ρ => DP.ct (ρ.set i .un) }
/-- the exception comes to one of the clauses -/
def goesTo (K : PySem.W.Frag) (i : Nat) (DP : PEnds) (x : EX) (ρ : Env) : List Cl → Prop
  | [] => False
  | cl :: r => (PySem.W.exmOne K x.c cl.c = some true ∧ cl.ok x ∧ ∀ a, cl.ts x a (endsUn i DP) (ρ.set i (.raw (.ref a)))) ∨ (PySem.W.exmOne K x.c cl.c = some false ∧ goesTo K i DP x ρ r)
def sTry (K : PySem.W.Frag) (i : Nat) (tb : (EX → Env → Prop) → QS) (cls : List Cl) (DP : PEnds) (ρ : Env) : Prop := tb (fun x ρ' => i < ρ'.length ∧ goesTo K i DP x ρ' cls) DP ρ
inductive HdP (X : Cx) (B : Box) (n : Str) : List ExceptHandler → List Cl → Prop
  | nil : HdP X B n [] []
  | cons {x : Str} {cl : Cl} {b₀ : Stmt} {bs : List Stmt} {np hp : Pos} {hds : List ExceptHandler} {l : List Cl} (hc : Names X x cl.c)
    (hsu : ∀ (a : Addr) (oe : Obj) (d : Option Addr) (pn : List (Addr × Obj)) (e : EX) (G0 F0 : Hp), Zc e.c d oe → (∃ vs, oe.data = .fields vs) → ExOk X.K F0 e e.c d → cl.ok e → PSs (X.suite a ((a, oe) :: pn)) (b₀ :: bs) (liftS X.K (B.at G0 F0) (cl.ts e a))) (r : HdP X B n hds l) :
    HdP X B n (.ExceptHandler (some (.Name x np)) (some n) (b₀ :: bs) hp :: hds) (cl :: l)
section
variable {X : Cx} {B : Box} {body : List Stmt} {h₀ : ExceptHandler} {hds : List ExceptHandler} {l : List Cl} {pos : Pos} {n : Str} {i : Nat} {tb : (EX → Env → Prop) → QS}
theorem pss_ex {α : Type} {p : α → Prop} {st : List Stmt} {t : α → TS} (h : ∀ a, p a → PSs X st (t a)) : PSs X st (fun D σ H => ∃ a, p a ∧ t a D σ H) := ⟨fun pins s σ H D I ⟨a, hp, q⟩ => (h a hp).run pins s σ H D I q⟩
/-- a clause at the heap -/
def clH (K : PySem.W.Frag) (B : Box) (cl : Cl) : Value × (Addr → Value → Option Addr → TS) := (cl.c, fun a cls d D σ H => ∃ z : EX × Hp × Hp, (z.1.c = cls ∧ ExOk K z.2.2 z.1 cls d ∧ cl.ok z.1) ∧ liftS K (B.at z.2.1 z.2.2) (cl.ts z.1 a) D σ H)
theorem HdP.low (h : HdP X B n hds l) : HdN X n hds (l.map (clH X.K B)) := by
  induction h with
  | nil => exact .nil
  | cons hc hsu r ih =>
    refine .cons hc (fun a oe cls d pn hz hf => pss_ex fun z ⟨h1, h2, h3⟩ => ?_) ih
    subst h1
    exact hsu a oe d pn z.1 z.2.1 z.2.2 hz hf h2 h3
theorem bears_try (hB : ∀ G F, B.ok G F) {G F : Hp} {DP : PEnds} {D : Ends} {Wo : WX} (en : EndsOk X.K B G F DP D) : ∀ l : List Cl, Bears X.K (B.at G F) (wAsN X.K i Wo D (l.map (clH X.K B))) (fun x ρ' => i < ρ'.length ∧ goesTo X.K i DP x ρ' l) := by
  intro l x ρ ⟨hi, h⟩ G' F' H σ cls d k hx
  induction l with
  | nil => exact h.elim
  | cons cl r ih =>
    have hc : cls = x.c := hx.1
    rcases h with ⟨e1, e2, e3⟩ | ⟨e1, e2⟩
    · refine ⟨true, by rw [hc]; exact e1, fun _ a ha => ?_, fun z => nomatch z⟩
      obtain ⟨k1, s1⟩ := k.less hB
      have k2 : St0 X.K B G F' H (σ.set i (some (.ref a))) (ρ.set i (.raw (.ref a))) := (k1.raw (v := .ref a)).set hi trivial
      refine ⟨(x, G, F'), ⟨hc.symm, hx, e2⟩, G, F', _, endsUn i DP, k2.at, e3 a, EndsOk.at hB ⟨fun σ2 H2 ρ2 F2 p k3 s3 => ?_, fun r v σ2 H2 ρ2 F2 p k3 s3 => ?_, fun σ2 H2 ρ2 F2 p k3 s3 => ?_, fun σ2 H2 ρ2 F2 p k3 s3 => ?_⟩⟩
      · exact en.nx _ _ _ _ p (set_unK k3) (s1.trans s3)
      · exact en.rt _ _ _ _ _ _ p k3 (s1.trans s3)
      · exact en.bk _ _ _ _ p (set_unK k3) (s1.trans s3)
      · exact en.ct _ _ _ _ p (set_unK k3) (s1.trans s3)
    · exact ⟨false, by rw [hc]; exact e1, fun z => (nomatch z), fun _ => ih e2⟩
theorem s_try (hB : ∀ G F, B.ok G F) (hs : X.stack = X.env :: X.outer) (hf : X.env.frame = some X.env.locals) (hN : X.N.Nodup) (hi : X.N[i]? = some n) (hln : X.env.kindOf n = some .local)
    (hb : ∀ (W : WX) (pn : List (Addr × Obj)) (xe : Value → Shared → Prop) (G0 F0 : Hp) (ω : EX → Env → Prop), Takes (X.tr pn xe) W → Bears X.K (B.at G0 F0) W ω → PassesOwn (model X.prog X.w) X.A X.env xe → PSs (X.tr pn xe) body (liftS X.K (B.at G0 F0) (tb ω)))
    (hh : HdP X B n (h₀ :: hds) l) : PS X (.Try body (h₀ :: hds) [] [] pos) (liftS X.K B (sTry X.K i tb l)) := by
  refine weakS (ps_try_asN (Wo := fun _ _ _ _ => False) (tb := fun W D σ H => ∃ z : Hp × Hp × (EX → Env → Prop), Bears X.K (B.at z.1 z.2.1) W z.2.2 ∧ liftS X.K (B.at z.1 z.2.1) (tb z.2.2) D σ H) hs hf hN hi hln takes0 (fun W pn xe tk ps => pss_ex fun z hz => hb W pn xe z.1 z.2.1 z.2.2 tk hz ps) hh.low) fun D σ H ⟨G, F, ρ, DP, k, h, en⟩ => ?_
  exact ⟨(G, F, _), bears_try hB en l, G, F, ρ, DP, k.at, h, en.at hB⟩
end
/-! ### in a suite -/
section
variable {X : Cx} {B : Box} {i : Nat} {a D : Addr} {oe : Obj} {d : Option Addr} {pn : List (Addr × Obj)} {nm f : Str} {p pos pos' : Pos}
/-- isinstance(e, c), e the exception of the suite -/
theorem call_isX (C : ExcC X.K D) (hz : Zc (.ref D) d oe) (hf : ∃ vs, oe.data = .fields vs) : CallR (X.suite a ((a, oe) :: pn)) (.builtin "isinstance") (fun xs H Q => (∀ dd, d = some dd → ∃ fs, H dd = some (.xd fs)) ∧ rIsE X.K D a xs H Q) := by
  intro pins s σ H xs us Q I r ⟨hdd, c, cv, b, e1, hcv, e, q⟩
  subst e1
  cases r with
  | cons rx rr =>
    cases rr with
    | cons rt rr =>
      cases rr
      cases rx
      have ec := hcv _ rt
      subst ec
      obtain ⟨hget, _⟩ := I.pin (a, oe) (List.mem_append.mpr (.inl List.mem_cons_self))
      obtain ⟨vs, hv⟩ := hf
      have hcl : (PySem.W.clsIn X.K D).isSome = true := by
        obtain ⟨cd, hc, _⟩ := PySem.W.any_some C.hd
        rw [hc]; rfl
      have J : ∃ od, PySem.W.InstAt s.heap a oe D od := by
        obtain ⟨oc, od, oda, osl⟩ := oe
        obtain ⟨h1, h2⟩ := hz
        dsimp only at h1 h2 hv
        subst h1 h2 hv
        cases od with
        | none => exact ⟨none, hget, rfl, rfl, trivial⟩
        | some dd =>
          obtain ⟨fs, hx⟩ := hdd dd rfl
          obtain ⟨mA, hns, _⟩ := (show ObjOk _ _ H s.heap dd (.xd fs) from I.hok dd _ hx)
          obtain ⟨o, _, _, ho, _⟩ := hns
          exact ⟨some o, hget, rfl, rfl, ho⟩
      obtain ⟨od, J⟩ := J
      exact PySem.W.kia_one (PySem.W.kitx_exc (od := od) hcl C.hg C.hk C.hs C.ha C.hn C.ht C.hm) I.kIn J e (fun z => nomatch z) fun tk => ⟨.bl b, H, I.kept (t' := tk) fun _ _ z => z, rfl, q⟩
def qIsE (i : Nat) (a : Addr) (b : Bool) (ρ : Env) (Q : T → Env → Prop) : Prop := ρ[i]? = some (.raw (.ref a)) ∧ Q (.d (.bool b)) ρ
theorem q_isE {c2 : Expr} {cv : V} {cu : Value} {b : Bool} (C : ExcC X.K D) (hz : Zc (.ref D) d oe) (hf : ∃ vs, oe.data = .fields vs) (hBd : ∀ G F, B.ok G F → ∀ dd, d = some dd → ∃ fs, F dd = some (.xd fs))
    (hm : X.mg "isinstance" = none) (he : PE (X.suite a ((a, oe) :: pn)) (.Name nm p) (tVar i)) (hc : PE (X.suite a ((a, oe) :: pn)) c2 (tC cv)) (hcv : ∀ u, RelV cv u → u = cu) (hk : PySem.W.kitOne X.K (.ref D) cu = some b)
    (hg : Gl X "isinstance") (h1 : starEach (.Name nm p :: [c2]) X.env = (false, eval (.Name nm p) X.env) :: starEach [c2] X.env := by rfl) (h2 : starEach [c2] X.env = (false, eval c2 X.env) :: starEach [] X.env := by rfl) (hpl : (backTo pos (starEach [c2] X.env)).any (·.1) = false := by rfl) :
    PE (X.suite a ((a, oe) :: pn)) (.Call (.Name "isinstance" pos') [.Name nm p, c2] [] pos) (lift X.K B (qIsE i a b)) :=
  weakE (pe_callB (X := X.suite a ((a, oe) :: pn)) (call_isX C hz hf) hg hm (by first | rfl | kernel_rfl) (pa_cons he (pa_cons hc pa_nil h2) h1) (by decide) (by decide) h1 hpl) fun σ H Q ⟨G, F, ρ, P, k, ⟨hi, h⟩, q⟩ =>
    ⟨.ref a, k.2.varRaw hi, fun dd hd => let ⟨fs, hx⟩ := hBd _ _ k.know dd hd; ⟨fs, k.2.f _ _ hx⟩, cv, cu, b, rfl, hcv, hk, q _ _ _ _ _ h (k.d (.bl b)) (Same.refl F)⟩
/-- e.f -/
def qFld (i : Nat) (a : Addr) (x : PyData) (ρ : Env) (Q : T → Env → Prop) : Prop := ρ[i]? = some (.raw (.ref a)) ∧ Q (.d x) ρ
theorem q_fld {dd : Addr} {v : V} {x : PyData} (T : XfC X.K D) (hno : PySem.W.findIn X.K (.ref D) f = some none) (hz : Zc (.ref D) (some dd) oe) (hf : ∃ vs, oe.data = .fields vs) (hBd : ∀ G F, B.ok G F → F dd = some (.xd [(f, v)]) ∧ Rp X.K F v x)
    (he : PE (X.suite a ((a, oe) :: pn)) (.Name nm p) (tVar i)) (hb : attributeBase (.Name nm p) f X.env (eval (.Name nm p) X.env) = eval (.Name nm p) X.env := by rfl) :
    PE (X.suite a ((a, oe) :: pn)) (.Attribute (.Name nm p) f pos) (lift X.K B (qFld i a x)) :=
  weakE (pe_xf T hno hz hf he hb) fun σ H Q ⟨G, F, ρ, P, k, ⟨hi, h⟩, q⟩ => let ⟨h1, h2⟩ := hBd _ _ k.know
    ⟨.ref a, k.2.varRaw hi, rfl, rfl, dd, [(f, v)], v, rfl, k.2.f _ _ h1, by simp [List.lookup], q _ _ _ _ _ h (k.d h2) (Same.refl F)⟩
end
end PL
namespace PL
open PySem PySem.Spec L2
open PyProof.Rows
variable [Consts]
section
variable {X : Cx} {B : Box} {i : Nat} {a D : Addr} {oe : Obj} {d : Option Addr} {pn : List (Addr × Obj)} {nm f : Str} {p pos pos' : Pos} {e : EX} {G0 F0 : Hp}
theorem q_isX {c2 : Expr} {cv : V} {cu : Value} {b : Bool} (he : e.c = .ref D) (C : ExcC X.K D) (hx : ExOk X.K F0 e e.c d) (hz : Zc e.c d oe) (hf : ∃ vs, oe.data = .fields vs)
    (hm : X.mg "isinstance" = none) (hv : PE (X.suite a ((a, oe) :: pn)) (.Name nm p) (tVar i)) (hc : PE (X.suite a ((a, oe) :: pn)) c2 (tC cv)) (hcv : ∀ u, RelV cv u → u = cu) (hk : PySem.W.kitOne X.K (.ref D) cu = some b)
    (hg : Gl X "isinstance") (h1 : starEach (.Name nm p :: [c2]) X.env = (false, eval (.Name nm p) X.env) :: starEach [c2] X.env := by rfl) (h2 : starEach [c2] X.env = (false, eval c2 X.env) :: starEach [] X.env := by rfl) (hpl : (backTo pos (starEach [c2] X.env)).any (·.1) = false := by rfl) :
    PE (X.suite a ((a, oe) :: pn)) (.Call (.Name "isinstance" pos') [.Name nm p, c2] [] pos) (lift X.K (B.at G0 F0) (qIsE i a b)) :=
  q_isE (B := B.at G0 F0) C (by rw [← he]; exact hz) hf (fun G F h dd hd => by
    have h2 := hx.2
    split at h2
    · rw [h2] at hd; cases hd
    · rename_i f _
      obtain ⟨a', v, e1, e2, _⟩ := h2
      rw [hd] at e1
      cases e1
      exact ⟨_, h.2 _ _ e2⟩) hm hv hc hcv hk hg h1 h2 hpl
theorem q_fldX (hok : e.c = .ref D ∧ ∃ x, e.fs = some (f, x)) (T : XfC X.K D) (hno : PySem.W.findIn X.K (.ref D) f = some none) (hx : ExOk X.K F0 e e.c d) (hz : Zc e.c d oe) (hf : ∃ vs, oe.data = .fields vs)
    (he : PE (X.suite a ((a, oe) :: pn)) (.Name nm p) (tVar i)) (hb : attributeBase (.Name nm p) f X.env (eval (.Name nm p) X.env) = eval (.Name nm p) X.env := by rfl) :
    PE (X.suite a ((a, oe) :: pn)) (.Attribute (.Name nm p) f pos) (lift X.K (B.at G0 F0) (qFld i a (e.fs.getD ("", .none)).2)) := by
  obtain ⟨h1, x, h2⟩ := hok
  have h3 := hx.2
  rw [h2] at h3
  obtain ⟨dd, v, e1, e2, e3⟩ := h3
  subst e1
  rw [h2]
  exact q_fld (B := B.at G0 F0) T hno (by rw [← h1]; exact hz) hf (fun G F h => ⟨h.2 _ _ e2, e3.mono h.2⟩) he hb
end
end PL

set_option Elab.async false
set_option linter.all false
set_option maxRecDepth 100000
/-! PX, part 4: for x in zip(s, t) over tuples, the pair kept by one name: the tuple last handed out is still about, or gone. -/
namespace PLz
open PySem PySem.Spec L2
open PyProof.Rows
section
variable {prog : Program} {w : World} {A : Around} {E : Value → Shared → Prop} {s : Shared} {z TI TO i1 i2 a b : Addr} {k : Nat} {xs ys : Array Value} {x y : Value}
abbrev IsZ (h : Heap) (z TI TO : Addr) (f0 f1 : Value) : Prop := h.get? z = some { cls := .type "zip", dict := none, data := .fields #[f0, f1, .bool false, .ref TI, .ref TO], slots := #[] }
theorem freeDead {W : Addr} {f1 : Value} {Q : Bool → Shared → Prop} (hz : IsZ s.heap z TI TO (rawInt W) f1) (hW : s.heap.get? W = none) (h : Q true s) : wpAny (model prog w) A (Builtin.SmallTypes.ownedTupleIsFree (.ref z)) Q E s := by
  unfold Builtin.SmallTypes.ownedTupleIsFree
  refine wpAny_bind (wpAny_field hz rfl (x := rawInt W) rfl ?_)
  show wpAny _ _ (loadIfAlive ((W : Int).toNat) >>= _) _ _ _
  rw [Int.toNat_natCast]
  refine wpAny_bind (m := loadIfAlive W) ?_
  have key : ∀ {Q' : Option Obj → Shared → Prop}, Q' none s → wpAny (model prog w) A (loadIfAlive W) Q' E s := fun {Q'} q => by
    have q' : Q' (s.heap.get? W) s := by rw [hW]; exact q
    exact fun _ _ _ => q'
  refine key ?_
  simp only [Option.isNone_none, if_true]
  exact wpAny_pure h
/-- the two ends of a turn of a zip whose own tuple is free: a pair, or the end -/
theorem nextDead {W : Addr} {f1 : Value} {c1 c2 : Value} {Q : Value → Shared → Prop} (D : ZipApart z TI TO i1 i2 a b) (hz : IsZ s.heap z TI TO (rawInt W) f1) (hW : s.heap.get? W = none) (hI : IsPair s.heap TI (.ref i1) (.ref i2)) (hO : IsPair s.heap TO c1 c2)
    (t1 : s.heap.IsTupleIter i1 a k) (t2 : s.heap.IsTupleIter i2 b k) (p1 : s.heap.IsTuple a xs) (p2 : s.heap.IsTuple b ys) (hx : xs[k]? = some x) (hy : ys[k]? = some y)
    (fin : ∀ h', IsZip h' z TI TO (rawInt s.heap.objs.size) → IsPair h' TO x y → h'.IsTupleIter i1 a (k + 1) → h'.IsTupleIter i2 b (k + 1) → IsPair h' s.heap.objs.size x y → (∀ c o, c ≠ z → c ≠ TO → c ≠ i1 → c ≠ i2 → s.heap.get? c = some o → h'.get? c = some o) → Q (.ref s.heap.objs.size) { s with heap := h' }) :
    wpAny (model prog w) A (Builtin.«zip.__next__» ⟨[.ref z], []⟩) (fun r s' => ∃ v, r = .done (.ret v) ∧ Q v s') E s := by
  show wpAny _ _ (field (.ref z) 2 >>= _) _ _ _
  refine wpAny_bind (wpAny_field hz rfl (x := .bool false) rfl ?_)
  show wpAny _ _ (field (.ref z) 3 >>= _) _ _ _
  refine wpAny_bind (wpAny_field hz rfl (x := .ref TI) rfl (wpAny_bind (wpAny_seqItems hI rfl ?_)))
  show wpAny _ _ (Builtin.SmallTypes.ownedTupleIsFree (.ref z) >>= _) _ _ _
  refine wpAny_bind (freeDead hz hW ?_)
  simp only [if_true]
  refine wpAny_bind (wpAny_rule (wpAny_bind (wpAny_field hz rfl (x := .ref TO) rfl (wpAny_bind (wpAny_setField_rec hz (by simp) fun g1 z1 s1 => ?_)))))
  replace z1 : IsZ g1 z TI TO .ellipsis f1 := z1
  refine wpAny_bind ?_
  simp only [List.zipIdx_cons, List.zipIdx_nil, List.forIn_cons, List.forIn_nil]
  refine wpAny_bind (wpAny_bind (wpAny_onRaise ?_))
  show wpAny _ _ (Builtin.SmallTypes.nextOf (.ref i1) >>= _) _ _ _
  refine wpAny_bind (RZ.nextOf_tuple_item (s := { s with heap := g1 }) (t1.extBut s1.extBut D.i1z) (p1.extBut s1.extBut D.l1z) hx fun g2 u1 s2 => wpAny_pure ?_)
  have o2 : IsPair g2 TO c1 c2 := s2.extBut _ _ D.TOi1 (s1.extBut _ _ D.TOz hO)
  refine wpAny_bind (wpAny_seqItems o2 rfl (wpAny_bind (wpAny_updateSeq_pair (s := { s with heap := g2 }) o2 fun g3 o3 s3 => wpAny_bind (wpAny_letGo (wpAny_pure ?_)))))
  replace o3 : IsPair g3 TO x c2 := o3
  refine wpAny_bind (wpAny_bind (wpAny_onRaise ?_))
  show wpAny _ _ (Builtin.SmallTypes.nextOf (.ref i2) >>= _) _ _ _
  have t2' : g3.IsTupleIter i2 b k := ((t2.extBut s1.extBut D.i2z).extBut s2.extBut D.i12.symm).extBut s3.extBut D.TOi2.symm
  have p2' : g3.IsTuple b ys := ((p2.extBut s1.extBut D.l2z).extBut s2.extBut D.l2i1).extBut s3.extBut D.l2TO
  refine wpAny_bind (RZ.nextOf_tuple_item (s := { s with heap := g3 }) t2' p2' hy fun g4 u2 s4 => wpAny_pure ?_)
  have o4 : IsPair g4 TO x c2 := s4.extBut _ _ D.TOi2 o3
  refine wpAny_bind (wpAny_seqItems o4 rfl (wpAny_bind (wpAny_updateSeq_pair (s := { s with heap := g4 }) o4 fun g5 o5 s5 => wpAny_bind (wpAny_letGo (wpAny_pure (wpAny_pure ?_))))))
  replace o5 : IsPair g5 TO x y := o5
  refine wpAny_bind (wpAny_seqItems o5 rfl (wpAny_bind (wpAny_newTuple ?_)))
  have sz : g5.objs.size = s.heap.objs.size := by rw [s5.1, s4.1, s3.1, s2.1, s1.1]
  have z5 : IsZ g5 z TI TO .ellipsis f1 := s5.extBut _ _ D.TOz.symm (s4.extBut _ _ D.i2z.symm (s3.extBut _ _ D.TOz.symm (s2.extBut _ _ D.i1z.symm z1)))
  have kp : ∀ c o, c ≠ z → c ≠ TO → c ≠ i1 → c ≠ i2 → s.heap.get? c = some o → g5.get? c = some o := fun c o n1 n2 n3 n4 e => s5.extBut _ _ n2 (s4.extBut _ _ n4 (s3.extBut _ _ n2 (s2.extBut _ _ n3 (s1.extBut _ _ n1 e))))
  have v1 : g5.IsTupleIter i1 a (k + 1) := ((u1.extBut s3.extBut D.TOi1.symm).extBut s4.extBut D.i12).extBut s5.extBut D.TOi1.symm
  have v2 : g5.IsTupleIter i2 b (k + 1) := u2.extBut s5.extBut D.TOi2.symm
  have zlt : z < g5.objs.size := Heap.lt_size z5
  show wpAny _ _ (Builtin.SmallTypes.ownedTupleHandOut (.ref z) (.ref g5.objs.size) >>= _) _ _ _
  refine wpAny_bind ?_
  unfold Builtin.SmallTypes.ownedTupleHandOut
  have z6 : IsZ (g5.push { cls := .type "tuple", data := .seq #[x, y] }) z TI TO .ellipsis f1 := Heap.get?_push_of_some _ z5
  refine wpAny_bind (wpAny_setField_rec (s := { s with heap := g5.push { cls := .type "tuple", data := .seq #[x, y] } }) z6 (by simp) fun g7 z7 s7 => ?_)
  replace z7 : IsZ g7 z TI TO (rawInt g5.objs.size) f1 := z7
  refine wpAny_setField_rec (s := { s with heap := g7 }) z7 (by simp) fun g8 z8 s8 => ?_
  replace z8 : IsZip g8 z TI TO (rawInt g5.objs.size) := z8
  have up : ∀ c o, c ≠ z → g5.get? c = some o → g8.get? c = some o := fun c o n e => s8.extBut _ _ n (s7.extBut _ _ n (Heap.get?_push_of_some _ e))
  have new : IsPair g8 g5.objs.size x y := s8.extBut _ _ (Nat.ne_of_gt zlt) (s7.extBut _ _ (Nat.ne_of_gt zlt) (Heap.get?_push_size _ rfl))
  rw [sz] at z8 new
  refine wpAny_pure ⟨_, rfl, ?_⟩
  show Q (.ref g5.objs.size) _
  rw [sz]
  exact fin g8 z8 (up _ _ D.TOz o5) (v1.at fun o e => up _ o D.i1z e) (v2.at fun o e => up _ o D.i2z e) new fun c o n1 n2 n3 n4 e => up c o n1 (kp c o n1 n2 n3 n4 e)
theorem endDead {W : Addr} {f1 : Value} {c1 c2 : Value} {Q : Fin → Shared → Prop} (hh : A.handled = none) (D : ZipApart z TI TO i1 i2 a b) (hz : IsZ s.heap z TI TO (rawInt W) f1) (hW : s.heap.get? W = none) (hI : IsPair s.heap TI (.ref i1) (.ref i2)) (hO : IsPair s.heap TO c1 c2)
    (t1 : s.heap.IsTupleIter i1 a k) (t2 : s.heap.IsTupleIter i2 b k) (p1 : s.heap.IsTuple a xs) (p2 : s.heap.IsTuple b ys) (hend : xs[k]? = none ∨ ys[k]? = none)
    (fin : ∀ h' e, (∀ c o, c ≠ z → c ≠ TO → c ≠ i1 → c ≠ i2 → s.heap.get? c = some o → h'.get? c = some o) → (∃ o, h'.get? e = some o ∧ o.cls = .type "StopIteration") → E (.ref e) { s with heap := h' }) :
    wpAny (model prog w) A (Builtin.«zip.__next__» ⟨[.ref z], []⟩) Q E s := by
  show wpAny _ _ (field (.ref z) 2 >>= _) _ _ _
  refine wpAny_bind (wpAny_field hz rfl (x := .bool false) rfl ?_)
  show wpAny _ _ (field (.ref z) 3 >>= _) _ _ _
  refine wpAny_bind (wpAny_field hz rfl (x := .ref TI) rfl (wpAny_bind (wpAny_seqItems hI rfl ?_)))
  show wpAny _ _ (Builtin.SmallTypes.ownedTupleIsFree (.ref z) >>= _) _ _ _
  refine wpAny_bind (freeDead hz hW ?_)
  simp only [if_true]
  refine wpAny_bind (wpAny_rule (wpAny_bind (wpAny_field hz rfl (x := .ref TO) rfl (wpAny_bind (wpAny_setField_rec hz (by simp) fun g1 z1 s1 => ?_)))))
  replace z1 : IsZ g1 z TI TO .ellipsis f1 := z1
  refine wpAny_bind ?_
  simp only [List.zipIdx_cons, List.zipIdx_nil, List.forIn_cons, List.forIn_nil]
  refine wpAny_bind (wpAny_bind (wpAny_onRaise ?_))
  show wpAny _ _ (Builtin.SmallTypes.nextOf (.ref i1) >>= _) _ _ _
  have last : ∀ (g : Heap) (e : Addr), IsZ g z TI TO .ellipsis f1 → (∃ o, g.get? e = some o ∧ o.cls = .type "StopIteration") → (∀ c o, c ≠ z → c ≠ TO → c ≠ i1 → c ≠ i2 → s.heap.get? c = some o → g.get? c = some o) →
      wpAny (model prog w) A (setField (.ref z) 0 .none) (fun _ s' => E (.ref e) s') E { s with heap := g } := fun g e hz2 ⟨oe, he, hc⟩ kp =>
    wpAny_setField_rec (s := { s with heap := g }) hz2 (by simp) fun g' _ s' => fin g' e (fun c o n1 n2 n3 n4 q => s'.extBut _ _ n1 (kp c o n1 n2 n3 n4 q)) ⟨oe, s'.extBut _ _ (fun q => by subst q; rw [hz2] at he; cases he; simp at hc) he, hc⟩
  cases hx : xs[k]? with
  | none => exact wpAny_bind (RZ.nextOf_tuple_end (s := { s with heap := g1 }) hh (t1.extBut s1.extBut D.i1z) (p1.extBut s1.extBut D.l1z) hx fun g2 e s2 he => last g2 e (s2 _ _ D.i1z.symm z1) he fun c o n1 _ n3 _ q => s2 _ _ n3 (s1.extBut _ _ n1 q))
  | some x =>
    have hy : ys[k]? = none := hend.resolve_left (by rw [hx]; exact fun q => nomatch q)
    refine wpAny_bind (RZ.nextOf_tuple_item (s := { s with heap := g1 }) (t1.extBut s1.extBut D.i1z) (p1.extBut s1.extBut D.l1z) hx fun g2 u1 s2 => wpAny_pure ?_)
    have o2 : IsPair g2 TO c1 c2 := s2.extBut _ _ D.TOi1 (s1.extBut _ _ D.TOz hO)
    refine wpAny_bind (wpAny_seqItems o2 rfl (wpAny_bind (wpAny_updateSeq_pair (s := { s with heap := g2 }) o2 fun g3 o3 s3 => wpAny_bind (wpAny_letGo (wpAny_pure ?_)))))
    refine wpAny_bind (wpAny_bind (wpAny_onRaise ?_))
    show wpAny _ _ (Builtin.SmallTypes.nextOf (.ref i2) >>= _) _ _ _
    have t2' : g3.IsTupleIter i2 b k := ((t2.extBut s1.extBut D.i2z).extBut s2.extBut D.i12.symm).extBut s3.extBut D.TOi2.symm
    have p2' : g3.IsTuple b ys := ((p2.extBut s1.extBut D.l2z).extBut s2.extBut D.l2i1).extBut s3.extBut D.l2TO
    exact wpAny_bind (RZ.nextOf_tuple_end (s := { s with heap := g3 }) hh t2' p2' hy fun g4 e s4 he => last g4 e (s4 _ _ D.i2z.symm (s3.extBut _ _ D.TOz.symm (s2.extBut _ _ D.i1z.symm z1))) he fun c o n1 n2 n3 n4 q => s4 _ _ n4 (s3.extBut _ _ n2 (s2.extBut _ _ n3 (s1.extBut _ _ n1 q))))
/-- the zip as it stands, whatever became of the tuple last handed out -/
structure AtN (h : Heap) (z TI TO i1 i2 a b : Addr) (k : Nat) : Prop where
  out : IsZip h z TI TO .none ∨ ∃ W fl, IsZipHeld h z TI TO W fl
  ti : IsPair h TI (.ref i1) (.ref i2)
  to : ∃ x y, IsPair h TO x y
  t1 : h.IsTupleIter i1 a k
  t2 : h.IsTupleIter i2 b k
theorem AtN.ty (h : AtN s.heap z TI TO i1 i2 a b k) : s.TypeIs (.ref z) "zip" := by
  rcases h.out with q | ⟨W, fl, q⟩
  · exact ⟨_, q, rfl⟩
  · exact ⟨_, q, rfl⟩
theorem AtN.keep {h h' : Heap} (t : AtN h z TI TO i1 i2 a b k) (kp : ∀ c ∈ [z, TI, TO, i1, i2], ∀ o, h.get? c = some o → h'.get? c = some o) : AtN h' z TI TO i1 i2 a b k := by
  obtain ⟨out, ti, ⟨x, y, to⟩, t1, t2⟩ := t
  refine ⟨?_, kp TI (by simp) _ ti, ⟨x, y, kp TO (by simp) _ to⟩, t1.at fun o e => kp i1 (by simp) o e, t2.at fun o e => kp i2 (by simp) o e⟩
  rcases out with q | ⟨W, fl, q⟩
  · exact .inl (kp z (by simp) _ q)
  · exact .inr ⟨W, fl, kp z (by simp) _ q⟩
theorem nextN {Q : Option Value → Shared → Prop} (D : ZipApart z TI TO i1 i2 a b) (t : AtN s.heap z TI TO i1 i2 a b k) (p1 : s.heap.IsTuple a xs) (p2 : s.heap.IsTuple b ys) (hx : xs[k]? = some x) (hy : ys[k]? = some y)
    (fin : ∀ h', AtN h' z TI TO i1 i2 a b (k + 1) → IsPair h' s.heap.objs.size x y → (∀ c o, c ∉ [z, TI, TO, i1, i2] → s.heap.get? c = some o → h'.get? c = some o) → Q (some (.ref s.heap.objs.size)) { s with heap := h' }) : wpAny (model prog w) A (pyNext (.ref z)) Q E s := by
  have hT := t.ty
  obtain ⟨out, ti, ⟨c1, c2, to⟩, t1, t2⟩ := t
  have nm : ∀ {c : Addr}, c ∉ [z, TI, TO, i1, i2] → c ≠ z ∧ c ≠ TI ∧ c ≠ TO ∧ c ≠ i1 ∧ c ≠ i2 := fun h => by simpa using h
  unfold pyNext
  refine wpAny_bind (wpAny_attempt (wpAny_callSpecial?_slot (name := Str.ofString "__next__") hT F.slot_zip_next (wpAny_call_entry F.slot_zip_next hT F.entry_zip_next ?_ (F.args_zip_next_1 _))))
  rcases out with out | ⟨W, fl, out⟩
  · refine RZ.zipT_next_item D out ti to t1 t2 p1 p2 hx hy fun h' a1 a2 a3 a4 a5 a6 a7 => wpAny_pure (fin h' ⟨.inr ⟨_, false, a1⟩, a7 _ _ D.TIz D.TITO D.TIi1 D.TIi2 ti, ⟨_, _, a2⟩, a3, a4⟩ a5 fun c o hc e => ?_)
    obtain ⟨q1, _, q2, q3, q4⟩ := nm hc
    exact a7 c o q1 q2 q3 q4 e
  · cases hW : s.heap.get? W with
    | some oW =>
      refine nextHeld D out hW ti t1 t2 p1 p2 hx hy fun h' a1 a2 a3 a4 a5 => wpAny_pure (fin h' ⟨.inr ⟨W, true, a1⟩, a5 _ _ D.TIz D.TIi1 D.TIi2 ti, ⟨_, _, a5 _ _ D.TOz D.TOi1 D.TOi2 to⟩, a2, a3⟩ a4 fun c o hc e => ?_)
      obtain ⟨q1, _, q2, q3, q4⟩ := nm hc
      exact a5 c o q1 q3 q4 e
    | none =>
      refine nextDead D out hW ti to t1 t2 p1 p2 hx hy fun h' a1 a2 a3 a4 a5 a7 => wpAny_pure (fin h' ⟨.inr ⟨_, false, a1⟩, a7 _ _ D.TIz D.TITO D.TIi1 D.TIi2 ti, ⟨_, _, a2⟩, a3, a4⟩ a5 fun c o hc e => ?_)
      obtain ⟨q1, _, q2, q3, q4⟩ := nm hc
      exact a7 c o q1 q2 q3 q4 e
theorem endN {Q : Option Value → Shared → Prop} (hh : A.handled = none) (D : ZipApart z TI TO i1 i2 a b) (t : AtN s.heap z TI TO i1 i2 a b k) (p1 : s.heap.IsTuple a xs) (p2 : s.heap.IsTuple b ys) (hend : xs[k]? = none ∨ ys[k]? = none)
    (fin : ∀ h', (∀ c o, c ∉ [z, TI, TO, i1, i2] → s.heap.get? c = some o → h'.get? c = some o) → Q none { s with heap := h' }) : wpAny (model prog w) A (pyNext (.ref z)) Q E s := by
  have hT := t.ty
  obtain ⟨out, ti, ⟨c1, c2, to⟩, t1, t2⟩ := t
  have nm : ∀ {c : Addr}, c ∉ [z, TI, TO, i1, i2] → c ≠ z ∧ c ≠ TI ∧ c ≠ TO ∧ c ≠ i1 ∧ c ≠ i2 := fun h => by simpa using h
  unfold pyNext
  refine wpAny_bind (wpAny_attempt (wpAny_callSpecial?_slot (name := Str.ofString "__next__") hT F.slot_zip_next (wpAny_call_entry F.slot_zip_next hT F.entry_zip_next ?_ (F.args_zip_next_1 _))))
  have stop : ∀ (h' : Heap) (e : Addr), (∀ c o, c ≠ z → c ≠ TO → c ≠ i1 → c ≠ i2 → s.heap.get? c = some o → h'.get? c = some o) → (∃ o, h'.get? e = some o ∧ o.cls = .type "StopIteration") →
      wpAny (model prog w) A (do if (← isInstance (.ref e) (.type "StopIteration")) = true then pure (none : Option Value) else throw (.ref e)) Q E { s with heap := h' } := fun h' e kp ⟨o, ho, hc⟩ =>
    wpAny_bind (wpAny_isInstance (T := "StopIteration") (b := true) ⟨o, ho, hc⟩ isSubtype_stop (by
      rw [if_pos rfl]
      refine wpAny_pure (fin h' fun c o hc e => ?_)
      obtain ⟨q1, _, q2, q3, q4⟩ := nm hc
      exact kp c o q1 q2 q3 q4 e))
  rcases out with out | ⟨W, fl, out⟩
  · exact RZ.zipT_next_end hh D out ti to t1 t2 p1 p2 hend fun h' e kp he => stop h' e kp he
  · cases hW : s.heap.get? W with
    | some oW => exact endHeld hh D out hW ti t1 t2 p1 p2 hend fun h' e kp he => stop h' e (fun c o n1 n2 n3 n4 q => kp c o n1 n3 n4 q) he
    | none => exact endDead hh D out hW ti to t1 t2 p1 p2 hend fun h' e kp he => stop h' e kp he
theorem letGoName {x : Str} {pos : Pos} {it v : Value} {Q : Unit → Shared → Prop} (h : Q () s) : wpAny (model prog w) A (letOwnedTupleGo (.Name x pos) it v) Q E s := wpAny_pure h
end
open L2 in
theorem turnN {P : Program} {w : World} {K : PySem.W.Frag} {nm : Str} {pos : Pos} {a b z TI TO i1 i2 : Addr} (D : ZipApart z TI TO i1 i2 a b) : Turn P w K (.Name nm pos) (RZ.ItzT K a b) [z, TI, TO, i1, i2] z (fun i h => AtN h z TI TO i1 i2 a b i) where
  mem := by simp
  obj := fun i h st c hc => by
    obtain ⟨out, ti, ⟨x, y, to⟩, ⟨o1, e1, _, d1⟩, ⟨o2, e2, _, d2⟩⟩ := st
    have e' : c = z ∨ c = TI ∨ c = TO ∨ c = i1 ∨ c = i2 := by simpa using hc
    rcases e' with q | q | q | q | q
    · rw [q]
      rcases out with out | ⟨W, fl, out⟩
      · exact ⟨_, out, fun v q => nomatch q⟩
      · exact ⟨_, out, fun v q => nomatch q⟩
    · rw [q]; exact ⟨_, ti, fun v q => nomatch q⟩
    · rw [q]; exact ⟨_, to, fun v q => nomatch q⟩
    · rw [q]; exact ⟨o1, e1, fun v q => by rw [d1] at q; cases q⟩
    · rw [q]; exact ⟨o2, e2, fun v q => by rw [d2] at q; cases q⟩
  keep := fun i h h' st k => st.keep k
  item := by
    intro X hP hw hK hc i pins s σ H E I hf st hg
    subst hP hw hK
    obtain ⟨xs, ys, x, y, hqx, hqy, hx, hy⟩ := hg
    obtain ⟨its, rv, p, _⟩ := I.tuple hqx
    obtain ⟨its2, rv2, p2, _⟩ := I.tuple hqy
    obtain ⟨u, hu, ru⟩ := rv.get hx
    obtain ⟨u2, hu2, ru2⟩ := rv2.get hy
    refine nextN (x := u) (y := u2) D st p p2 (by simpa using hu) (by simpa using hu2) fun h' st' hT hk => ⟨_, rfl, letGoName ?_⟩
    have new : ObjOk X.prog X.w (upd H s.heap.objs.size (.tup [x, y])) h' s.heap.objs.size (.tup [x, y]) := ⟨by show 2 ≤ sizeLine; decide, [u, u2], .cons ru (.cons ru2 .nil), ⟨_, hT, rfl, _, rfl⟩⟩
    have I1 : Inv X pins σ (upd H s.heap.objs.size (.tup [x, y])) { s with heap := h' } := I.turnedNew (t' := s.toks) (ch := [z, TI, TO, i1, i2]) (fun c o hb q => hk c o hb q) hf (Nat.le_refl _) new
    refine ⟨.ref s.heap.objs.size, _, I1, rfl, ⟨_, x, y, rfl, I.hok.fresh (Nat.le_refl _), rfl, fun l hl => by rw [I.tuple_inj hl hqx]; exact hx, fun l hl => by rw [I.tuple_inj hl hqy]; exact hy⟩, st', fun c hcm => ?_⟩
    have hlt : c < s.heap.objs.size := by
      obtain ⟨out, ti, ⟨x, y, to⟩, ⟨o1, e1, _, d1⟩, ⟨o2, e2, _, d2⟩⟩ := st
      have e' : c = z ∨ c = TI ∨ c = TO ∨ c = i1 ∨ c = i2 := by simpa using hcm
      rcases e' with q | q | q | q | q
      · rw [q]
        rcases out with out | ⟨W, fl, out⟩
        · exact Heap.lt_size out
        · exact Heap.lt_size out
      · rw [q]; exact Heap.lt_size ti
      · rw [q]; exact Heap.lt_size to
      · rw [q]; exact Heap.lt_size e1
      · rw [q]; exact Heap.lt_size e2
    rw [upd_ne (Nat.ne_of_lt hlt)]
    exact (hf c hcm).1
  done := by
    intro X hP hw hK hc i pins s σ H E I hf st hg
    subst hP hw hK
    obtain ⟨xs, ys, hqx, hqy, hend⟩ := hg
    obtain ⟨its, rv, p, _⟩ := I.tuple hqx
    obtain ⟨its2, rv2, p2, _⟩ := I.tuple hqy
    have l1 := rv.length
    have l2 := rv2.length
    have he : its.toArray[i]? = none ∨ its2.toArray[i]? = none := by
      rcases hend with q | q
      · exact .inl (by simp; omega)
      · exact .inr (by simp; omega)
    exact endN (I.ok.hd hc) D st p p2 he fun h' hk => ⟨rfl, I.turnedL (t' := s.toks) (ch := [z, TI, TO, i1, i2]) (fun c o hb q => hk c o hb q) hf⟩
  self := fun A i s Q E st h => wpAny_pyIter_slot st.ty F.slot_zip_iter (wpAny_call_entry F.slot_zip_iter st.ty F.entry_zip_iter (by
    show wpAny _ _ (ret (.ref z)) _ _ s
    exact wpAny_pure ⟨_, rfl, "zip", _, st.ty, F.slot_zip_next.lookup, h⟩) (F.args_zip_iter_1 _))
open L2 in
theorem pi_zipN {X : Cx} {e e2 : Expr} {ta : TA} {nm : Str} {p pos tpos : Pos} (hg : Gl X "zip") (hm : X.mg "zip" = none) (ha : PA X [e, e2] ta)
    (hs : starEach [e, e2] X.env = (false, eval e X.env) :: starEach [e2] X.env := by rfl) (hpl : (backTo pos (starEach [e2] X.env)).any (·.1) = false := by rfl) :
    PI X (.Name nm tpos) (.Call (.Name "zip" p) [e, e2] [] pos) (fun σ H R => ta σ H fun vs H1 => ∃ a b xs ys, vs = [.ref a, .ref b] ∧ SqT X.K H1 a xs ∧ SqT X.K H1 b ys ∧ R (RZ.ItzT X.K a b) H1) := by
  refine ⟨fun pins s σ H R I h => Call_ (ld_blt I hg hm boot_zip (callWith_type1 (thn (ha.run pos pins s σ H _ I h) fun us s1 ⟨vs, H1, I1, r1, a, b, xs, ys, ex, hqx, hqy, q⟩ => ?_) hs hpl))⟩
  subst ex
  cases r1 with
  | cons r rr =>
    cases rr with
    | cons r' rr =>
      cases rr
      cases r
      cases r'
      have far : ∀ c, c ∈ [s1.heap.objs.size + 4, s1.heap.objs.size + 2, s1.heap.objs.size + 3, s1.heap.objs.size, s1.heap.objs.size + 1] → FpOk X pins H1 c := fun c hcm => by
        have hle : s1.heap.objs.size ≤ c := by
          have e' : c = s1.heap.objs.size + 4 ∨ c = s1.heap.objs.size + 2 ∨ c = s1.heap.objs.size + 3 ∨ c = s1.heap.objs.size ∨ c = s1.heap.objs.size + 1 := by simpa using hcm
          rcases e' with z | z | z | z | z <;> rw [z]
          all_goals first | exact Nat.le_add_right _ _ | exact Nat.le_refl _
        exact I1.fpOk hle (I1.hok.fresh hle)
      obtain ⟨its, rv, p1, _⟩ := I1.tuple hqx
      obtain ⟨its2, rv2, p2, _⟩ := I1.tuple hqy
      obtain ⟨o1, ho1, _⟩ := id p1
      obtain ⟨o2, ho2, _⟩ := id p2
      refine RZ.call_zipT (show s1.heap.IsTuple a its.toArray from p1) (show s1.heap.IsTuple b its2.toArray from p2) fun h' hz hTI hTO h1 h2 hsz hk => wpAny_pyIter_zip hz ?_
      exact ⟨s1.heap.objs.size + 4, _, _, _, H1, rfl, I1.kept (t' := s1.toks) hk, turnN (PySem.W.ktu_apart s1.heap.objs.size a b (Heap.lt_size ho1) (Heap.lt_size ho2)), ⟨.inl hz, hTI, ⟨_, _, hTO⟩, h1, h2⟩, far, q⟩
end PLz
namespace PL
open PySem PySem.Spec L2
variable [Consts]
section
variable {X : Cx} {B : Box} {e e2 : Expr} {ta : QA} {p pos tpos : Pos} {nm : Str}
def iZN (ta : QA) (ρ : Env) (Q : List PyData → Env → Prop) : Prop := ta ρ fun ws ρ' => match wsD ws with
  | some [.tuple as, .tuple bs] => Q (zipD as bs) ρ'
  | _ => False
theorem i_zipN (hg : Gl X "zip") (hm : X.mg "zip" = none) (ha : PA X [e, e2] (liftA X.K B ta)) (hs : starEach [e, e2] X.env = (false, eval e X.env) :: starEach [e2] X.env := by rfl) (hpl : (backTo pos (starEach [e2] X.env)).any (·.1) = false := by rfl) :
    PI X (.Name nm tpos) (.Call (.Name "zip" p) [e, e2] [] pos) (liftI X.K B (iZN ta)) :=
  weakI (PLz.pi_zipN hg hm ha hs hpl) fun σ H R ⟨G, F, ρ, P, k, h, q⟩ => liftA_use k h fun ws ρ' vs H' F' p k' w e => by
    split at p
    · rename_i as bs g
      obtain ⟨x, y, rfl, r1, r2⟩ := (wsD_ok w g).two
      cases r1 with
      | tup h1 r1 =>
        cases r2 with
        | tup h2 r2 =>
          refine ⟨_, _, _, _, rfl, same_t k'.2.f h1, same_t k'.2.f h2, q _ _ _ _ _ p k' e (wk_pair walkZT (fun H s => ⟨same_t s h1, same_t s h2⟩) (by rw [zipD_len, r1.length, r2.length]) fun i x y hi e1 e2 => ?_)⟩
          obtain ⟨d, hd, rd⟩ := r1.getV e1
          obtain ⟨d', hd', rd'⟩ := r2.getV e2
          exact ⟨d, d', zipD_get hd hd', rd, rd'⟩
    · exact p.elim
end
end PL

set_option Elab.async false
set_option linter.all false
set_option maxRecDepth 100000
/-! PLt: plain lemmas for the walks, in one set (that of bitvec_to_nat, whose own ones say nothing here). -/
namespace PL
section
universe u v
variable {α : Type u} {β : Type v}
theorem z1 {f : α → β} {a : α} : Option.map f (some a) = some (f a) := rfl
theorem z2 {f : α → β} : Option.map f none = none := rfl
theorem z3 {a b : α} : (some a).getD b = a := rfl
theorem z4 {b : α} : (none : Option α).getD b = b := rfl
theorem z5 {a : α} {l : List α} : (a :: l)[0]? = some a := rfl
theorem z6 {a : α} {l : List α} {i : Nat} : (a :: l)[i + 1]? = l[i]? := rfl
theorem z7 {i : Nat} : ([] : List α)[i]? = none := rfl
theorem z8 {f : α → β} {l : List α} {i : Nat} : (l.map f)[i]? = (l[i]?).map f := List.getElem?_map
theorem z9 {a b : α} {l : List α} : (a :: l).set 0 b = b :: l := rfl
theorem z10 {a b : α} {l : List α} {i : Nat} : (a :: l).set (i + 1) b = a :: l.set i b := rfl
theorem z11 {a : α} {l : List α} : (a :: l).length = l.length + 1 := rfl
theorem z12 : ([] : List α).length = 0 := rfl
theorem z13 {f : α → β} {l : List α} : (l.map f).length = l.length := List.length_map _
theorem z14 {f : α → β} {a : α} {l : List α} : (a :: l).map f = f a :: l.map f := rfl
theorem z15 {f : α → β} : ([] : List α).map f = [] := rfl
theorem z16 {a : α} {l m : List α} : (a :: l) ++ m = a :: (l ++ m) := rfl
theorem z17 {m : List α} : [] ++ m = m := rfl
theorem z18 {m : List α} : m ++ [] = m := List.append_nil _
theorem z19 {a b : α} {l : List α} : (a :: l).getD 0 b = a := rfl
theorem z20 {a b : α} {l : List α} {i : Nat} : (a :: l).getD (i + 1) b = l.getD i b := rfl
theorem z21 {a b : α} : (if True then a else b) = a := if_pos trivial
theorem z22 {a b : α} : (if False then a else b) = b := if_neg id
theorem z23 : (false = true) = False := Bool.false_eq_true
theorem z24 : (true = false) = False := Bool.true_eq_false
theorem z25 (p : Prop) : (p ∧ True) = p := and_true p
theorem z26 (p : Prop) : (True ∧ p) = p := true_and p
theorem z27 (p : Prop) : (p ∧ p) = p := and_self p
theorem z28 (n : Nat) : 0 + n = n := Nat.zero_add n
theorem z29 {b : Prop} [Nonempty α] : (∃ _ : α, b) ↔ b := exists_const α
theorem z30 (a : α) : (a = a) = True := eq_self a
end
end PL
namespace PL
open PySem PySem.Spec L2
variable [Consts]
/-- while, its test told apart -/
theorem whileT {c : QT} {tb : QS} {DP : PEnds} {ρ : Env} (W : Nat → Env → Prop) (C : Nat → Env → Bool → Prop) (h0 : ∃ m, W m ρ) (h1 : ∀ m ρ, W m ρ → ∀ R : Bool → Env → Prop, (∀ b, C m ρ b → R b ρ) → c ρ R)
    (hb : ∀ m ρ, W m ρ → C m ρ true → tb { DP with nx := fun ρ' => ∃ m', m' < m ∧ W m' ρ', ct := fun ρ' => ∃ m', m' < m ∧ W m' ρ', bk := DP.nx } ρ) (hx : ∀ m ρ, W m ρ → C m ρ false → DP.nx ρ) : sWhile c tb DP ρ :=
  ⟨W, h0, fun m ρ w => h1 m ρ w _ fun b cb => by
    cases b with
    | true => exact hb m ρ w cb
    | false => exact hx m ρ w cb⟩
theorem eqv_bb (a b : Bool) : PyData.eqv (.bool a) (.bool b) = decide (a = b) := by cases a <;> cases b <;> rfl
/-- a statement, then the rest: whatever comes behind -/
theorem one_toR {t : QS} {DP : PEnds} {ρ : Env} (I : Env → Prop) (h1 : ∀ N : Env → Prop, (∀ ρ', I ρ' → N ρ') → t { DP with nx := N } ρ) (h2 : ∀ ρ', I ρ' → DP.nx ρ') : t DP ρ := h1 _ h2
/-- no written tuple is data -/
@[reducible] def noConsts : Consts := ⟨fun _ => False⟩
theorem noC_true : @NoC noConsts = True := eq_true fun _ h => h
/-- a written tuple, by its name -/
def CT (K : PySem.W.Frag) (mg : Str → Option Value) (x : Str) (d : D) : Prop := ∃ a, mg x = some (.ref a) ∧ ∀ F, Rp K F (.ref a) d
section
variable {X : Cx} {B : Box} {x : Str} {pos : Pos} {d : D}
theorem q_gT (hg : Gl X x) (h : CT X.K X.mg x d) (hd : (x == ("__debug__" : Str)) = false := by decide) : PE X (.Name x pos) (lift X.K B (qC d)) :=
  let ⟨a, hm, r⟩ := h
  weakE (pe_glob (v := .ref a) hg hm rfl hd) fun σ H Q q => lift_c (v := .ref a) r q
theorem q_gS {y : Str} (hg : Gl X x) (hm : ∃ t, X.mg x = some (.str y t)) (hd : (x == ("__debug__" : Str)) = false := by decide) : PE X (.Name x pos) (lift X.K B (qC (.str y))) :=
  let ⟨t, hm⟩ := hm
  weakE (pe_glob (v := .str y) hg hm ⟨t, rfl⟩ hd) fun σ H Q q => lift_c (v := .str y) (fun _ => .str y) q
end
end PL

set_option Elab.async false
set_option linter.all false
set_option maxRecDepth 100000
/-! PX, part 5: {(a, b): v}, a dict display with one key, a tuple of ints and texts. -/
namespace PL
open PySem PySem.Spec L2
open PyProof.Rows
variable [Consts]
def tDisp1T (tk tv : TE) : TE := fun σ H Q => ∀ p, H p = none → tk σ (upd H p (.dT [])) fun x H1 => tv σ H1 fun y H2 => H2 p = some (.dT []) ∧ ∃ (ks : List Key) (b : Addr), x = .ref b ∧ H2 b = some (.tup (ks.map kV)) ∧ Q (.ref p) (upd H2 p (.dT [(ks, y)]))
theorem pe_disp1T {X : Cx} {pos : Pos} {k v : Expr} {tk tv : TE} (hu : X.A.units < cLine) (hk : PE X k tk) (hv : PE X v tv) : PE X (.Dict [some k] [v] pos) (tDisp1T tk tv) := by
  refine ⟨fun pins s σ H Q I q => ?_⟩
  have hn := I.hok.fresh (Nat.le_refl s.heap.objs.size)
  have I1 := I.laid (a := s.heap.objs.size) (o := .dT []) (h' := s.heap.push { cls := .type "dict", data := .dict #[] }) (t' := s.toks) (fun _ _ q => Heap.get?_push_of_some _ q) (Nat.le_refl _) (dt_empty s.heap I.big)
  have hn1 := pairTrees_length [some k] [v] X.env pos rfl rfl
  rw [arm_eval_Dict, zip_pairTrees [some k] [v] X.env pos rfl rfl, dictDisplay_pairs (pairTrees [some k] [v] X.env pos) (fun e => by rw [e] at hn1; cases hn1) (by rw [hn1]; simp)]
  refine wpAny_bind (wpAny_standAt (wpAny_bind (wpAny_subDictH (knd := tupleKind (mixKind X.prog X.w)) hu (by rw [hn1]; simp) ?_)))
  refine pairTrees_cons_walk (thn (hk.run pins _ σ _ _ I1 (q _ hn)) fun u s1 ⟨x, H1, I1, rx, q1⟩ => thn (hv.run pins s1 σ H1 _ I1 q1) fun w2 s2 ⟨y, H2, I2, ry, e, ks, b, ex, eb, q2⟩ => pairTrees_nil_walk ?_)
  subst ex
  obtain rfl : u = Value.ref b := rx
  obtain ⟨z, hd, xs0, r0, dd⟩ := dt_of I2.hok e
  cases r0
  refine ⟨[(ks, b, w2)], ⟨rfl, rfl, key_of I2.hok eb, True.intro⟩, dd, fun h' tk' dd' hs => wpAny_pure ⟨.ref s.heap.objs.size, _, ?_, rfl, q2⟩⟩
  obtain ⟨o, es, ep, ho, h2, h3, h4, _, h5⟩ := dd'
  refine d_write I2 (by rw [e]; exact True.intro) hs ⟨o, ho⟩ ⟨by show 1 ≤ sizeLine; decide, hd, _, .cons ⟨rfl, ?_, ry⟩ .nil, o, es, ep, ho, h2, h3, h4, h5⟩
  show upd H2 s.heap.objs.size (.dT [(ks, y)]) b = _
  rw [upd_ne (ne_of eb e (fun z => nomatch z))]
  exact eb
section
variable {X : Cx} {B : Box} {pos : Pos} {e1 e2 : Expr} {tk tv : QE}
def qDisp1T (tk tv : QE) (ρ : Env) (Q : T → Env → Prop) : Prop := tk ρ fun a ρ1 => tv ρ1 fun b ρ2 => match a.w, b.w with
  | .d x, .d y => match keysOf x with
    | some ks => NoC ∧ Q (.kt [(ks, y)]) ρ2
    | none => False
  | _, _ => False
theorem q_disp1T (hu : X.A.units + 64 < cLine) (hk : PE X e1 (lift X.K B tk)) (hv : PE X e2 (lift X.K B tv)) : PE X (.Dict [some e1] [e2] pos) (lift X.K B (qDisp1T tk tv)) :=
  weakE (pe_disp1T (by omega) hk hv) fun σ H Q ⟨G, F, ρ, P, k, h, q⟩ => fun a ha => by
    have hG : G a = none := (k.2.free ha).2
    refine lift_use (k.lendO ha (.dT [])) h fun r1 ρ1 x H1 F1 h1 k1 w1 s1 => lift_use k1 h1 fun r2 ρ2 y H2 F2 h2 k2 w2 s2 => ?_
    split at h2
    · rename_i x0 y0 g1 g2
      rw [g1] at w1
      rw [g2] at w2
      split at h2
      · rename_i ks g3
        obtain ⟨hC, h2⟩ := h2
        have w1' : Rp X.K F2 x x0 := Rp.mono s2 w1
        obtain ⟨b, rfl, hb⟩ := keys_t hC w1' g3
        refine ⟨k2.2.g a _ upd_same, ks, b, rfl, k2.2.f _ _ hb, q _ _ _ _ _ h2 ⟨k2.1, k2.2.backO hG (B.okF k.2.bx (s1.trans s2)) ⟨a, _, rfl, upd_same, .cons w2 .nil, fun b => Iff.rfl⟩, fun i z => nomatch z⟩ (s1.trans s2)⟩
      · exact h2.elim
    · exact h2.elim
end
end PL

set_option Elab.async false
set_option linter.all false
set_option maxRecDepth 100000
/-! PX, part 6: zip of any two of lists, tuples, texts; zip of one of these with a zip of tuples. -/
namespace PLz
open PySem PySem.Spec L2
open PyProof.Rows
/-- what zip goes along -/
inductive Src where
  | l (a : Addr) | t (a : Addr) | s (x : Str)
def Src.v : Src → V
  | .l a => .ref a
  | .t a => .ref a
  | .s x => .str x
def strVs (x : Str) : List V := x.cps.toList.map fun c => V.str ⟨#[c]⟩
def Src.has (K : PySem.W.Frag) (H : Hp) : Src → List V → Prop
  | .l a, xs => SqL K H a xs
  | .t a, xs => SqT K H a xs
  | .s x, xs => xs = strVs x
def Src.below (n : Addr) : Src → Prop
  | .l a => a < n
  | .t a => a < n
  | .s _ => True
def Src.tn : Src → Addr → Nat → Heap → Prop
  | .l a, it, i, h => h.IsListIter it a i
  | .t a, it, i, h => h.IsTupleIter it a i
  | .s x, it, i, h => ∃ t, h.IsStrIter it (strIterType x) x t i
theorem vals_back {xs : List V} {us : List Value} {i : Nat} {u : Value} (r : Vals xs us) (e : us[i]? = some u) : ∃ x, xs[i]? = some x ∧ RelV x u := by
  have hl := r.length
  obtain ⟨h1, h2⟩ := List.getElem?_eq_some_iff.mp e
  have hd : xs[i]? = some (xs[i]'(by omega)) := List.getElem?_eq_getElem (by omega)
  obtain ⟨u', e', h⟩ := r.get hd
  rw [e] at e'
  cases e'
  exact ⟨_, hd, h⟩
theorem Src.obj {S : Src} {it : Addr} {i : Nat} {h : Heap} (t : S.tn it i h) : ∃ o, h.get? it = some o ∧ ∀ v, o.data ≠ .cell v := by
  cases S with
  | l a => obtain ⟨o, e, _, d⟩ := t; exact ⟨o, e, fun v q => by rw [d] at q; cases q⟩
  | t a => obtain ⟨o, e, _, d⟩ := t; exact ⟨o, e, fun v q => by rw [d] at q; cases q⟩
  | s x => obtain ⟨u, o, e, _, d⟩ := t; exact ⟨o, e, fun v q => by rw [d] at q; cases q⟩
theorem Src.keep {S : Src} {it : Addr} {i : Nat} {h h' : Heap} (t : S.tn it i h) (k : ∀ o, h.get? it = some o → h'.get? it = some o) : S.tn it i h' := by
  cases S with
  | l a => obtain ⟨o, e, r⟩ := t; exact ⟨o, k o e, r⟩
  | t a => obtain ⟨o, e, r⟩ := t; exact ⟨o, k o e, r⟩
  | s x => obtain ⟨u, o, e, r⟩ := t; exact ⟨u, o, k o e, r⟩
theorem Src.inj {X : Cx} {pins : List (Addr × Obj)} {σ : L2.St} {H : Hp} {s : Shared} {S : Src} {xs ys : List V} (I : Inv X pins σ H s) (h : S.has X.K H xs) (g : S.has X.K H ys) : xs = ys := by
  cases S with
  | l a => exact I.list_inj h g
  | t a => exact I.tuple_inj h g
  | s x => exact h.trans g.symm
theorem Src.draw {X : Cx} {pins : List (Addr × Obj)} {σ : L2.St} {H : Hp} {s : Shared} {S : Src} {xs : List V} {it n0 : Nat} {i : Nat} {prog : Program} {w : World} {A : Around} (hh : A.handled = none) (I : Inv X pins σ H s) (h : S.has X.K H xs) (st : S.tn it i s.heap) (b : S.below n0) (hn : n0 ≤ it) :
    ∃ (fp : List Nat) (P : Nat → Value → Prop) (St : Nat → Heap → Prop), Draws prog w A it fp xs.length P St ∧ St i s.heap ∧ (∀ k v, P k v → ∃ x, xs[k]? = some x ∧ RelV x v) ∧ (∀ k h, St k h → S.tn it k h) ∧ it ∈ fp ∧ ∀ c : Nat, c ∈ fp → c = it ∨ c < n0 := by
  cases S with
  | l a =>
    obtain ⟨its, rv, p, _⟩ := I.list h
    have hl := rv.length
    have e : its.toArray.size = xs.length := by simp [hl]
    rw [← e]
    have b' : a < n0 := b
    refine ⟨_, _, _, Draws.list hh it a (Nat.ne_of_lt (Nat.lt_of_lt_of_le b' hn)) its.toArray, ⟨st, p.isList⟩, fun k v q => ?_, fun k h q => q.1, by simp, fun c hc => ?_⟩
    · exact vals_back rv (by simpa using q)
    · have : c = it ∨ c = a := by simpa using hc
      exact this.imp id fun z => by rw [z]; exact b'
  | t a =>
    obtain ⟨its, rv, p, _⟩ := I.tuple h
    have hl := rv.length
    have e : its.toArray.size = xs.length := by simp [hl]
    rw [← e]
    have b' : a < n0 := b
    refine ⟨_, _, _, Draws.tuple hh it a (Nat.ne_of_lt (Nat.lt_of_lt_of_le b' hn)) its.toArray, ⟨st, p⟩, fun k v q => ?_, fun k h q => q.1, by simp, fun c hc => ?_⟩
    · exact vals_back rv (by simpa using q)
    · have : c = it ∨ c = a := by simpa using hc
      exact this.imp id fun z => by rw [z]; exact b'
  | s x =>
    obtain ⟨t, st⟩ := st
    have e : x.cps.size = xs.length := by rw [show xs = strVs x from h]; simp [strVs]
    rw [← e]
    refine ⟨_, _, _, Draws.text hh it x t, st, fun k v ⟨c, u, q1, q2⟩ => ⟨.str ⟨#[c]⟩, ?_, ?_⟩, fun k h q => ⟨t, q⟩, by simp, fun c hc => .inl (by simpa using hc)⟩
    · rw [show xs = strVs x from h]
      simp [strVs, q1]
    · rw [q2]
      exact ⟨u, rfl⟩
theorem Src.begins {X : Cx} {pins : List (Addr × Obj)} {σ : L2.St} {H : Hp} {s : Shared} {S : Src} {xs : List V} {u : Value} (I : Inv X pins σ H s) (h : S.has X.K H xs) (r : RelV S.v u) :
    ∃ (o : Obj) (Hh : Heap → Prop), Begins u o Hh ∧ Hh s.heap ∧ (∀ (h' : Heap) it, h'.get? it = some o → S.tn it 0 h') ∧ S.below s.heap.objs.size := by
  cases S with
  | l a =>
    obtain ⟨its, rv, p, _⟩ := I.list h
    obtain rfl : u = Value.ref a := r
    exact ⟨_, _, begins_list a its.toArray, p.isList, fun h' it e => ⟨_, e, rfl, rfl⟩, p.lt⟩
  | t a =>
    obtain ⟨its, rv, p, _⟩ := I.tuple h
    obtain rfl : u = Value.ref a := r
    refine ⟨_, _, begins_tuple a its.toArray, p, fun h' it e => ⟨_, e, rfl, rfl⟩, ?_⟩
    obtain ⟨o, ho, _⟩ := p
    exact Heap.lt_size ho
  | s x =>
    obtain ⟨t, rfl⟩ : ∃ t, u = Value.str x t := r
    exact ⟨_, _, begins_text x t, trivial, fun h' it e => ⟨t, _, e, rfl, rfl⟩, trivial⟩
/-! ### zip of two -/
def ItS (K : PySem.W.Frag) (S1 S2 : Src) : It :=
  ⟨fun i H => ∃ (xs ys : List V) (x y : V), S1.has K H xs ∧ S2.has K H ys ∧ xs[i]? = some x ∧ ys[i]? = some y,
    fun i H v H' => ∃ T x y, v = .ref T ∧ H T = none ∧ H' = upd H T (.tup [x, y]) ∧ (∀ xs, S1.has K H xs → xs[i]? = some x) ∧ ∀ ys, S2.has K H ys → ys[i]? = some y,
    fun i H => ∃ xs ys : List V, S1.has K H xs ∧ S2.has K H ys ∧ i = min xs.length ys.length⟩
theorem ne_ {a b : Nat} (h : ¬ a = b) : (show Addr from a) ≠ (show Addr from b) := h
theorem sep2 {n0 : Nat} {fp1 fp2 : List Nat} (m1 : n0 ∈ fp1) (m2 : n0 + 1 ∈ fp2) (c1 : ∀ c : Nat, c ∈ fp1 → c = n0 ∨ c < n0) (c2 : ∀ c : Nat, c ∈ fp2 → c = n0 + 1 ∨ c < n0) : ZipSep2 (n0 + 4) (n0 + 2) (n0 + 3) n0 (n0 + 1) fp1 fp2 where
  TIz := ne_ (by omega)
  TOz := ne_ (by omega)
  TITO := ne_ (by omega)
  TIi1 := ne_ (by omega)
  mem1 := m1
  zf1 := fun h => by have := c1 _ h; omega
  Tf1 := fun h => by have := c1 _ h; omega
  TIi2 := ne_ (by omega)
  mem2 := m2
  zf2 := fun h => by have := c2 _ h; omega
  Tf2 := fun h => by have := c2 _ h; omega
  sep1_2 := fun h => by have := c2 _ h; omega
  sep2_1 := fun h => by have := c1 _ h; omega
theorem in5 {c z a b d e : Nat} (h : c ∈ [z, a, b, d, e]) : c = z ∨ c = a ∨ c = b ∨ c = d ∨ c = e := by simpa using h
theorem ge5 {c n : Nat} (h : c ∈ [n + 4, n + 2, n + 3, n, n + 1]) : c ≤ n + 4 := by rcases in5 h with q | q | q | q | q <;> omega
def tnS (S1 S2 : Src) (n0 : Nat) (i : Nat) (h : Heap) : Prop := IsZip h (n0 + 4) (n0 + 2) (n0 + 3) .none ∧ IsTupOf2 h (n0 + 2) (.ref n0) (.ref (n0 + 1)) ∧ (∃ x y, IsTupOf2 h (n0 + 3) x y) ∧ S1.tn n0 i h ∧ S2.tn (n0 + 1) i h
theorem tnS.lt {S1 S2 : Src} {n0 i : Nat} {h : Heap} (t : tnS S1 S2 n0 i h) : n0 + 4 < h.objs.size := Heap.lt_size t.1
theorem turnS {P : Program} {w : World} {K : PySem.W.Frag} {elts : List Expr} {kk : Nat} {tpos : Pos} {S1 S2 : Src} {n0 : Nat} (b1 : S1.below n0) (b2 : S2.below n0) :
    Turn P w K (.Tuple elts kk tpos) (ItS K S1 S2) [n0 + 4, n0 + 2, n0 + 3, n0, n0 + 1] (n0 + 4) (tnS S1 S2 n0) where
  mem := by simp
  obj := fun i h st c hc => by
    obtain ⟨hz, hTI, ⟨x, y, hTO⟩, t1, t2⟩ := st
    rcases in5 hc with q | q | q | q | q
    · rw [q]; exact ⟨_, hz, fun v q => nomatch q⟩
    · rw [q]; exact ⟨_, hTI, fun v q => nomatch q⟩
    · rw [q]; exact ⟨_, hTO, fun v q => nomatch q⟩
    · rw [q]; exact Src.obj t1
    · rw [q]; exact Src.obj t2
  keep := fun i h h' st k => by
    obtain ⟨hz, hTI, ⟨x, y, hTO⟩, h1, h2⟩ := st
    exact ⟨k _ (by simp) _ hz, k _ (by simp) _ hTI, ⟨x, y, k _ (by simp) _ hTO⟩, Src.keep h1 fun o q => k _ (by simp) o q, Src.keep h2 fun o q => k _ (by simp) o q⟩
  item := by
    intro X hP hw hK hc i pins s σ H E I hf st hg
    subst hP hw hK
    have hlt := tnS.lt st
    obtain ⟨hz, hTI, ⟨x0, y0, hTO⟩, h1, h2⟩ := st
    obtain ⟨xs, ys, x, y, hqx, hqy, hx, hy⟩ := hg
    have hh : X.A.in1.handled = none := I.ok.hd hc
    obtain ⟨fp1, P1, St1, D1, s1, r1, k1, m1, c1⟩ := Src.draw (prog := X.prog) (w := X.w) (n0 := n0) hh I hqx h1 b1 (Nat.le_refl _)
    obtain ⟨fp2, P2, St2, D2, s2, r2, k2, m2, c2⟩ := Src.draw (prog := X.prog) (w := X.w) (n0 := n0) hh I hqy h2 b2 (Nat.le_succ _)
    have SS := sep2 m1 m2 c1 c2
    refine wpAny_pyNext_zipD2_item SS D1 D2 hz hTI hTO s1 s2 (List.getElem?_eq_some_iff.mp hx).1 (List.getElem?_eq_some_iff.mp hy).1 fun u1 u2 h' tk p1 p2 z' TO' s1' s2' hT hsz hk => ?_
    obtain ⟨x', hx', ru⟩ := r1 _ _ p1
    obtain ⟨y', hy', ru2⟩ := r2 _ _ p2
    rw [hx] at hx'; cases hx'
    rw [hy] at hy'; cases hy'
    refine ⟨_, rfl, wpAny_letOwnedTupleGo_zip (s := { s with heap := h', toks := tk }) z' fun h'' z'' sb => ?_⟩
    have hT2 : h''.get? s.heap.objs.size = some { cls := .type "tuple", data := .seq #[u1, u2] } := (sb.2 _ (ne_ (by omega))).trans hT
    have new : ObjOk X.prog X.w (upd H s.heap.objs.size (.tup [x, y])) h'' s.heap.objs.size (.tup [x, y]) := ⟨by show 2 ≤ sizeLine; decide, [u1, u2], .cons ru (.cons ru2 .nil), ⟨_, hT2, rfl, _, rfl⟩⟩
    have I1 : Inv X pins σ (upd H s.heap.objs.size (.tup [x, y])) { s with heap := h'', toks := tk } :=
      I.turnedNew (t' := tk) (ch := [n0 + 4, n0 + 2, n0 + 3, n0, n0 + 1]) (fun c o hb q => (sb.2 c (fun q' => hb (by simp [q']))).trans (hk c o (fun q' => hb (by simp [q'])) (fun q' => hb (by simp [q'])) (fun q' => hb (by simp [q'])) (fun q' => hb (by simp [q'])) q)) hf (Nat.le_refl _) new
    refine ⟨.ref s.heap.objs.size, _, I1, rfl, ⟨_, x, y, rfl, I.hok.fresh (Nat.le_refl _), rfl, fun l hl => by rw [Src.inj I hl hqx]; exact hx, fun l hl => by rw [Src.inj I hl hqy]; exact hy⟩, ⟨z'', ?_, ⟨u1, u2, ?_⟩, ?_, ?_⟩, fun c hcm => ?_⟩
    · exact (sb.2 _ (ne_ (by omega))).trans (hk _ _ (ne_ (by omega)) (ne_ (by omega)) (ne_ (by omega)) (ne_ (by omega)) hTI)
    · exact (sb.2 _ (ne_ (by omega))).trans TO'
    · exact Src.keep (k1 _ _ s1') fun o q => (sb.2 _ (ne_ (by omega))).trans q
    · exact Src.keep (k2 _ _ s2') fun o q => (sb.2 _ (ne_ (by omega))).trans q
    · have hlt2 : c < s.heap.objs.size := Nat.lt_of_le_of_lt (ge5 hcm) hlt
      rw [upd_ne (Nat.ne_of_lt hlt2)]
      exact (hf c hcm).1
  done := by
    intro X hP hw hK hc i pins s σ H E I hf st hg
    subst hP hw hK
    obtain ⟨hz, hTI, ⟨x0, y0, hTO⟩, h1, h2⟩ := st
    obtain ⟨xs, ys, hqx, hqy, hend⟩ := hg
    have hh : X.A.in1.handled = none := I.ok.hd hc
    obtain ⟨fp1, P1, St1, D1, s1, r1, k1, m1, c1⟩ := Src.draw (prog := X.prog) (w := X.w) (n0 := n0) hh I hqx h1 b1 (Nat.le_refl _)
    obtain ⟨fp2, P2, St2, D2, s2, r2, k2, m2, c2⟩ := Src.draw (prog := X.prog) (w := X.w) (n0 := n0) hh I hqy h2 b2 (Nat.le_succ _)
    exact wpAny_pyNext_zipD2_end (sep2 m1 m2 c1 c2) D1 D2 hz hTI hTO s1 s2 (by omega) (by omega) (by omega) fun h' tk hk => ⟨rfl, I.turnedL (t' := tk) (ch := [n0 + 4, n0 + 2, n0 + 3, n0, n0 + 1]) (fun c o hb q =>
      hk c o (fun q' => hb (by simp [q'])) (fun q' => hb (by simp [q'])) (fun q' => hb (by simp [q'])) (fun q' => hb (by simp [q'])) q) hf⟩
  self := fun A i s Q E st h => wpAny_pyIter_zip st.1 h
theorem le5 {c n : Nat} (h : c ∈ [n + 4, n + 2, n + 3, n, n + 1]) : n ≤ c := by rcases in5 h with q | q | q | q | q <;> omega
theorem far5 {X : Cx} {pins : List (Addr × Obj)} {σ : L2.St} {H : Hp} {s : Shared} (I : Inv X pins σ H s) {n : Nat} (hn : s.heap.objs.size ≤ n) : ∀ c : Nat, n ≤ c → FpOk X pins H c := fun c hc =>
  I.fpOk (Nat.le_trans hn hc) (I.hok.fresh (Nat.le_trans hn hc))
theorem pi_zipS {X : Cx} {e e2 : Expr} {ta : TA} {p pos tpos : Pos} {elts : List Expr} {kk : Nat} (hg : Gl X "zip") (hm : X.mg "zip" = none) (ha : PA X [e, e2] ta)
    (hs : starEach [e, e2] X.env = (false, eval e X.env) :: starEach [e2] X.env := by rfl) (hpl : (backTo pos (starEach [e2] X.env)).any (·.1) = false := by rfl) :
    PI X (.Tuple elts kk tpos) (.Call (.Name "zip" p) [e, e2] [] pos) (fun σ H R => ta σ H fun vs H1 => ∃ S1 S2 xs ys, vs = [Src.v S1, Src.v S2] ∧ S1.has X.K H1 xs ∧ S2.has X.K H1 ys ∧ R (ItS X.K S1 S2) H1) := by
  refine ⟨fun pins s σ H R I h => Call_ (ld_blt I hg hm boot_zip (callWith_type1 (thn (ha.run pos pins s σ H _ I h) fun us s1 ⟨vs, H1, I1, r1, S1, S2, xs, ys, ex, hqx, hqy, q⟩ => ?_) hs hpl))⟩
  subst ex
  cases r1 with
  | cons r rr =>
    cases rr with
    | cons r' rr =>
      cases rr
      obtain ⟨o1, H1', B1, g1, t1, l1⟩ := Src.begins I1 hqx r
      obtain ⟨o2, H2', B2, g2, t2, l2⟩ := Src.begins I1 hqy r'
      refine zip_begins2 B1 B2 g1 g2 fun h' hz hTI hTO e1 e2 hsz hk => wpAny_pyIter_zip hz ?_
      exact ⟨s1.heap.objs.size + 4, [s1.heap.objs.size + 4, s1.heap.objs.size + 2, s1.heap.objs.size + 3, s1.heap.objs.size, s1.heap.objs.size + 1], _, _, H1, rfl, I1.kept (t' := s1.toks) hk, turnS l1 l2, ⟨hz, hTI, ⟨_, _, hTO⟩, t1 _ _ e1, t2 _ _ e2⟩, fun c hc => far5 (n := s1.heap.objs.size) I1 (Nat.le_refl _) c (le5 hc), q⟩
end PLz
namespace PL
open PySem PySem.Spec L2
variable [Consts]
def itemsD : D → Option (List D)
  | .list ds => some ds
  | .tuple ds => some ds
  | .str z => some (signsD z)
  | _ => none
theorem src_of {K : PySem.W.Frag} {F H : Hp} {v : V} {d : D} {ds : List D} (s : Same F H) (r : Rp K F v d) (e : itemsD d = some ds) : ∃ (S : PLz.Src) (xs : List V), S.v = v ∧ (∀ H', Same F H' → S.has K H' xs) ∧ RpAll K F xs ds := by
  cases r with
  | non => cases e
  | bl b => cases e
  | int i => cases e
  | dic h r => cases e
  | str x =>
    cases e
    refine ⟨.s x, PLz.strVs x, rfl, fun H' _ => rfl, ?_⟩
    unfold PLz.strVs signsD
    generalize x.cps.toList = l
    induction l with
    | nil => exact .nil
    | cons c l ih => exact .cons (.str _) ih
  | lst h r => cases e; exact ⟨.l _, _, rfl, fun H' s' => .inl (.inl (s' _ _ h)), r⟩
  | tup h r => cases e; exact ⟨.t _, _, rfl, fun H' s' => same_t s' h, r⟩
section
variable {X : Cx} {B : Box} {e e2 : Expr} {ta : QA} {p pos tpos : Pos} {elts : List Expr} {kk : Nat}
def iZS (ta : QA) (ρ : Env) (Q : List PyData → Env → Prop) : Prop := ta ρ fun ws ρ' => match wsD ws with
  | some [a, b] => match itemsD a, itemsD b with
    | some as, some bs => Q (zipD as bs) ρ'
    | _, _ => False
  | _ => False
theorem i_zipS (hg : Gl X "zip") (hm : X.mg "zip" = none) (ha : PA X [e, e2] (liftA X.K B ta)) (hs : starEach [e, e2] X.env = (false, eval e X.env) :: starEach [e2] X.env := by rfl) (hpl : (backTo pos (starEach [e2] X.env)).any (·.1) = false := by rfl) :
    PI X (.Tuple elts kk tpos) (.Call (.Name "zip" p) [e, e2] [] pos) (liftI X.K B (iZS ta)) :=
  weakI (PLz.pi_zipS hg hm ha hs hpl) fun σ H R ⟨G, F, ρ, P, k, h, q⟩ => liftA_use k h fun ws ρ' vs H' F' p k' w e => by
    split at p
    · rename_i a b g
      split at p
      · rename_i as bs ga gb
        obtain ⟨x, y, rfl, r1, r2⟩ := (wsD_ok w g).two
        obtain ⟨S1, xs, rfl, h1, r1⟩ := src_of k'.2.f r1 ga
        obtain ⟨S2, ys, rfl, h2, r2⟩ := src_of k'.2.f r2 gb
        have l1 := r1.length
        have l2 := r2.length
        refine ⟨S1, S2, xs, ys, rfl, h1 _ k'.2.f, h2 _ k'.2.f, q _ _ _ _ _ p k' e ⟨fun i H hi s => ?_, fun H s => ⟨xs, ys, h1 H s, h2 H s, by rw [zipD_len, l1, l2]⟩, fun i H v H' hi s ⟨T, x, y, e1, e2, e3, e4, e5⟩ => ?_⟩⟩
        · rw [zipD_len] at hi
          exact ⟨xs, ys, xs[i]'(by omega), ys[i]'(by omega), h1 H s, h2 H s, List.getElem?_eq_getElem _, List.getElem?_eq_getElem _⟩
        · obtain ⟨d, hd, rd⟩ := r1.getV (e4 xs (h1 H s))
          obtain ⟨d', hd', rd'⟩ := r2.getV (e5 ys (h2 H s))
          exact ⟨_, zipD_get hd hd', .inr (.inl ⟨T, _, [d, d'], e2, e1, rfl, e3, .cons rd (.one rd')⟩)⟩
      · exact p.elim
    · exact p.elim
end
end PL

set_option Elab.async false
set_option linter.all false
set_option maxRecDepth 100000
/-! PX, part 7: for s, p in zip(S, zip(t, u)), t and u tuples. -/
namespace PLz
open PySem PySem.Spec L2
open PyProof.Rows
section
variable {prog : Program} {w : World} {A : Around} {E : Value → Shared → Prop} {s : Shared} {z TI TO i1 i2 a b : Addr} {k : Nat} {xs ys : Array Value} {x y : Value}
theorem nextOfN {Q : Value → Shared → Prop} (D : ZipApart z TI TO i1 i2 a b) (t : AtN s.heap z TI TO i1 i2 a b k) (p1 : s.heap.IsTuple a xs) (p2 : s.heap.IsTuple b ys) (hx : xs[k]? = some x) (hy : ys[k]? = some y)
    (fin : ∀ h', AtN h' z TI TO i1 i2 a b (k + 1) → IsPair h' s.heap.objs.size x y → (∀ c o, c ∉ [z, TI, TO, i1, i2] → s.heap.get? c = some o → h'.get? c = some o) → Q (.ref s.heap.objs.size) { s with heap := h' }) : wpAny (model prog w) A (Builtin.SmallTypes.nextOf (.ref z)) Q E s := by
  have hT := t.ty
  obtain ⟨out, ti, ⟨c1, c2, to⟩, t1, t2⟩ := t
  have nm : ∀ {c : Addr}, c ∉ [z, TI, TO, i1, i2] → c ≠ z ∧ c ≠ TI ∧ c ≠ TO ∧ c ≠ i1 ∧ c ≠ i2 := fun h => by simpa using h
  unfold Builtin.SmallTypes.nextOf
  refine wpAny_bind (wpAny_callSpecial?_slot (name := Str.ofString "__next__") hT F.slot_zip_next (wpAny_call_entry F.slot_zip_next hT F.entry_zip_next ?_ (F.args_zip_next_1 _)))
  rcases out with out | ⟨W, fl, out⟩
  · refine RZ.zipT_next_item D out ti to t1 t2 p1 p2 hx hy fun h' a1 a2 a3 a4 a5 a6 a7 => wpAny_pure (fin h' ⟨.inr ⟨_, false, a1⟩, a7 _ _ D.TIz D.TITO D.TIi1 D.TIi2 ti, ⟨_, _, a2⟩, a3, a4⟩ a5 fun c o hc e => ?_)
    obtain ⟨q1, _, q2, q3, q4⟩ := nm hc
    exact a7 c o q1 q2 q3 q4 e
  · cases hW : s.heap.get? W with
    | some oW =>
      refine nextHeld D out hW ti t1 t2 p1 p2 hx hy fun h' a1 a2 a3 a4 a5 => wpAny_pure (fin h' ⟨.inr ⟨W, true, a1⟩, a5 _ _ D.TIz D.TIi1 D.TIi2 ti, ⟨_, _, a5 _ _ D.TOz D.TOi1 D.TOi2 to⟩, a2, a3⟩ a4 fun c o hc e => ?_)
      obtain ⟨q1, _, q2, q3, q4⟩ := nm hc
      exact a5 c o q1 q3 q4 e
    | none =>
      refine nextDead D out hW ti to t1 t2 p1 p2 hx hy fun h' a1 a2 a3 a4 a5 a7 => wpAny_pure (fin h' ⟨.inr ⟨_, false, a1⟩, a7 _ _ D.TIz D.TITO D.TIi1 D.TIi2 ti, ⟨_, _, a2⟩, a3, a4⟩ a5 fun c o hc e => ?_)
      obtain ⟨q1, _, q2, q3, q4⟩ := nm hc
      exact a7 c o q1 q2 q3 q4 e
theorem endOfN {Q : Value → Shared → Prop} (hh : A.handled = none) (D : ZipApart z TI TO i1 i2 a b) (t : AtN s.heap z TI TO i1 i2 a b k) (p1 : s.heap.IsTuple a xs) (p2 : s.heap.IsTuple b ys) (hend : xs[k]? = none ∨ ys[k]? = none)
    (fin : ∀ h' e, (∀ c o, c ∉ [z, TI, TO, i1, i2] → s.heap.get? c = some o → h'.get? c = some o) → (∃ o, h'.get? e = some o ∧ o.cls = .type "StopIteration") → E (.ref e) { s with heap := h' }) : wpAny (model prog w) A (Builtin.SmallTypes.nextOf (.ref z)) Q E s := by
  have hT := t.ty
  obtain ⟨out, ti, ⟨c1, c2, to⟩, t1, t2⟩ := t
  have nm : ∀ {c : Addr}, c ∉ [z, TI, TO, i1, i2] → c ≠ z ∧ c ≠ TI ∧ c ≠ TO ∧ c ≠ i1 ∧ c ≠ i2 := fun h => by simpa using h
  unfold Builtin.SmallTypes.nextOf
  refine wpAny_bind (wpAny_callSpecial?_slot (name := Str.ofString "__next__") hT F.slot_zip_next (wpAny_call_entry F.slot_zip_next hT F.entry_zip_next ?_ (F.args_zip_next_1 _)))
  have go : ∀ (h' : Heap) (e : Addr), (∀ c o, c ≠ z → c ≠ TO → c ≠ i1 → c ≠ i2 → s.heap.get? c = some o → h'.get? c = some o) → (∃ o, h'.get? e = some o ∧ o.cls = .type "StopIteration") → E (.ref e) { s with heap := h' } := fun h' e kp he =>
    fin h' e (fun c o hc q => by
      obtain ⟨q1, _, q2, q3, q4⟩ := nm hc
      exact kp c o q1 q2 q3 q4 q) he
  rcases out with out | ⟨W, fl, out⟩
  · exact RZ.zipT_next_end hh D out ti to t1 t2 p1 p2 hend fun h' e kp he => go h' e kp he
  · cases hW : s.heap.get? W with
    | some oW => exact endHeld hh D out hW ti t1 t2 p1 p2 hend fun h' e kp he => go h' e (fun c o n1 n2 n3 n4 q => kp c o n1 n3 n4 q) he
    | none => exact endDead hh D out hW ti to t1 t2 p1 p2 hend fun h' e kp he => go h' e kp he
end
abbrev inn (n0 : Nat) : List Nat := [n0 + 4, n0 + 2, n0 + 3, n0, n0 + 1]
abbrev outs (n0 : Nat) : List Nat := [n0 + 8, n0 + 6, n0 + 7, n0 + 5, n0 + 4, n0 + 2, n0 + 3, n0, n0 + 1]
theorem in9 {c n : Nat} (h : c ∈ outs n) : n ≤ c ∧ c ≤ n + 8 := by
  have : c = n + 8 ∨ c = n + 6 ∨ c = n + 7 ∨ c = n + 5 ∨ c = n + 4 ∨ c = n + 2 ∨ c = n + 3 ∨ c = n ∨ c = n + 1 := by simpa [outs] using h
  omega
theorem notin5 {c n : Nat} (h : c < n ∨ n + 5 ≤ c) : c ∉ inn n := fun z => by
  have h1 := le5 z
  have h2 := ge5 z
  omega
theorem notout {c n : Nat} (h : c ∉ outs n) : c ≠ n + 8 ∧ c ≠ n + 6 ∧ c ≠ n + 7 ∧ c ≠ n + 5 ∧ c ∉ inn n := by
  simp only [outs, List.mem_cons, List.not_mem_nil, or_false, not_or] at h
  obtain ⟨h1, h2, h3, h4, h5⟩ := h
  exact ⟨h1, h2, h3, h4, by simpa [inn] using h5⟩
abbrev AtI (h : Heap) (n0 a b k : Nat) : Prop := AtN h (n0 + 4) (n0 + 2) (n0 + 3) n0 (n0 + 1) a b k
theorem AtI.over {h h' : Heap} {n0 a b k x : Nat} (t : AtI h n0 a b k) (hs : Heap.SameBut x h h') (hx : n0 + 5 ≤ x) : AtI h' n0 a b k := AtN.keep t fun c hc o e => hs.extBut c o (fun q => by
  have := ge5 hc
  rw [q] at this
  omega) e
theorem tup_over {h h' : Heap} {a x : Nat} {xs : Array Value} (p : h.IsTuple a xs) (hs : Heap.SameBut x h h') (hx : a ≠ x) : h'.IsTuple a xs := p.extBut hs.extBut hx
section
variable {prog : Program} {w : World} {A : Around} {E : Value → Shared → Prop} {s : Shared} {n0 a b n1 i : Nat} {fp1 : List Nat} {P1 : Nat → Value → Prop} {St1 : Nat → Heap → Prop} {ys zs : Array Value} {y z c1 c2 : Value}
theorem nextSS {Q : Value → Shared → Prop} (D1 : Draws prog w A (n0 + 5) fp1 n1 P1 St1) (k1 : ∀ c : Nat, c ∈ fp1 → c = n0 + 5 ∨ c < n0) (m1 : n0 + 5 ∈ fp1) (ha : a < n0) (hb : b < n0)
    (hz : IsZip s.heap (n0 + 8) (n0 + 6) (n0 + 7) .none) (hTI : IsTupOf2 s.heap (n0 + 6) (.ref (n0 + 5)) (.ref (n0 + 4))) (hTO : IsTupOf2 s.heap (n0 + 7) c1 c2) (st1 : St1 i s.heap) (hlt1 : i < n1) (t : AtI s.heap n0 a b i) (p1 : s.heap.IsTuple a ys) (p2 : s.heap.IsTuple b zs) (hy : ys[i]? = some y) (hz2 : zs[i]? = some z)
    (hQ : ∀ x g h' tk, P1 i x → (∀ c o, c ∉ outs n0 → s.heap.get? c = some o → g.get? c = some o) → IsPair g s.heap.objs.size y z → IsZip h' (n0 + 8) (n0 + 6) (n0 + 7) (rawInt g.objs.size) → (∃ c1 c2, IsTupOf2 h' (n0 + 7) c1 c2) → St1 (i + 1) h' → AtI h' n0 a b (i + 1) →
      (∀ c o, c ∉ outs n0 → g.get? c = some o → h'.get? c = some o) → IsTupOf2 h' (n0 + 6) (.ref (n0 + 5)) (.ref (n0 + 4)) → IsTupOf2 h' g.objs.size x (.ref s.heap.objs.size) → Q (.ref g.objs.size) { s with heap := h', toks := tk }) :
    wpAny (model prog w) A (Builtin.«zip.__next__» ⟨[.ref (n0 + 8)], []⟩) (fun fin s' => ∃ v, fin = .done (.ret v) ∧ Q v s') E s := by
  obtain ⟨hp, g, d, tk0, os⟩ := s
  have zlt : n0 + 8 < hp.objs.size := Heap.lt_size hz
  have no1 : ∀ x : Nat, n0 + 6 ≤ x → x ∉ fp1 := fun x hx q => by have := k1 x q; omega
  show wpAny _ _ (field (.ref (n0 + 8)) 2 >>= _) _ _ _
  refine wpAny_bind (wpAny_field hz rfl (x := .bool false) rfl ?_)
  show wpAny _ _ (field (.ref (n0 + 8)) 3 >>= _) _ _ _
  refine wpAny_bind (wpAny_field hz rfl (x := .ref (n0 + 6)) rfl ?_)
  refine wpAny_bind (wpAny_seqItems hTI rfl ?_)
  show wpAny _ _ (Builtin.SmallTypes.ownedTupleIsFree (.ref (n0 + 8)) >>= _) _ _ _
  refine wpAny_bind ?_
  unfold Builtin.SmallTypes.ownedTupleIsFree
  refine wpAny_bind (wpAny_field hz rfl (x := .none) rfl (wpAny_pure ?_))
  simp only [if_true]
  refine wpAny_bind (wpAny_rule ?_)
  refine wpAny_bind (wpAny_field hz rfl (x := .ref (n0 + 7)) rfl ?_)
  refine wpAny_bind (wpAny_setField_rec hz (by simp) fun g0 hz0 hs0 => ?_)
  replace hz0 : IsZip g0 (n0 + 8) (n0 + 6) (n0 + 7) .ellipsis := hz0
  replace hs0 : Heap.SameBut (n0 + 8) hp g0 := hs0
  refine wpAny_bind ?_
  simp only [List.zipIdx_cons, List.zipIdx_nil, List.forIn_cons, List.forIn_nil]
  refine wpAny_bind (wpAny_bind (wpAny_onRaise ?_))
  show wpAny _ _ (Builtin.SmallTypes.nextOf (.ref (n0 + 5)) >>= _) _ _ ⟨g0, g, d, tk0, os⟩
  refine wpAny_bind (D1.item i _ _ _ hlt1 (D1.over st1 hs0 (no1 _ (by omega))) fun x1 q1 tk1 hx1 sn1 hp1 => wpAny_pure ?_)
  replace hp1 : Heap.SameBut (n0 + 5) g0 q1 := hp1
  have hU1 : IsTupOf2 q1 (n0 + 7) c1 c2 := hp1.extBut _ _ (ne_ (by omega)) (hs0.extBut _ _ (ne_ (by omega)) hTO)
  refine wpAny_bind (wpAny_seqItems (s := ⟨q1, g, d, tk1, os⟩) hU1 rfl ?_)
  refine wpAny_bind (updateSeq_IsTupOf2 (s := ⟨q1, g, d, tk1, os⟩) hU1 fun g1 hT1 hs1 => ?_)
  replace hT1 : IsTupOf2 g1 (n0 + 7) x1 c2 := hT1
  replace hs1 : Heap.SameBut (n0 + 7) q1 g1 := hs1
  refine wpAny_bind (wpAny_letGo (wpAny_pure ?_))
  refine wpAny_bind (wpAny_bind (wpAny_onRaise ?_))
  show wpAny _ _ (Builtin.SmallTypes.nextOf (.ref (n0 + 4)) >>= _) _ _ ⟨g1, g, d, tk1, os⟩
  have t1 : AtI g1 n0 a b i := ((AtI.over t hs0 (by omega)).over hp1 (by omega)).over hs1 (by omega)
  have pa : g1.IsTuple a ys := tup_over (tup_over (tup_over p1 hs0 (ne_ (by omega))) hp1 (ne_ (by omega))) hs1 (ne_ (by omega))
  have pb : g1.IsTuple b zs := tup_over (tup_over (tup_over p2 hs0 (ne_ (by omega))) hp1 (ne_ (by omega))) hs1 (ne_ (by omega))
  have sz1 : g1.objs.size = hp.objs.size := by rw [hs1.1, hp1.1, hs0.1]
  refine wpAny_bind (nextOfN (s := ⟨g1, g, d, tk1, os⟩) (PySem.W.ktu_apart n0 a b ha hb) t1 pa pb hy hz2 fun q2 t2 hP hk2 => wpAny_pure ?_)
  replace hP : IsPair q2 g1.objs.size y z := hP
  replace hk2 : ∀ (c : Nat) o, c ∉ inn n0 → g1.get? c = some o → q2.get? c = some o := hk2
  have lt2 : g1.objs.size < q2.objs.size := Heap.lt_size hP
  have hU2 : IsTupOf2 q2 (n0 + 7) x1 c2 := hk2 _ _ (notin5 (by omega)) hT1
  show wpAny _ _ (seqItems? (.ref (n0 + 7)) >>= _) _ _ ⟨q2, g, d, tk1, os⟩
  refine wpAny_bind (wpAny_seqItems (s := ⟨q2, g, d, tk1, os⟩) hU2 rfl ?_)
  refine wpAny_bind (updateSeq_IsTupOf2 (s := ⟨q2, g, d, tk1, os⟩) hU2 fun g2 hT2 hs2 => ?_)
  replace hT2 : IsTupOf2 g2 (n0 + 7) x1 (.ref g1.objs.size) := hT2
  replace hs2 : Heap.SameBut (n0 + 7) q2 g2 := hs2
  refine wpAny_bind (wpAny_letGo (wpAny_pure (wpAny_pure ?_)))
  refine wpAny_bind (wpAny_seqItems (s := ⟨g2, g, d, tk1, os⟩) hT2 rfl ?_)
  refine wpAny_bind (wpAny_newTuple ?_)
  have hsz : g2.objs.size = q2.objs.size := hs2.1
  have up1 : ∀ (c : Nat) o, c ≠ n0 + 8 → c ≠ n0 + 7 → c ≠ n0 + 5 → c ∉ inn n0 → hp.get? c = some o → q2.get? c = some o := fun c o h1 h2 h3 h4 e => hk2 c o h4 (hs1.extBut _ _ h2 (hp1.extBut _ _ h3 (hs0.extBut _ _ h1 e)))
  have hzz : IsZip g2 (n0 + 8) (n0 + 6) (n0 + 7) .ellipsis := hs2.extBut _ _ (ne_ (by omega)) (hk2 _ _ (notin5 (by omega)) (hs1.extBut _ _ (ne_ (by omega)) (hp1.extBut _ _ (ne_ (by omega)) hz0)))
  have hj1 : St1 (i + 1) g2 := D1.over (D1.frame _ _ _ (D1.over sn1 hs1 (no1 _ (by omega))) fun c hc o e => hk2 c o (notin5 (by have := k1 c hc; omega)) e) hs2 (no1 _ (by omega))
  have hzlt : n0 + 8 < g2.objs.size := Heap.lt_size hzz
  show wpAny _ _ (Builtin.SmallTypes.ownedTupleHandOut (.ref (n0 + 8)) (.ref g2.objs.size) >>= _) _ _ ⟨g2.push { cls := .type "tuple", data := .seq #[x1, .ref g1.objs.size] }, g, d, tk1, os⟩
  refine wpAny_bind ?_
  unfold Builtin.SmallTypes.ownedTupleHandOut
  have hz6 : IsZip (g2.push { cls := .type "tuple", data := .seq #[x1, .ref g1.objs.size] }) (n0 + 8) (n0 + 6) (n0 + 7) .ellipsis := Heap.get?_push_of_some _ hzz
  refine wpAny_bind (wpAny_setField_rec hz6 (by simp) fun h7 hz7 hs7 => ?_)
  replace hz7 : IsZip h7 (n0 + 8) (n0 + 6) (n0 + 7) (rawInt g2.objs.size) := hz7
  refine wpAny_setField_rec hz7 (by simp) fun h8 hz8 hs8 => ?_
  replace hz8 : IsZip h8 (n0 + 8) (n0 + 6) (n0 + 7) (rawInt g2.objs.size) := hz8
  replace hs7 : Heap.SameBut (n0 + 8) (g2.push { cls := .type "tuple", data := .seq #[x1, .ref g1.objs.size] }) h7 := hs7
  replace hs8 : Heap.SameBut (n0 + 8) h7 h8 := hs8
  have up : ∀ (c : Nat) o, c ≠ n0 + 8 → g2.get? c = some o → h8.get? c = some o := fun c o e1 e => hs8.extBut _ _ e1 (hs7.extBut _ _ e1 (Heap.get?_push_of_some _ e))
  have hT8 : IsTupOf2 h8 g2.objs.size x1 (.ref g1.objs.size) := hs8.extBut _ _ (Nat.ne_of_gt hzlt) (hs7.extBut _ _ (Nat.ne_of_gt hzlt) (Heap.get?_push_size _ rfl))
  have up2 : ∀ (c : Nat) o, c ≠ n0 + 8 → c ≠ n0 + 7 → q2.get? c = some o → h8.get? c = some o := fun c o h1 h2 e => up c o h1 (hs2.extBut _ _ h2 e)
  rw [hsz] at hz8 hT8
  rw [sz1] at hT8 hP
  refine wpAny_pure ⟨_, rfl, ?_⟩
  show Q (.ref g2.objs.size) ⟨h8, g, d, tk1, os⟩
  rw [hsz]
  refine hQ x1 q2 h8 tk1 hx1 (fun c o hc e => ?_) hP hz8 ⟨_, _, up _ _ (by omega) hT2⟩ (D1.frame _ _ _ hj1 fun c hc o e => up c o (fun q => no1 _ (by omega) (q ▸ hc)) e) (AtN.keep t2 fun c hc o e => up2 c o (by have := ge5 hc; omega) (by have := ge5 hc; omega) e) (fun c o hc e => ?_) (up2 _ _ (by omega) (by omega) (up1 _ _ (by omega) (by omega) (by omega) (notin5 (by omega)) hTI)) hT8
  · obtain ⟨h1, h2, h3, h4, h5⟩ := notout hc
    exact up1 c o h1 h3 h4 h5 e
  · obtain ⟨h1, h2, h3, h4, h5⟩ := notout hc
    exact up2 c o h1 h3 e
theorem endSS {Q : Fin → Shared → Prop} (hh : A.handled = none) (D1 : Draws prog w A (n0 + 5) fp1 n1 P1 St1) (k1 : ∀ c : Nat, c ∈ fp1 → c = n0 + 5 ∨ c < n0) (ha : a < n0) (hb : b < n0)
    (hz : IsZip s.heap (n0 + 8) (n0 + 6) (n0 + 7) .none) (hTI : IsTupOf2 s.heap (n0 + 6) (.ref (n0 + 5)) (.ref (n0 + 4))) (hTO : IsTupOf2 s.heap (n0 + 7) c1 c2) (st1 : St1 i s.heap) (hle : i ≤ n1) (t : AtI s.heap n0 a b i) (p1 : s.heap.IsTuple a ys) (p2 : s.heap.IsTuple b zs) (hend : i = n1 ∨ ys[i]? = none ∨ zs[i]? = none)
    (hE : ∀ h' tk e, (∀ c o, c ∉ outs n0 → s.heap.get? c = some o → h'.get? c = some o) → (∃ o, h'.get? e = some o ∧ o.cls = .type "StopIteration") → E (.ref e) { s with heap := h', toks := tk }) :
    wpAny (model prog w) A (Builtin.«zip.__next__» ⟨[.ref (n0 + 8)], []⟩) Q E s := by
  obtain ⟨hp, g, d, tk0, os⟩ := s
  have no1 : ∀ x : Nat, n0 + 6 ≤ x → x ∉ fp1 := fun x hx q => by have := k1 x q; omega
  show wpAny _ _ (field (.ref (n0 + 8)) 2 >>= _) _ _ _
  refine wpAny_bind (wpAny_field hz rfl (x := .bool false) rfl ?_)
  show wpAny _ _ (field (.ref (n0 + 8)) 3 >>= _) _ _ _
  refine wpAny_bind (wpAny_field hz rfl (x := .ref (n0 + 6)) rfl ?_)
  refine wpAny_bind (wpAny_seqItems hTI rfl ?_)
  show wpAny _ _ (Builtin.SmallTypes.ownedTupleIsFree (.ref (n0 + 8)) >>= _) _ _ _
  refine wpAny_bind ?_
  unfold Builtin.SmallTypes.ownedTupleIsFree
  refine wpAny_bind (wpAny_field hz rfl (x := .none) rfl (wpAny_pure ?_))
  simp only [if_true]
  refine wpAny_bind (wpAny_rule ?_)
  refine wpAny_bind (wpAny_field hz rfl (x := .ref (n0 + 7)) rfl ?_)
  refine wpAny_bind (wpAny_setField_rec hz (by simp) fun g0 hz0 hs0 => ?_)
  replace hz0 : IsZip g0 (n0 + 8) (n0 + 6) (n0 + 7) .ellipsis := hz0
  replace hs0 : Heap.SameBut (n0 + 8) hp g0 := hs0
  refine wpAny_bind ?_
  simp only [List.zipIdx_cons, List.zipIdx_nil, List.forIn_cons, List.forIn_nil]
  refine wpAny_bind (wpAny_bind (wpAny_onRaise ?_))
  show wpAny _ _ (Builtin.SmallTypes.nextOf (.ref (n0 + 5)) >>= _) _ _ ⟨g0, g, d, tk0, os⟩
  have last : ∀ (q : Heap) (e tk : Nat), IsZip q (n0 + 8) (n0 + 6) (n0 + 7) .ellipsis → (∃ o, q.get? e = some o ∧ o.cls = .type "StopIteration") → (∀ c o, c ∉ outs n0 → hp.get? c = some o → q.get? c = some o) →
      wpAny (model prog w) A (setField (.ref (n0 + 8)) 0 .none) (fun _ s' => E (.ref e) s') E ⟨q, g, d, tk, os⟩ := fun q e tk hzq ⟨oe, hoe, hce⟩ kp => by
    have hez : e ≠ n0 + 8 := fun x => by subst x; rw [hzq] at hoe; cases hoe; simp at hce
    refine wpAny_setField_rec (s := ⟨q, g, d, tk, os⟩) hzq (by simp) fun q' _ hq' => ?_
    replace hq' : Heap.SameBut (n0 + 8) q q' := hq'
    exact hE q' tk e (fun c o hc x => hq'.extBut _ _ (notout hc).1 (kp c o hc x)) ⟨oe, hq'.extBut _ _ hez hoe, hce⟩
  by_cases hlt1 : i < n1
  · refine wpAny_bind (D1.item i _ _ _ hlt1 (D1.over st1 hs0 (no1 _ (by omega))) fun x1 q1 tk1 hx1 sn1 hp1 => wpAny_pure ?_)
    replace hp1 : Heap.SameBut (n0 + 5) g0 q1 := hp1
    have hU1 : IsTupOf2 q1 (n0 + 7) c1 c2 := hp1.extBut _ _ (ne_ (by omega)) (hs0.extBut _ _ (ne_ (by omega)) hTO)
    refine wpAny_bind (wpAny_seqItems (s := ⟨q1, g, d, tk1, os⟩) hU1 rfl ?_)
    refine wpAny_bind (updateSeq_IsTupOf2 (s := ⟨q1, g, d, tk1, os⟩) hU1 fun g1 hT1 hs1 => ?_)
    replace hT1 : IsTupOf2 g1 (n0 + 7) x1 c2 := hT1
    replace hs1 : Heap.SameBut (n0 + 7) q1 g1 := hs1
    refine wpAny_bind (wpAny_letGo (wpAny_pure ?_))
    refine wpAny_bind (wpAny_bind (wpAny_onRaise ?_))
    show wpAny _ _ (Builtin.SmallTypes.nextOf (.ref (n0 + 4)) >>= _) _ _ ⟨g1, g, d, tk1, os⟩
    have t1 : AtI g1 n0 a b i := ((AtI.over t hs0 (by omega)).over hp1 (by omega)).over hs1 (by omega)
    have pa : g1.IsTuple a ys := tup_over (tup_over (tup_over p1 hs0 (ne_ (by omega))) hp1 (ne_ (by omega))) hs1 (ne_ (by omega))
    have pb : g1.IsTuple b zs := tup_over (tup_over (tup_over p2 hs0 (ne_ (by omega))) hp1 (ne_ (by omega))) hs1 (ne_ (by omega))
    refine wpAny_bind (endOfN (s := ⟨g1, g, d, tk1, os⟩) hh (PySem.W.ktu_apart n0 a b ha hb) t1 pa pb (hend.resolve_left (by omega)) fun q2 e hk2 he => ?_)
    replace hk2 : ∀ (c : Nat) o, c ∉ inn n0 → g1.get? c = some o → q2.get? c = some o := hk2
    refine last q2 e tk1 (hk2 _ _ (notin5 (by omega)) (hs1.extBut _ _ (ne_ (by omega)) (hp1.extBut _ _ (ne_ (by omega)) hz0))) he fun c o hc x => ?_
    obtain ⟨h1, h2, h3, h4, h5⟩ := notout hc
    exact hk2 c o h5 (hs1.extBut _ _ h3 (hp1.extBut _ _ h4 (hs0.extBut _ _ h1 x)))
  · have hi1 : i = n1 := by omega
    refine wpAny_bind (D1.done ⟨g0, g, d, tk0, os⟩ _ _ (by rw [← hi1]; exact (D1.over st1 hs0 (no1 _ (by omega)))) fun q e hq he => ?_)
    replace hq : Heap.ExtBut (n0 + 5) g0 q := hq
    refine last q e tk0 (hq _ _ (ne_ (by omega)) hz0) he fun c o hc x => ?_
    obtain ⟨h1, h2, h3, h4, h5⟩ := notout hc
    exact hq _ _ h4 (hs0.extBut _ _ h1 x)
end
/-! ### as a walk -/
def ItSS (K : PySem.W.Frag) (S1 : Src) (a b : Addr) : It :=
  ⟨fun i H => ∃ (xs ys zs : List V) (x y z : V), S1.has K H xs ∧ SqT K H a ys ∧ SqT K H b zs ∧ xs[i]? = some x ∧ ys[i]? = some y ∧ zs[i]? = some z,
    fun i H v H' => ∃ p q x y z, H p = none ∧ H q = none ∧ p ≠ q ∧ v = .ref q ∧ H' = upd (upd H p (.tup [y, z])) q (.tup [x, .ref p]) ∧ (∀ xs, S1.has K H xs → xs[i]? = some x) ∧ (∀ ys, SqT K H a ys → ys[i]? = some y) ∧ ∀ zs, SqT K H b zs → zs[i]? = some z,
    fun i H => ∃ xs ys zs : List V, S1.has K H xs ∧ SqT K H a ys ∧ SqT K H b zs ∧ i = min xs.length (min ys.length zs.length)⟩
def tnSS (S1 : Src) (a b n0 : Nat) (i : Nat) (h : Heap) : Prop := IsZip h (n0 + 8) (n0 + 6) (n0 + 7) .none ∧ IsTupOf2 h (n0 + 6) (.ref (n0 + 5)) (.ref (n0 + 4)) ∧ (∃ x y, IsTupOf2 h (n0 + 7) x y) ∧ S1.tn (n0 + 5) i h ∧ AtI h n0 a b i
theorem outs_cases {c n : Nat} (h : c ∈ outs n) : c = n + 8 ∨ c = n + 6 ∨ c = n + 7 ∨ c = n + 5 ∨ c ∈ inn n := by
  simp only [outs, List.mem_cons, List.not_mem_nil, or_false] at h
  simp only [inn, List.mem_cons, List.not_mem_nil, or_false]
  exact h
theorem mem8 {n : Nat} : n + 8 ∈ outs n ∧ n + 6 ∈ outs n ∧ n + 7 ∈ outs n ∧ n + 5 ∈ outs n ∧ ∀ c ∈ inn n, c ∈ outs n := by
  refine ⟨by simp [outs], by simp [outs], by simp [outs], by simp [outs], fun c hc => ?_⟩
  simp only [inn, List.mem_cons, List.not_mem_nil, or_false] at hc
  simp only [outs, List.mem_cons, List.not_mem_nil, or_false]
  exact .inr (.inr (.inr (.inr hc)))
theorem turnSS {P : Program} {w : World} {K : PySem.W.Frag} {elts : List Expr} {kk : Nat} {tpos : Pos} {S1 : Src} {n0 a b : Nat} (b1 : S1.below n0) (ha : a < n0) (hb : b < n0) :
    Turn P w K (.Tuple elts kk tpos) (ItSS K S1 a b) (outs n0) (n0 + 8) (tnSS S1 a b n0) where
  mem := mem8.1
  obj := fun i h st c hc => by
    obtain ⟨hz, hTI, ⟨x, y, hTO⟩, t1, out, ti, ⟨x2, y2, to⟩, ⟨o1, e1, _, d1⟩, ⟨o2, e2, _, d2⟩⟩ := st
    rcases outs_cases hc with q | q | q | q | q
    · rw [q]; exact ⟨_, hz, fun v q => nomatch q⟩
    · rw [q]; exact ⟨_, hTI, fun v q => nomatch q⟩
    · rw [q]; exact ⟨_, hTO, fun v q => nomatch q⟩
    · rw [q]; exact Src.obj t1
    · rcases in5 q with q | q | q | q | q
      · rw [q]
        rcases out with out | ⟨W, fl, out⟩
        · exact ⟨_, out, fun v q => nomatch q⟩
        · exact ⟨_, out, fun v q => nomatch q⟩
      · rw [q]; exact ⟨_, ti, fun v q => nomatch q⟩
      · rw [q]; exact ⟨_, to, fun v q => nomatch q⟩
      · rw [q]; exact ⟨o1, e1, fun v q => by rw [d1] at q; cases q⟩
      · rw [q]; exact ⟨o2, e2, fun v q => by rw [d2] at q; cases q⟩
  keep := fun i h h' st k => by
    obtain ⟨hz, hTI, ⟨x, y, hTO⟩, h1, h2⟩ := st
    exact ⟨k _ mem8.1 _ hz, k _ mem8.2.1 _ hTI, ⟨x, y, k _ mem8.2.2.1 _ hTO⟩, Src.keep h1 fun o q => k _ mem8.2.2.2.1 o q, AtN.keep h2 fun c hc o q => k c (mem8.2.2.2.2 c hc) o q⟩
  item := by
    intro X hP hw hK hc i pins s σ H E I hf st hg
    subst hP hw hK
    obtain ⟨hz, hTI, ⟨x0, y0, hTO⟩, h1, h2⟩ := st
    have hlt : n0 + 8 < s.heap.objs.size := Heap.lt_size hz
    obtain ⟨xs, ys, zs, x, y, z, hqx, hqy, hqz, hx, hy, hz2⟩ := hg
    have hh : X.A.in1.handled = none := I.ok.hd hc
    obtain ⟨fp1, P1, St1, D1, s1, r1, k1, m1, c1⟩ := Src.draw (prog := X.prog) (w := X.w) (n0 := n0) hh I hqx h1 b1 (by omega)
    obtain ⟨its, rv, p, _⟩ := I.tuple hqy
    obtain ⟨its2, rv2, p2, _⟩ := I.tuple hqz
    obtain ⟨u, hu, ru⟩ := rv.get hy
    obtain ⟨u2, hu2, ru2⟩ := rv2.get hz2
    have hT : s.TypeIs (.ref (n0 + 8)) "zip" := ⟨_, hz, rfl⟩
    unfold pyNext
    refine wpAny_bind (wpAny_attempt (wpAny_callSpecial?_slot (name := Str.ofString "__next__") hT F.slot_zip_next (wpAny_call_entry F.slot_zip_next hT F.entry_zip_next ?_ (F.args_zip_next_1 _))))
    refine nextSS (y := u) (z := u2) D1 c1 m1 ha hb hz hTI hTO s1 (List.getElem?_eq_some_iff.mp hx).1 h2 p p2 (by simpa using hu) (by simpa using hu2) fun u1 g h' tk q1 kk1 hP z' TO' s1' t' kk2 TI' hT' => wpAny_pure ?_
    obtain ⟨x', hx', ru0⟩ := r1 _ _ q1
    rw [hx] at hx'; cases hx'
    have lt1 : s.heap.objs.size < g.objs.size := Heap.lt_size hP
    refine ⟨_, rfl, wpAny_letOwnedTupleGo_zip (s := { s with heap := h', toks := tk }) z' fun h'' z'' sb => ?_⟩
    have new1 : ObjOk X.prog X.w (upd H s.heap.objs.size (.tup [y, z])) g s.heap.objs.size (.tup [y, z]) := ⟨by show 2 ≤ sizeLine; decide, [u, u2], .cons ru (.cons ru2 .nil), ⟨_, hP, rfl, _, rfl⟩⟩
    have I1 : Inv X pins σ (upd H s.heap.objs.size (.tup [y, z])) { s with heap := g, toks := tk } := I.turnedNew (t' := tk) (ch := outs n0) (fun c o hb q => kk1 c o hb q) hf (Nat.le_refl _) new1
    have hf1 : ∀ c ∈ outs n0, FpOk X pins (upd H s.heap.objs.size (.tup [y, z])) c := fun c hcm => by
      have h9 := in9 hcm
      refine ⟨?_, (hf c hcm).2⟩
      rw [upd_ne (ne_ (by omega))]
      exact (hf c hcm).1
    have hT2 : h''.get? g.objs.size = some { cls := .type "tuple", data := .seq #[u1, .ref s.heap.objs.size] } := (sb.2 _ (ne_ (by omega))).trans hT'
    have new2 : ObjOk X.prog X.w (upd (upd H s.heap.objs.size (.tup [y, z])) g.objs.size (.tup [x, .ref s.heap.objs.size])) h'' g.objs.size (.tup [x, .ref s.heap.objs.size]) :=
      ⟨by show 2 ≤ sizeLine; decide, [u1, .ref s.heap.objs.size], .cons ru0 (.cons rfl .nil), ⟨_, hT2, rfl, _, rfl⟩⟩
    have I2 : Inv X pins σ (upd (upd H s.heap.objs.size (.tup [y, z])) g.objs.size (.tup [x, .ref s.heap.objs.size])) { s with heap := h'', toks := tk } :=
      I1.turnedNew (t' := tk) (ch := outs n0) (fun c o hb q => (sb.2 c (notout hb).1).trans (kk2 c o hb q)) hf1 (Nat.le_refl _) new2
    refine ⟨.ref g.objs.size, _, I2, rfl, ⟨s.heap.objs.size, g.objs.size, x, y, z, I.hok.fresh (Nat.le_refl _), I.hok.fresh (Nat.le_of_lt lt1), Nat.ne_of_lt lt1, rfl, rfl, fun l hl => by rw [Src.inj I hl hqx]; exact hx, fun l hl => by rw [I.tuple_inj hl hqy]; exact hy, fun l hl => by rw [I.tuple_inj hl hqz]; exact hz2⟩, ⟨z'', ?_, ?_, ?_, ?_⟩, fun c hcm => ?_⟩
    · exact (sb.2 _ (ne_ (by omega))).trans TI'
    · obtain ⟨d1, d2, q⟩ := TO'
      exact ⟨d1, d2, (sb.2 _ (ne_ (by omega))).trans q⟩
    · exact Src.keep (k1 _ _ s1') fun o q => (sb.2 _ (ne_ (by omega))).trans q
    · refine AtN.keep t' fun c hcc o q => (sb.2 c fun e => ?_).trans q
      have h5 := ge5 hcc
      rw [e] at h5
      omega
    · have h9 := in9 hcm
      rw [upd_ne (ne_ (by omega)), upd_ne (ne_ (by omega))]
      exact (hf c hcm).1
  done := by
    intro X hP hw hK hc i pins s σ H E I hf st hg
    subst hP hw hK
    obtain ⟨hz, hTI, ⟨x0, y0, hTO⟩, h1, h2⟩ := st
    obtain ⟨xs, ys, zs, hqx, hqy, hqz, hend⟩ := hg
    have hh : X.A.in1.handled = none := I.ok.hd hc
    obtain ⟨fp1, P1, St1, D1, s1, r1, k1, m1, c1⟩ := Src.draw (prog := X.prog) (w := X.w) (n0 := n0) hh I hqx h1 b1 (by omega)
    obtain ⟨its, rv, p, _⟩ := I.tuple hqy
    obtain ⟨its2, rv2, p2, _⟩ := I.tuple hqz
    have l1 := rv.length
    have l2 := rv2.length
    have hT : s.TypeIs (.ref (n0 + 8)) "zip" := ⟨_, hz, rfl⟩
    unfold pyNext
    refine wpAny_bind (wpAny_attempt (wpAny_callSpecial?_slot (name := Str.ofString "__next__") hT F.slot_zip_next (wpAny_call_entry F.slot_zip_next hT F.entry_zip_next ?_ (F.args_zip_next_1 _))))
    refine endSS hh D1 c1 ha hb hz hTI hTO s1 (by omega) h2 p p2 ?_ fun h' tk e hk he => ?_
    · have : i = xs.length ∨ ys.length ≤ i ∨ zs.length ≤ i := by omega
      rcases this with q | q | q
      · exact .inl q
      · exact .inr (.inl (by simp; omega))
      · exact .inr (.inr (by simp; omega))
    · obtain ⟨o, ho, hcl⟩ := he
      refine wpAny_bind (wpAny_isInstance (T := "StopIteration") (b := true) ⟨o, ho, hcl⟩ isSubtype_stop ?_)
      exact wpAny_pure ⟨rfl, I.turnedL (t' := tk) (ch := outs n0) (fun c o hb q => hk c o hb q) hf⟩
  self := fun A i s Q E st h => wpAny_pyIter_zip st.1 h
end PLz

set_option Elab.async false
set_option linter.all false
set_option maxRecDepth 100000
/-! PX, part 8: the same, made and walked. -/
namespace PLz
open PySem PySem.Spec L2
open PyProof.Rows
open AutoSeq1 (wpAny_loadPart')
abbrev bzT (h : Heap) (o1 : Obj) (z : Addr) : Heap := (h.push o1).push { cls := .type "tuple", data := .seq #[.ref h.objs.size, .ref z] }
abbrev bzO (h : Heap) (o1 : Obj) (z : Addr) : Heap := (bzT h o1 z).push { cls := .type "tuple", data := .seq #[.none, .none] }
abbrev bzZ (h : Heap) (o1 : Obj) (z : Addr) : Heap := (bzO h o1 z).push { cls := .type "zip", data := .fields #[.none, .bool false, .bool false, .ref (h.push o1).objs.size, .ref (bzT h o1 z).objs.size] }
theorem meets_zip_newBZ {v1 : Value} {o1 : Obj} {H1 : Heap → Prop} {z TI TO : Addr} (B1 : Begins v1 o1 H1) :
    Meets (Builtin.«zip.__new__» ⟨[.type "zip", v1, .ref z], []⟩) (fun _ R s => (H1 s.heap ∧ IsZip s.heap z TI TO .none) ∧
      R (.ok (.ret (.ref (bzO s.heap o1 z).objs.size))) { s with heap := bzZ s.heap o1 z }) :=
  .of_wp fun prog w A R s h => by
    obtain ⟨hp, g, d, tk, os⟩ := s; obtain ⟨⟨h1, h2⟩, h⟩ := h
    have hsub := sub_zip
    have q1 : ∀ {A' : Around} {E : Value → Shared → Prop} {Q : Value → Shared → Prop}, Q (.ref hp.objs.size) ⟨(hp.push o1), g, d, tk, os⟩ → wpAny (model prog w) A' (pyIter v1) Q E ⟨hp, g, d, tk, os⟩ :=
      fun q => B1.iter prog w _ _ ⟨hp, g, d, tk, os⟩ _ (B1.keeps _ _ h1 fun b o' e => e) q
    have q2 : ∀ {A' : Around} {E : Value → Shared → Prop} {Q : Value → Shared → Prop}, Q (.ref z) ⟨(hp.push o1), g, d, tk, os⟩ → wpAny (model prog w) A' (pyIter (.ref z)) Q E ⟨(hp.push o1), g, d, tk, os⟩ :=
      fun q => wpAny_pyIter_zip (s := ⟨(hp.push o1), g, d, tk, os⟩) (Heap.get?_push_of_some _ h2) q
    wp_walk using q1, q2
    exact ⟨_, rfl, h⟩
section
variable {prog : Program} {w : World} {A : Around} {E : Value → Shared → Prop} {s : Shared}
theorem zip_beginsZ {v1 : Value} {o1 : Obj} {H1 : Heap → Prop} {z TI TO n : Nat} {Q : Value → Shared → Prop} (B1 : Begins v1 o1 H1) (h1 : H1 s.heap) (h2 : IsZip s.heap z TI TO .none) (hn : s.heap.objs.size = n)
    (h : ∀ h', IsZip h' (n + 3) (n + 1) (n + 2) .none → IsTupOf2 h' (n + 1) (.ref n) (.ref z) → IsTupOf2 h' (n + 2) .none .none → h'.get? n = some o1 → (∀ c o, s.heap.get? c = some o → h'.get? c = some o) → Q (.ref (n + 3)) { s with heap := h' }) :
    wpAny (model prog w) A (call (.type "zip") [v1, .ref z]) Q E s := by
  refine callType_new F.called_zip (by decide) (F.typeCall_zip_2 _ _) (F.newCall_zip_2 _ _) (fun obj => F.args_object_init_3 obj _ _) F.entry_zip_new
    (meets_zip_newBZ B1) ⟨⟨h1, h2⟩, ?_⟩
  have z1 : (s.heap.push o1).objs.size = n + 1 := by rw [Heap.size_push, hn]
  have zT : (bzT s.heap o1 z).objs.size = n + 2 := by rw [Heap.size_push, z1]
  have zO : (bzO s.heap o1 z).objs.size = n + 3 := by rw [Heap.size_push, zT]
  have gZ : (bzZ s.heap o1 z).get? (bzO s.heap o1 z).objs.size = some { cls := .type "zip", data := .fields #[.none, .bool false, .bool false, .ref (s.heap.push o1).objs.size, .ref (bzT s.heap o1 z).objs.size] } := Heap.get?_push_size _ rfl
  have gO : (bzZ s.heap o1 z).get? (bzT s.heap o1 z).objs.size = some { cls := .type "tuple", data := .seq #[.none, .none] } := Heap.get?_push_of_some _ (Heap.get?_push_size _ rfl)
  have gT : (bzZ s.heap o1 z).get? (s.heap.push o1).objs.size = some { cls := .type "tuple", data := .seq #[.ref s.heap.objs.size, .ref z] } := Heap.get?_push_of_some _ (Heap.get?_push_of_some _ (Heap.get?_push_size _ rfl))
  have g1 : (bzZ s.heap o1 z).get? s.heap.objs.size = some o1 := Heap.get?_push_of_some _ (Heap.get?_push_of_some _ (Heap.get?_push_of_some _ (Heap.get?_push_size _ B1.free)))
  rw [zO, zT, z1] at gZ
  rw [zT] at gO
  rw [z1, hn] at gT
  rw [hn] at g1
  show _ ∧ _
  rw [zO]
  exact ⟨⟨_, gZ, rfl⟩, h _ gZ gT gO g1 fun c o e => Heap.get?_push_of_some _ (Heap.get?_push_of_some _ (Heap.get?_push_of_some _ (Heap.get?_push_of_some _ e)))⟩
end
theorem pi_zipSS {X : Cx} {e e2 e3 : Expr} {te : TE} {ta : TA} {p p2 pos pos2 tpos : Pos} {elts : List Expr} {kk : Nat} (hg : Gl X "zip") (hm : X.mg "zip" = none) (he : PE X e te) (ha : PA X [e2, e3] ta)
    (hs : starEach [e2, e3] X.env = (false, eval e2 X.env) :: starEach [e3] X.env := by rfl) (hpl : (backTo pos2 (starEach [e3] X.env)).any (·.1) = false := by rfl)
    (hs1 : starEach [e, .Call (.Name "zip" p2) [e2, e3] [] pos2] X.env = (false, eval e X.env) :: starEach [.Call (.Name "zip" p2) [e2, e3] [] pos2] X.env := by rfl)
    (hs2 : starEach [.Call (.Name "zip" p2) [e2, e3] [] pos2] X.env = (false, eval (.Call (.Name "zip" p2) [e2, e3] [] pos2) X.env) :: starEach [] X.env := by rfl) (hpl1 : (backTo pos (starEach [.Call (.Name "zip" p2) [e2, e3] [] pos2] X.env)).any (·.1) = false := by rfl) :
    PI X (.Tuple elts kk tpos) (.Call (.Name "zip" p) [e, .Call (.Name "zip" p2) [e2, e3] [] pos2] [] pos)
      (fun σ H R => te σ H fun x H0 => ta σ H0 fun vs H1 => ∃ S1 a b xs ys zs, x = Src.v S1 ∧ vs = [.ref a, .ref b] ∧ S1.has X.K H1 xs ∧ SqT X.K H1 a ys ∧ SqT X.K H1 b zs ∧ R (ItSS X.K S1 a b) H1) := by
  refine ⟨fun pins s σ H R I h => Call_ (ld_blt I hg hm boot_zip (callWith_type1 ?_ hs1 hpl1))⟩
  rw [hs1, hs2]
  refine Calls.spliced_cons (thn (he.run pins s σ H _ I h) fun u0 s0 ⟨x, H0, I0, r0, q0⟩ => ?_)
  refine Calls.spliced_cons (Call_ (ld_blt I0 hg hm boot_zip (callWith_type1 (thn (ha.run pos2 pins s0 σ H0 _ I0 q0) fun us s1 ⟨vs, H1, I1, r1, S1, a, b, xs, ys, zs, ex, ev, hqx, hqy, hqz, q⟩ => ?_) hs hpl)))
  subst ex ev
  cases r1 with
  | cons r rr =>
    cases rr with
    | cons r' rr =>
      cases rr
      cases r
      cases r'
      obtain ⟨its, rv, p1, _⟩ := I1.tuple hqy
      obtain ⟨its2, rv2, p2, _⟩ := I1.tuple hqz
      obtain ⟨oa, hoa, _⟩ := id p1
      obtain ⟨ob, hob, _⟩ := id p2
      have la := Heap.lt_size hoa
      have lb := Heap.lt_size hob
      refine RZ.call_zipT (show s1.heap.IsTuple a its.toArray from p1) (show s1.heap.IsTuple b its2.toArray from p2) fun h' hz hTI hTO h1 h2 hsz hk => Calls.spliced_nil ?_
      have I2 : Inv X pins σ H1 { s1 with heap := h' } := I1.kept (t' := s1.toks) hk
      obtain ⟨o1, H1', B1, g1, t1, _⟩ := Src.begins I2 hqx r0
      have l1 : S1.below s1.heap.objs.size := by
        obtain ⟨_, _, _, _, _, l⟩ := Src.begins (S := S1) (u := u0) I1 hqx r0
        exact l
      refine zip_beginsZ (s := { s1 with heap := h' }) B1 g1 hz hsz fun h2' hz2 hTI2 hTO2 e1 hk2 => wpAny_pyIter_zip hz2 ?_
      refine ⟨s1.heap.objs.size + 8, outs s1.heap.objs.size, _, _, H1, rfl, I2.kept (t' := s1.toks) hk2, turnSS l1 la lb, ⟨hz2, hTI2, ⟨_, _, hTO2⟩, t1 _ _ e1, ⟨.inl (hk2 _ _ hz), hk2 _ _ hTI, ⟨_, _, hk2 _ _ hTO⟩, h1.at fun o e => hk2 _ o e, h2.at fun o e => hk2 _ o e⟩⟩, fun c hc => far5 (n := s1.heap.objs.size) I1 (Nat.le_refl _) c (in9 hc).1, q⟩
end PLz
namespace PL
open PySem PySem.Spec L2
variable [Consts]
section
variable {X : Cx} {B : Box} {e e2 e3 : Expr} {te : QE} {ta : QA} {p p2 pos pos2 tpos : Pos} {elts : List Expr} {kk : Nat}
def zip3D (as bs cs : List D) : List D := zipD as (zipD bs cs)
def iZSS (te : QE) (ta : QA) (ρ : Env) (Q : List PyData → Env → Prop) : Prop := te ρ fun r ρ1 => match r with
  | .d a => ta ρ1 fun ws ρ' => match wsD ws, itemsD a with
    | some [.tuple bs, .tuple cs], some as => Q (zipD as (zipD bs cs)) ρ'
    | _, _ => False
  | _ => False
theorem i_zipSS (hg : Gl X "zip") (hm : X.mg "zip" = none) (he : PE X e (lift X.K B te)) (ha : PA X [e2, e3] (liftA X.K B ta))
    (hs : starEach [e2, e3] X.env = (false, eval e2 X.env) :: starEach [e3] X.env := by rfl) (hpl : (backTo pos2 (starEach [e3] X.env)).any (·.1) = false := by rfl)
    (hs1 : starEach [e, .Call (.Name "zip" p2) [e2, e3] [] pos2] X.env = (false, eval e X.env) :: starEach [.Call (.Name "zip" p2) [e2, e3] [] pos2] X.env := by rfl)
    (hs2 : starEach [.Call (.Name "zip" p2) [e2, e3] [] pos2] X.env = (false, eval (.Call (.Name "zip" p2) [e2, e3] [] pos2) X.env) :: starEach [] X.env := by rfl) (hpl1 : (backTo pos (starEach [.Call (.Name "zip" p2) [e2, e3] [] pos2] X.env)).any (·.1) = false := by rfl) :
    PI X (.Tuple elts kk tpos) (.Call (.Name "zip" p) [e, .Call (.Name "zip" p2) [e2, e3] [] pos2] [] pos) (liftI X.K B (iZSS te ta)) :=
  weakI (PLz.pi_zipSS hg hm he ha hs hpl hs1 hs2 hpl1) fun σ H R ⟨G, F, ρ, P, k, h, q⟩ => lift_use k h fun r ρ1 v H1 F1 h1 k1 w1 e1 => by
    split at h1
    · rename_i a
      refine liftA_use k1 h1 fun ws ρ' vs H' F' p k' w e => ?_
      split at p
      · rename_i bs cs as g ga
        obtain ⟨x, y, rfl, r1, r2⟩ := (wsD_ok w g).two
        obtain ⟨S1, xs, rfl, hx, rx⟩ := src_of k'.2.f (Rp.mono e w1) ga
        cases r1 with
        | tup ha r1 =>
          cases r2 with
          | tup hb r2 =>
            have l0 := rx.length
            have l1 := r1.length
            have l2 := r2.length
            refine ⟨S1, _, _, xs, _, _, rfl, rfl, hx _ k'.2.f, same_t k'.2.f ha, same_t k'.2.f hb, q _ _ _ _ _ p k' (e1.trans e) ⟨fun i H hi s => ?_, fun H s => ⟨xs, _, _, hx H s, same_t s ha, same_t s hb, by rw [zipD_len, zipD_len, l0, l1, l2]⟩, fun i H v H' hi s ⟨p, q, x, y, z, e1, e2, e3, e4, e5, e6, e7, e8⟩ => ?_⟩⟩
            · rw [zipD_len, zipD_len] at hi
              exact ⟨xs, _, _, _, _, _, hx H s, same_t s ha, same_t s hb, List.getElem?_eq_getElem (by omega), List.getElem?_eq_getElem (by omega), List.getElem?_eq_getElem (by omega)⟩
            · obtain ⟨d, hd, rd⟩ := rx.getV (e6 xs (hx H s))
              obtain ⟨d1, hd1, rd1⟩ := r1.getV (e7 _ (same_t s ha))
              obtain ⟨d2, hd2, rd2⟩ := r2.getV (e8 _ (same_t s hb))
              exact ⟨_, zipD_get hd (zipD_get hd1 hd2), .inr (.inr ⟨p, q, x, d, _, [d1, d2], e1, e2, e3, e4, rfl, e5, .cons rd1 (.one rd2), rd⟩)⟩
      · exact p.elim
    · exact h1.elim
end
end PL

set_option Elab.async false
set_option linter.all false
set_option maxRecDepth 100000
/-! PJ, part 1: great numbers; sum, max; gcd, lcm; d.update(..); frozen dicts read. -/
namespace PL
open PySem PySem.Spec L2
open PyProof.Rows
variable [Consts]
/-- below 2 ^ 8990 -/
def Big (i : Int) : Prop := i.natAbs.log2 < 8990
def Bd (k : Nat) (i : Int) : Prop := i.natAbs < 2 ^ k
theorem Bd.mono {j k : Nat} {i : Int} (h : Bd j i) (e : j ≤ k) : Bd k i := Nat.lt_of_lt_of_le h (Nat.pow_le_pow_right (by decide) e)
theorem Bd.big {k : Nat} {i : Int} (h : Bd k i) (e : k ≤ 8990) : Big i := by
  by_cases z : i.natAbs = 0
  · unfold Big; rw [z, Nat.log2_zero]; decide
  · unfold Big
    exact Nat.lt_of_lt_of_le ((Nat.log2_lt z).mpr h) e
theorem Bd.mul {j k : Nat} {a b : Int} (h : Bd j a) (g : Bd k b) : Bd (j + k) (a * b) := by
  unfold Bd
  rw [Int.natAbs_mul, Nat.pow_add]
  exact Nat.mul_lt_mul'' h g
theorem Bd.le {k : Nat} {a b : Int} (h : Bd k b) (h0 : 0 ≤ a) (e : a ≤ b) : Bd k a := Nat.lt_of_le_of_lt (by omega) h
theorem Bd.nat {k n : Nat} (h : n < 2 ^ k) : Bd k ((n : Nat) : Int) := h
theorem Bd.dvd {k : Nat} {a b : Int} (h : Bd k b) (e : a ∣ b) (hb : b ≠ 0) : Bd k a :=
  Nat.lt_of_le_of_lt (Nat.le_of_dvd (by omega) (Int.natAbs_dvd_natAbs.mpr e)) h
section
variable {X : Cx}
theorem op_fdivB : OpR X (binaryOp .FloorDiv) (rI (fun _ j => j ≠ 0 ∧ Big j) fun i j => .int (i.fdiv j)) := opI fun _ _ _ _ _ _ _ hc q => floordiv_int hc.1 q (.inl (PyProof.noPylong_of_log2 (by have := hc.2; unfold Big at this; omega)))
theorem op_mulB : OpR X (binaryOp .Mult) (rI (fun i j => Big i ∧ Big j) fun i j => .int (i * j)) := opI fun i j _ _ _ _ _ hc q => mul_int q (CMulW.ok (by
  have h1 : i.natAbs.log2 < 8990 := hc.1
  have h2 : j.natAbs.log2 < 8990 := hc.2
  unfold CMulW
  omega))
end
section
variable {K : PySem.W.Frag} {B : Box}
abbrev pFdivB := pI (fun _ j => j ≠ 0 ∧ Big j) fun i j => i.fdiv j
theorem o_fdivB : OpD K B (rI (fun _ j => j ≠ 0 ∧ Big j) fun i j => .int (i.fdiv j)) pFdivB := o_I
def rMulB (K : PySem.W.Frag) : R2 := fun x y H Q => rI (fun i j => Big i ∧ Big j) (fun i j => .int (i * j)) x y H Q ∨ rMulP K x y H Q
theorem op_mulBP {X : Cx} : OpR X (binaryOp .Mult) (rMulB X.K) := op_mulB.or op_mulP
def pMulB : D → D → (T → Prop) → Prop
  | .int i, .int j, Q => (Big i ∧ Big j) ∧ Q (.d (.int (i * j)))
  | .str a, .int n, Q => pMul (.str a) (.int n) Q
  | .tuple a, .int n, Q => pMul (.tuple a) (.int n) Q
  | .list a, .int n, Q => pMul (.list a) (.int n) Q
  | _, _, _ => False
theorem o_mulB : OpD K B (rMulB K) pMulB := by
  intro G F H σ ρ P Q d1 d2 v1 v2 k r1 r2 h q
  unfold pMulB at h
  split at h
  · exact .inl ⟨_, _, r1.int, r2.int, h.1, q _ _ _ _ h.2 (k.d (.int _)) (Same.refl F)⟩
  · exact .inr (o_mul _ _ _ _ _ _ _ _ _ _ _ k r1 r2 h q)
  · exact .inr (o_mul _ _ _ _ _ _ _ _ _ _ _ k r1 r2 h q)
  · exact .inr (o_mul _ _ _ _ _ _ _ _ _ _ _ k r1 r2 h q)
  · exact h.elim
/-! ### sum, max -/
def rSumB (K : PySem.W.Frag) : List V → Hp → VK → Prop := fun vs H Q => ∃ (a : Addr) (ns : List Int), vs = [V.ref a] ∧ (SqL K H a (ns.map V.int) ∨ SqT K H a (ns.map V.int)) ∧ Q (.int ns.sum) H
theorem cr_sumB {X : Cx} (hc : X.calm = true) : CallR X (.builtin "sum") (rSumB X.K) := by
  intro pins s σ H vs us Q I r h
  obtain ⟨a, ns, rfl, hs, q⟩ := h
  rcases hs with hs | hs
  · exact cr_sum hc pins s σ H _ us Q I r ⟨a, ns, rfl, hs, q⟩
  · obtain ⟨its, rv, ht, _⟩ := I.tuple hs
    rw [Vals.ref1 r]
    have hi := rv.ints
    obtain ⟨xs, e⟩ := hi.allInts.items
    have hn : numsOf (intItems xs).toList = ns := by rw [← e]; exact hi.numsOf
    rw [nums_intItems] at hn
    have hT : s.heap.IsTuple a its.toArray := by
      obtain ⟨o, ho, hc', n, hd⟩ := ht
      exact ⟨o, ho, hc', n, hd⟩
    rw [e] at hT
    refine PySem.W.ktm_sumG (I.ok.hd hc) hT fun h' tk t' hk => ?_
    have : Q (.int (preSum (numAt xs) xs.size)) H := by
      rw [preSum_eq, List.take_of_length_le (by simp), hn]; exact q
    exact ⟨.int _, H, I.kept hk, ⟨_, rfl⟩, this⟩
def intsD : List D → Option (List Int)
  | [] => some []
  | .int i :: ds => (intsD ds).map (i :: ·)
  | _ :: _ => none
theorem intsD_eq : ∀ {ds : List D} {ns : List Int}, intsD ds = some ns → ds = ns.map .int
  | [], ns, e => by
    obtain rfl : [] = ns := by simpa [intsD] using e
    rfl
  | .int i :: ds, ns, e => by
    simp only [intsD, Option.map_eq_some_iff] at e
    obtain ⟨l, h, rfl⟩ := e
    rw [intsD_eq h]
    rfl
  | .none :: _, _, e | .bool _ :: _, _, e | .str _ :: _, _, e | .list _ :: _, _, e | .tuple _ :: _, _, e | .dict _ :: _, _, e => by simp [intsD] at e
theorem intsD_map : ∀ ns : List Int, intsD (ns.map .int) = some ns
  | [] => rfl
  | i :: ns => by simp [intsD, intsD_map ns]
def pSum : List D → (T → Prop) → Prop
  | [.list ds], Q => match intsD ds with
    | some ns => Q (.d (.int ns.sum))
    | none => False
  | [.tuple ds], Q => match intsD ds with
    | some ns => Q (.d (.int ns.sum))
    | none => False
  | _, _ => False
theorem c_sum : CallD K B (rSumB K) pSum := by
  intro G F H σ ρ P Q ds vs k r h q
  unfold pSum at h
  split at h
  · obtain ⟨x, rfl, r1⟩ := r.single
    split at h
    · rename_i ns e
      obtain rfl := intsD_eq e
      obtain ⟨a, xs, rfl, s1, t1⟩ := r1.lst k.2.f
      rw [t1.ints] at s1
      exact ⟨a, ns, rfl, .inl (.inl (.inl s1)), q _ _ _ _ h (k.d (.int _)) (Same.refl F)⟩
    · exact h.elim
  · obtain ⟨x, rfl, r1⟩ := r.single
    split at h
    · rename_i ns e
      obtain rfl := intsD_eq e
      obtain ⟨a, xs, rfl, s1, t1⟩ := r1.tup
      rw [t1.ints] at s1
      exact ⟨a, ns, rfl, .inr (same_t k.2.f s1), q _ _ _ _ h (k.d (.int _)) (Same.refl F)⟩
    · exact h.elim
  · exact h.elim
/-- max of a list of ints -/
def pMaxL : List D → (T → Prop) → Prop
  | [.list ds], Q => match intsD ds with
    | some ns => 0 < ns.length ∧ ∀ m, m ∈ ns → (∀ y, y ∈ ns → y ≤ m) → Q (.d (.int m))
    | none => False
  | _, _ => False
theorem c_maxL : CallD K B (rMax K) pMaxL := by
  intro G F H σ ρ P Q ds vs k r h q
  unfold pMaxL at h
  split at h
  · obtain ⟨x, rfl, r1⟩ := r.single
    split at h
    · rename_i ns e
      obtain rfl := intsD_eq e
      obtain ⟨a, xs, rfl, s1, t1⟩ := r1.lst k.2.f
      rw [t1.ints] at s1
      exact ⟨a, ns, rfl, .inl (.inl s1), h.1, fun m h1 h2 => q _ _ _ _ (h.2 m h1 h2) (k.d (.int _)) (Same.refl F)⟩
    · exact h.elim
  · exact h.elim
/-! ### gcd, lcm -/
def pGcd : List D → (T → Prop) → Prop
  | [.int i, .int j], Q => Q (.d (.int ((Nat.gcd i.natAbs j.natAbs : Nat) : Int)))
  | _, _ => False
theorem c_gcd : CallD K B rGcd pGcd := by
  intro G F H σ ρ P Q ds vs k r h q
  unfold pGcd at h
  split at h
  · obtain ⟨x, y, rfl, r1, r2⟩ := r.two
    exact ⟨_, _, by rw [r1.int, r2.int], q _ _ _ _ h (k.d (.int _)) (Same.refl F)⟩
  · exact h.elim
def rLcm : List V → Hp → VK → Prop := fun vs H Q => ∃ a b : Int, vs = [.int a, .int b] ∧ (Big a ∧ Big b) ∧ Q (.int ((Nat.lcm a.natAbs b.natAbs : Nat) : Int)) H
theorem cr_lcm {X : Cx} : CallR X (.builtin "math.lcm") rLcm := by
  intro pins s σ H vs us Q I r h
  obtain ⟨a, b, rfl, ⟨ha, hb⟩, q⟩ := h
  obtain ⟨t, u, rfl⟩ := Vals.int2 r
  unfold Big at ha hb
  have lg : ∀ {n k : Nat}, n.log2 < k → n < 2 ^ k := fun {n k} h => by
    by_cases e : n = 0
    · subst e; exact Nat.two_pow_pos _
    · exact (Nat.log2_lt e).mp h
  have ll : ∀ {n k : Nat}, n < 2 ^ k → 0 < k → n.log2 < k := fun {n k} h h0 => by
    by_cases e : n = 0
    · subst e; rw [Nat.log2_zero]; exact h0
    · exact (Nat.log2_lt e).mpr h
  have a1 := lg ha
  have b1 := lg hb
  have hm1 : (max 1 a.natAbs).log2 < 8990 := by
    rcases Nat.le_total 1 a.natAbs with h | h
    · rw [Nat.max_eq_right h]; exact ha
    · rw [Nat.max_eq_left h]; decide
  have hm2 : (max a.natAbs b.natAbs).log2 < 8990 := by
    rcases Nat.le_total a.natAbs b.natAbs with h | h
    · rw [Nat.max_eq_right h]; exact hb
    · rw [Nat.max_eq_left h]; exact ha
  have hz : (a.natAbs.lcm b.natAbs).log2 < bitsLine := by
    have h1 : a.natAbs.lcm b.natAbs < 2 ^ (8990 + 8990) := by
      rw [Nat.pow_add]
      exact Nat.lt_of_le_of_lt (PySem.W.mc_lcm_le _ _) (Nat.mul_lt_mul'' a1 b1)
    have h2 := ll h1 (by decide)
    have : bitsLine = 134217728 := by decide
    omega
  have g := PySem.W.mg_run_lcm a t b u (by omega) (by omega) (by rw [PySem.W.mc_lcm_one]; exact hz)
  rw [PySem.W.mc_lcm_one] at g
  exact call_function_meets PySem.W.MGF.kind_lcm PySem.W.MGF.plain_lcm PySem.W.MGF.entry_lcm (PySem.W.MGF.args_lcm _ _) g.meets ⟨.int _, H, I.tok _, ⟨_, rfl⟩, q⟩
def pLcm : List D → (T → Prop) → Prop
  | [.int i, .int j], Q => (Big i ∧ Big j) ∧ Q (.d (.int ((Nat.lcm i.natAbs j.natAbs : Nat) : Int)))
  | _, _ => False
theorem c_lcm : CallD K B rLcm pLcm := by
  intro G F H σ ρ P Q ds vs k r h q
  unfold pLcm at h
  split at h
  · obtain ⟨x, y, rfl, r1, r2⟩ := r.two
    exact ⟨_, _, by rw [r1.int, r2.int], h.1, q _ _ _ _ h.2 (k.d (.int _)) (Same.refl F)⟩
  · exact h.elim
end
section
variable {X : Cx} {B : Box} {e : Expr} {es : List Expr} {t : QA} {pos : Pos} {rc : List V → Hp → VK → Prop} {pc : List D → (T → Prop) → Prop}
/-- f(..), f a module's name for a built-in function -/
theorem q_callG {x : Str} {p : Pos} {id : String} (hp : CallD X.K B rc pc) (hc : CallR X (.builtin id) rc) (hg : Gl X x) (hm : X.mg x = some (.builtin id)) (ha : PA X (e :: es) (liftA X.K B t)) (hdb : (x == ("__debug__" : Str)) = false := by decide)
    (he : starEach (e :: es) X.env = (false, eval e X.env) :: starEach es X.env := by rfl) (hpl : (backTo pos (starEach es X.env)).any (·.1) = false := by rfl) :
    PE X (.Call (.Name x p) (e :: es) [] pos) (lift X.K B (qCall pc t)) := weakE (pe_callBfun hc hg hm ha hdb he hpl) fun _ _ _ => lift_call hp
end
/-! ### frozen dicts -/
/-- the value at the key -/
def findK : List (D × D) → Key → Option D
  | [], _ => none
  | (x, y) :: r, k => if keyOf x = some k then some y else findK r k
theorem keyOf_keyD (k : Key) : keyOf (keyD k) = some k := by cases k <;> rfl
theorem findK_of {K : PySem.W.Frag} {F : Hp} {k : Key} : ∀ {kvs : List (Key × V)} {kds : List (Key × D)} {d : D}, RpKv K F kvs kds → findK (kds.map fun p => (keyD p.1, p.2)) k = some d → ∃ v, valV kvs k = some v ∧ Rp K F v d
  | _, _, d, .nil, e => by simp [findK] at e
  | _, _, d, .cons (k := k') (v := v) h r, e => by
    simp only [List.map_cons, findK, keyOf_keyD, Option.some.injEq] at e
    by_cases g : k' = k
    · subst g
      rw [if_pos rfl] at e
      cases e
      exact ⟨v, by simp [valV], h⟩
    · rw [if_neg g] at e
      obtain ⟨u, h1, h2⟩ := findK_of r e
      exact ⟨u, by simpa [valV, g] using h1, h2⟩
def qGetF (td ty : QE) (ρ : Env) (Q : T → Env → Prop) : Prop := td ρ fun r ρ1 => match r with
  | .d (.dict ps) => ty ρ1 fun n ρ2 => match n with
    | .d kd => match keyOf kd with
      | some k => match findK ps k with
        | some e => Q (.d e) ρ2
        | none => False
      | none => False
    | _ => False
  | _ => False
section
variable {X : Cx} {B : Box} {e o : Expr} {td ty : QE} {pos : Pos}
theorem keyOf_V {K : PySem.W.Frag} {F : Hp} {v : V} {d : D} {k : Key} (r : Rp K F v d) (e : keyOf d = some k) : v = kV k := by
  cases r <;> simp only [keyOf, Option.some.injEq, reduceCtorEq] at e <;> subst e <;> rfl
theorem q_getF (hu : X.A.units + 64 < cLine) (ho : PE X o (lift X.K B td)) (hi : PE X e (lift X.K B ty)) (hsl : NoSl e := by exact fun _ _ => rfl) :
    PE X (.Subscript o e pos) (lift X.K B (qGetF td ty)) :=
  weakE (pe_dget (Nat.lt_of_le_of_lt (by omega) hu) ho hi hsl) fun σ H Q ⟨G, F, ρ, P, k, h, q⟩ => by
    refine lift_use k h fun r ρ1 v H1 F1 h1 k1 w1 e1 => ?_
    split at h1
    · rename_i ps
      refine lift_use k1 h1 fun n ρ2 y H2 F2 h2 k2 w2 e2 => ?_
      split at h2
      · rename_i kd
        split at h2
        · rename_i kk gk
          split at h2
          · rename_i d gd
            obtain ⟨a, kvs, kds, rfl, f1, f2, f3⟩ : ∃ a kvs kds, v = .ref a ∧ F1 a = some (.dK kvs) ∧ RpKv X.K F1 kvs kds ∧ ps = kds.map fun p => (keyD p.1, p.2) := by
              cases w1 with
              | dic h g => exact ⟨_, _, _, rfl, h, g, rfl⟩
            subst f3
            obtain ⟨u, g1, g2⟩ := findK_of f2 gd
            refine ⟨a, u, rfl, ?_, q _ _ _ _ _ h2 (k2.d (g2.mono e2)) (e1.trans e2)⟩
            rw [keyOf_V w2 gk]
            exact .inl ⟨kvs, kk, .inl (k2.2.f _ _ (e2 _ _ f1)), rfl, g1.symm⟩
          · exact h2.elim
        · exact h2.elim
      · exact h2.elim
    · exact h1.elim
end
end PL

set_option Elab.async false
set_option linter.all false
set_option maxRecDepth 100000
/-! PJ, part 2: d.update(e), d a dict of one's own. -/
namespace PL
open PySem PySem.Spec L2
open PyProof.Rows
variable [Consts]
def rDUpd : V → List V → Hp → VK → Prop := fun x vs H Q => ∃ (a b : Addr) (kvs more : List (Key × V)), x = .ref a ∧ vs = [.ref b] ∧ a ≠ b ∧ H a = some (.dK kvs) ∧ H b = some (.dK more) ∧ kvs.length + more.length ≤ 1000 ∧ Q .non (upd H a (.dK (mergeK kvs more)))
theorem mt_update {X : Cx} : MtR X "dict.update" rDUpd := by
  intro pins s σ H x vs v us Q I rx rv h
  obtain ⟨a, b, kvs, more, ex, ev, ne, e1, e2, hl, q⟩ := h
  subst ex
  subst ev
  obtain rfl : v = Value.ref a := rx
  rw [Vals.ref1 rv]
  obtain ⟨z, hd, vs, rel, dd⟩ := dk_of I.hok e1
  obtain ⟨z2, hd2, vs2, rel2, dd2⟩ := dk_of I.hok e2
  have hz : vs.length + vs2.length ≤ sizeLine := by rw [← rel.length, ← rel2.length, sizeLine_eq]; omega
  refine call_meetsIn PySem.F.slot_dict_update dd.typeIs PySem.F.entry_dict_update (PySem.F.args_dict_update_2 _ _) (meets_dict_update (mixKind X.prog X.w) a b ne hd2) ⟨vs, vs2, dd, dd2, hz, fun h' dd' _ hs => ?_⟩
  have he : ∃ q, h'.get? a = some q := let ⟨q, _, _, hq, _⟩ := dd'; ⟨q, hq⟩
  have hlen : (mergeK kvs more).length ≤ sizeLine := by
    have := length_mergeK more kvs
    rw [sizeLine_eq]
    omega
  exact ⟨.non, _, d_write (t' := s.toks) I (by rw [e1]; exact True.intro) hs he (dk_new hlen hd (rel2.merge rel) dd'), rfl, q⟩
end PL
namespace PL
open PySem PySem.Spec L2
variable [Consts]
theorem keysP_map : ∀ kds : List (Key × D), keysP (kds.map fun p => (keyD p.1, p.2)) = some kds
  | [] => rfl
  | (k, d) :: r => by
    simp only [List.map_cons, keysP, keyOf_keyD, keysP_map r]
section
variable {X : Cx} {B : Box} {x : Str} {xp apos cpos : Pos} {e : Expr} {ta : QA}
def qUpdA (i : Nat) (ta : QA) (ρ : Env) (Q : T → Env → Prop) : Prop := (match ρ[i]? with
  | some (.k _) => True
  | _ => False) ∧ ta ρ fun ws ρ1 => match wsD ws, ρ1[i]? with
  | some [.dict ps], some (.k kds) => match keysP ps with
    | some more => kds.length + more.length ≤ 1000 ∧ Q (.d .none) (ρ1.set i (.k (mergeD kds more)))
    | none => False
  | _, _ => False
theorem lift_upd {K : PySem.W.Frag} {i : Nat} {σ : St} {H : Hp} {Q : VK} (h : lift K B (qUpdA i ta) σ H Q) : tBM K "dict" rDUpd (tVar i) (liftA K B ta) σ H Q := by
  obtain ⟨G, F, ρ, P, k, ⟨hi, h⟩, q⟩ := h
  split at hi
  · rename_i kds0 g0
    obtain ⟨a, kvs0, r1, r2⟩ : ∃ a kvs, σ[i]? = some (some (.ref a)) ∧ H a = some (.dK kvs) := by
      obtain ⟨fp, k'⟩ := k.2
      obtain ⟨a, kvs, h1, h2, h3, _⟩ := k'.own i _ g0
      exact ⟨a, kvs, join_get h1, h2⟩
    refine ⟨.ref a, r1, .inr (.inr (.inl ⟨rfl, .inl ⟨_, r2⟩⟩)), liftA_use k h fun ws ρ1 vs H1 F1 h1 k1 w1 e1 => ?_⟩
    split at h1
    · rename_i ps kds g1 g2
      split at h1
      · rename_i more g3
        obtain ⟨hl, h1⟩ := h1
        have w2 := wsD_ok w1 g1
        obtain ⟨b, mkv, rfl, f1, f2⟩ : ∃ b mkv, vs = [V.ref b] ∧ F1 b = some (.dK mkv) ∧ RpKv K F1 mkv more := by
          cases w2 with
          | cons w3 w4 =>
            cases w4
            generalize hp : (PyData.dict ps : D) = dd at w3
            cases w3 with
            | dic f g =>
              cases hp
              rw [keysP_map] at g3
              cases g3
              exact ⟨_, _, rfl, f, g⟩
            | _ => exact absurd hp (fun z => nomatch z)
        obtain ⟨a', kvs, h2, h3, h4, hFa⟩ : ∃ a' kvs, σ[i]? = some (some (.ref a')) ∧ H1 a' = some (.dK kvs) ∧ RpKv K F1 kvs kds ∧ F1 a' = none := by
          obtain ⟨fp, k'⟩ := k1.2
          obtain ⟨a', kvs, h1, h2, h3, h4⟩ := k'.own i _ g2
          exact ⟨a', kvs, join_get h1, h2, h3, (k'.out i a' ((h4 a').mpr rfl)).2⟩
        rw [r1] at h2
        cases h2
        have ne : a ≠ b := fun z => by subst z; rw [hFa] at f1; cases f1
        refine ⟨a, b, kvs, mkv, rfl, rfl, ne, h3, k1.2.f _ _ f1, by rw [(rk_of h4).length, (rk_of f2).length]; exact hl, ?_⟩
        have k2 : St0 K B G F1 (upd H1 a (.dK (mergeK kvs mkv))) σ (ρ1.set i (.k (mergeD kds more))) := by
          refine ⟨mem_set_still k1.1 trivial, k1.2.write (o := .dK kvs) g2 fun fp hq => ?_⟩
          obtain ⟨b', xs, e1', e2', q', hf⟩ := hq
          rw [get_join r1] at e1'
          cases e1'
          exact ⟨hf, _, _, get_join r1, upd_same, of_rk ((rk_of f2).merge (rk_of h4)), hf⟩
        exact q _ _ _ _ _ h1 (k2.d .non) e1
      · exact h1.elim
    · exact h1.elim
  · exact hi.elim
/-- d.update(e) -/
theorem q_upd (i : Nat) (he : PA X [e] (liftA X.K B ta)) (hN : X.N[i]? = some x := by rfl) (hv : Vis X.env.scope x := by first | exact Or.inl rfl | exact Or.inr (Or.inl rfl) | exact Or.inr (Or.inr rfl)) (hd : (x == ("__debug__" : Str)) = false := by decide)
    (hcd : (x == ("__classdict__" : Str)) = false := by decide) (hbase : attributeBase (.Name x xp) "update" X.env (eval (.Name x xp) X.env) = eval (.Name x xp) X.env := by rfl)
    (hfew : ((backTo cpos (starEach [e] X.env)).all (fun x => !x.1) && (backToKw cpos (keywordEach [] X.env)).all (fun x => x.1.isSome) && decide ([e].length + ([] : List Keyword).length + (if ([] : List Keyword).isEmpty then 0 else 1) < 30)) = true := by rfl)
    (hline : (apos.endLine == cpos.line) = true := by rfl) (hs : starEach [e] X.env = (false, eval e X.env) :: starEach [] X.env := by rfl) (hplain : (backTo cpos (starEach [] X.env)).any (·.1) = false := by rfl) :
    PE X (.Call (.Attribute (.Name x xp) "update" apos) [e] [] cpos) (lift X.K B (qUpdA i ta)) :=
  weakE (pe_bm PySem.F.plainAttrs_dict PySem.F.slot_dict_update PySem.F.type_dict_update mt_update (pe_var hN hv hd hcd) he hbase hfew hline hs hplain) fun _ _ _ => lift_upd
end
end PL

set_option Elab.async false
set_option linter.all false
set_option maxRecDepth 100000
/-! PJ, part 3: list(text). -/
namespace PL
open PySem PySem.Spec L2
variable [Consts]
def signsV (z : Str) : List V := z.cps.toList.map fun c => V.str ⟨#[c]⟩
def rLstS : List V → Hp → VK → Prop := fun xs H Q => ∃ z : Str, xs = [.str z] ∧ z.length ≤ sizeLine ∧ ∀ l, H l = none → Q (.ref l) (upd H l (.lst (signsV z)))
theorem vals_get : ∀ {xs : List V} {us : List Value}, xs.length = us.length → (∀ (i : Nat) (x : V) (u : Value), xs[i]? = some x → us[i]? = some u → RelV x u) → Vals xs us
  | [], [], _, _ => .nil
  | x :: xs, u :: us, hl, h => .cons (h 0 x u rfl rfl) (vals_get (by simpa using hl) fun i x u a b => h (i + 1) x u (by simpa using a) (by simpa using b))
theorem call_lstS {X : Cx} (hc : X.calm = true) : CallR X (.type "list") rLstS := by
  intro pins s σ H xs us Q I r h
  obtain ⟨z, rfl, hz, q⟩ := h
  obtain ⟨u, rfl, rx⟩ := vals1 r
  obtain ⟨t, rfl⟩ := rx
  refine PySem.call_list_str (hn := hz) (I.ok.hd hc) z t fun h' tk acc' c' hk hS' hacc => ?_
  have hv : Vals (signsV z) acc'.toList := vals_get (by simp [signsV, hacc.1]) fun i x u hx hu => by
    obtain ⟨c, t', hc, rfl⟩ := hacc.2 i u (by simpa using hu)
    simp only [signsV, List.getElem?_map, Option.map_eq_some_iff] at hx
    obtain ⟨c', h1, rfl⟩ := hx
    have : c' = c := by
      have e : z.cps[i]? = some c' := by simpa using h1
      rw [hc] at e
      exact (Option.some.inj e).symm
    subst this
    exact ⟨t', rfl⟩
  refine ⟨.ref s.heap.objs.size, _, I.laid (t' := tk) hk (Nat.le_refl _) (show ObjOk X.prog X.w _ h' _ (.lst (signsV z)) from ⟨by simp [signsV]; exact hz, acc'.toList, c', hv, by simpa using hS'⟩), rfl, q _ (I.hok.fresh (Nat.le_refl _))⟩
section
variable {K : PySem.W.Frag} {B : Box}
def pLstS : List D → (T → Prop) → Prop
  | [.str z], Q => z.length ≤ sizeLine ∧ Q (.l (signsD z))
  | _, _ => False
theorem rp_signs {F : Hp} : ∀ l : List Nat, RpAll K F (l.map fun c => V.str ⟨#[c]⟩) (l.map fun c => .str ⟨#[c]⟩)
  | [] => .nil
  | c :: l => .cons (.str _) (rp_signs l)
theorem c_lstS : CallD K B rLstS pLstS := by
  intro G F H σ ρ P Q ds vs k r h q
  unfold pLstS at h
  split at h
  · obtain ⟨x, rfl, r1⟩ := r.single
    refine ⟨_, by rw [r1.str], h.1, fun l hl => q _ _ _ _ h.2 (k.newL hl ?_) (Same.refl F)⟩
    exact rp_signs _
  · exact h.elim
end
end PL

set_option Elab.async false
set_option linter.all false
set_option maxRecDepth 100000
set_option exponentiation.threshold 3000
/-! PJ, part 4: [.. for c in a list of ints ..], told at the hand layer; data that repr can show, with longer ints. -/
namespace PL
open PySem PySem.Spec L2
variable [Consts]
theorem lcI {K : PySem.W.Frag} {wi : TI} {g : TG} {tt : TT} {te : TE} {vs : List Nat} {σ : L2.St} {H : Hp} {Q : VK} (ns : List Int)
    (hw : ∀ R : It → Hp → Prop, (∀ p H1, H1 p = some (.lst (ns.map V.int)) → Same H H1 → R (Itl K p) H1) → wi σ H R)
    (step : ∀ c ∈ ns, ∀ H2 (R : VK) (R0 : Hp → Prop), (∀ r : Int, R (.int r) H2) → R0 H2 → g (.int c) (wipe σ vs) H2 fun σ2 H3 => wipe σ2 vs = wipe σ vs ∧ tt σ2 H3 fun b H4 => if b = true then te σ2 H4 R else R0 H4)
    (hz : ns.length ≤ sizeLine)
    (fin : ∀ D H' (l : List Int), l.length ≤ ns.length → H D = none → H' D = some (.lst (l.map V.int)) → Same H H' → Q (.ref D) H') : tLc wi g tt te vs σ H Q := by
  refine hw _ fun p H1 hp s1 D hD => ?_
  have np : p ≠ D := fun e => by subst e; rw [hD] at hp; cases hp
  have hD0 : H D = none := s1.free hD
  refine ⟨fun i m Hx => i + m = ns.length ∧ ∃ l : List Int, l.length ≤ i ∧ Hx D = some (.lst (l.map V.int)) ∧ Hx p = some (.lst (ns.map V.int)) ∧ Same H Hx, ⟨ns.length, by omega, [], Nat.le_refl _, by rw [upd_same]; rfl, by rw [upd_ne np]; exact hp, s1.trans (same_upd hD)⟩, ?_⟩
  rintro i m Hx ⟨e, l, hl, h1, h2, h3⟩
  have q : SqL K Hx p (ns.map V.int) := .inl (.inl h2)
  by_cases hi : i < ns.length
  · refine .inr ⟨⟨_, V.int ns[i], q, by simp [hi]⟩, fun H' => i + 1 + (m - 1) = ns.length ∧ ∃ l : List Int, l.length ≤ i + 1 ∧ H' D = some (.lst (l.map V.int)) ∧ H' p = some (.lst (ns.map V.int)) ∧ Same H H', fun H' h => ⟨m - 1, by omega, h⟩, fun x H' y => ?_⟩
    obtain ⟨rfl, y⟩ := y
    have ex : x = V.int ns[i] := by
      have := y _ q
      rw [List.getElem?_map, List.getElem?_eq_getElem hi] at this
      exact (Option.some.inj this).symm
    subst ex
    refine step _ (List.getElem_mem hi) _ _ _ (fun r => ⟨_, h1, by rw [List.length_map]; omega, by omega, l ++ [r], by simp; omega, by rw [upd_same, List.map_append]; rfl, by rw [upd_ne np]; exact h2, fun b o e => ?_⟩) ⟨by omega, l, by omega, h1, h2, h3⟩
    rw [upd_ne (ne_of_none e hD0)]
    exact h3 b o e
  · have ei : i = ns.length := by omega
    exact .inl ⟨⟨_, q, by rw [List.length_map]; omega⟩, fin D Hx l (by omega) hD0 h1 h3⟩
/-! ### what repr can show -/
/-- data of a small depth and bulk, ints below 2 ^ 1920 -/
structure Sh (k n : Nat) (d : D) : Prop where
  lay : Lay k d
  show_ : d.showable = true
  short : d.intsShort 600 = true
  few : d.bulk ≤ n
theorem Sh.mono {k k' n n' : Nat} {d : D} (h : Sh k n d) (hk : k ≤ k') (hn : n ≤ n') : Sh k' n' d := ⟨h.lay.mono hk, h.show_, h.short, Nat.le_trans h.few hn⟩
theorem sh_int {k n : Nat} {i : Int} (h : i.natAbs < 2 ^ 1919) : Sh k n (.int i) := by
  refine ⟨lay_int _, ?_, ?_, by simp [PyData.bulk]⟩
  · have : i.natAbs.log2 < 1920 := by
      by_cases z : i.natAbs = 0
      · rw [z]; decide
      · exact (Nat.log2_lt z).mpr (Nat.lt_of_lt_of_le h (Nat.pow_le_pow_right (by decide) (by decide)))
    simpa [PyData.showable] using this
  · have h2 : i.natAbs < 10 ^ 599 := Nat.lt_of_lt_of_le h (by decide +kernel)
    have h3 : (PyData.shown (.int i)).length ≤ 600 := by
      have e := int_text_length_le10 (k := 599) (by decide) h2
      show (Str.ofString (toString i)).length ≤ 600
      rw [ofString_length]; exact e
    simpa only [PyData.intsShort, decide_eq_true_eq] using h3
theorem sh_nat {k n i : Nat} (h : i < 2 ^ 1919) : Sh k n (.int (i : Nat)) := sh_int h
theorem sh_bool {k n : Nat} {b : Bool} : Sh k n (.bool b) := ⟨lay_bool _, by simp [PyData.showable], by simp [PyData.intsShort], by simp [PyData.bulk]⟩
theorem sh_none {k n : Nat} : Sh k n .none := ⟨lay_none, by simp [PyData.showable], by simp [PyData.intsShort], by simp [PyData.bulk]⟩
theorem sh_str {k n : Nat} {x : Str} (h : PyData.strOk x = true) (hn : x.length ≤ n) : Sh k n (.str x) := ⟨lay_str h, by simp [PyData.showable], by simp [PyData.intsShort], by simp only [PyData.bulk]; exact hn⟩
theorem sh_all {k n : Nat} : ∀ {ds : List D}, (∀ d ∈ ds, Sh k n d) → PyData.showableAll ds = true ∧ PyData.intsShortAll 600 ds = true ∧ PyData.bulkAll ds ≤ ds.length * (n + 1)
  | [], _ => ⟨by simp [PyData.showableAll], by simp [PyData.intsShortAll], by simp [PyData.bulkAll]⟩
  | d :: ds, h => by
    obtain ⟨h1, h2, h3⟩ := sh_all fun e he => h e (List.mem_cons_of_mem _ he)
    have h4 := h d List.mem_cons_self
    have h5 := h4.few
    refine ⟨by simp [PyData.showableAll, h1, h4.show_], by simp [PyData.intsShortAll, h2, h4.short], ?_⟩
    simp only [PyData.bulkAll, List.length_cons, Nat.add_mul, Nat.one_mul]
    omega
theorem sh_list {k n m : Nat} {ds : List D} (h : ∀ d ∈ ds, Sh k n d) (hm : ds.length * (n + 1) ≤ m) : Sh (k + 1) m (.list ds) := by
  obtain ⟨h1, h2, h3⟩ := sh_all h
  exact ⟨lay_list fun d hd => (h d hd).lay, by simpa [PyData.showable] using h1, by simpa [PyData.intsShort] using h2, by simp only [PyData.bulk]; omega⟩
theorem sh_tup {k n m : Nat} {ds : List D} (h : ∀ d ∈ ds, Sh k n d) (hm : ds.length * (n + 1) ≤ m) : Sh (k + 1) m (.tuple ds) := by
  obtain ⟨h1, h2, h3⟩ := sh_all h
  exact ⟨lay_tup fun d hd => (h d hd).lay, by simpa [PyData.showable] using h1, by simpa [PyData.intsShort] using h2, by simp only [PyData.bulk]; omega⟩
theorem each1 {p : D → Prop} {a : D} (h1 : p a) : ∀ d ∈ [a], p d := fun d h => by
  simp at h
  rcases h with rfl
  assumption
theorem each2 {p : D → Prop} {a b : D} (h1 : p a) (h2 : p b) : ∀ d ∈ [a, b], p d := fun d h => by
  simp at h
  rcases h with rfl | rfl <;> assumption
theorem each3 {p : D → Prop} {a b c : D} (h1 : p a) (h2 : p b) (h3 : p c) : ∀ d ∈ [a, b, c], p d := fun d h => by
  simp at h
  rcases h with rfl | rfl | rfl <;> assumption
theorem each4 {p : D → Prop} {a b c e : D} (h1 : p a) (h2 : p b) (h3 : p c) (h4 : p e) : ∀ d ∈ [a, b, c, e], p d := fun d h => by
  simp at h
  rcases h with rfl | rfl | rfl | rfl <;> assumption
/-- repr of it -/
theorem sh_repr {k n u : Nat} {d : D} {Q : T → Prop} (h : Sh k n d) (hu : u + 64 < cLine) (q : Q (.d (.str d.shown))) (hk : k < 64 := by decide) (hn : n ≤ 20000 := by decide) : pRepr u [d] Q := by
  have := h.lay.2
  refine ⟨h.lay.nod, noDict_of d h.lay.1, h.show_, by omega, ?_, q⟩
  have h1 := PyData.shown_le_bulk 600 (by decide) d (PyData.leavesShort_of_canLay0 600 d h.lay.1 h.short)
  have h2 := h.few
  have h3 : (600 + 2) * d.bulk ≤ (600 + 2) * 20000 := Nat.mul_le_mul_left _ (by omega)
  rw [sizeLine_eq]
  omega
theorem sh_nats {k n : Nat} {ns : List Nat} (h : ∀ x ∈ ns, x < 1000000) : ∀ d ∈ nats ns, Sh k n d := fun d hd => by
  obtain ⟨x, hx, rfl⟩ := List.mem_map.mp hd
  refine sh_nat (Nat.lt_of_lt_of_le (h x hx) ?_)
  exact Nat.le_trans (by decide : 1000000 ≤ 2 ^ 20) (Nat.pow_le_pow_right (by decide) (by decide))
end PL

/-! PC, part 1: chains along a view, plain numbers; fractions in lowest terms. -/
set_option autoImplicit false
set_option linter.all false
set_option Elab.async false
namespace PC
/-! ### fractions -/
def low (a b : Nat) : Nat × Nat := (a / Nat.gcd a b, b / Nat.gcd a b)
theorem low_scale (a b k : Nat) (hk : 0 < k) : low (a * k) (b * k) = low a b := by
  unfold low
  rw [Nat.gcd_mul_right, Nat.mul_div_mul_right _ _ hk, Nat.mul_div_mul_right _ _ hk]
theorem low_eq {a b c d : Nat} (hb : 0 < b) (hd : 0 < d) (h : a * d = c * b) : low a b = low c d := by
  rw [← low_scale a b d hd, ← low_scale c d b hb, h, Nat.mul_comm b d]
theorem low_cross (a b : Nat) : (low a b).1 * b = a * (low a b).2 := by
  unfold low
  obtain ⟨x, hx⟩ := Nat.gcd_dvd_left a b
  obtain ⟨y, hy⟩ := Nat.gcd_dvd_right a b
  rcases Nat.eq_zero_or_pos (Nat.gcd a b) with g | g
  · rw [Nat.gcd_eq_zero_iff] at g
    rw [g.1, g.2]
    simp
  · generalize Nat.gcd a b = g' at *
    subst hx hy
    simp only [Nat.mul_div_cancel_left _ g]
    rw [Nat.mul_left_comm, Nat.mul_assoc]
theorem low_le (a b : Nat) : (low a b).1 ≤ a ∧ (low a b).2 ≤ b := ⟨Nat.div_le_self _ _, Nat.div_le_self _ _⟩
theorem low_pos {a b : Nat} (hb : 0 < b) : 0 < (low a b).2 := Nat.div_pos (Nat.le_of_dvd hb (Nat.gcd_dvd_right a b)) (Nat.gcd_pos_of_pos_right _ hb)
theorem low_pos1 {a b : Nat} (ha : 0 < a) : 0 < (low a b).1 := Nat.div_pos (Nat.le_of_dvd ha (Nat.gcd_dvd_left a b)) (Nat.gcd_pos_of_pos_left _ ha)
theorem low_one (a : Nat) : low a 1 = (a, 1) := by simp [low]
theorem low_zero {b : Nat} (hb : 0 < b) : low 0 b = (0, 1) := by simp [low, Nat.div_self hb]
theorem low_zero_iff {a b : Nat} (hb : 0 < b) : low a b = (0, 1) ↔ a = 0 := by
  constructor
  · intro h
    have e := low_cross a b
    have p := low_pos (a := a) hb
    rw [h] at e p
    simpa using e.symm
  · rintro rfl
    exact low_zero hb
theorem low_mul {a b c d : Nat} (hb : 0 < b) (hd : 0 < d) : low ((low a b).1 * (low c d).1) ((low a b).2 * (low c d).2) = low (a * c) (b * d) := by
  refine low_eq (Nat.mul_pos (low_pos hb) (low_pos hd)) (Nat.mul_pos hb hd) ?_
  have h1 := low_cross a b
  have h2 := low_cross c d
  generalize (low a b).1 = p1 at *
  generalize (low a b).2 = q1 at *
  generalize (low c d).1 = p2 at *
  generalize (low c d).2 = q2 at *
  grind
theorem low_add {a b c d : Nat} (hb : 0 < b) (hd : 0 < d) : low ((low a b).1 * (low c d).2 + (low c d).1 * (low a b).2) ((low a b).2 * (low c d).2) = low (a * d + c * b) (b * d) := by
  refine low_eq (Nat.mul_pos (low_pos hb) (low_pos hd)) (Nat.mul_pos hb hd) ?_
  have h1 := low_cross a b
  have h2 := low_cross c d
  generalize (low a b).1 = p1 at *
  generalize (low a b).2 = q1 at *
  generalize (low c d).1 = p2 at *
  generalize (low c d).2 = q2 at *
  grind
theorem low_div {a b c d : Nat} (hb : 0 < b) (hd : 0 < d) (hc : 0 < c) : low ((low a b).1 * (low c d).2) ((low a b).2 * (low c d).1) = low (a * d) (b * c) := by
  refine low_eq (Nat.mul_pos (low_pos hb) (low_pos1 hc)) (Nat.mul_pos hb hc) ?_
  have h1 := low_cross a b
  have h2 := low_cross c d
  generalize (low a b).1 = p1 at *
  generalize (low a b).2 = q1 at *
  generalize (low c d).1 = p2 at *
  generalize (low c d).2 = q2 at *
  grind
theorem low_tb (x b1 b2 t : Nat) (h : 0 < b1) : low (x * (b1 * b2)) (b1 * t) = low (x * b2) t := by
  have e : x * (b1 * b2) = x * b2 * b1 := by rw [Nat.mul_assoc, Nat.mul_comm b2 b1]
  rw [e, Nat.mul_comm b1 t, low_scale _ _ _ h]
/-- what is left of 1 -/
theorem low_rest {p q : Nat} (hq : 0 < p + q) : low ((low p (p + q)).2 - (low p (p + q)).1) (low p (p + q)).2 = low q (p + q) := by
  have h1 := low_cross p (p + q)
  have hp := low_pos (a := p) hq
  refine low_eq hp hq ?_
  have hle : (low p (p + q)).1 ≤ (low p (p + q)).2 := Nat.div_le_div_right (by omega)
  generalize (low p (p + q)).1 = x at *
  generalize (low p (p + q)).2 = y at *
  obtain ⟨z, rfl⟩ : ∃ z, y = x + z := ⟨y - x, by omega⟩
  rw [Nat.add_sub_cancel_left]
  grind
/-! ### lines made level -/
def lm (ss : List Nat) : Nat := ss.foldl Nat.lcm 1
theorem lm_from (N : Nat) : ∀ (ss : List Nat) (k : Nat), k ∣ N → (∀ s ∈ ss, s ∣ N) → ss.foldl Nat.lcm k ∣ N
  | [], _, h, _ => h
  | s :: ss, k, h, hs => lm_from N ss _ (Nat.lcm_dvd h (hs s List.mem_cons_self)) fun x hx => hs x (List.mem_cons_of_mem _ hx)
theorem lm_dvd {N : Nat} {ss : List Nat} (h : ∀ s ∈ ss, s ∣ N) : lm ss ∣ N := lm_from N ss 1 (Nat.one_dvd _) h
theorem lm_up : ∀ (ss : List Nat) (k : Nat), k ∣ ss.foldl Nat.lcm k ∧ ∀ s ∈ ss, s ∣ ss.foldl Nat.lcm k
  | [], k => ⟨Nat.dvd_refl _, fun _ h => nomatch h⟩
  | s :: ss, k => by
    obtain ⟨h1, h2⟩ := lm_up ss (Nat.lcm k s)
    refine ⟨Nat.dvd_trans (Nat.dvd_lcm_left k s) h1, fun x hx => ?_⟩
    rcases List.mem_cons.mp hx with rfl | hx
    · exact Nat.dvd_trans (Nat.dvd_lcm_right k x) h1
    · exact h2 x hx
theorem dvd_lm {ss : List Nat} {s : Nat} (h : s ∈ ss) : s ∣ lm ss := (lm_up ss 1).2 s h
theorem lm_pos {ss : List Nat} (h : ∀ s ∈ ss, 0 < s) : 0 < lm ss := by
  have : ∀ (ss : List Nat) (k : Nat), 0 < k → (∀ s ∈ ss, 0 < s) → 0 < ss.foldl Nat.lcm k := by
    intro ss
    induction ss with
    | nil => exact fun k h _ => h
    | cons s ss ih => exact fun k hk hs => ih _ (Nat.lcm_pos hk (hs s List.mem_cons_self)) fun x hx => hs x (List.mem_cons_of_mem _ hx)
  exact this ss 1 (by decide) h
def lvl (L : Nat) (M : List (List Nat)) : List (List Nat) := M.map fun r => r.map (· * (L / r.sum))
theorem lvl_len (L : Nat) (M : List (List Nat)) : (lvl L M).length = M.length := by simp [lvl]
theorem sum_mul (k : Nat) : ∀ r : List Nat, (r.map (· * k)).sum = r.sum * k
  | [] => by simp
  | x :: r => by simp [sum_mul k r, Nat.add_mul]
theorem lvl_row {L : Nat} {M : List (List Nat)} (h : ∀ r ∈ M, r.sum ∣ L) : ∀ r ∈ lvl L M, r.sum = L := fun r hr => by
  obtain ⟨q, hq, rfl⟩ := List.mem_map.mp hr
  rw [sum_mul]
  exact Nat.mul_div_cancel' (h q hq)
theorem lvl_rlen {L k : Nat} {M : List (List Nat)} (h : ∀ r ∈ M, r.length = k) : ∀ r ∈ lvl L M, r.length = k := fun r hr => by
  obtain ⟨q, hq, rfl⟩ := List.mem_map.mp hr
  rw [List.length_map]
  exact h q hq
/-! ### going on -/
def dot (row : List Nat) (M : List (List Nat)) (j : Nat) : Nat := ((row.zip M).map fun p => p.1 * p.2.getD j 0).sum
def go (row : List Nat) (M : List (List Nat)) : List Nat := (List.range row.length).map (dot row M)
def at_ (row : List Nat) (M : List (List Nat)) (j : Nat) : List Nat := (row.zip M).map fun p => p.1 * p.2.getD j 0
theorem go_len (row : List Nat) (M : List (List Nat)) : (go row M).length = row.length := by simp [go]
theorem at_len {row : List Nat} {M : List (List Nat)} {j : Nat} (h : row.length = M.length) : (at_ row M j).length = row.length := by simp [at_, h]
theorem sum_add {α : Type} (f g : α → Nat) : ∀ l : List α, (l.map fun x => f x + g x).sum = (l.map f).sum + (l.map g).sum
  | [] => rfl
  | x :: l => by
    have := sum_add f g l
    simp only [List.map_cons, List.sum_cons]
    omega
theorem sum_at : ∀ r : List Nat, ((List.range r.length).map fun j => r.getD j 0).sum = r.sum
  | [] => rfl
  | x :: r => by
    rw [List.length_cons, List.range_succ_eq_map, List.map_cons, List.map_map, List.sum_cons, List.sum_cons]
    have := sum_at r
    simpa [Function.comp_def] using this
theorem sum_mulL {α : Type} (k : Nat) (f : α → Nat) : ∀ l : List α, (l.map fun x => k * f x).sum = k * (l.map f).sum
  | [] => by simp
  | x :: l => by simp [sum_mulL k f l, Nat.mul_add]
theorem sum_swap (n : Nat) : ∀ ps : List (Nat × List Nat), (∀ p ∈ ps, p.2.length = n) → ((List.range n).map fun j => (ps.map fun p => p.1 * p.2.getD j 0).sum).sum = (ps.map fun p => p.1 * p.2.sum).sum
  | [], _ => by
    simp only [List.map_nil, List.sum_nil]
    induction List.range n with
    | nil => rfl
    | cons x l ih => simpa using ih
  | p :: ps, h => by
    have ih := sum_swap n ps fun q hq => h q (List.mem_cons_of_mem _ hq)
    simp only [List.map_cons, List.sum_cons]
    rw [sum_add (fun j => p.1 * p.2.getD j 0) fun j => (ps.map fun p => p.1 * p.2.getD j 0).sum, ih, sum_mulL]
    have e := h p List.mem_cons_self
    rw [← e, sum_at]
theorem sum_zip {k : Nat} : ∀ (row : List Nat) (M : List (List Nat)), row.length = M.length → (∀ r ∈ M, r.sum = k) → ((row.zip M).map fun p => p.1 * p.2.sum).sum = row.sum * k
  | [], _, _, _ => by simp
  | x :: row, [], h, _ => by simp at h
  | x :: row, r :: M, h, hk => by
    have ih := sum_zip row M (by simpa using h) fun r hr => hk r (List.mem_cons_of_mem _ hr)
    simp only [List.zip_cons_cons, List.map_cons, List.sum_cons, ih, hk r List.mem_cons_self, Nat.add_mul]
theorem go_sum {row : List Nat} {M : List (List Nat)} {k : Nat} (h : row.length = M.length) (hl : ∀ r ∈ M, r.length = row.length) (hk : ∀ r ∈ M, r.sum = k) : (go row M).sum = row.sum * k := by
  unfold go dot
  rw [sum_swap _ _ fun p hp => hl _ (List.of_mem_zip hp).2, sum_zip row M h hk]
theorem le_sum : ∀ {l : List Nat} {x : Nat}, x ∈ l → x ≤ l.sum
  | y :: l, x, h => by
    rcases List.mem_cons.mp h with rfl | h
    · simp
    · have := le_sum h
      simp
      omega
theorem getD_le_sum (r : List Nat) (j : Nat) : r.getD j 0 ≤ r.sum := by
  rw [List.getD_eq_getElem?_getD]
  cases e : r[j]? with
  | none => exact Nat.zero_le _
  | some x => exact le_sum (List.mem_of_getElem? e)
theorem at_sum {k j : Nat} : ∀ {row : List Nat} {M : List (List Nat)}, (∀ r ∈ M, r.sum = k) → (at_ row M j).sum ≤ row.sum * k
  | [], _, _ => by simp [at_]
  | x :: row, [], _ => by simp [at_]
  | x :: row, r :: M, hk => by
    have ih := at_sum (j := j) (row := row) (M := M) fun r hr => hk r (List.mem_cons_of_mem _ hr)
    have h1 := Nat.mul_le_mul_left x (getD_le_sum r j)
    rw [hk r List.mem_cons_self] at h1
    simp only [at_, List.zip_cons_cons, List.map_cons, List.sum_cons, Nat.add_mul] at ih ⊢
    omega
theorem zip_scale (k : Nat) : ∀ (row : List Nat) (M : List (List Nat)), (row.map (· * k)).zip M = (row.zip M).map fun p => (p.1 * k, p.2)
  | [], _ => rfl
  | _ :: _, [] => rfl
  | x :: row, r :: M => by simp [zip_scale k row M]
theorem at_scale (k : Nat) (row : List Nat) (M : List (List Nat)) (j : Nat) : at_ (row.map (· * k)) M j = (at_ row M j).map (· * k) := by
  unfold at_
  rw [zip_scale, List.map_map, List.map_map]
  refine List.map_congr_left fun p _ => ?_
  simp only [Function.comp_def]
  rw [Nat.mul_right_comm]
theorem dot_scale (k : Nat) (row : List Nat) (M : List (List Nat)) (j : Nat) : dot (row.map (· * k)) M j = dot row M j * k := by
  have := at_scale k row M j
  unfold at_ at this
  unfold dot
  rw [this, sum_mul]
theorem go_scale (k : Nat) (row : List Nat) (M : List (List Nat)) : go (row.map (· * k)) M = (go row M).map (· * k) := by
  unfold go
  rw [List.length_map, List.map_map]
  exact List.map_congr_left fun j _ => dot_scale k row M j
/-! ### chains -/
structure Ch where
  sg : List Nat
  st : List Nat
  sp : List (List Nat)
  tl : List (List Nat)
def Ch.S (c : Ch) : Nat := lm (c.sp.map List.sum)
def Ch.T (c : Ch) : Nat := lm (c.tl.map List.sum)
def Ch.sps (c : Ch) : List (List Nat) := lvl c.S c.sp
def Ch.tls (c : Ch) : List (List Nat) := lvl c.T c.tl
/-- n lines of k weights, none of them all noughts; their sums divide N -/
structure Lines (M : List (List Nat)) (n k N : Nat) : Prop where
  len : M.length = n
  row : ∀ r ∈ M, r.length = k ∧ 0 < r.sum ∧ r.sum ∣ N
  pos : 0 < N
theorem Lines.S {M : List (List Nat)} {n k N : Nat} (h : Lines M n k N) : 0 < lm (M.map List.sum) ∧ lm (M.map List.sum) ∣ N ∧ (∀ r ∈ lvl (lm (M.map List.sum)) M, r.sum = lm (M.map List.sum) ∧ r.length = k) ∧ (lvl (lm (M.map List.sum)) M).length = n := by
  refine ⟨lm_pos fun s hs => ?_, lm_dvd fun s hs => ?_, fun r hr => ⟨lvl_row (fun r hr => dvd_lm (List.mem_map_of_mem hr)) r hr, lvl_rlen (fun r hr => (h.row r hr).1) r hr⟩, by rw [lvl_len, h.len]⟩
  · obtain ⟨r, hr, rfl⟩ := List.mem_map.mp hs
    exact (h.row r hr).2.1
  · obtain ⟨r, hr, rfl⟩ := List.mem_map.mp hs
    exact (h.row r hr).2.2
/-- n states, k signs -/
structure COk (c : Ch) (n k A B : Nat) : Prop where
  st : c.st.length = n
  st0 : 0 < c.st.sum
  sp : Lines c.sp n n A
  tl : Lines c.tl n k B
  n1 : 1 ≤ n
  sg : c.sg.length = k
/-! ### along a view (46 is the gap) -/
def tellR (c : Ch) (ix : Nat → Nat) (row : List Nat) (x : Nat) : List Nat := if x = 46 then row else at_ row c.tls (ix x)
def stp (c : Ch) (ix : Nat → Nat) (s : Nat × List Nat × Nat) (x : Nat) : Nat × List Nat × Nat :=
  (s.1 + 1, tellR c ix (if 0 < s.1 then go s.2.1 c.sps else s.2.1) x, (if 0 < s.1 then s.2.2 * c.S else s.2.2) * (if x = 46 then 1 else c.T))
def run (c : Ch) (ix : Nat → Nat) (v : List Nat) : Nat × List Nat × Nat := v.foldl (stp c ix) (0, c.st, c.st.sum)
theorem run_snoc (c : Ch) (ix : Nat → Nat) (v : List Nat) (x : Nat) : run c ix (v ++ [x]) = stp c ix (run c ix v) x := by simp [run, List.foldl_append]
theorem run_len (c : Ch) (ix : Nat → Nat) (v : List Nat) : (run c ix v).1 = v.length := by
  have : ∀ (v : List Nat) (s : Nat × List Nat × Nat), (v.foldl (stp c ix) s).1 = s.1 + v.length := by
    intro v
    induction v with
    | nil => intro s; rfl
    | cons x v ih => intro s; rw [List.foldl_cons, ih]; simp [stp]; omega
  have := this v (0, c.st, c.st.sum)
  unfold run
  simpa using this
/-- as the law reckons: every place times the whole of the tells -/
def stpL (c : Ch) (ix : Nat → Nat) (s : Nat × List Nat × Nat) (x : Nat) : Nat × List Nat × Nat :=
  (s.1 + 1, (if x = 46 then ((if 0 < s.1 then go s.2.1 c.sps else s.2.1)).map (· * c.T) else at_ (if 0 < s.1 then go s.2.1 c.sps else s.2.1) c.tls (ix x)), s.2.2 * c.T * (if 0 < s.1 then c.S else 1))
def runL (c : Ch) (ix : Nat → Nat) (v : List Nat) : Nat × List Nat × Nat := v.foldl (stpL c ix) (0, c.st, c.st.sum)
theorem runL_snoc (c : Ch) (ix : Nat → Nat) (v : List Nat) (x : Nat) : runL c ix (v ++ [x]) = stpL c ix (runL c ix v) x := by simp [runL, List.foldl_append]
/-- the row stands in proportion to the one of the other way -/
theorem runL_eq (c : Ch) (ix : Nat → Nat) (v : List Nat) : runL c ix v = ((run c ix v).1, (run c ix v).2.1.map (· * c.T ^ (v.count 46)), (run c ix v).2.2 * c.T ^ (v.count 46)) := by
  have key : ∀ n : Nat, ∀ v : List Nat, v.length = n → runL c ix v = ((run c ix v).1, (run c ix v).2.1.map (· * c.T ^ (v.count 46)), (run c ix v).2.2 * c.T ^ (v.count 46)) := by
    intro n
    induction n with
    | zero =>
      intro v hv
      obtain rfl := List.length_eq_zero_iff.mp hv
      simp [runL, run]
    | succ n ih =>
      intro v hv
      have hne : v ≠ [] := fun e => by rw [e] at hv; cases hv
      obtain ⟨u, x, rfl⟩ : ∃ u x, v = u ++ [x] := ⟨v.dropLast, v.getLast hne, (List.dropLast_concat_getLast hne).symm⟩
      rw [runL_snoc, run_snoc, ih u (by simpa using hv)]
      have hc : (u ++ [x]).count 46 = u.count 46 + if x = 46 then 1 else 0 := by
        rw [List.count_append]
        by_cases e : x = 46 <;> simp [e, List.count_cons]
      rw [hc]
      generalize run c ix u = s
      generalize u.count 46 = g
      unfold stpL stp tellR
      have h1 : (if 0 < s.1 then go (s.2.1.map (· * c.T ^ g)) c.sps else s.2.1.map (· * c.T ^ g)) = (if 0 < s.1 then go s.2.1 c.sps else s.2.1).map (· * c.T ^ g) := by
        split
        · exact go_scale _ _ _
        · rfl
      simp only [h1]
      generalize (if 0 < s.1 then go s.2.1 c.sps else s.2.1) = r
      by_cases e : x = 46
      · simp only [e, if_true]
        refine Prod.ext rfl (Prod.ext ?_ ?_)
        · show (r.map _).map _ = r.map _
          rw [List.map_map]
          refine List.map_congr_left fun y _ => ?_
          simp only [Function.comp_def]
          rw [Nat.pow_succ, Nat.mul_assoc]
        · show _ * _ * _ = _
          rw [Nat.pow_succ]
          split <;> grind
      · simp only [e, if_false]
        refine Prod.ext rfl (Prod.ext ?_ ?_)
        · exact at_scale _ _ _ _
        · show _ * _ * _ = _
          simp only [Nat.add_zero]
          split <;> grind
  exact key _ v rfl
/-- the bounds of a way along a view -/
structure Way (c : Ch) (n : Nat) (s : Nat × List Nat × Nat) (A B m : Nat) : Prop where
  len : s.2.1.length = n
  le : s.2.1.sum ≤ s.2.2
  pos : 0 < s.2.2
  dvd : s.2.2 ∣ c.st.sum * (A * B) ^ m
theorem way0 {c : Ch} {n k A B : Nat} (h : COk c n k A B) : Way c n (0, c.st, c.st.sum) A B 0 := ⟨h.st, Nat.le_refl _, h.st0, by simp⟩
theorem way_go {c : Ch} {n k A B : Nat} (h : COk c n k A B) {s : Nat × List Nat × Nat} {m : Nat} (w : Way c n s A B m) : (go s.2.1 c.sps).length = n ∧ (go s.2.1 c.sps).sum = s.2.1.sum * c.S := by
  obtain ⟨h1, h2, h3, h4⟩ := h.sp.S
  refine ⟨by rw [go_len]; exact w.len, go_sum (by rw [w.len]; exact h4.symm) (fun r hr => by rw [w.len]; exact (h3 r hr).2) fun r hr => (h3 r hr).1⟩
theorem way_stp {c : Ch} {n k A B : Nat} (h : COk c n k A B) (ix : Nat → Nat) {s : Nat × List Nat × Nat} {m : Nat} (w : Way c n s A B m) (x : Nat) : Way c n (stp c ix s x) A B (m + 1) := by
  obtain ⟨s1, s2, s3, s4⟩ := h.sp.S
  obtain ⟨t1, t2, t3, t4⟩ := h.tl.S
  have g := way_go h w
  have hS : c.S = lm (c.sp.map List.sum) := rfl
  have hT : c.T = lm (c.tl.map List.sum) := rfl
  rw [← hS] at s1 s2
  rw [← hT] at t1 t2
  have q1 : (if 0 < s.1 then go s.2.1 c.sps else s.2.1).length = n := by split; exact g.1; exact w.len
  have q2 : (if 0 < s.1 then go s.2.1 c.sps else s.2.1).sum ≤ (if 0 < s.1 then s.2.2 * c.S else s.2.2) := by
    split
    · rw [g.2]; exact Nat.mul_le_mul_right _ w.le
    · exact w.le
  have q3 : 0 < (if 0 < s.1 then s.2.2 * c.S else s.2.2) := by
    split
    · exact Nat.mul_pos w.pos s1
    · exact w.pos
  have q4 : (if 0 < s.1 then s.2.2 * c.S else s.2.2) ∣ c.st.sum * (A * B) ^ m * A := by
    split
    · exact Nat.mul_dvd_mul w.dvd s2
    · exact Nat.dvd_trans w.dvd (Nat.dvd_mul_right _ _)
  have q5 : c.st.sum * (A * B) ^ m * A * B = c.st.sum * (A * B) ^ (m + 1) := by rw [Nat.pow_succ]; grind
  unfold stp tellR
  by_cases e : x = 46
  · simp only [e, if_true, Nat.mul_one]
    exact ⟨q1, q2, q3, Nat.dvd_trans q4 (by rw [← q5]; exact Nat.dvd_mul_right _ _)⟩
  · simp only [e, if_false]
    refine ⟨?_, ?_, Nat.mul_pos q3 t1, ?_⟩
    · show (at_ _ _ _).length = n
      rw [at_len (by rw [q1]; exact t4.symm)]
      exact q1
    · show (at_ _ _ _).sum ≤ _
      refine Nat.le_trans (at_sum fun r hr => (t3 r hr).1) (Nat.mul_le_mul_right _ q2)
    · show _ * _ ∣ _
      rw [← q5]
      exact Nat.mul_dvd_mul q4 t2
theorem way_run {c : Ch} {n k A B : Nat} (h : COk c n k A B) (ix : Nat → Nat) (v : List Nat) : Way c n (run c ix v) A B v.length := by
  have : ∀ (v : List Nat) (s : Nat × List Nat × Nat) (m : Nat), Way c n s A B m → Way c n (v.foldl (stp c ix) s) A B (m + v.length) := by
    intro v
    induction v with
    | nil => intro s m w; exact w
    | cons x v ih =>
      intro s m w
      have := ih _ _ (way_stp h ix w x)
      rw [List.foldl_cons, List.length_cons]
      rwa [show m + (v.length + 1) = m + 1 + v.length by omega]
  have := this v _ 0 (way0 h)
  unfold run
  simpa using this
end PC

/-! PC, part 2: the law's way along a view. -/
set_option autoImplicit false
set_option linter.all false
set_option Elab.async false
namespace PC
theorem zip_range {α : Type} (f : Nat → List Nat → α) : ∀ (row : List Nat) (M : List (List Nat)), row.length = M.length → (row.zip M).map (fun p => f p.1 p.2) = (List.range row.length).map fun o => f (row.getD o 0) (M.getD o [])
  | [], [], _ => rfl
  | x :: row, r :: M, h => by
    have ih := zip_range f row M (by simpa using h)
    rw [List.zip_cons_cons, List.map_cons, ih, List.length_cons, List.range_succ_eq_map, List.map_cons, List.map_map]
    rfl
theorem dot_range {row : List Nat} {M : List (List Nat)} (h : row.length = M.length) (j : Nat) : dot row M j = ((List.range row.length).map fun o => row.getD o 0 * (M.getD o []).getD j 0).sum := by
  unfold dot
  rw [zip_range (fun a r => a * r.getD j 0) row M h]
theorem at_range {row : List Nat} {M : List (List Nat)} (h : row.length = M.length) (j : Nat) : at_ row M j = (List.range row.length).map fun o => row.getD o 0 * (M.getD o []).getD j 0 := zip_range (fun a r => a * r.getD j 0) row M h
theorem map_range (k : Nat) : ∀ row : List Nat, row.map (· * k) = (List.range row.length).map fun o => row.getD o 0 * k
  | [] => rfl
  | x :: row => by
    have ih := map_range k row
    rw [List.map_cons, ih, List.length_cons, List.range_succ_eq_map, List.map_cons, List.map_map]
    rfl
/-- what a state tells, of its whole -/
def tellN (c : Ch) (ix : Nat → Nat) (s x : Nat) : Nat := if x = 46 then c.T else (c.tls.getD s []).getD (ix x) 0
theorem tell_row {c : Ch} {row : List Nat} (h : row.length = c.tls.length) (ix : Nat → Nat) (x : Nat) : (if x = 46 then row.map (· * c.T) else at_ row c.tls (ix x)) = (List.range row.length).map fun s => row.getD s 0 * tellN c ix s x := by
  unfold tellN
  by_cases e : x = 46
  · simp only [e, if_true]
    exact map_range _ _
  · simp only [e, if_false]
    exact at_range h _
/-- where the row comes from, ahead of the telling -/
def came (c : Ch) (s : Nat × List Nat × Nat) : List Nat := if 0 < s.1 then go s.2.1 c.sps else s.2.1
theorem stpL_row {c : Ch} (ix : Nat → Nat) (s : Nat × List Nat × Nat) (x : Nat) (h : (came c s).length = c.tls.length) : (stpL c ix s x).2.1 = (List.range (came c s).length).map fun o => (came c s).getD o 0 * tellN c ix o x := tell_row h ix x
theorem runL_len (c : Ch) (ix : Nat → Nat) (v : List Nat) : (runL c ix v).1 = v.length := by rw [runL_eq]; exact run_len c ix v
structure WayL (c : Ch) (n : Nat) (s : Nat × List Nat × Nat) (A B m : Nat) : Prop where
  len : s.2.1.length = n
  le : s.2.1.sum ≤ s.2.2
  pos : 0 < s.2.2
  dvd : s.2.2 ∣ c.st.sum * (A * B) ^ m
theorem runL_dvd {c : Ch} {n k A B : Nat} (h : COk c n k A B) (ix : Nat → Nat) (v : List Nat) : (runL c ix v).2.2 ∣ c.st.sum * (A * B) ^ v.length := by
  obtain ⟨s1, s2, _⟩ := h.sp.S
  obtain ⟨t1, t2, _⟩ := h.tl.S
  have key : ∀ (v : List Nat) (s : Nat × List Nat × Nat) (m : Nat), s.2.2 ∣ c.st.sum * (A * B) ^ m → (v.foldl (stpL c ix) s).2.2 ∣ c.st.sum * (A * B) ^ (m + v.length) := by
    intro v
    induction v with
    | nil => intro s m w; exact w
    | cons x v ih =>
      intro s m w
      have h1 : (stpL c ix s x).2.2 ∣ c.st.sum * (A * B) ^ (m + 1) := by
        show s.2.2 * c.T * (if 0 < s.1 then c.S else 1) ∣ _
        have e : c.st.sum * (A * B) ^ (m + 1) = c.st.sum * (A * B) ^ m * B * A := by rw [Nat.pow_succ]; grind
        rw [e]
        refine Nat.mul_dvd_mul (Nat.mul_dvd_mul w t2) ?_
        split
        · exact s2
        · exact Nat.one_dvd _
      have := ih _ _ h1
      rw [List.foldl_cons, List.length_cons]
      rwa [show m + (v.length + 1) = m + 1 + v.length by omega]
  have := key v (0, c.st, c.st.sum) 0 (by simp)
  unfold runL
  simpa using this
theorem wayL {c : Ch} {n k A B : Nat} (h : COk c n k A B) (ix : Nat → Nat) (v : List Nat) : WayL c n (runL c ix v) A B v.length := by
  have W := way_run h ix v
  have d := runL_dvd h ix v
  obtain ⟨t1, _⟩ := h.tl.S
  have hT : 0 < c.T := t1
  rw [runL_eq] at d ⊢
  refine ⟨by simpa using W.len, ?_, Nat.mul_pos W.pos (Nat.pow_pos hT), d⟩
  show (((run c ix v).2.1.map _)).sum ≤ _
  rw [sum_mul]
  exact Nat.mul_le_mul_right _ W.le
theorem wayL_go {c : Ch} {n k A B : Nat} (h : COk c n k A B) {s : Nat × List Nat × Nat} {m : Nat} (w : WayL c n s A B m) : (came c s).length = n ∧ (came c s).sum ≤ s.2.2 * c.S := by
  obtain ⟨s1, _⟩ := h.sp.S
  have g := way_go h (s := s) (m := m) ⟨w.len, w.le, w.pos, w.dvd⟩
  have hS : 0 < c.S := s1
  unfold came
  split
  · refine ⟨g.1, ?_⟩
    rw [g.2]
    exact Nat.mul_le_mul_right _ w.le
  · exact ⟨w.len, Nat.le_trans w.le (Nat.le_mul_of_pos_right _ hS)⟩
/-- the law's own weight and what is below it -/
def wL (c : Ch) (ix : Nat → Nat) (v : List Nat) : Nat := if v = [] then 1 else (runL c ix v).2.1.sum
def bL (c : Ch) (ix : Nat → Nat) (v : List Nat) : Nat := if v = [] then 1 else (runL c ix v).2.2
theorem wb_prop {c : Ch} {n k A B : Nat} (h : COk c n k A B) (ix : Nat → Nat) (v : List Nat) : ∃ p q : Nat, 0 < p ∧ 0 < q ∧ wL c ix v * p = (run c ix v).2.1.sum * q ∧ bL c ix v * p = (run c ix v).2.2 * q := by
  unfold wL bL
  by_cases e : v = []
  · subst e
    refine ⟨c.st.sum, 1, h.st0, by decide, ?_, ?_⟩ <;> simp [run]
  · obtain ⟨t1, _⟩ := h.tl.S
    have hT : 0 < c.T := t1
    refine ⟨1, c.T ^ (v.count 46), by decide, Nat.pow_pos hT, ?_, ?_⟩
    · rw [if_neg e, runL_eq, Nat.mul_one]
      exact sum_mul _ _
    · rw [if_neg e, runL_eq, Nat.mul_one]
/-- shares of two: the same by both reckonings -/
theorem share_eq {f s w1 b1 w2 b2 x1 y1 x2 y2 p1 q1 p2 q2 : Nat} (hp1 : 0 < p1) (hq1 : 0 < q1) (hp2 : 0 < p2) (hq2 : 0 < q2) (e1 : w1 * p1 = x1 * q1) (g1 : b1 * p1 = y1 * q1) (e2 : w2 * p2 = x2 * q2) (g2 : b2 * p2 = y2 * q2) :
    low (f * w1 * b2) (f * w1 * b2 + s * w2 * b1) = low (f * x1 * y2) (f * x1 * y2 + s * x2 * y1) ∧ (f * w1 * b2 + s * w2 * b1 = 0 ↔ f * x1 * y2 + s * x2 * y1 = 0) := by
  have a1 : f * w1 * b2 * (p1 * p2) = f * x1 * y2 * (q1 * q2) := by
    have : f * w1 * b2 * (p1 * p2) = f * (w1 * p1) * (b2 * p2) := by grind
    rw [this, e1, g2]
    grind
  have a2 : s * w2 * b1 * (p1 * p2) = s * x2 * y1 * (q1 * q2) := by
    have : s * w2 * b1 * (p1 * p2) = s * (w2 * p2) * (b1 * p1) := by grind
    rw [this, e2, g1]
    grind
  have hp := Nat.mul_pos hp1 hp2
  have hq := Nat.mul_pos hq1 hq2
  have a3 : (f * w1 * b2 + s * w2 * b1) * (p1 * p2) = (f * x1 * y2 + s * x2 * y1) * (q1 * q2) := by rw [Nat.add_mul, Nat.add_mul, a1, a2]
  refine ⟨?_, ?_⟩
  · rw [← low_scale _ _ _ hp, ← low_scale (f * x1 * y2) _ _ hq, a1, a3]
  · constructor
    · intro z
      rw [z, Nat.zero_mul] at a3
      rcases Nat.mul_eq_zero.mp a3.symm with h | h
      · exact h
      · omega
    · intro z
      rw [z, Nat.zero_mul] at a3
      rcases Nat.mul_eq_zero.mp a3 with h | h
      · exact h
      · omega
/-! ### short shares: lines whose sums divide A and B -/
theorem low_short {f s w1 b1 w2 b2 σ1 σ2 M : Nat} (h1 : b1 ∣ σ1 * M) (h2 : b2 ∣ σ2 * M) (p1 : 0 < b1) (p2 : 0 < b2) (hw1 : w1 ≤ b1) (hw2 : w2 ≤ b2) (hM : 0 < M) (hσ1 : 0 < σ1) (hσ2 : 0 < σ2) :
    (low (f * w1 * b2) (f * w1 * b2 + s * w2 * b1)).1 ≤ (f + s) * (σ1 * σ2 * M) ∧ (low (f * w1 * b2) (f * w1 * b2 + s * w2 * b1)).2 ≤ (f + s) * (σ1 * σ2 * M) := by
  obtain ⟨k1, e1⟩ := h1
  obtain ⟨k2, e2⟩ := h2
  have k1p : 0 < k1 := Nat.pos_of_ne_zero fun z => by subst z; rw [Nat.mul_zero] at e1; have := Nat.mul_pos hσ1 hM; omega
  have k2p : 0 < k2 := Nat.pos_of_ne_zero fun z => by subst z; rw [Nat.mul_zero] at e2; have := Nat.mul_pos hσ2 hM; omega
  -- both scaled by k1 k2, then M taken out
  have a1 : f * w1 * b2 * (k1 * k2) = (f * (w1 * k1) * σ2) * M := by
    have : f * w1 * b2 * (k1 * k2) = f * (w1 * k1) * (b2 * k2) := by grind
    rw [this, ← e2]
    grind
  have a2 : s * w2 * b1 * (k1 * k2) = (s * (w2 * k2) * σ1) * M := by
    have : s * w2 * b1 * (k1 * k2) = s * (w2 * k2) * (b1 * k1) := by grind
    rw [this, ← e1]
    grind
  have e : low (f * w1 * b2) (f * w1 * b2 + s * w2 * b1) = low (f * (w1 * k1) * σ2) (f * (w1 * k1) * σ2 + s * (w2 * k2) * σ1) := by
    rw [← low_scale _ _ _ (Nat.mul_pos k1p k2p), ← low_scale (f * (w1 * k1) * σ2) _ _ hM, Nat.add_mul, Nat.add_mul, a1, a2]
  rw [e]
  have c1 : w1 * k1 ≤ σ1 * M := by rw [e1]; exact Nat.mul_le_mul_right _ hw1
  have c2 : w2 * k2 ≤ σ2 * M := by rw [e2]; exact Nat.mul_le_mul_right _ hw2
  have d1 : f * (w1 * k1) * σ2 ≤ f * (σ1 * σ2 * M) := by
    have := Nat.mul_le_mul_left f (Nat.mul_le_mul_right σ2 c1)
    calc f * (w1 * k1) * σ2 = f * (w1 * k1 * σ2) := by grind
      _ ≤ f * (σ1 * M * σ2) := this
      _ = f * (σ1 * σ2 * M) := by grind
  have d2 : s * (w2 * k2) * σ1 ≤ s * (σ1 * σ2 * M) := by
    have := Nat.mul_le_mul_left s (Nat.mul_le_mul_right σ1 c2)
    calc s * (w2 * k2) * σ1 = s * (w2 * k2 * σ1) := by grind
      _ ≤ s * (σ2 * M * σ1) := this
      _ = s * (σ1 * σ2 * M) := by grind
  have l := low_le (f * (w1 * k1) * σ2) (f * (w1 * k1) * σ2 + s * (w2 * k2) * σ1)
  rw [Nat.add_mul]
  omega
end PC

set_option Elab.async false
set_option linter.all false
set_option maxRecDepth 100000
/-! PX, part 9: for i, x in enumerate(S), S a list, a tuple or a text. -/
namespace PLz
open PySem PySem.Spec L2
open PyProof.Rows
def ItE (K : PySem.W.Frag) (S : Src) : It :=
  ⟨fun i H => ∃ (xs : List V) (x : V), S.has K H xs ∧ xs[i]? = some x,
    fun i H v H' => ∃ T x, v = .ref T ∧ H T = none ∧ H' = upd H T (.tup [.int (i : Nat), x]) ∧ ∀ xs, S.has K H xs → xs[i]? = some x,
    fun i H => ∃ xs : List V, S.has K H xs ∧ i = xs.length⟩
def tnE (S : Src) (n0 : Nat) (i : Nat) (h : Heap) : Prop := (∃ old, IsEnum h (n0 + 1) n0 ((i : Nat) : Int) old) ∧ S.tn n0 i h
theorem in2 {c a b : Nat} (h : c ∈ [a, b]) : c = a ∨ c = b := by simpa using h
theorem turnE {P : Program} {w : World} {K : PySem.W.Frag} {elts : List Expr} {kk : Nat} {tpos : Pos} {S : Src} {n0 : Nat} (b1 : S.below n0) :
    Turn P w K (.Tuple elts kk tpos) (ItE K S) [n0 + 1, n0] (n0 + 1) (tnE S n0) where
  mem := by simp
  obj := fun i h st c hc => by
    obtain ⟨⟨old, he⟩, t⟩ := st
    rcases in2 hc with q | q
    · rw [q]; exact ⟨_, he, fun v q => nomatch q⟩
    · rw [q]; exact Src.obj t
  keep := fun i h h' st k => by
    obtain ⟨⟨old, he⟩, t⟩ := st
    exact ⟨⟨old, k _ (by simp) _ he⟩, Src.keep t fun o q => k _ (by simp) o q⟩
  item := by
    intro X hP hw hK hc i pins s σ H E I hf st hg
    subst hP hw hK
    obtain ⟨⟨old, he⟩, t⟩ := st
    obtain ⟨xs, x, hq, hx⟩ := hg
    have hel : n0 + 1 < s.heap.objs.size := Heap.lt_size he
    have hh : X.A.in1.handled = none := I.ok.hd hc
    obtain ⟨fp1, P1, St1, D1, s1, r1, k1, m1, c1⟩ := Src.draw (prog := X.prog) (w := X.w) (n0 := n0) hh I hq t b1 (Nat.le_refl _)
    refine wpAny_pyNext_enum_itemD D1 he s1 (List.getElem?_eq_some_iff.mp hx).1 (ne_ (by omega)) (fun z => by have := c1 _ z; omega) fun y h' tk hy ho hst' hT hsz hk => ?_
    obtain ⟨x', hx', ru⟩ := r1 _ _ hy
    rw [hx] at hx'; cases hx'
    refine ⟨_, rfl, wpAny_letOwnedTupleGo_enum (s := { s with heap := h', toks := tk + 1 }) ho fun h'' he' sb => ?_⟩
    have hT2 : h''.get? s.heap.objs.size = some { cls := .type "tuple", data := .seq #[.int i tk, y] } := (sb.2 _ (Nat.ne_of_gt hel)).trans hT
    have nw : ObjOk X.prog X.w (upd H s.heap.objs.size (.tup [.int (i : Nat), x])) h'' s.heap.objs.size (.tup [.int (i : Nat), x]) :=
      ⟨by show 2 ≤ sizeLine; decide, [.int i tk, y], .cons ⟨_, rfl⟩ (.cons ru .nil), ⟨_, hT2, rfl, _, rfl⟩⟩
    have J : Inv X pins σ (upd H s.heap.objs.size (.tup [.int (i : Nat), x])) { s with heap := h'', toks := tk + 1 } :=
      I.turnedNew (ch := [n0 + 1, n0]) (fun b ob hb q => (sb.2 b (fun z => hb (by simp [z]))).trans (hk b ob (fun z => hb (by simp [z])) (fun z => hb (by simp [z])) q)) hf (Nat.le_refl _) nw
    refine ⟨.ref s.heap.objs.size, _, J, rfl, ⟨_, x, rfl, I.hok.fresh (Nat.le_refl _), rfl, fun ys hy => by rw [Src.inj I hy hq]; exact hx⟩, ⟨⟨y, ?_⟩, Src.keep (k1 _ _ hst') fun o q => (sb.2 _ (ne_ (by omega))).trans q⟩, fun b hb => ?_⟩
    · rw [show ((i + 1 : Nat) : Int) = (i : Int) + 1 by omega]
      exact he'
    · have hb' : b < s.heap.objs.size := by
        rcases in2 hb with q | q
        · rw [q]; exact hel
        · rw [q]; exact Nat.lt_of_succ_lt hel
      rw [upd_ne (Nat.ne_of_lt hb')]
      exact (hf b hb).1
  done := by
    intro X hP hw hK hc i pins s σ H E I hf st hg
    subst hP hw hK
    obtain ⟨⟨old, he⟩, t⟩ := st
    obtain ⟨xs, hq, hend⟩ := hg
    have hh : X.A.in1.handled = none := I.ok.hd hc
    obtain ⟨fp1, P1, St1, D1, s1, r1, k1, m1, c1⟩ := Src.draw (prog := X.prog) (w := X.w) (n0 := n0) hh I hq t b1 (Nat.le_refl _)
    rw [hend] at s1 he
    obtain ⟨f0, f1, f2, f3, f4, f5⟩ := hf n0 (by simp)
    exact wpAny_pyNext_enum_endD D1 he s1 fun h' he' => ⟨rfl, I.turned (t' := s.toks) (fun b o hb q => he' b o hb q) f0 f1 f3 f4 f5⟩
  self := fun A i s Q E ⟨⟨_, he⟩, _⟩ h => wpAny_pyIter_enum he h
theorem pi_enumS {X : Cx} {e : Expr} {ta : TA} {p pos tpos : Pos} {elts : List Expr} {kk : Nat} (hg : Gl X "enumerate") (hm : X.mg "enumerate" = none) (ha : PA X [e] ta) (hs : starEach [e] X.env = [(false, eval e X.env)] := by rfl) :
    PI X (.Tuple elts kk tpos) (.Call (.Name "enumerate" p) [e] [] pos) (fun σ H R => ta σ H fun vs H1 => ∃ S xs, vs = [Src.v S] ∧ S.has X.K H1 xs ∧ R (ItE X.K S) H1) := by
  refine ⟨fun pins s σ H R I h => PyProof.Rows.Call_ (ld_blt I hg hm PyProof.Rows.boot_enumerate (PyProof.Rows.callWith_type1 (thn (ha.run pos pins s σ H _ I h) fun us s1 ⟨vs, H1, I1, r1, S, xs, ex, hq, q⟩ => ?_) hs rfl))⟩
  subst ex
  obtain ⟨u, rfl, ru⟩ := vals1 r1
  obtain ⟨o1, H1', B1, g1, t1, l1⟩ := Src.begins I1 hq ru
  refine PLx.enumCall B1 g1 fun h' he hit hsz hk => wpAny_pyIter_enum he ?_
  have J : Inv X pins σ H1 { s1 with heap := h' } := I1.kept (t' := s1.toks) hk
  refine ⟨s1.heap.objs.size + 1, [s1.heap.objs.size + 1, s1.heap.objs.size], _, _, H1, rfl, J, turnE l1, ⟨⟨.none, he⟩, t1 _ _ hit⟩, fun b hb => ?_, q⟩
  have hle : s1.heap.objs.size ≤ b := by
    rcases in2 hb with q | q
    · rw [q]; exact Nat.le_add_right _ _
    · rw [q]; exact Nat.le_refl _
  exact I1.fpOk hle (I1.hok.fresh hle)
end PLz
namespace PL
open PySem PySem.Spec L2
variable [Consts]
section
variable {X : Cx} {B : Box} {e : Expr} {ta : QA} {p pos tpos : Pos} {elts : List Expr} {kk : Nat}
def iES (ta : QA) (ρ : Env) (Q : List PyData → Env → Prop) : Prop := ta ρ fun ws ρ' => match wsD ws with
  | some [a] => match itemsD a with
    | some as => Q (enumD as) ρ'
    | none => False
  | _ => False
theorem i_enumS (hg : Gl X "enumerate") (hm : X.mg "enumerate" = none) (ha : PA X [e] (liftA X.K B ta)) (hs : starEach [e] X.env = [(false, eval e X.env)] := by rfl) :
    PI X (.Tuple elts kk tpos) (.Call (.Name "enumerate" p) [e] [] pos) (liftI X.K B (iES ta)) :=
  weakI (PLz.pi_enumS hg hm ha hs) fun σ H R ⟨G, F, ρ, P, k, h, q⟩ => liftA_use k h fun ws ρ' vs H' F' p k' w e => by
    split at p
    · rename_i a g
      split at p
      · rename_i as ga
        obtain ⟨x, rfl, r1⟩ := (wsD_ok w g).single
        obtain ⟨S1, xs, rfl, h1, r1⟩ := src_of k'.2.f r1 ga
        have l1 := r1.length
        refine ⟨S1, xs, rfl, h1 _ k'.2.f, q _ _ _ _ _ p k' e ⟨fun i H hi s => ?_, fun H s => ⟨xs, h1 H s, by rw [enumD_len, l1]⟩, fun i H v H' hi s ⟨T, x, e1, e2, e3, e4⟩ => ?_⟩⟩
        · rw [enumD_len] at hi
          exact ⟨xs, xs[i]'(by omega), h1 H s, List.getElem?_eq_getElem _⟩
        · obtain ⟨d, hd, rd⟩ := r1.getV (e4 xs (h1 H s))
          exact ⟨_, enumD_get hd, .inr (.inl ⟨T, _, [.int (i : Nat), d], e2, e1, rfl, e3, .cons (.int _) (.one rd)⟩)⟩
      · exact p.elim
    · exact p.elim
end
end PL

set_option Elab.async false
set_option linter.all false
set_option maxRecDepth 100000
/-! PJ, part 5: natural numbers in data; fractions and chains as data. -/
namespace PL
open PySem PySem.Spec L2
variable [Consts]
theorem n_mul (a b : Nat) : ((a : Nat) : Int) * ((b : Nat) : Int) = ((a * b : Nat) : Int) := (Int.natCast_mul a b).symm
theorem n_add (a b : Nat) : ((a : Nat) : Int) + ((b : Nat) : Int) = ((a + b : Nat) : Int) := (Int.natCast_add a b).symm
theorem n_fdiv (a b : Nat) : ((a : Nat) : Int).fdiv ((b : Nat) : Int) = ((a / b : Nat) : Int) := by
  rw [Int.fdiv_eq_ediv_of_nonneg _ (Int.natCast_nonneg b), ← Int.natCast_ediv]
theorem n_fmod (a b : Nat) : ((a : Nat) : Int).fmod ((b : Nat) : Int) = ((a % b : Nat) : Int) := by
  rw [Int.fmod_eq_emod_of_nonneg _ (Int.natCast_nonneg b), ← Int.natCast_emod]
theorem n_abs (a : Nat) : ((a : Nat) : Int).natAbs = a := Int.natAbs_natCast a
theorem n_sum : ∀ ns : List Nat, (ns.map fun n => ((n : Nat) : Int)).sum = ((ns.sum : Nat) : Int)
  | [] => rfl
  | n :: ns => by simp [n_sum ns]
theorem intsD_nats' : ∀ ns : List Nat, intsD (nats ns) = some (ns.map fun n => ((n : Nat) : Int))
  | [] => rfl
  | n :: ns => by
    have := intsD_nats' ns
    unfold nats at this ⊢
    simp [intsD, this]
theorem intsD_nats (ns : List Nat) : intsD (nats ns) = some (ns.map fun n => ((n : Nat) : Int)) := intsD_nats' ns
theorem nats_lenS (ns : List Nat) : (nats ns).length = ns.length := by simp [nats]
theorem eqv_ii (a b : Int) : PyData.eqv (.int a) (.int b) = decide (a = b) := by
  rw [Bool.eq_iff_iff, eqv_iff _ _ nob_int nob_int]
  simp
theorem nats_getS (ns : List Nat) (i : Nat) : (nats ns)[i]? = (ns[i]?).map fun n => .int (n : Nat) := by simp [nats]
theorem shI (i : Int) : SeqAt.shaped (.int i) = true := (lay_int (k := 0) i).shaped
/-- below 2 ^ 8989 -/
def Bg (n : Nat) : Prop := n < 2 ^ 8989
theorem Bg.big {n : Nat} (h : Bg n) : Big ((n : Nat) : Int) := Bd.big (k := 8989) h (by decide)
theorem Bg.of {n k : Nat} (h : n < 2 ^ k) (hk : k ≤ 8989) : Bg n := Nat.lt_of_lt_of_le h (Nat.pow_le_pow_right (by decide) hk)
theorem Bg.le {n m : Nat} (h : Bg m) (e : n ≤ m) : Bg n := Nat.lt_of_le_of_lt e h
theorem Bg.small {n : Nat} (h : n < 1267650600228229401496703205376) : Bg n := Bg.of (k := 100) (Nat.lt_of_lt_of_le h (by decide)) (by decide)
theorem lt_mul {a b j k : Nat} (h : a < 2 ^ j) (g : b < 2 ^ k) : a * b < 2 ^ (j + k) := by
  rw [Nat.pow_add]
  exact Nat.mul_lt_mul'' h g
theorem lt_add {a b k : Nat} (h : a < 2 ^ k) (g : b < 2 ^ k) : a + b < 2 ^ (k + 1) := by
  rw [Nat.pow_succ]
  omega
theorem lt_up {a j k : Nat} (h : a < 2 ^ j) (e : j ≤ k) : a < 2 ^ k := Nat.lt_of_lt_of_le h (Nat.pow_le_pow_right (by decide) e)
/-- a fraction -/
def frD (p : Nat × Nat) : D := .tuple [.int (p.1 : Nat), .int (p.2 : Nat)]
/-- lists of lines -/
def rowsL (M : List (List Nat)) : List D := M.map fun r => .list (nats r)
def rowsT (M : List (List Nat)) : List D := M.map fun r => .tuple (nats r)
theorem rowsL_len (M : List (List Nat)) : (rowsL M).length = M.length := by simp [rowsL]
theorem rowsT_len (M : List (List Nat)) : (rowsT M).length = M.length := by simp [rowsT]
theorem rowsL_get (M : List (List Nat)) (i : Nat) : (rowsL M)[i]? = (M[i]?).map fun r => .list (nats r) := by simp [rowsL]
theorem rowsT_get (M : List (List Nat)) (i : Nat) : (rowsT M)[i]? = (M[i]?).map fun r => .tuple (nats r) := by simp [rowsT]
open PC in
def chD (c : Ch) : D := .tuple [.str (sg c.sg), .tuple (nats c.st), .tuple (rowsT c.sp), .tuple (rowsT c.tl)]
/-! ### comprehensions over lists told item by item -/
section
variable {g : QG} {te : QE} {ti : QI} {vs : List Nat} {ρ : Env} {Q : T → Env → Prop}
theorem lc_to {α : Type} (xs : List α) (enc f : α → D) (h1 : ∀ R : List D → Env → Prop, R (xs.map enc) ρ → ti ρ R) (hb : barePl ρ vs) (hz : xs.length ≤ sizeLine)
    (step : ∀ x ∈ xs, ∀ R : T → Env → Prop, (∀ r ρ4, r.dat = some (f x) → wipeP ρ4 vs = wipeP ρ vs → R r ρ4) → g (.d (enc x)) (wipeP ρ vs) fun ρ2 => te ρ2 R) (fin : Q (.l (xs.map f)) ρ) : qLc ti g qYes te vs ρ Q :=
  lc_mapS (xs.map enc) (xs.map f) h1 hb (by simp) (by simpa using hz) (fun i d o hd ho R hR => by
    rw [List.getElem?_map] at hd ho
    cases e : xs[i]? with
    | none => rw [e] at hd; cases hd
    | some x =>
      rw [e] at hd ho
      cases hd
      cases ho
      exact step x (List.mem_of_getElem? e) R hR) fin
theorem lc_to0 {α : Type} (xs : List α) (enc f : α → D) (ρ0 : Env) (h1 : ∀ R : List D → Env → Prop, R (xs.map enc) ρ0 → ti ρ R) (hb : barePl ρ0 vs) (hz : xs.length ≤ sizeLine)
    (step : ∀ x ∈ xs, ∀ R : T → Env → Prop, (∀ r ρ4, r.dat = some (f x) → wipeP ρ4 vs = wipeP ρ0 vs → R r ρ4) → g (.d (enc x)) (wipeP ρ0 vs) fun ρ2 => te ρ2 R) (fin : Q (.l (xs.map f)) ρ0) : qLc ti g qYes te vs ρ Q :=
  lc_mapT (xs.map enc) ρ0 (xs.map f) h1 hb (by simp) (by simpa using hz) (fun i d o hd ho R hR => by
    rw [List.getElem?_map] at hd ho
    cases e : xs[i]? with
    | none => rw [e] at hd; cases hd
    | some x =>
      rw [e] at hd ho
      cases hd
      cases ho
      exact step x (List.mem_of_getElem? e) R hR) fin
/-- over the places below n -/
theorem lc_rg (n : Nat) (f : Nat → D) (h1 : ∀ R : List D → Env → Prop, R (rangeD 0 n) ρ → ti ρ R) (hb : barePl ρ vs) (hz : n ≤ sizeLine)
    (step : ∀ i < n, ∀ R : T → Env → Prop, (∀ r ρ4, r.dat = some (f i) → wipeP ρ4 vs = wipeP ρ vs → R r ρ4) → g (.d (.int (i : Nat))) (wipeP ρ vs) fun ρ2 => te ρ2 R) (fin : Q (.l ((List.range n).map f)) ρ) : qLc ti g qYes te vs ρ Q :=
  lc_mapS (rangeD 0 n) ((List.range n).map f) h1 hb (by rw [rangeD_len]; simp) (by rw [rangeD_len]; exact hz) (fun i d o hd ho R hR => by
    have hi : i < n := by have := (List.getElem?_eq_some_iff.mp hd).1; rwa [rangeD_len] at this
    rw [nats_range hi] at hd
    cases hd
    rw [List.getElem?_map, List.getElem?_range hi] at ho
    cases ho
    exact step i hi R hR) fin
end
/-- a walk over a list, step by step: what holds behind the items gone by -/
theorem for_to {α : Type} {ti : QI} {g : QG} {tb : QS} {DP : PEnds} {ρ : Env} (xs : List α) (enc : α → D) (ρ0 : Env) (I : List α → Env → Prop) (h1 : ∀ R : List D → Env → Prop, R (xs.map enc) ρ0 → ti ρ R) (h0 : I [] ρ0)
    (step : ∀ pre x post ρ, xs = pre ++ x :: post → I pre ρ → ∀ N : Env → Prop, (∀ ρ', I (pre ++ [x]) ρ' → N ρ') → g (.d (enc x)) ρ fun ρ' => tb { DP with nx := N, ct := N, bk := DP.nx } ρ') (fin : ∀ ρ, I xs ρ → DP.nx ρ) : sFor ti g tb DP ρ :=
  forT (xs.map enc) ρ0 (fun i => I (xs.take i)) h1 (by rw [List.take_zero]; exact h0) (fun i d ρ hd hI => by
    rw [List.getElem?_map] at hd
    cases e : xs[i]? with
    | none => rw [e] at hd; cases hd
    | some x =>
      rw [e] at hd
      cases hd
      have hi := (List.getElem?_eq_some_iff.mp e).1
      have e2 : xs.take (i + 1) = xs.take i ++ [x] := by rw [List.take_add_one, e]; rfl
      refine step (xs.take i) x (xs.drop (i + 1)) ρ ?_ hI _ fun ρ' h => by rw [e2]; exact h
      have e3 : xs.drop i = x :: xs.drop (i + 1) := by
        rw [List.drop_eq_getElem_cons hi]
        congr 1
        exact (List.getElem?_eq_some_iff.mp e).2
      rw [← e3, List.take_append_drop]) (fun ρ h => fin ρ (by rw [List.length_map, List.take_length] at h; exact h))
open PC
/-- the lines made level, one by one -/
theorem lvl_lc {g : QG} {te : QE} {ti : QI} {vs : List Nat} {ρ : Env} {Q : T → Env → Prop} (M : List (List Nat)) (L : Nat) (hz : M.length ≤ 60) (h1 : ∀ R : List D → Env → Prop, R (rowsT M) ρ → ti ρ R) (hb : barePl ρ vs)
    (step : ∀ x ∈ M, ∀ R : T → Env → Prop, (∀ r ρ4, r.dat = some (.list (nats (x.map (· * (L / x.sum))))) → wipeP ρ4 vs = wipeP ρ vs → R r ρ4) → g (.d (.tuple (nats x))) (wipeP ρ vs) fun ρ2 => te ρ2 R) (fin : Q (.l (rowsL (lvl L M))) ρ) : qLc ti g qYes te vs ρ Q :=
  lc_to M (fun r => .tuple (nats r)) (fun r => .list (nats (r.map (· * (L / r.sum))))) h1 hb (szL (by omega)) step (by unfold rowsL lvl at fin; rw [List.map_map] at fin; exact fin)
theorem wt_lc {g : QG} {te : QE} {ti : QI} {vs : List Nat} {ρ : Env} {Q : T → Env → Prop} (x : List Nat) (f : Nat → Nat) (hz : x.length ≤ 60) (h1 : ∀ R : List D → Env → Prop, R (nats x) ρ → ti ρ R) (hb : barePl ρ vs)
    (step : ∀ n ∈ x, ∀ R : T → Env → Prop, (∀ r ρ4, r.dat = some (.int (f n : Nat)) → wipeP ρ4 vs = wipeP ρ vs → R r ρ4) → g (.d (.int (n : Nat))) (wipeP ρ vs) fun ρ2 => te ρ2 R) (fin : Q (.l (nats (x.map f))) ρ) : qLc ti g qYes te vs ρ Q :=
  lc_to x (fun n => .int (n : Nat)) (fun n => .int (f n : Nat)) h1 hb (szL (by omega)) step (by unfold nats at fin; rw [List.map_map] at fin; exact fin)
theorem sums_lc {g : QG} {te : QE} {ti : QI} {vs : List Nat} {ρ : Env} {Q : T → Env → Prop} (M : List (List Nat)) (hz : M.length ≤ 60) (h1 : ∀ R : List D → Env → Prop, R (rowsT M) ρ → ti ρ R) (hb : barePl ρ vs)
    (step : ∀ x ∈ M, ∀ R : T → Env → Prop, (∀ r ρ4, r.dat = some (.int (x.sum : Nat)) → wipeP ρ4 vs = wipeP ρ vs → R r ρ4) → g (.d (.tuple (nats x))) (wipeP ρ vs) fun ρ2 => te ρ2 R) (fin : Q (.l (nats (M.map List.sum))) ρ) : qLc ti g qYes te vs ρ Q :=
  lc_to M (fun r => .tuple (nats r)) (fun r => .int (r.sum : Nat)) h1 hb (szL (by omega)) step (by unfold nats at fin; rw [List.map_map] at fin; exact fin)
theorem zipD_nats : ∀ (row : List Nat) (M : List (List Nat)), zipD (nats row) (rowsL M) = (row.zip M).map fun p => .tuple [.int (p.1 : Nat), .list (nats p.2)]
  | [], _ => rfl
  | _ :: _, [] => rfl
  | x :: row, r :: M => by
    have ih := zipD_nats row M
    unfold zipD at ih ⊢
    exact congrArg (fun z => PyData.tuple [.int (x : Nat), .list (nats r)] :: z) ih
/-- a list of one's own, or frozen -/
def lsT (t : T) (ds : List D) : Prop := t = .l ds ∨ t = .d (.list ds)
theorem frz_to {i : Nat} {t : QS} {DP : PEnds} {ρ : Env} {x : T} {ds : List D} (h : ρ[i]? = some x) (hx : lsT x ds) (q : t DP (ρ.set i (.d (.list ds)))) : sFrz i t DP ρ := by
  unfold sFrz
  rcases hx with rfl | rfl
  · rw [h]; exact q
  · rw [h]
    have e : ρ.set i (.d (.list ds)) = ρ := by
      obtain ⟨h1, h2⟩ := List.getElem?_eq_some_iff.mp h
      rw [← h2]
      exact List.set_getElem_self h1
    rw [e] at q
    exact q
theorem enum_sg (v : List Nat) {i : Nat} {d : D} (h : (enumD (signsD (sg v)))[i]? = some d) : ∃ x, v[i]? = some x ∧ d = .tuple [.int (i : Nat), .str (sg [x])] := by
  have hi := (List.getElem?_eq_some_iff.mp h).1
  rw [enumD_len, sg_signs, List.length_map] at hi
  have hx : v[i]? = some v[i] := List.getElem?_eq_getElem hi
  have e : (signsD (sg v))[i]? = some (.str (sg [v[i]])) := by rw [sg_signs, List.getElem?_map, hx]; rfl
  rw [enumD_get e] at h
  exact ⟨_, hx, (Option.some.inj h).symm⟩
theorem enum_sgl (v : List Nat) : (enumD (signsD (sg v))).length = v.length := by rw [enumD_len, sg_signs, List.length_map]
theorem gT2 {i j : Nat} {a b : D} {ρ : Env} {P : Env → Prop} (hi : i < ρ.length) (hj : j < ρ.length) (h : P ((ρ.set i (.d a)).set j (.d b))) : gT 2 (gConsP (gN i) (gConsP (gN j) gNilP)) (.d (.tuple [a, b])) ρ P :=
  ⟨rfl, ⟨hi, trivial⟩, ⟨by rw [List.length_set]; exact hj, trivial⟩, rfl, h⟩
theorem bare_is {t : T} (h : t.bare) : t = .un ∨ (∃ d, t = .d d) ∨ ∃ v, t = .raw v := by
  cases t with
  | un => exact .inl rfl
  | d x => exact .inr (.inl ⟨x, rfl⟩)
  | raw v => exact .inr (.inr ⟨v, rfl⟩)
  | _ => exact h.elim
theorem lay_fr (p : Nat × Nat) : Lay 1 (frD p) := lay_tup (each2 (lay_int _) (lay_int _))
theorem sh_fr (p : Nat × Nat) : SeqAt.shaped (frD p) = true := (lay_fr p).shaped
theorem eqv_fr (p q : Nat × Nat) : PyData.eqv (frD p) (frD q) = decide (p = q) := by
  have nb : ∀ p : Nat × Nat, nob (frD p) = true := fun p => rfl
  rw [Bool.eq_iff_iff, eqv_iff _ _ (nb p) (nb q), decide_eq_true_iff]
  constructor
  · intro h
    simp only [frD, PyData.tuple.injEq, List.cons.injEq, PyData.int.injEq, and_true] at h
    exact Prod.ext (Int.ofNat.inj h.1) (Int.ofNat.inj h.2)
  · rintro rfl
    rfl
end PL

set_option Elab.async false
set_option linter.all false
set_option maxRecDepth 100000
/-! PJ, part 6: a dict of one's own, frozen where its name is read. -/
namespace PL
open PySem PySem.Spec L2
variable [Consts]
/-- slot i, a dict, is frozen -/
theorem Ok.frzK {K : PySem.W.Frag} {B : Box} {G F H : Hp} {σ : L2.St} {ρ : List T} {i : Nat} {ds : List (Key × D)} (k : Ok K B G F H σ ρ) (st : ∀ t ∈ ρ, t.still) (ht : ρ[i]? = some (.k ds)) : ∃ F' v, Same F F' ∧ Ok K B G F' H σ (ρ.set i (.d (.dict (ds.map fun p => (keyD p.1, p.2))))) ∧ σ[i]? = some (some v) ∧ Rp K F' v (.dict (ds.map fun p => (keyD p.1, p.2))) := by
  obtain ⟨fp, k⟩ := k
  obtain ⟨a, xs, e1, e2, q, hf⟩ := k.own i _ ht
  have hlt : i < ρ.length := (List.getElem?_eq_some_iff.mp ht).1
  have po := k.out i a ((hf a).mpr rfl)
  have sF : Same F (upd F a (.dK xs)) := same_upd po.2
  have rp : Rp K (upd F a (.dK xs)) (.ref a) (.dict (ds.map fun p => (keyD p.1, p.2))) := .dic upd_same (q.mono sF)
  refine ⟨upd F a (.dK xs), .ref a, sF, ⟨fun j => if j = i then fun _ => False else fp j, k.g, fun b o e => ?_, fun b o e => ?_, B.okF k.bx sF, by simp [k.len], fun j t hj => ?_, fun j j' b h1 h2 => ?_, fun j b h1 => ?_, fun j b h1 => ?_⟩, join_get e1, rp⟩
  · show H b = some o
    by_cases hb : b = a
    · subst hb; rw [upd_same] at e; cases e; exact e2
    · rw [upd_ne hb] at e; exact k.f b o e
  · have hb : b ≠ a := fun z => by subst z; rw [po.1] at e; cases e
    rw [upd_ne hb]
    exact k.gf b o e
  · by_cases e : j = i
    · subst e
      simp only [if_true]
      rw [List.getElem?_set_self hlt] at hj
      cases hj
      exact ⟨fun _ z => z, .ref a, e1, rp⟩
    · simp only [if_neg e]
      rw [List.getElem?_set_ne (Ne.symm e)] at hj
      exact (k.own j t hj).frame (fun _ _ => rfl) sF
  · by_cases e : j = i <;> by_cases e' : j' = i <;> simp only [e, e', if_true, if_false] at h1 h2
    exact k.dj j j' b h1 h2
  · by_cases e : j = i <;> simp only [e, if_true, if_false] at h1
    have hb : b ≠ a := fun z => by
      subst z
      exact e (k.dj j i b h1 ((hf b).mpr rfl))
    rw [upd_ne hb]
    exact k.out j b h1
  · rw [List.length_set]
    by_cases e : j = i <;> simp only [e, if_true, if_false] at h1
    exact k.up j b h1
def qVarK (i : Nat) (ρ : Env) (Q : T → Env → Prop) : Prop := match ρ[i]? with
  | some (.k ds) => Q (.d (.dict (ds.map fun p => (keyD p.1, p.2)))) (ρ.set i (.d (.dict (ds.map fun p => (keyD p.1, p.2)))))
  | _ => False
theorem lift_varK {K : PySem.W.Frag} {B : Box} {i : Nat} {σ : L2.St} {H : Hp} {Q : VK} (h : lift K B (qVarK i) σ H Q) : tVar i σ H Q := by
  obtain ⟨G, F, ρ, P, k, h, q⟩ := h
  unfold qVarK at h
  split at h
  · rename_i ds e
    obtain ⟨F', v, e0, k', e1, r⟩ := k.2.frzK k.1 e
    have k1 : St0 K B G F' H σ (ρ.set i (.d (.dict (ds.map fun p => (keyD p.1, p.2))))) := ⟨mem_set_still k.1 trivial, k'⟩
    exact ⟨v, e1, q _ _ _ _ _ h (k1.d r) e0⟩
  · exact h.elim
section
variable {X : Cx} {B : Box} {pos : Pos}
theorem q_varK (i : Nat) {x : Str} (hN : X.N[i]? = some x := by rfl) (hv : Vis X.env.scope x := by first | exact Or.inl rfl | exact Or.inr (Or.inl rfl) | exact Or.inr (Or.inr rfl)) (hd : (x == ("__debug__" : Str)) = false := by decide)
    (hcd : (x == ("__classdict__" : Str)) = false := by decide) : PE X (.Name x pos) (lift X.K B (qVarK i)) := weakE (pe_var hN hv hd hcd) fun _ _ _ => lift_varK
end
/-! ### the law's flat chains -/
open PC
def flatK (c : Ch) : List (Key × D) := [(.inr "signs", .str (sg c.sg)), (.inr "start", .list (nats c.st)), (.inr "begin", .int (c.st.sum : Nat)), (.inr "steps", .list (rowsL c.sps)), (.inr "step", .int (c.S : Nat)), (.inr "tells", .list (rowsL c.tls)), (.inr "tell", .int (c.T : Nat))]
def flatL (c : Ch) : List (D × D) := [(.str "signs", .str (sg c.sg)), (.str "start", .list (nats c.st)), (.str "begin", .int (c.st.sum : Nat)), (.str "steps", .list (rowsL c.sps)), (.str "step", .int (c.S : Nat)), (.str "tells", .list (rowsL c.tls)), (.str "tell", .int (c.T : Nat))]
def flatD (c : Ch) : D := .dict (flatL c)
theorem flat_map (c : Ch) : PyData.dict ((flatK c).map fun p => (keyD p.1, p.2)) = flatD c := rfl
theorem flat_up (a b d : D) : mergeD [] [(.inr "signs", a), (.inr "start", b), (.inr "begin", d)] = [(.inr "signs", a), (.inr "start", b), (.inr "begin", d)] := by rfl
theorem flat_up2 (a b d e f g h : D) : mergeD [(.inr "signs", a), (.inr "start", b), (.inr "begin", d)] (mergeD [] [(.inr "steps", e), (.inr "step", f), (.inr "tells", g), (.inr "tell", h)]) = [(.inr "signs", a), (.inr "start", b), (.inr "begin", d), (.inr "steps", e), (.inr "step", f), (.inr "tells", g), (.inr "tell", h)] := by rfl
theorem fk_signs (c : Ch) : findK (flatL c) (.inr "signs") = some (.str (sg c.sg)) := by rfl
theorem fk_start (c : Ch) : findK (flatL c) (.inr "start") = some (.list (nats c.st)) := by rfl
theorem fk_begin (c : Ch) : findK (flatL c) (.inr "begin") = some (.int (c.st.sum : Nat)) := by rfl
theorem fk_steps (c : Ch) : findK (flatL c) (.inr "steps") = some (.list (rowsL c.sps)) := by rfl
theorem fk_step (c : Ch) : findK (flatL c) (.inr "step") = some (.int (c.S : Nat)) := by rfl
theorem fk_tells (c : Ch) : findK (flatL c) (.inr "tells") = some (.list (rowsL c.tls)) := by rfl
theorem fk_tell (c : Ch) : findK (flatL c) (.inr "tell") = some (.int (c.T : Nat)) := by rfl
end PL

local macro_rules | `(tactic| simp? only [$ls,*]) => `(tactic| simp only [$ls,*, PL.T.arg, PL.T.dat, PL.T.still, PL.T.stored, PL.T.w, PL.W.dat, PL.W.t, PL.atD, PL.atI_0, PL.atI_1, PL.atI_2, PL.atI_3, PL.atI_cast, PL.bCons, PL.bNil, PL.bi, PL.endsP, PL.endsUn, PL.eqv_ii, PL.findK, PL.fk_begin, PL.fk_signs, PL.fk_start, PL.fk_step, PL.fk_steps, PL.fk_tell, PL.fk_tells, PL.gConsP, PL.gN, PL.gNilP, PL.gT, PL.goesTo, PL.iEL, PL.iES, PL.iET, PL.iL, PL.iR1, PL.iR2, PL.iR3, PL.iS, PL.iT, PL.iZ, PL.iZN, PL.iZS, PL.iZSS, PL.intsD_map, PL.intsD_nats, PL.isDct, PL.isL, PL.itemsD, PL.keeps_bx, PL.keeps_d, PL.keeps_nil, PL.keeps_raw, PL.keyOf, PL.keysP, PL.n_abs, PL.n_add, PL.n_fdiv, PL.n_fmod, PL.n_mul, PL.n_sum, PL.nats_lenS, PL.noC_true, PL.outX, PL.pAbs, PL.pAdd, PL.pEq, PL.pEqR, PL.pFdiv, PL.pFdivB, PL.pGcd, PL.pGe, PL.pGt, PL.pI, PL.pI0, PL.pInt, PL.pIx, PL.pLcm, PL.pLe, PL.pLen, PL.pLstOf, PL.pLstS, PL.pLt, PL.pMax2, PL.pMaxL, PL.pMin2, PL.pMod, PL.pMul, PL.pMulB, PL.pNe, PL.pNeR, PL.pOrd, PL.pPow, PL.pSIndex, PL.pSl, PL.pStarts, PL.pSub, PL.pSum, PL.pTupOf, PL.pickL, PL.qAl, PL.qAnd, PL.qAndV, PL.qApp, PL.qBM, PL.qC, PL.qCall, PL.qCallB, PL.qCallF, PL.qCallX, PL.qCons, PL.qDisp, PL.qDisp1T, PL.qExt, PL.qFld, PL.qFn, PL.qGet2D, PL.qGetD, PL.qGetF, PL.qIf, PL.qInD, PL.qIsE, PL.qKw, PL.qLenD, PL.qLst, PL.qLstRg1, PL.qM1, PL.qNeg, PL.qNewK, PL.qNewKt, PL.qNil, PL.qNoPart, PL.qNot, PL.qNotV, PL.qOp, PL.qOr, PL.qOrV, PL.qPairs, PL.qPart, PL.qPop, PL.qPopAt, PL.qSl, PL.qStar, PL.qTst, PL.qTup, PL.qUpdA, PL.qVar, PL.qVarK, PL.qYes, PL.qZipL, PL.sAsg, PL.sDrop, PL.sFrz, PL.sIf, PL.sNext, PL.sPar, PL.sPutD, PL.sPutL, PL.sRaise, PL.sRaiseF, PL.sRet, PL.sRetN, PL.sSeq, PL.sTry, PL.setAll, PL.setD, PL.startP, PL.wsD, PL.wsD_map, PL.wsR, PL.wsT, PL.z1, PL.z10, PL.z11, PL.z12, PL.z13, PL.z14, PL.z15, PL.z16, PL.z17, PL.z18, PL.z19, PL.z2, PL.z20, PL.z21, PL.z22, PL.z23, PL.z24, PL.z25, PL.z26, PL.z27, PL.z28, PL.z29, PL.z3, PL.z30, PL.z4, PL.z5, PL.z6, PL.z7, PL.z8, PL.z9, Nat.reduceSub, Nat.reduceAdd, Nat.reduceLeDiff, Nat.reduceLT, reduceCtorEq, List.reduceReplicate])

set_option Elab.async false
set_option linter.all false
set_option maxRecDepth 100000
namespace C51
open PySem L2 PL
variable [Consts]
def top (i : Nat) : Stmt := PySem.Challenge.pw_veiledchains_k51_whole_who_told_a_view.main.body.getD i (.Pass ⟨0, 0, 0, 0⟩)
abbrev sJar : Stmt := top 21
abbrev sDraw : Stmt := top 22
/-- the jar: a dict, its list of great cells behind it -/
def jarK (g : Addr) (z t : Int) : List (Key × V) := [(.inr "great", .ref g), (.inr "stirred", .int z), (.inr "made", .int t)]
theorem jar_g (g : Addr) (z t : Int) : valV (jarK g z t) (.inr "great") = some (.ref g) := rfl
theorem jar_s (g : Addr) (z t : Int) : valV (jarK g z t) (.inr "stirred") = some (.int z) := by rfl
theorem jar_t (g : Addr) (z t : Int) : valV (jarK g z t) (.inr "made") = some (.int t) := by rfl
theorem jar_put (g : Addr) (z t t' : Int) : putK (jarK g z t) (.inr "made") (.int t') = jarK g z t' := by rfl
structure JarAt (H : Hp) (u g : Addr) (xs : List Int) (z t : Int) : Prop where
  ne : g ≠ u
  ud : H u = some (.dK (jarK g z t))
  gl : H g = some (.lst (xs.map V.int))
  few : xs.length ≤ 63
def jarBox : Box where
  at_ := fun H u fp => ∃ g xs z t, JarAt H u g xs z t ∧ ∀ a, fp a ↔ a = u ∨ a = g
  frame := fun {H H' u fp} ⟨g, xs, z, t, h, e⟩ k => ⟨g, xs, z, t, ⟨h.ne, (k u ((e u).mpr (.inl rfl))).trans h.ud, (k g ((e g).mpr (.inr rfl))).trans h.gl, h.few⟩, e⟩
  live := fun {H u fp} ⟨g, xs, z, t, h, e⟩ a ha => by
    rcases (e a).mp ha with rfl | rfl
    · rw [h.ud]; exact fun z => nomatch z
    · rw [h.gl]; exact fun z => nomatch z
structure Tx (mg : Str → Option Value) : Prop where
  len : mg "len" = none
  int : mg "int" = none
  abs : mg "abs" = none
section
variable {P : Program} {w : World} {K : PySem.W.Frag} {mg : Str → Option Value} {base : Heap}
theorem cut63 {xs : List V} (h : xs.length ≤ 63) : cutV xs none (some 63) = xs := by
  have h1 : HT.sIx xs.length 0 none = 0 := rfl
  have h2 : HT.sIx xs.length xs.length (some 63) = xs.length := by
    show HT.sIx _ _ _ = _
    simp [HT.sIx]
    omega
  unfold cutV
  rw [h1, h2]
  simp
theorem tYes_if {σ : L2.St} {H : Hp} {A B : Hp → Prop} (h : A H) : tYes σ H fun b H4 => if b = true then A H4 else B H4 := by
  show (if (true = true) then A H else B H)
  rw [if_pos rfl]
  exact h
theorem scJar : FnScope ["script", "cells", "stirred", "cell"] ["script"] (defScope sJar) := ⟨rfl, rfl, rfl, by decide +kernel, rfl, by decide +kernel, by decide +kernel⟩
theorem ok_jar {f : Addr} {fd : FuncData} (F : Fun K "_law_jar" "_law_jar" sJar f fd) (T : Tx mg) : FnOk P w K mg base CX0 1 f fd ["script"] (spBox K jarBox) := by
  refine F.ok scJar (fun vs H Q E h => ?_) (fun cdv A outer s H vs Q E hr h => ?_)
  · obtain ⟨a, ns, rfl, _⟩ := h
    rfl
  · obtain ⟨a, ns, rfl, hS, hlen, k⟩ := h
    have hu := hu_of hr
    refine ⟨_, pss_cons (ps_par rfl scJar.nd rfl rfl (i := 1) (j := 2) (by decide) rfl rfl
        (pa_cons (pe_lc (own := [("cell", 3)]) rfl scJar.nd (pi_list (pe_slice sl_list (pv 0) po_none (po_some pe_int))) (blkOk_by (by kernel_rfl)) (fun _ _ _ _ _ => pg_name (i := 3) scJar.nd rfl (Or.inl rfl)) (fun _ _ _ _ _ => pts_nil)
            (fun _ _ _ _ _ => pe_op op_add (pe_op op_mul pe_int (pe_callB call_abs (by rfl) T.abs (by rfl) (pa_cons (pv 3) pa_nil))) (pe_callTy call_int1 (by rfl) T.int (by rfl) (pa_cons (pe_cmpR op_lt (pv 3) pe_int (nomark _)) pa_nil))))
          (pa_cons (pe_op op_add pe_int (pe_op op_mul pe_int (pe_callB call_len_seq (by rfl) T.len PySem.boot_len (pa_cons (pv 0) pa_nil)))) pa_nil)) (by rfl))
      (pss_cons (ps_for PassesOwn.never rfl (pi_list (pv 1)) (pg_name (i := 3) scJar.nd rfl (Or.inl rfl))
        (pss_one (ps_set (i := 2) scJar.nd rfl (Or.inl rfl) (pe_op op_modN (pe_callTy call_int1 (by rfl) T.int (by rfl) (pa_cons (pe_op op_add (pe_op op_add (pe_op op_mul (pv 2) pe_int) (pv 3)) pe_int) pa_nil)) pe_int))))
      (pss_one (ps_ret (pe_disp (pps_cons pe_str (pe_lc (own := [("cell", 3)]) rfl scJar.nd (pi_list (pv 1)) (blkOk_by (by kernel_rfl)) (fun _ _ _ _ _ => pg_name (i := 3) scJar.nd rfl (Or.inl rfl))
          (fun _ _ _ _ _ => pts_one (pt_cmpR op_ge (pv 3) (pe_op op_pow pe_int pe_int) (nomark _))) (fun _ _ _ _ _ => pe_op op_fdivN (pv 3) pe_int)) (pps_cons pe_str (pv 2) (pps_cons pe_str pe_int pps_nil))) rfl rfl (by decide) (by decide))))), ?_⟩
    delta tSeq tPar tCons
    refine lcI (K := K) ns (fun R hR => ?_) (fun c hc H2 R R0 h1 h2 => ?_) (by rw [sizeLine_eq]; omega) fun D1 H1 cs hl1 d1 g1 s1 => ?_
    · refine ⟨_, rfl, _, rfl, a, ns.map V.int, rfl, hS, fun p hp => ?_⟩
      rw [cut63 (by rw [List.length_map]; exact hlen)]
      exact ⟨p, rfl, ⟨_, .inl (.inl upd_same)⟩, hR p _ upd_same (same_upd hp)⟩
    · refine ⟨rfl, tYes_if ?_⟩
      refine ⟨_, rfl, _, rfl, _, _, rfl, rfl, .inl (by decide), _, rfl, _, _, rfl, rfl, .inr ⟨_, rfl, _, _, rfl, rfl, h1 _⟩⟩
    have hS1 : SqL K H1 a (ns.map V.int) := s1.seq hS
    refine ⟨_, rfl, a, ns.map V.int, rfl, .inl hS1, _, _, rfl, rfl, .inl (by decide), _, _, rfl, rfl, _, _, rfl, ?_⟩
    refine ⟨_, rfl, D1, rfl, ⟨_, .inl (.inl g1)⟩, for_list (xs := cs.map V.int) (fun i σ H2 => ∃ (z : Int) (v : Option V), σ = [some (.ref a), some (.ref D1), some (.int z), v] ∧ H2 = H1)
      ⟨_, none, rfl, rfl⟩ (fun i σ H2 _ ⟨_, _, _, h⟩ => .inl (.inl (by rw [h]; exact g1))) ?_ ?_⟩
    · rintro i y σ H2 hi ⟨z, v, rfl, rfl⟩
      obtain ⟨c, rfl⟩ : ∃ c, y = V.int c := by
        rw [List.getElem?_map] at hi
        cases e : cs[i]? with
        | none => rw [e] at hi; cases hi
        | some c => rw [e] at hi; exact ⟨c, (Option.some.inj hi).symm⟩
      refine ⟨_, rfl, _, _, rfl, rfl, .inr (by decide), _, rfl, _, _, rfl, rfl, _, _, rfl, rfl, .inl ⟨_, rfl, _, _, rfl, rfl, (by show (4294967279 : Int) ≠ 0; decide), ?_⟩⟩
      exact ⟨_, _, rfl, rfl⟩
    · rintro σ H2 ⟨z, v, rfl, rfl⟩
      intro q hq
      have s2 : Same H2 (upd H2 q (.dK [])) := same_upd hq
      unfold tPairs
      delta tC
      refine lcI (K := K) cs (fun R hR => ?_) (fun c hc H3 R R0 h1 h2 => ?_) (by rw [sizeLine_eq]; omega) fun D2 H3 gs hl2 d2 g2 s3 => ?_
      · exact ⟨_, rfl, D1, rfl, ⟨_, .inl (.inl (s2 _ _ g1))⟩, hR D1 _ (s2 _ _ g1) (Same.refl _)⟩
      · refine ⟨rfl, _, rfl, _, _, rfl, rfl, ⟨by decide, by decide, by decide⟩, _, _, rfl, rfl, _, rfl, ?_⟩
        refine ite2 (fun _ => ?_) (fun _ => ?_)
        · exact ⟨_, rfl, _, _, rfl, rfl, ⟨by decide, by decide⟩, h1 _⟩
        · exact h2
      · have nq : q ≠ D2 := fun e => by subst e; rw [upd_same] at d2; cases d2
        refine ⟨_, rfl, s3 _ _ upd_same, jarK D2 z 0, rfl, (by show 3 ≤ 15; decide), ?_⟩
        refine k q _ (fun b => b = q ∨ b = D2) ⟨D2, gs, z, 0, ⟨Ne.symm nq, by rw [upd_same]; rfl, by rw [upd_ne (Ne.symm nq)]; exact g2, by omega⟩, fun b => Iff.rfl⟩ (fun b e => ?_) fun b o e => ?_
        · rcases e with rfl | rfl
          · exact s1.free hq
          · exact s1.free (s2.free d2)
        · have nb : b ≠ q := fun e' => by subst e'; rw [s1 b o e] at hq; cases hq
          rw [upd_ne nb]
          exact s3 b o (s2 b o (s1 b o e))
/-- one number below many, 0 where there is no choice -/
def drawF : List T → (T → Prop) → Prop := fun ts P => ∃ u n, ts = [.bx u, .d (.int n)] ∧ n < 1073741824 ∧ ∀ r : Int, 0 ≤ r → (r = 0 ∨ r < n) → P (.d (.int r))
theorem bxStep {K : PySem.W.Frag} {B : Box} {G F H H' : Hp} {σ : L2.St} {ρ : List T} {fp : Nat → Addr → Prop} {i : Nat} {u : Addr} (k : OkW K B G F H σ ρ fp) (hi : ρ[i]? = some (.bx u)) (keep : ∀ a, H a ≠ none → ¬ fp i a → H' a = H a) (h : B.at_ H' u (fp i)) : OkW K B G F H' σ ρ fp := by
  have live := k.live
  refine ⟨fun a o e => ?_, fun a o e => ?_, k.gf, k.bx, k.len, fun j t hj => ?_, k.dj, k.out, k.up⟩
  · rw [keep a (by rw [k.g a o e]; exact fun z => nomatch z) fun z => by have := (k.out i a z).1; rw [e] at this; cases this]
    exact k.g a o e
  · rw [keep a (by rw [k.f a o e]; exact fun z => nomatch z) fun z => by have := (k.out i a z).2; rw [e] at this; cases this]
    exact k.f a o e
  · by_cases e : j = i
    · subst e
      rw [hi] at hj
      cases hj
      exact ⟨(k.own j _ hi).1, h⟩
    · exact (k.own j t hj).frame (fun a ha => keep a (live j a ha) fun z => e (k.dj j i a ha z)) (Same.refl F)
theorem shapedInts (xs : List Int) : SeqAt.shaped (.list (xs.map .int)) = true := by
  have h : ∀ xs : List Int, PyData.canLayAll0 (xs.map .int) = true ∧ PyData.depthAll (xs.map .int) = 0 := fun xs => by
    induction xs with
    | nil => exact ⟨rfl, rfl⟩
    | cons x xs ih => exact ⟨by simp [PyData.canLayAll0, PyData.canLay0, ih.1], by simp [PyData.depthAll, PyData.depth, ih.2]⟩
  simp [SeqAt.shaped, PyData.canLay0, PyData.depth, h]
theorem dpInts {K : PySem.W.Frag} {H : Hp} : ∀ xs : List Int, DpAll K H (xs.map V.int) (xs.map .int)
  | [] => .nil
  | x :: xs => .cons (.int x) (dpInts xs)
theorem fmB (a : Int) {m : Int} (h : 0 < m) : 0 ≤ a.fmod m ∧ a.fmod m < m := ⟨Int.fmod_nonneg_of_pos a h, Int.fmod_lt_of_pos a h⟩
theorem seqMid {t v : TS} {D : Ends} {σ : L2.St} {H : Hp} {R : L2.St → Hp → Prop} (h1 : ∀ D' : Ends, (∀ σ H, R σ H → D'.nx σ H) → t D' σ H) (h2 : ∀ σ H, R σ H → v D σ H) : tSeq t v D σ H := h1 _ h2
theorem scDraw : FnScope ["jar", "many", "whole", "one"] ["jar", "many"] (defScope sDraw) := ⟨rfl, rfl, rfl, by decide +kernel, rfl, by decide +kernel, by decide +kernel⟩
section
variable {H H0 : Hp} {u g : Addr} {xs : List Int} {z t n : Int} {c d : Option V}
/-- what the walk of the def keeps -/
structure Jn (H0 H : Hp) (u g : Addr) (xs : List Int) (z t : Int) : Prop where
  at_ : JarAt H u g xs z t
  kp : ∀ a, H0 a ≠ none → a ≠ u → a ≠ g → H a = H0 a
theorem Jn.free (J : Jn H0 H u g xs z t) {p : Addr} (hp : H p = none) (o : HO) : Jn H0 (upd H p o) u g xs z t := by
  have nu : u ≠ p := fun e => by subst e; rw [J.at_.ud] at hp; cases hp
  have ng : g ≠ p := fun e => by subst e; rw [J.at_.gl] at hp; cases hp
  refine ⟨⟨J.at_.ne, (upd_ne nu).trans J.at_.ud, (upd_ne ng).trans J.at_.gl, J.at_.few⟩, fun a h0 h1 h2 => ?_⟩
  have e := J.kp a h0 h1 h2
  rw [upd_ne (fun e' => by subst e'; rw [hp] at e; exact h0 e.symm)]
  exact e
theorem Jn.set (J : Jn H0 H u g xs z t) {ys : List Int} (hy : ys.length ≤ 63) : Jn H0 (upd H g (.lst (ys.map V.int))) u g ys z t :=
  ⟨⟨J.at_.ne, (upd_ne (Ne.symm J.at_.ne)).trans J.at_.ud, upd_same, hy⟩, fun a h0 h1 h2 => (upd_ne h2).trans (J.kp a h0 h1 h2)⟩
theorem Jn.turn (J : Jn H0 H u g xs z t) (t' : Int) : Jn H0 (upd H u (.dK (jarK g z t'))) u g xs z t' :=
  ⟨⟨J.at_.ne, upd_same, (upd_ne J.at_.ne).trans J.at_.gl, J.at_.few⟩, fun a h0 h1 h2 => (upd_ne h1).trans (J.kp a h0 h1 h2)⟩
/-- jar['great'] and the like -/
theorem rdK {σ : L2.St} {Q : VK} {k : Str} {v : V} (J : Jn H0 H u g xs z t) (h0 : σ[0]? = some (some (.ref u))) (hv : valV (jarK g z t) (.inr k) = some v) (q : Q v H) : tDGet (tVar 0) (tC (.str k)) σ H Q :=
  ⟨_, h0, u, v, rfl, by have := DGet.k (k := Sum.inr k) J.at_.ud; rw [hv] at this; exact this, q⟩
end
theorem ok_draw {f : Addr} {fd : FuncData} (F : Fun K "_law_draw" "_law_draw" sDraw f fd) (T : Tx mg) : FnOk P w K mg base CX0 1 f fd ["jar", "many"] (spP K jarBox 2 drawF) := by
  refine F.ok scDraw (spP_len) (fun cdv A outer s H vs Q E hr h => ?_)
  obtain ⟨G, F0, ts, Pq, hl, harg, ok, hφ, q⟩ := h
  obtain ⟨u, n, rfl, n1, hP⟩ := hφ
  obtain ⟨fp, ok⟩ := ok
  have hu := hu_of hr
  have hu64 : (A.deeper (PyProof.Rows.envOfC "_law_draw" (defScope sDraw) s.heap.objs.size f cdv)).units + 64 < cLine := hr.units
  obtain ⟨v0, v1, rfl⟩ : ∃ v0 v1, vs = [v0, v1] := by
    have e := ok.len
    simp at e
    match vs, e with
    | [a, b], _ => exact ⟨a, b, rfl⟩
  obtain ⟨e0, g, xs0, z, t0, hat, hfp⟩ := ok.own 0 _ rfl
  obtain ⟨_, v, e1, rv⟩ := ok.own 1 _ rfl
  cases e0
  cases rv
  cases e1
  have dn : ∀ (H' : Hp) (xs : List Int) (t : Int) (r : Int), Jn H H' u g xs z t → 0 ≤ r → (r = 0 ∨ r < n) → Q (.int r) H' := fun H' xs t r J r0 r1 => by
    have k1 := bxStep (H' := H') ok (i := 0) (u := u) rfl (fun a ha hf => J.kp a ha (fun e => hf ((hfp a).mpr (.inl e))) fun e => hf ((hfp a).mpr (.inr e))) ⟨g, xs, z, t, J.at_, hfp⟩
    exact q _ _ H' F0 (hP r r0 r1) trivial (Ok.pushD ⟨_, k1⟩ (.int r)) (Same.refl F0)
  have J0 : Jn H H u g xs0 z t0 := ⟨hat, fun a _ _ _ => rfl⟩
  refine ⟨_, pss_cons (ps_if (pt_cmpR op_lt (pv 1) pe_int (nomark _)) (pss_one (ps_ret pe_int)) pss_nil)
    (pss_cons (ps_if (pt_cmpR (op_neD hu64) (pe_dget hu (pv 0) pe_str (fun _ _ => rfl)) (pe_lst pa_nil) (nomark _))
      (pss_cons (ps_set (i := 2) scDraw.nd rfl (Or.inl rfl) (pe_bm0 PySem.F.plainAttrs_list PySem.F.slot_list_pop PySem.F.type_list_pop mt_pop (pe_dget hu (pv 0) pe_str (fun _ _ => rfl))))
        (pss_cons (ps_if (pt_cmpR op_ge (pv 2) (pv 1) (nomark _))
            (pss_one (ps_expr (pe_bm PySem.F.plainAttrs_list PySem.F.slot_list_append PySem.F.type_list_append mt_append (pe_dget hu (pv 0) pe_str (fun _ _ => rfl)) (pa_cons (pe_op op_fdivN (pv 2) (pv 1)) pa_nil)))) pss_nil)
          (pss_one (ps_ret (pe_op op_modN (pe_callTy call_int1 (by rfl) T.int (by rfl) (pa_cons (pv 2) pa_nil)) (pv 1))))))
      pss_nil)
    (pss_cons (ps_dput hu (pv 0) pe_str (pe_op op_add (pe_dget hu (pv 0) pe_str (fun _ _ => rfl)) pe_int) rfl)
    (pss_cons (ps_set (i := 3) scDraw.nd rfl (Or.inl rfl) (pe_op op_modN (pe_callTy call_int1 (by rfl) T.int (by rfl) (pa_cons (pe_op op_add (pe_dget hu (pv 0) pe_str (fun _ _ => rfl)) (pe_op op_mul pe_int (pe_dget hu (pv 0) pe_str (fun _ _ => rfl)))) pa_nil)) pe_int))
    (pss_cons (ps_set (i := 3) scDraw.nd rfl (Or.inl rfl) (pe_op op_modN (pe_callTy call_int1 (by rfl) T.int (by rfl) (pa_cons (pe_op op_add (pe_op op_add (pe_op op_mul (pv 3) (pv 3)) (pe_op op_mul pe_int (pe_dget hu (pv 0) pe_str (fun _ _ => rfl)))) pe_int) pa_nil)) pe_int))
    (pss_cons (ps_set (i := 3) scDraw.nd rfl (Or.inl rfl) (pe_op op_modN (pe_callTy call_int1 (by rfl) T.int (by rfl) (pa_cons (pe_op op_add (pe_op op_mul (pv 3) (pv 3)) (pe_dget hu (pv 0) pe_str (fun _ _ => rfl))) pa_nil)) pe_int))
    (pss_one (ps_ret (pe_op op_modN (pe_callTy call_int1 (by rfl) T.int (by rfl) (pa_cons (pe_op op_fdivN (pv 3) pe_int) pa_nil)) (pv 1))))))))), ?_⟩
  refine ⟨_, rfl, _, _, rfl, rfl, _, rfl, ?_⟩
  refine ite2 (fun _ => dn _ _ _ _ J0 (by decide) (.inl rfl)) (fun hn => ?_)
  have n0 : 0 < n := by simpa using (show ¬ (n < 2) from by simpa using hn) |> fun h => (by omega : 0 < n)
  have two : ∀ {A1 A2 : Prop} {xs : List Int}, (xs = [] → A2) → (∀ ys y, xs = ys ++ [y] → A1) → (if (!xs.isEmpty) = true then A1 else A2) := fun {A1 A2 xs} h1 h2 => by
    cases e : xs with
    | nil => exact iteF (h1 e)
    | cons a r =>
      refine iteT ?_
      have hne : xs ≠ [] := by rw [e]; exact fun z => nomatch z
      exact h2 xs.dropLast (xs.getLast hne) (List.dropLast_concat_getLast hne).symm
  have last : ∀ (ys : List Int) (y : Int), ((ys ++ [y]).map V.int)[((ys ++ [y]).map V.int).length - 1]? = some (V.int y) ∧ ((ys ++ [y]).map V.int).dropLast = ys.map V.int := fun ys y => by
    rw [List.map_append]
    refine ⟨?_, ?_⟩
    · simp
    · show (ys.map V.int ++ [V.int y]).dropLast = _
      rw [List.dropLast_concat]
  refine rdK J0 rfl (jar_g _ _ _) ⟨by decide, fun p hp => ?_⟩
  have J1 := J0.free hp (.lst [])
  refine ⟨.list (xs0.map .int), .list [], .lst (.inl (.inl J1.at_.gl)) (dpInts xs0), .lst (.inl (.inl upd_same)) .nil, shapedInts xs0, rfl, !xs0.isEmpty, by cases xs0 <;> rfl, ?_⟩
  refine two (fun e => ?x2) fun ys y e => ?x1
  case x1 =>
    subst e
    have hl : (ys ++ [y]).length ≤ 63 := J1.at_.few
    refine rdK J1 rfl (jar_g _ _ _) ⟨.inl ⟨rfl, _, .inl (.inl J1.at_.gl)⟩, g, _, .int y, rfl, rfl, J1.at_.gl, (last ys y).1, ?_⟩
    rw [(last ys y).2]
    have J3 := J1.set (ys := ys) (by simp at hl; omega)
    refine ⟨_, rfl, _, rfl, _, _, rfl, rfl, _, rfl, ?_⟩
    refine ite2 (fun _ => ?_) (fun _ => ?_)
    · refine rdK J3 rfl (jar_g _ _ _) ⟨.inl ⟨rfl, _, .inl (.inl J3.at_.gl)⟩, _, rfl, _, rfl, _, _, rfl, rfl, ⟨by omega, by omega⟩, g, _, _, rfl, rfl, J3.at_.gl, (by rw [List.length_map, sizeLine_eq]; simp at hl; omega), ?_⟩
      have J4 := J3.set (ys := ys ++ [y.fdiv n]) (by simpa using hl)
      rw [List.map_append] at J4
      exact ⟨_, rfl, .inl ⟨_, rfl, _, rfl, _, _, rfl, rfl, (by show n ≠ 0; omega), dn _ _ _ _ J4 (fmB y n0).1 (.inr (fmB y n0).2)⟩⟩
    · exact ⟨_, rfl, .inl ⟨_, rfl, _, rfl, _, _, rfl, rfl, (by show n ≠ 0; omega), dn _ _ _ _ J3 (fmB y n0).1 (.inr (fmB y n0).2)⟩⟩
  case x2 =>
    have J3 := J1.turn (t0 + 1)
    refine rdK J1 rfl (jar_t _ _ _) ⟨_, _, rfl, rfl, _, rfl, u, _, rfl, .inl ⟨_, Sum.inr "made", J1.at_.ud, rfl, (by show 3 < sizeLine; rw [sizeLine_eq]; omega), rfl⟩, ?_⟩
    refine rdK J3 rfl (jar_s _ _ _) (rdK J3 rfl (jar_t _ _ _) ⟨_, _, rfl, rfl, .inl (by decide), _, _, rfl, rfl, .inl ⟨_, rfl, _, _, rfl, rfl, (by show (4294967291 : Int) ≠ 0; decide), ?_⟩⟩)
    have b1 := fmB (z + 2654435761 * (t0 + 1)) (m := 4294967291) (by decide)
    refine ⟨_, rfl, _, rfl, _, _, rfl, rfl, .inl (by constructor <;> omega), rdK J3 rfl (jar_t _ _ _) ⟨_, _, rfl, rfl, .inl (by decide), _, _, rfl, rfl, _, _, rfl, rfl, .inl ⟨_, rfl, _, _, rfl, rfl, (by show (4294967231 : Int) ≠ 0; decide), ?_⟩⟩⟩
    have b2 := fmB ((z + 2654435761 * (t0 + 1)).fmod 4294967291 * (z + 2654435761 * (t0 + 1)).fmod 4294967291 + 16807 * (t0 + 1) + 29) (m := 4294967231) (by decide)
    refine ⟨_, rfl, _, rfl, _, _, rfl, rfl, .inl (by constructor <;> omega), rdK J3 rfl (jar_s _ _ _) ⟨_, _, rfl, rfl, .inl ⟨_, rfl, _, _, rfl, rfl, (by show (4294967197 : Int) ≠ 0; decide), ?_⟩⟩⟩
    exact ⟨_, rfl, _, _, rfl, rfl, ⟨by decide, by decide⟩, .inl ⟨_, rfl, _, rfl, _, _, rfl, rfl, (by show n ≠ 0; omega), dn _ _ _ _ J3 (fmB _ n0).1 (.inr (fmB _ n0).2)⟩⟩
end
end C51

set_option Elab.async false
set_option linter.all false
set_option maxRecDepth 100000
namespace C51
open PySem L2 PL PC
variable [Consts]
structure Ty2 (mg : Str → Option Value) : Prop where
  len : mg "len" = none
  int : mg "int" = none
  abs : mg "abs" = none
  range : mg "range" = none
  enumerate : mg "enumerate" = none
  tuple : mg "tuple" = none
  list : mg "list" = none
  zip : mg "zip" = none
  repr : mg "repr" = none
  sum : mg "sum" = none
  max : mg "max" = none
  gcd : mg "gcd" = some (.builtin "math.gcd")
  lcm : mg "lcm" = some (.builtin "math.lcm")
  GAP : ∃ t, mg "GAP" = some (.str "." t)
abbrev sLowest : Stmt := top 8
abbrev sAdded : Stmt := top 9
abbrev sMultiplied : Stmt := top 10
abbrev sDivided : Stmt := top 11
abbrev sLeastM : Stmt := top 7
abbrev sScaled : Stmt := top 14
abbrev sGone : Stmt := top 15
/-- below 2 ^ 4400 -/
def Sz (n : Nat) : Prop := n < 2 ^ 4400
theorem Sz.bg {n : Nat} (h : Sz n) : Bg n := Bg.of h (by decide)
theorem Sz.le {n m : Nat} (h : Sz m) (e : n ≤ m) : Sz n := Nat.lt_of_le_of_lt e h
theorem Sz.mul {a b : Nat} (h : Sz a) (g : Sz b) : Bg (a * b) := Bg.of (lt_mul h g) (by decide)
theorem Sz.mad {a b c d : Nat} (h : Sz a) (g : Sz b) (i : Sz c) (j : Sz d) : Bg (a * b + c * d) := Bg.of (lt_add (lt_mul h g) (lt_mul i j)) (by decide)
def lowestF : List T → (T → Prop) → Prop := fun ts P => ∃ a b : Nat, ts = [.d (.int (a : Nat)), .d (.int (b : Nat))] ∧ 0 < b ∧ Bg b ∧ P (.d (frD (low a b)))
def mulF : List T → (T → Prop) → Prop := fun ts P => ∃ a b c d : Nat, ts = [.d (frD (low a b)), .d (frD (low c d))] ∧ (0 < b ∧ 0 < d) ∧ (Sz a ∧ Sz b ∧ Sz c ∧ Sz d) ∧ P (.d (frD (low (a * c) (b * d))))
def addF : List T → (T → Prop) → Prop := fun ts P => ∃ a b c d : Nat, ts = [.d (frD (low a b)), .d (frD (low c d))] ∧ (0 < b ∧ 0 < d) ∧ (Sz a ∧ Sz b ∧ Sz c ∧ Sz d) ∧ P (.d (frD (low (a * d + c * b) (b * d))))
def divF : List T → (T → Prop) → Prop := fun ts P => ∃ a b c d : Nat, ts = [.d (frD (low a b)), .d (frD (low c d))] ∧ (0 < b ∧ 0 < d ∧ 0 < c) ∧ (Sz a ∧ Sz b ∧ Sz c ∧ Sz d) ∧ P (.d (frD (low (a * d) (b * c))))
def leastMF : List T → (T → Prop) → Prop := fun ts P => ∃ (ns : List Nat) (N : Nat), ts = [.d (.list (nats ns))] ∧ (∀ s ∈ ns, s ∣ N) ∧ 0 < N ∧ Bg N ∧ P (.d (.int (lm ns : Nat)))
section
variable {P : Program} {w : World} {K : PySem.W.Frag} {mg : Str → Option Value} {base : Heap}
theorem scLowest : FnScope ["a", "b", "divisor"] ["a", "b"] (defScope sLowest) := ⟨rfl, rfl, rfl, by decide +kernel, rfl, by decide +kernel, by decide +kernel⟩
theorem ok_lowest {f : Addr} {fd : FuncData} (F : Fun K "lowest" "lowest" sLowest f fd) (T : Ty2 mg) : FnG P w K mg base CX0 1 f fd ["a", "b"] (spP K jarBox 2 lowestF) := by
  refine fnP F scLowest fun cdv A outer s H E hr ts Pq hl hφ => ?_
  have S := @scLowest
  have hu64 : (A.deeper (PyProof.Rows.envOfC "lowest" (defScope sLowest) s.heap.objs.size f cdv)).units + 64 < cLine := hr.units
  obtain ⟨a, b, rfl, hb, hB, hP⟩ := hφ
  refine ⟨_, (s_cons (s_if (t_cmp o_eq (op_eqD hu64) (q_al 1) (q_int) (nomark _)) ss_never s_nil)
      (s_cons (s_set (i := 2) S.nd (q_if (t_cmp o_gt op_gt (q_al 1) (q_int) (nomark _)) (q_callG c_gcd cr_gcd (by rfl) T.gcd (a_cons (q_al 0) (a_cons (q_al 1) a_nil))) (q_neg (q_callG c_gcd cr_gcd (by rfl) T.gcd (a_cons (q_al 0) (a_cons (q_al 1) a_nil))))))
      (s_one (s_ret (q_tup (a_cons (q_op o_fdivB op_fdivB (q_al 0) (q_al 2)) (a_cons (q_op o_fdivB op_fdivB (q_al 1) (q_al 2)) a_nil))))))), ?_⟩
  have b0 : ¬ ((b : Nat) : Int) = 0 := by omega
  have b1 : (0 : Int) < ((b : Nat) : Int) := by omega
  have g0 : 0 < Nat.gcd a b := Nat.gcd_pos_of_pos_right _ hb
  have g1 : ¬ ((Nat.gcd a b : Nat) : Int) = 0 := by omega
  have g2 : Big ((Nat.gcd a b : Nat) : Int) := (hB.le (Nat.gcd_le_right _ hb)).big
  simp? only [decide_eq_false b0, decide_eq_true b1]
  exact ⟨shI _, shI _, ⟨g1, g2⟩, ⟨g1, g2⟩, szL (by decide), hP⟩
structure GLow (P : Program) (w : World) (K : PySem.W.Frag) (mg : Str → Option Value) (base : Heap) : Prop where
  lowest : Cal P w K mg base jarBox 1 "lowest" ["a", "b"] 2 lowestF
theorem scMultiplied : FnScope ["one", "other"] ["one", "other"] (defScope sMultiplied) := ⟨rfl, rfl, rfl, by decide +kernel, rfl, by decide +kernel, by decide +kernel⟩
theorem ok_multiplied {f : Addr} {fd : FuncData} (F : Fun K "multiplied" "multiplied" sMultiplied f fd) (G : GLow P w K mg base) : FnG P w K mg base CX0 2 f fd ["one", "other"] (spP K jarBox 2 mulF) := by
  refine fnP F scMultiplied fun cdv A outer s H E hr ts Pq hl hφ => ?_
  have S := @scMultiplied
  obtain ⟨a, b, c, d, rfl, ⟨hb, hd⟩, ⟨za, zb, zc, zd⟩, hP⟩ := hφ
  refine ⟨_, (s_one (s_ret (q_cF G.lowest (hr.mono (by decide)) (by rfl) (a_cons (q_op o_mulB op_mulBP (q_ix (q_al 0) (q_int)) (q_ix (q_al 1) (q_int))) (a_cons (q_op o_mulB op_mulBP (q_ix (q_al 0) (q_int)) (q_ix (q_al 1) (q_int))) a_nil))))), ?_⟩
  have l1 := low_le a b
  have l2 := low_le c d
  simp? only [frD]
  refine ⟨⟨(za.bg.le l1.1).big, (zc.bg.le l2.1).big⟩, ⟨(zb.bg.le l1.2).big, (zd.bg.le l2.2).big⟩, ?_⟩
  refine ⟨_, _, rfl, Nat.mul_pos (low_pos hb) (low_pos hd), (Sz.mul zb zd).le (Nat.mul_le_mul l1.2 l2.2), ?_⟩
  rw [low_mul hb hd]
  exact ⟨hP, trivial⟩
theorem scAdded : FnScope ["one", "other"] ["one", "other"] (defScope sAdded) := ⟨rfl, rfl, rfl, by decide +kernel, rfl, by decide +kernel, by decide +kernel⟩
theorem ok_added {f : Addr} {fd : FuncData} (F : Fun K "added" "added" sAdded f fd) (G : GLow P w K mg base) : FnG P w K mg base CX0 2 f fd ["one", "other"] (spP K jarBox 2 addF) := by
  refine fnP F scAdded fun cdv A outer s H E hr ts Pq hl hφ => ?_
  have S := @scAdded
  obtain ⟨a, b, c, d, rfl, ⟨hb, hd⟩, ⟨za, zb, zc, zd⟩, hP⟩ := hφ
  refine ⟨_, (s_one (s_ret (q_cF G.lowest (hr.mono (by decide)) (by rfl) (a_cons (q_op o_add op_addP (q_op o_mulB op_mulBP (q_ix (q_al 0) (q_int)) (q_ix (q_al 1) (q_int))) (q_op o_mulB op_mulBP (q_ix (q_al 1) (q_int)) (q_ix (q_al 0) (q_int)))) (a_cons (q_op o_mulB op_mulBP (q_ix (q_al 0) (q_int)) (q_ix (q_al 1) (q_int))) a_nil))))), ?_⟩
  have l1 := low_le a b
  have l2 := low_le c d
  simp? only [frD]
  refine ⟨⟨(za.bg.le l1.1).big, (zd.bg.le l2.2).big⟩, ⟨(zc.bg.le l2.1).big, (zb.bg.le l1.2).big⟩, ⟨(zb.bg.le l1.2).big, (zd.bg.le l2.2).big⟩, ?_⟩
  refine ⟨_, _, rfl, Nat.mul_pos (low_pos hb) (low_pos hd), (Sz.mul zb zd).le (Nat.mul_le_mul l1.2 l2.2), ?_⟩
  rw [low_add hb hd]
  exact ⟨hP, trivial⟩
theorem scDivided : FnScope ["one", "other"] ["one", "other"] (defScope sDivided) := ⟨rfl, rfl, rfl, by decide +kernel, rfl, by decide +kernel, by decide +kernel⟩
theorem ok_divided {f : Addr} {fd : FuncData} (F : Fun K "divided" "divided" sDivided f fd) (G : GLow P w K mg base) : FnG P w K mg base CX0 2 f fd ["one", "other"] (spP K jarBox 2 divF) := by
  refine fnP F scDivided fun cdv A outer s H E hr ts Pq hl hφ => ?_
  have S := @scDivided
  obtain ⟨a, b, c, d, rfl, ⟨hb, hd, hc⟩, ⟨za, zb, zc, zd⟩, hP⟩ := hφ
  refine ⟨_, (s_one (s_ret (q_cF G.lowest (hr.mono (by decide)) (by rfl) (a_cons (q_op o_mulB op_mulBP (q_ix (q_al 0) (q_int)) (q_ix (q_al 1) (q_int))) (a_cons (q_op o_mulB op_mulBP (q_ix (q_al 0) (q_int)) (q_ix (q_al 1) (q_int))) a_nil))))), ?_⟩
  have l1 := low_le a b
  have l2 := low_le c d
  simp? only [frD]
  refine ⟨⟨(za.bg.le l1.1).big, (zd.bg.le l2.2).big⟩, ⟨(zb.bg.le l1.2).big, (zc.bg.le l2.1).big⟩, ?_⟩
  refine ⟨_, _, rfl, Nat.mul_pos (low_pos hb) (low_pos1 hc), (Sz.mul zb zc).le (Nat.mul_le_mul l1.2 l2.1), ?_⟩
  rw [low_div hb hd hc]
  exact ⟨hP, trivial⟩
theorem scLeastM : FnScope ["numbers", "found", "number"] ["numbers"] (defScope sLeastM) := ⟨rfl, rfl, rfl, by decide +kernel, rfl, by decide +kernel, by decide +kernel⟩
theorem ok_leastM {f : Addr} {fd : FuncData} (F : Fun K "least_multiple" "least_multiple" sLeastM f fd) (T : Ty2 mg) : FnG P w K mg base CX0 1 f fd ["numbers"] (spP K jarBox 1 leastMF) := by
  refine fnP F scLeastM fun cdv A outer s H E hr ts Pq hl hφ => ?_
  have S := @scLeastM
  obtain ⟨ns, N, rfl, hN, N0, NB, hP⟩ := hφ
  refine ⟨_, (s_cons (s_set (i := 1) S.nd (q_int))
      (s_cons (s_for PassesOwn.never rfl (i_list (q_var 0)) (g_name (i := 2) S.nd) (s_one (s_set (i := 1) S.nd (q_callG c_lcm cr_lcm (by rfl) T.lcm (a_cons (q_al 1) (a_cons (q_al 2) a_nil))))))
      (s_one (s_ret (q_var 1))))), ?_⟩
  simp only [startP, endsP, List.length_cons, List.length_nil, Nat.zero_add, Nat.reduceAdd, Nat.reduceSub, List.reduceReplicate, List.cons_append, List.nil_append]
  refine seq_to (fun ρ => ρ = [.d (.list (nats ns)), .d (.int 1), .un]) (fun DP hD => by simp? only [PL.z1]; exact hD _ rfl) ?_
  rintro ρ rfl
  refine seq_to (fun ρ => ∃ x, ρ = [.d (.list (nats ns)), .d (.int (lm ns : Nat)), x]) (fun DP hD => ?_) ?_
  · refine for_to ns (fun n => .int (n : Nat)) [.d (.list (nats ns)), .d (.int 1), .un] (fun pre ρ => ∃ x, ρ = [.d (.list (nats ns)), .d (.int (lm pre : Nat)), x]) (fun R hR => ?_) ⟨_, rfl⟩ (fun pre x post ρ e ⟨y, hρ⟩ N' hN' => ?_) (fun ρ h => hD _ h)
    · simp? only [PL.z1]
      exact hR
    · subst hρ
      have hp : lm pre ∣ N := lm_dvd fun s hs => hN s (by rw [e]; simp [hs])
      have hx : x ∣ N := hN x (by rw [e]; simp)
      have e2 : lm (pre ++ [x]) = Nat.lcm (lm pre) x := by simp [lm, List.foldl_append]
      simp? only [PL.z1]
      refine ⟨⟨(NB.le (Nat.le_of_dvd N0 hp)).big, (NB.le (Nat.le_of_dvd N0 hx)).big⟩, ?_⟩
      exact hN' _ ⟨_, by rw [e2]⟩
  rintro ρ ⟨x, rfl⟩
  simp? only [PL.z1]
  exact hP
end
end C51

set_option Elab.async false
set_option linter.all false
set_option maxRecDepth 100000
namespace C51
open PySem L2 PL PC
variable [Consts]
/-- lines n k of sums that divide N, small ones -/
def linesF : List T → (T → Prop) → Prop := fun ts P => ∃ (M : List (List Nat)) (n k N : Nat), ts = [.d (.tuple (rowsT M))] ∧ Lines M n k N ∧ N < 1099511627776 ∧ n ≤ 60 ∧ k ≤ 60 ∧
  P (.d (.tuple [.list (rowsL (lvl (lm (M.map List.sum)) M)), .int (lm (M.map List.sum) : Nat)]))
def goneF : List T → (T → Prop) → Prop := fun ts P => ∃ (row : List Nat) (M : List (List Nat)) (n : Nat), ts = [.d (.list (nats row)), .d (.list (rowsL M))] ∧ row.length = n ∧ n ≤ 60 ∧ (∀ r ∈ M, r.length = n ∧ Bg r.sum) ∧ Bg row.sum ∧ P (.l (nats (go row M)))
theorem small40 {n : Nat} (h : n < 1099511627776) : Bg n := Bg.small (by omega)
theorem natOf {r : Int} (h : 0 ≤ r) : ∃ k : Nat, r = ((k : Nat) : Int) := ⟨r.toNat, by omega⟩
section
variable {P : Program} {w : World} {K : PySem.W.Frag} {mg : Str → Option Value} {base : Heap}
theorem scScaled : FnScope ["lines", "common", "line", "weight"] ["lines"] (defScope sScaled) := ⟨rfl, rfl, rfl, by decide +kernel, rfl, by decide +kernel, by decide +kernel⟩
structure GScaled (P : Program) (w : World) (K : PySem.W.Frag) (mg : Str → Option Value) (base : Heap) : Prop where
  least_multiple : Cal P w K mg base jarBox 1 "least_multiple" ["numbers"] 1 leastMF
theorem ok_scaled {f : Addr} {fd : FuncData} (F : Fun K "scaled" "scaled" sScaled f fd) (T : Ty2 mg) (G : GScaled P w K mg base) : FnG P w K mg base CX0 2 f fd ["lines"] (spP K jarBox 1 linesF) := by
  refine fnP F scScaled fun cdv A outer s H E hr ts Pq hl hφ => ?_
  have S := @scScaled
  obtain ⟨M, n, k, N, rfl, hL, hN, hn, hk, hP⟩ := hφ
  refine ⟨_, (s_cons (s_set (i := 1) S.nd (q_cF G.least_multiple (hr.mono (by decide)) (by rfl) (a_cons (q_lc (own := [("line", 2)]) rfl S.nd (i_tup (q_var 0)) (blkOk_by (by kernel_rfl)) (fun _ _ _ _ _ => (gv_name (i := 2) S.nd)) (fun _ _ _ _ _ => ts_nil) (fun _ _ _ _ _ => (q_callB c_sum (cr_sumB rfl) (by rfl) T.sum (by rfl) (a_cons (q_al 2) a_nil)))) a_nil)))
      (s_one (s_ret (q_tup (a_cons (q_lc (own := [("line", 2)]) rfl S.nd (i_tup (q_var 0)) (blkOk_by (by kernel_rfl)) (fun _ _ _ _ _ => (gv_name (i := 2) S.nd)) (fun _ _ _ _ _ => ts_nil) (fun _ _ _ _ _ => (q_lc (own := [("weight", 3)]) rfl S.nd (i_tup (q_var 2)) (blkOk_by (by kernel_rfl)) (fun _ _ _ _ _ => (gv_name (i := 3) S.nd)) (fun _ _ _ _ _ => ts_nil) (fun _ _ _ _ _ => (q_op o_mulB op_mulBP (q_al 3) (q_op o_fdivB op_fdivB (q_al 1) (q_callB c_sum (cr_sumB rfl) (by rfl) T.sum (by rfl) (a_cons (q_al 2) a_nil)))))))) (a_cons (q_var 1) a_nil)))))), ?_⟩
  have hM : M.length ≤ 60 := by rw [hL.len]; exact hn
  have hlm := hL.S
  have LB : Bg (lm (M.map List.sum)) := small40 (Nat.lt_of_le_of_lt (Nat.le_of_dvd hL.pos hlm.2.1) hN)
  simp only [startP, endsP, List.length_cons, List.length_nil, Nat.zero_add, Nat.reduceAdd, Nat.reduceSub, List.reduceReplicate, List.cons_append, List.nil_append]
  refine seq_to (fun ρ => ρ = [.d (.tuple (rowsT M)), .d (.int (lm (M.map List.sum) : Nat)), .un, .un]) (fun DP hD => ?_) ?_
  · simp? only [PL.z1]
    refine sums_lc M hM (fun R hR => ?_) (by simp [barePl, PL.T.bare]) (fun x hx R hR => ?_) ?_
    · simp? only [PL.z1]
      exact hR
    · simp? only [wipeP]
      exact hR _ _ rfl rfl
    · simp? only [PL.z1]
      refine ⟨M.map List.sum, N, rfl, fun s hs => ?_, hL.pos, small40 hN, trivial, hD _ rfl⟩
      obtain ⟨r, hr, rfl⟩ := List.mem_map.mp hs
      exact (hL.row r hr).2.2
  rintro ρ rfl
  simp? only [PL.z1]
  refine lvl_lc M (lm (M.map List.sum)) hM (fun R hR => ?_) (by simp [barePl, PL.T.bare]) (fun x hx R hR => ?_) ?_
  · simp? only [PL.z1]
    exact hR
  · simp? only [wipeP]
    obtain ⟨r1, r2, r3⟩ := hL.row x hx
    have xs0 : ¬ ((x.sum : Nat) : Int) = 0 := by omega
    have xsB : Bg x.sum := small40 (Nat.lt_of_le_of_lt (Nat.le_of_dvd hL.pos r3) hN)
    refine wt_lc x (fun y => y * (lm (M.map List.sum) / x.sum)) (by omega) (fun R hR => ?_) (by simp [barePl, PL.T.bare]) (fun n hn R hR2 => ?_) ?_
    · simp? only [PL.z1]
      exact hR
    · simp? only [wipeP]
      refine ⟨⟨xs0, xsB.big⟩, ⟨(xsB.le (le_sum hn)).big, (LB.le (Nat.div_le_self _ _)).big⟩, hR2 _ _ rfl rfl⟩
    · exact hR _ _ rfl rfl
  · simp? only [PL.z1]
    exact ⟨szL (by decide), hP⟩
theorem scGone : FnScope ["row", "steps", "state", "number", "line"] ["row", "steps"] (defScope sGone) := ⟨rfl, rfl, rfl, by decide +kernel, rfl, by decide +kernel, by decide +kernel⟩
theorem ok_gone {f : Addr} {fd : FuncData} (F : Fun K "gone_on" "gone_on" sGone f fd) (T : Ty2 mg) : FnG P w K mg base CX0 1 f fd ["row", "steps"] (spP K jarBox 2 goneF) := by
  refine fnP F scGone fun cdv A outer s H E hr ts Pq hl hφ => ?_
  have S := @scGone
  obtain ⟨row, M, n, rfl, hn, hz, hM, hB, hP⟩ := hφ
  refine ⟨_, (s_one (s_ret (q_lc (own := [("state", 2)]) rfl S.nd (i_range1 (by rfl) T.range (a_cons (q_callB c_len call_lenP (by rfl) T.len (by rfl) (a_cons (q_al 0) a_nil)) a_nil)) (blkOk_by (by kernel_rfl)) (fun _ _ _ _ _ => (gv_name (i := 2) S.nd)) (fun _ _ _ _ _ => ts_nil) (fun _ _ _ _ _ => (q_callB c_sum (cr_sumB rfl) (by rfl) T.sum (by rfl) (a_cons (q_lc (own := [("number", 3), ("line", 4)]) rfl S.nd (i_zipS (by rfl) T.zip (a_cons (q_var 0) (a_cons (q_var 1) a_nil))) (blkOk_by (by kernel_rfl)) (fun _ _ _ _ _ => (gv_tup (n := 2) rfl (gvs_cons (gv_name (i := 3) S.nd) (gvs_cons (gv_name (i := 4) S.nd) gvs_nil)))) (fun _ _ _ _ _ => ts_nil) (fun _ _ _ _ _ => (q_op o_mulB op_mulBP (q_al 3) (q_ix (q_al 4) (q_var 2))))) a_nil)))))), ?_⟩
  simp? only [PL.z1]
  refine lc_rg n (fun j => .int (dot row M j : Nat)) (fun R hR => ?_) (by simp [barePl, PL.T.bare]) (szL (by omega)) (fun j hj R hR => ?_) ?_
  · simp? only [hn]
    refine ⟨⟨by omega, by omega⟩, ?_⟩
    simpa using hR
  · simp? only [wipeP]
    refine lc_to (row.zip M) (fun p => .tuple [.int (p.1 : Nat), .list (nats p.2)]) (fun p => .int ((p.1 * p.2.getD j 0 : Nat) : Int)) (fun R hR => ?_) (by simp [barePl, PL.T.bare]) (szL (by rw [List.length_zip]; omega)) (fun p hp R hR => ?_) ?_
    · simp? only [zipD_nats]
      exact hR
    · obtain ⟨p1, p2⟩ := List.of_mem_zip (show (p.1, p.2) ∈ row.zip M from hp)
      obtain ⟨q1, q2⟩ := hM _ p2
      have e : p.2[j]? = some (p.2.getD j 0) := by rw [List.getD_eq_getElem?_getD, List.getElem?_eq_getElem (by omega)]; rfl
      simp? only [wipeP, atI_cast, nats_getS, e]
      exact ⟨⟨(hB.le (le_sum p1)).big, (q2.le (getD_le_sum _ _)).big⟩, hR _ _ rfl rfl⟩
    · have e : ((row.zip M).map fun p => PyData.int ((p.1 * p.2.getD j 0 : Nat) : Int)) = nats ((row.zip M).map fun p => p.1 * p.2.getD j 0) := by simp [nats]
      rw [e]
      simp? only [PL.z1]
      exact hR _ _ rfl rfl
  · have e : ((List.range n).map fun j => PyData.int ((dot row M j : Nat) : Int)) = nats (go row M) := by simp [nats, go, hn]
    rw [e]
    simp? only [PL.z1]
    exact hP
end
end C51

set_option Elab.async false
set_option linter.all false
set_option maxRecDepth 100000
namespace C51
open PySem L2 PL PC
variable [Consts]
abbrev sChance : Stmt := top 16
def ixc (c : Ch) (x : Nat) : Nat := (PM.ixOf x c.sg).getD 0
/-- a view over the chain's signs -/
structure Vw (c : Ch) (v : List Nat) : Prop where
  mem : ∀ x ∈ v, x = 46 ∨ x ∈ c.sg
  ok : ∀ x ∈ v, x < 0x110000
  ok2 : ∀ x ∈ c.sg, x < 0x110000
def Small (A B : Nat) : Prop := A < 1099511627776 ∧ B < 1099511627776
def chanceF : List T → (T → Prop) → Prop := fun ts P => ∃ (c : Ch) (v : List Nat) (n k A B : Nat), ts = [.d (chD c), .d (.str (PL.sg v))] ∧ COk c n k A B ∧ Small A B ∧ (n ≤ 60 ∧ k ≤ 60) ∧ Vw c v ∧ Sz (c.st.sum * (A * B) ^ v.length) ∧ P (.d (frD (low (run c (ixc c) v).2.1.sum (run c (ixc c) v).2.2)))
theorem vw_ix {c : Ch} {v : List Nat} (h : Vw c v) {x : Nat} (hx : x ∈ v) (hg : x ≠ 46) : c.sg[ixc c x]? = some x ∧ ∃ rest, Builtin.Str.occurrences (PL.sg c.sg) (PL.sg [x]) 0 (PL.sg c.sg).length 1 = ixc c x :: rest := by
  obtain ⟨i, h3⟩ := PM.ixOf_mem ((h.mem x hx).resolve_left hg)
  obtain ⟨h5, h6⟩ := PM.ixOf_at h3
  have e : ixc c x = i := by unfold ixc; rw [h3]; rfl
  rw [e]
  exact ⟨h5, sg_index h5 h6⟩
section
variable {P : Program} {w : World} {K : PySem.W.Frag} {mg : Str → Option Value} {base : Heap}
theorem scChance : FnScope ["chain", "view", "steps", "step_whole", "tells", "tell_whole", "row", "whole", "place", "sign", "spot", "number", "line"] ["chain", "view"] (defScope sChance) := ⟨rfl, rfl, rfl, by decide +kernel, rfl, by decide +kernel, by decide +kernel⟩
structure GChance (P : Program) (w : World) (K : PySem.W.Frag) (mg : Str → Option Value) (base : Heap) : Prop where
  lowest : Cal P w K mg base jarBox 1 "lowest" ["a", "b"] 2 lowestF
  scaled : Cal P w K mg base jarBox 2 "scaled" ["lines"] 1 linesF
  gone_on : Cal P w K mg base jarBox 1 "gone_on" ["row", "steps"] 2 goneF
theorem way_le {c : Ch} {n A B m N : Nat} {s : Nat × List Nat × Nat} (w : Way c n s A B m) (hA : 0 < A) (hB : 0 < B) (hs : 0 < c.st.sum) (hm : m ≤ N) : s.2.2 ≤ c.st.sum * (A * B) ^ N :=
  Nat.le_of_dvd (Nat.mul_pos hs (Nat.pow_pos (Nat.mul_pos hA hB))) (Nat.dvd_trans w.dvd (Nat.mul_dvd_mul (Nat.dvd_refl _) (Nat.pow_dvd_pow _ hm)))
set_option maxHeartbeats 1000000 in
theorem ok_chance {f : Addr} {fd : FuncData} (F : Fun K "chance" "chance" sChance f fd) (T : Ty2 mg) (G : GChance P w K mg base) : FnG P w K mg base CX0 3 f fd ["chain", "view"] (spP K jarBox 2 chanceF) := by
  refine fnP F scChance fun cdv A outer s H E hr ts Pq hl hφ => ?_
  have S := @scChance
  have hu64 : (A.deeper (PyProof.Rows.envOfC "chance" (defScope sChance) s.heap.objs.size f cdv)).units + 64 < cLine := hr.units
  obtain ⟨c, v, n, k, NA, NB, rfl, O, ⟨sA, sB⟩, ⟨hn, hk⟩, V, hZ, hP⟩ := hφ
  refine ⟨_, (s_cons (s_asg (q_cF G.scaled (hr.mono (by decide)) (by rfl) (a_cons (q_ix (q_al 0) (q_int)) a_nil)) (g_tup (n := 2) rfl (gs_cons (g_name (i := 2) S.nd) (gs_cons (g_name (i := 3) S.nd) gs_nil))))
      (s_cons (s_asg (q_cF G.scaled (hr.mono (by decide)) (by rfl) (a_cons (q_ix (q_al 0) (q_int)) a_nil)) (g_tup (n := 2) rfl (gs_cons (g_name (i := 4) S.nd) (gs_cons (g_name (i := 5) S.nd) gs_nil))))
      (s_cons (s_par2 (i := 6) (j := 7) rfl S.nd (by decide) (b_cons (q_callTy c_lstOf call_lstP (by rfl) T.list (by rfl) (a_cons (q_ix (q_al 0) (q_int)) a_nil)) (b_cons (q_callB c_sum (cr_sumB rfl) (by rfl) T.sum (by rfl) (a_cons (q_ix (q_al 0) (q_int)) a_nil)) b_nil)) (by rfl))
      (s_cons (s_for PassesOwn.never rfl (i_enumS (by rfl) T.enumerate (a_cons (q_var 1) a_nil)) (g_tup (n := 2) rfl (gs_cons (g_name (i := 8) S.nd) (gs_cons (g_name (i := 9) S.nd) gs_nil))) (s_cons (s_frz 6 (s_if (t_cmp o_gt op_gt (q_al 8) (q_int) (nomark _)) (s_one (s_par2 (i := 6) (j := 7) rfl S.nd (by decide) (b_cons (q_cF G.gone_on (hr.mono (by decide)) (by rfl) (a_cons (q_var 6) (a_cons (q_var 2) a_nil))) (b_cons (q_op o_mulB op_mulBP (q_al 7) (q_al 3)) b_nil)) (by rfl))) s_nil))
      (s_one (s_if (t_cmp o_ne (op_neD hu64) (q_al 9) (q_gS (by rfl) T.GAP) (nomark _)) (s_cons (s_set (i := 10) S.nd (q_sindex (q_ix (q_al 0) (q_int)) (q_var 9)))
      (s_cons (s_setLc (i := 6) (own := [("number", 11), ("line", 12)]) rfl S.nd (sw_true rfl rfl rfl (by decide +kernel)) (i_zipS (by rfl) T.zip (a_cons (q_var 6) (a_cons (q_var 4) a_nil))) (blkOk_by (by kernel_rfl)) (fun _ _ _ _ _ => (gv_tup (n := 2) rfl (gvs_cons (gv_name (i := 11) S.nd) (gvs_cons (gv_name (i := 12) S.nd) gvs_nil)))) (fun _ _ _ _ _ => ts_nil) (fun _ _ _ _ _ => (q_op o_mulB op_mulBP (q_al 11) (q_ix (q_al 12) (q_var 10)))))
      (s_one (s_set (i := 7) S.nd (q_op o_mulB op_mulBP (q_al 7) (q_al 5)))))) s_nil))))
      (s_one (s_ret (q_cF G.lowest (hr.mono (by decide)) (by rfl) (a_cons (q_callB c_sum (cr_sumB rfl) (by rfl) T.sum (by rfl) (a_cons (q_al 6) a_nil)) (a_cons (q_var 7) a_nil))))))))), ?_⟩
  obtain ⟨S0, S1, S2, S3⟩ := O.sp.S
  obtain ⟨T0, T1, T2, T3⟩ := O.tl.S
  have edot : (".": Str) = PL.sg [46] := rfl
  have SB : Bg c.S := small40 (Nat.lt_of_le_of_lt (Nat.le_of_dvd O.sp.pos S1) sA)
  have TB : Bg c.T := small40 (Nat.lt_of_le_of_lt (Nat.le_of_dvd O.tl.pos T1) sB)
  have wl : ∀ {s m}, Way c n s NA NB m → m ≤ v.length → Bg s.2.2 := fun w hm => hZ.bg.le (way_le w O.sp.pos O.tl.pos O.st0 hm)
  simp only [startP, endsP, List.length_cons, List.length_nil, Nat.zero_add, Nat.reduceAdd, Nat.reduceSub, List.reduceReplicate, List.cons_append, List.nil_append]
  refine seq_to (fun ρ => ρ = [.d (chD c), .d (.str (PL.sg v)), .d (.list (rowsL c.sps)), .d (.int (c.S : Nat)), .un, .un, .un, .un, .un, .un, .un, .un, .un]) (fun DP hD => ?_) ?_
  · simp? only [chD]
    exact ⟨c.sp, n, n, NA, rfl, O.sp, sA, hn, hn, rfl, rfl, hD _ rfl⟩
  rintro ρ rfl
  refine seq_to (fun ρ => ρ = [.d (chD c), .d (.str (PL.sg v)), .d (.list (rowsL c.sps)), .d (.int (c.S : Nat)), .d (.list (rowsL c.tls)), .d (.int (c.T : Nat)), .un, .un, .un, .un, .un, .un, .un]) (fun DP hD => ?_) ?_
  · simp? only [chD]
    exact ⟨c.tl, n, k, NB, rfl, O.tl, sB, hn, hk, rfl, rfl, hD _ rfl⟩
  rintro ρ rfl
  refine seq_to (fun ρ => ρ = [.d (chD c), .d (.str (PL.sg v)), .d (.list (rowsL c.sps)), .d (.int (c.S : Nat)), .d (.list (rowsL c.tls)), .d (.int (c.T : Nat)), .l (nats c.st), .d (.int (c.st.sum : Nat)), .un, .un, .un, .un, .un]) (fun DP hD => ?_) ?_
  · simp? only [chD]
    exact ⟨by decide, hD _ rfl⟩
  rintro ρ rfl
  refine seq_to (fun ρ => ∃ t x8 x9 x10 x11 x12, lsT t (nats (run c (ixc c) v).2.1) ∧ ρ = [.d (chD c), .d (.str (PL.sg v)), .d (.list (rowsL c.sps)), .d (.int (c.S : Nat)), .d (.list (rowsL c.tls)), .d (.int (c.T : Nat)), t, .d (.int ((run c (ixc c) v).2.2 : Nat)), x8, x9, x10, x11, x12]) (fun DP hD => ?_) ?_
  · refine forT (enumD (signsD (PL.sg v))) [.d (chD c), .d (.str (PL.sg v)), .d (.list (rowsL c.sps)), .d (.int (c.S : Nat)), .d (.list (rowsL c.tls)), .d (.int (c.T : Nat)), .l (nats c.st), .d (.int (c.st.sum : Nat)), .un, .un, .un, .un, .un]
      (fun i ρ => ∃ t x8 x9 x10 x11 x12, lsT t (nats (run c (ixc c) (v.take i)).2.1) ∧ x11.bare ∧ x12.bare ∧ ρ = [.d (chD c), .d (.str (PL.sg v)), .d (.list (rowsL c.sps)), .d (.int (c.S : Nat)), .d (.list (rowsL c.tls)), .d (.int (c.T : Nat)), t, .d (.int ((run c (ixc c) (v.take i)).2.2 : Nat)), x8, x9, x10, x11, x12])
      (fun R hR => ?_) ⟨_, _, _, _, _, _, .inl rfl, trivial, trivial, rfl⟩ (fun i d ρ hd ⟨t, x8, x9, x10, x11, x12, ht, b11, b12, hρ⟩ => ?_) (fun ρ ⟨t, x8, x9, x10, x11, x12, ht, b11, b12, hρ⟩ => hD _ ⟨t, x8, x9, x10, x11, x12, by rw [enum_sgl, List.take_length] at ht; exact ht, by rw [enum_sgl, List.take_length] at hρ; exact hρ⟩)
    · simp? only [PL.z1]
      exact hR
    subst hρ
    obtain ⟨x, hx, rfl⟩ := enum_sg v hd
    have hi := (List.getElem?_eq_some_iff.mp hx).1
    have hxm : x ∈ v := List.mem_of_getElem? hx
    have e1 : v.take (i + 1) = v.take i ++ [x] := by rw [List.take_add_one, hx]; rfl
    have W := way_run O (ixc c) (v.take i)
    rw [List.length_take, Nat.min_eq_left (by omega)] at W
    have hl1 := run_len c (ixc c) (v.take i)
    rw [List.length_take, Nat.min_eq_left (by omega)] at hl1
    have hs := way_stp O (ixc c) W x
    rw [e1]
    simp only [run_snoc]
    revert W hl1 hs ht
    generalize run c (ixc c) (v.take i) = s
    intro ht W hl1 hs
    have g := way_go O W
    have ws := wl W (by omega)
    have ii : ((0 : Int) < ((i : Nat) : Int)) ↔ 0 < s.1 := by omega
    refine gT2 (by simp) (by simp) ?_
    refine seq_to (fun ρ => ∃ t', lsT t' (nats (if 0 < s.1 then go s.2.1 c.sps else s.2.1)) ∧ ρ = [.d (chD c), .d (.str (PL.sg v)), .d (.list (rowsL c.sps)), .d (.int (c.S : Nat)), .d (.list (rowsL c.tls)), .d (.int (c.T : Nat)), t', .d (.int ((if 0 < s.1 then s.2.2 * c.S else s.2.2) : Nat)), .d (.int (i : Nat)), .d (.str (PL.sg [x])), x10, x11, x12]) (fun DP' hD' => ?_) ?_
    · refine frz_to (x := t) rfl ht ?_
      by_cases h0 : 0 < s.1
      · rw [if_pos h0, if_pos h0] at hD'
        simp? only [decide_eq_true (ii.mpr h0)]
        refine ⟨s.2.1, c.sps, n, rfl, W.len, hn, fun r hr => ⟨(S2 r hr).2, ?_⟩, ws.le W.le, ⟨ws.big, SB.big⟩, by decide, hD' _ ⟨_, .inl rfl, rfl⟩⟩
        rw [(S2 r hr).1]
        exact SB
      · rw [if_neg h0, if_neg h0] at hD'
        simp? only [decide_eq_false (fun z => h0 (ii.mp z))]
        exact hD' _ ⟨_, .inr rfl, rfl⟩
    rintro ρ ⟨t', ht', rfl⟩
    have q1 : (if 0 < s.1 then go s.2.1 c.sps else s.2.1).length = n := by split; exact g.1; exact W.len
    have q2 : (if 0 < s.1 then go s.2.1 c.sps else s.2.1).sum ≤ (if 0 < s.1 then s.2.2 * c.S else s.2.2) := by
      split
      · rw [g.2]; exact Nat.mul_le_mul_right _ W.le
      · exact W.le
    have q3 : (if 0 < s.1 then s.2.2 * c.S else s.2.2) ≤ (stp c (ixc c) s x).2.2 := by
      show _ ≤ _ * _
      split <;> split <;> first | exact Nat.le_of_eq (Nat.mul_one _).symm | exact Nat.le_mul_of_pos_right _ T0
    have ws2 := wl hs (by omega)
    have hcx : x < 0x110000 := V.ok x hxm
    have shx : SeqAt.shaped (.str (PL.sg [x])) = true := (lay_str (k := 0) (sg_ok (l := [x]) fun y hy => by simp at hy; rw [hy]; exact hcx)).shaped
    have shd : SeqAt.shaped (.str (PL.sg [46])) = true := (lay_str (k := 0) (sg_ok (l := [46]) fun y hy => by simp at hy; rw [hy]; decide)).shaped
    by_cases hg : x = 46
    · have e2 : stp c (ixc c) s x = (s.1 + 1, (if 0 < s.1 then go s.2.1 c.sps else s.2.1), (if 0 < s.1 then s.2.2 * c.S else s.2.2)) := by
        unfold stp tellR
        rw [if_pos hg, if_pos hg, Nat.mul_one]
      rw [e2]
      have e3 : PyData.eqv (.str (PL.sg [x])) (.str (PL.sg [46])) = true := by rw [eqv_sg, hg]; rfl
      simp? only [edot, e3, Bool.not_true]
      exact ⟨shx, shd, t', _, _, _, _, _, ht', b11, b12, rfl⟩
    · obtain ⟨hix, rest, hoc⟩ := vw_ix V hxm hg
      have e2 : stp c (ixc c) s x = (s.1 + 1, at_ (if 0 < s.1 then go s.2.1 c.sps else s.2.1) c.tls (ixc c x), (if 0 < s.1 then s.2.2 * c.S else s.2.2) * c.T) := by
        unfold stp tellR
        rw [if_neg hg, if_neg hg]
      have e3 : PyData.eqv (.str (PL.sg [x])) (.str (PL.sg [46])) = false := by
        rw [eqv_sg]
        exact decide_eq_false fun z => hg (by injection z)
      rw [e2] at ws2 q3 ⊢
      revert q1 q2 q3 ws2 ht'
      generalize (if 0 < s.1 then go s.2.1 c.sps else s.2.1) = r1
      generalize (if 0 < s.1 then s.2.2 * c.S else s.2.2) = w1
      intro ht' q1 q2 q3 ws2
      have ixk : ixc c x < k := by rw [← O.sg]; exact (List.getElem?_eq_some_iff.mp hix).1
      have w1B : Bg w1 := ws2.le q3
      have hzl : (r1.zip c.tls).length ≤ 60 := by rw [List.length_zip]; omega
      have ezip : ((r1.zip c.tls).map fun p => PyData.int ((p.1 * p.2.getD (ixc c x) 0 : Nat) : Int)) = nats (at_ r1 c.tls (ixc c x)) := by simp [nats, at_]
      have stepz : ∀ p ∈ r1.zip c.tls, p.2[ixc c x]? = some (p.2.getD (ixc c x) 0) ∧ Big ((p.1 : Nat) : Int) ∧ Big ((p.2.getD (ixc c x) 0 : Nat) : Int) := fun p hp => by
        obtain ⟨p1, p2⟩ := List.of_mem_zip (show (p.1, p.2) ∈ r1.zip c.tls from hp)
        obtain ⟨y1, y2⟩ := T2 _ p2
        refine ⟨by rw [List.getD_eq_getElem?_getD, List.getElem?_eq_getElem (by omega)]; rfl, ((w1B.le q2).le (le_sum p1)).big, ((TB.le (Nat.le_of_eq y1)).le (getD_le_sum _ _)).big⟩
      rcases ht' with rfl | rfl <;> (
        simp? only [edot, e3, Bool.not_false, chD]
        refine ⟨shx, shd, ixc c x, rest, hoc, ?_⟩
        refine lc_to0 (r1.zip c.tls) (fun p => .tuple [.int (p.1 : Nat), .list (nats p.2)]) (fun p => .int ((p.1 * p.2.getD (ixc c x) 0 : Nat) : Int)) [.d (chD c), .d (.str (PL.sg v)), .d (.list (rowsL c.sps)), .d (.int (c.S : Nat)), .d (.list (rowsL c.tls)), .d (.int (c.T : Nat)), .d (.list (nats r1)), .d (.int (w1 : Nat)), .d (.int (i : Nat)), .d (.str (PL.sg [x])), .d (.int (ixc c x : Nat)), x11, x12] (fun R hR => ?_) (by simp [barePl, b11, b12]) (szL (by omega)) (fun p hp R hR => ?_) ?_
        · simp? only [zipD_nats]
          exact hR
        · obtain ⟨y1, y2, y3⟩ := stepz p hp
          simp? only [wipeP, atI_cast, nats_getS, y1]
          exact ⟨⟨y2, y3⟩, hR _ _ rfl rfl⟩
        · rw [ezip]
          simp? only [PL.z1]
          exact ⟨⟨w1B.big, TB.big⟩, _, _, _, _, _, _, .inl rfl, b11, b12, rfl⟩)
  rintro ρ ⟨t, x8, x9, x10, x11, x12, ht, rfl⟩
  have W := way_run O (ixc c) v
  rcases ht with rfl | rfl
  · simp? only [PL.z1]
    exact ⟨_, _, rfl, W.pos, wl W (Nat.le_refl _), hP, trivial⟩
  · simp? only [PL.z1]
    exact ⟨_, _, rfl, W.pos, wl W (Nat.le_refl _), hP, trivial⟩
end
end C51

set_option Elab.async false
set_option linter.all false
set_option maxRecDepth 100000
namespace C51
open PySem L2 PL PC
variable [Consts]
abbrev sGcd : Stmt := top 24
abbrev sRatio : Stmt := top 25
abbrev sLevel : Stmt := top 28
abbrev sFlat : Stmt := top 29
def gcdF : List T → (T → Prop) → Prop := fun ts P => ∃ a b : Nat, ts = [.d (.int (a : Nat)), .d (.int (b : Nat))] ∧ P (.d (.int (Nat.gcd a b : Nat)))
def ratioF : List T → (T → Prop) → Prop := fun ts P => ∃ a b : Nat, ts = [.d (.int (a : Nat)), .d (.int (b : Nat))] ∧ 0 < b ∧ Bg b ∧ P (.d (frD (low a b)))
def flatF : List T → (T → Prop) → Prop := fun ts P => ∃ (c : Ch) (n k A B : Nat), ts = [.d (chD c)] ∧ COk c n k A B ∧ Small A B ∧ (n ≤ 60 ∧ k ≤ 60) ∧ P (.d (flatD c))
section
variable {P : Program} {w : World} {K : PySem.W.Frag} {mg : Str → Option Value} {base : Heap}
theorem scGcd : FnScope ["a", "b", "one", "other"] ["a", "b"] (defScope sGcd) := ⟨rfl, rfl, rfl, by decide +kernel, rfl, by decide +kernel, by decide +kernel⟩
theorem ok_gcd {f : Addr} {fd : FuncData} (F : Fun K "_law_gcd" "_law_gcd" sGcd f fd) (T : Ty2 mg) : FnG P w K mg base CX0 1 f fd ["a", "b"] (spP K jarBox 2 gcdF) := by
  refine fnP F scGcd fun cdv A outer s H E hr ts Pq hl hφ => ?_
  have S := @scGcd
  have hu64 : (A.deeper (PyProof.Rows.envOfC "_law_gcd" (defScope sGcd) s.heap.objs.size f cdv)).units + 64 < cLine := hr.units
  obtain ⟨a, b, rfl, hP⟩ := hφ
  refine ⟨_, (s_cons (s_par2 (i := 2) (j := 3) rfl S.nd (by decide) (b_cons (q_callB c_abs call_abs (by rfl) T.abs (by rfl) (a_cons (q_al 0) a_nil)) (b_cons (q_callB c_abs call_abs (by rfl) T.abs (by rfl) (a_cons (q_al 1) a_nil)) b_nil)) (by rfl))
      (s_cons (s_while PassesOwn.never (t_cmp o_ne (op_neD hu64) (q_al 3) (q_int) (nomark _)) (s_one (s_par2 (i := 2) (j := 3) rfl S.nd (by decide) (b_cons (q_var 3) (b_cons (q_op o_mod op_modN (q_callTy c_int call_intP (by rfl) T.int (by rfl) (a_cons (q_al 2) a_nil)) (q_al 3)) b_nil)) (by rfl))))
      (s_one (s_ret (q_var 2))))), ?_⟩
  have ab : ∀ n : Nat, (if ((n : Nat) : Int) < 0 then -((n : Nat) : Int) else ((n : Nat) : Int)) = ((n : Nat) : Int) := fun n => if_neg (by omega)
  simp only [startP, endsP, List.length_cons, List.length_nil, Nat.zero_add, Nat.reduceAdd, Nat.reduceSub, List.reduceReplicate, List.cons_append, List.nil_append]
  refine seq_to (fun ρ => ρ = [.d (.int (a : Nat)), .d (.int (b : Nat)), .d (.int (a : Nat)), .d (.int (b : Nat))]) (fun DP hD => ?_) ?_
  · simp? only [ab]
    exact ⟨by decide, hD _ rfl⟩
  rintro ρ rfl
  refine seq_to (fun ρ => ∃ y, ρ = [.d (.int (a : Nat)), .d (.int (b : Nat)), .d (.int (Nat.gcd a b : Nat)), y]) (fun DP hD => ?_) ?_
  · refine whileT (fun m ρ => ∃ x y : Nat, m = y ∧ Nat.gcd x y = Nat.gcd a b ∧ ρ = [.d (.int (a : Nat)), .d (.int (b : Nat)), .d (.int (x : Nat)), .d (.int (y : Nat))]) (fun m ρ t => t = true ↔ m ≠ 0) ⟨_, a, b, rfl, rfl, rfl⟩ (fun m ρ ⟨x, y, hm, hg, hρ⟩ R hR => ?_) (fun m ρ ⟨x, y, hm, hg, hρ⟩ hc => ?_) (fun m ρ ⟨x, y, hm, hg, hρ⟩ hc => ?_)
    · subst hρ hm
      simp? only [PL.z1]
      refine ⟨shI _, shI _, hR _ ?_⟩
      simp only [Bool.not_eq_true', decide_eq_false_iff_not]
      omega
    · subst hρ hm
      have hy : m ≠ 0 := hc.mp rfl
      have hy0 : ¬ ((m : Nat) : Int) = 0 := by omega
      simp? only [PL.z1]
      refine ⟨hy0, by decide, x % m, Nat.mod_lt _ (by omega), m, x % m, rfl, ?_, rfl⟩
      rw [← hg, Nat.gcd_comm x m, Nat.gcd_rec m x, Nat.gcd_comm]
    · subst hρ hm
      have hy : m = 0 := Classical.byContradiction fun z => by have := hc.mpr z; cases this
      subst hy
      rw [Nat.gcd_zero_right] at hg
      subst hg
      exact hD _ ⟨_, rfl⟩
  rintro ρ ⟨y, rfl⟩
  simp? only [PL.z1]
  exact hP
theorem scRatio : FnScope ["a", "b", "shared"] ["a", "b"] (defScope sRatio) := ⟨rfl, rfl, rfl, by decide +kernel, rfl, by decide +kernel, by decide +kernel⟩
structure GGcd (P : Program) (w : World) (K : PySem.W.Frag) (mg : Str → Option Value) (base : Heap) : Prop where
  _law_gcd : Cal P w K mg base jarBox 1 "_law_gcd" ["a", "b"] 2 gcdF
theorem ok_ratio {f : Addr} {fd : FuncData} (F : Fun K "_law_ratio" "_law_ratio" sRatio f fd) (G : GGcd P w K mg base) : FnG P w K mg base CX0 2 f fd ["a", "b"] (spP K jarBox 2 ratioF) := by
  refine fnP F scRatio fun cdv A outer s H E hr ts Pq hl hφ => ?_
  have S := @scRatio
  obtain ⟨a, b, rfl, hb, hB, hP⟩ := hφ
  refine ⟨_, (s_cons (s_set (i := 2) S.nd (q_cF G._law_gcd (hr.mono (by decide)) (by rfl) (a_cons (q_var 0) (a_cons (q_var 1) a_nil))))
      (s_one (s_ret (q_tup (a_cons (q_op o_fdivB op_fdivB (q_al 0) (q_al 2)) (a_cons (q_op o_fdivB op_fdivB (q_al 1) (q_al 2)) a_nil)))))), ?_⟩
  have g0 : 0 < Nat.gcd a b := Nat.gcd_pos_of_pos_right _ hb
  have g1 : ¬ ((Nat.gcd a b : Nat) : Int) = 0 := by omega
  have g2 : Big ((Nat.gcd a b : Nat) : Int) := (hB.le (Nat.gcd_le_right _ hb)).big
  simp? only [PL.z1]
  refine ⟨a, b, rfl, trivial, ?_⟩
  simp? only [PL.z1]
  exact ⟨⟨g1, g2⟩, ⟨g1, g2⟩, szL (by decide), hP⟩
theorem scLevel : FnScope ["lines", "whole", "line", "weight"] ["lines"] (defScope sLevel) := ⟨rfl, rfl, rfl, by decide +kernel, rfl, by decide +kernel, by decide +kernel⟩
theorem ok_level {f : Addr} {fd : FuncData} (F : Fun K "_law_level" "_law_level" sLevel f fd) (T : Ty2 mg) (G : GGcd P w K mg base) : FnG P w K mg base CX0 2 f fd ["lines"] (spP K jarBox 1 linesF) := by
  refine fnP F scLevel fun cdv A outer s H E hr ts Pq hl hφ => ?_
  have S := @scLevel
  obtain ⟨M, n, k, N, rfl, hL, hN, hn, hk, hP⟩ := hφ
  refine ⟨_, (s_cons (s_set (i := 1) S.nd (q_int))
      (s_cons (s_for PassesOwn.never rfl (i_tup (q_var 0)) (g_name (i := 2) S.nd) (s_one (s_set (i := 1) S.nd (q_op o_fdivB op_fdivB (q_op o_mulB op_mulBP (q_al 1) (q_callB c_sum (cr_sumB rfl) (by rfl) T.sum (by rfl) (a_cons (q_al 2) a_nil))) (q_cF G._law_gcd (hr.mono (by decide)) (by rfl) (a_cons (q_var 1) (a_cons (q_callB c_sum (cr_sumB rfl) (by rfl) T.sum (by rfl) (a_cons (q_al 2) a_nil)) a_nil)))))))
      (s_one (s_ret (q_tup (a_cons (q_lc (own := [("line", 2)]) rfl S.nd (i_tup (q_var 0)) (blkOk_by (by kernel_rfl)) (fun _ _ _ _ _ => (gv_name (i := 2) S.nd)) (fun _ _ _ _ _ => ts_nil) (fun _ _ _ _ _ => (q_lc (own := [("weight", 3)]) rfl S.nd (i_tup (q_var 2)) (blkOk_by (by kernel_rfl)) (fun _ _ _ _ _ => (gv_name (i := 3) S.nd)) (fun _ _ _ _ _ => ts_nil) (fun _ _ _ _ _ => (q_op o_mulB op_mulBP (q_al 3) (q_op o_fdivB op_fdivB (q_al 1) (q_callB c_sum (cr_sumB rfl) (by rfl) T.sum (by rfl) (a_cons (q_al 2) a_nil)))))))) (a_cons (q_var 1) a_nil))))))), ?_⟩
  have hM : M.length ≤ 60 := by rw [hL.len]; exact hn
  have hlm := hL.S
  have LB : Bg (lm (M.map List.sum)) := small40 (Nat.lt_of_le_of_lt (Nat.le_of_dvd hL.pos hlm.2.1) hN)
  simp only [startP, endsP, List.length_cons, List.length_nil, Nat.zero_add, Nat.reduceAdd, Nat.reduceSub, List.reduceReplicate, List.cons_append, List.nil_append]
  refine seq_to (fun ρ => ρ = [.d (.tuple (rowsT M)), .d (.int 1), .un, .un]) (fun DP hD => by simp? only [PL.z1]; exact hD _ rfl) ?_
  rintro ρ rfl
  refine seq_to (fun ρ => ∃ x, x.bare ∧ ρ = [.d (.tuple (rowsT M)), .d (.int (lm (M.map List.sum) : Nat)), x, .un]) (fun DP hD => ?_) ?_
  · refine for_to M (fun r => .tuple (nats r)) [.d (.tuple (rowsT M)), .d (.int 1), .un, .un] (fun pre ρ => ∃ x, x.bare ∧ ρ = [.d (.tuple (rowsT M)), .d (.int (lm (pre.map List.sum) : Nat)), x, .un]) (fun R hR => ?_) ⟨_, trivial, rfl⟩ (fun pre x post ρ e ⟨y, _, hρ⟩ N' hN' => ?_) (fun ρ h => hD _ h)
    · simp? only [PL.z1]
      exact hR
    · subst hρ
      have hx := hL.row x (by rw [e]; simp)
      have hp : lm (pre.map List.sum) ∣ N := lm_dvd fun s hs => by
        obtain ⟨r, hr, rfl⟩ := List.mem_map.mp hs
        exact (hL.row r (by rw [e]; simp [hr])).2.2
      have e2 : lm ((pre ++ [x]).map List.sum) = lm (pre.map List.sum) * x.sum / Nat.gcd (lm (pre.map List.sum)) x.sum := by simp [lm, List.foldl_append, Nat.lcm]
      have b1 : Bg (lm (pre.map List.sum)) := small40 (Nat.lt_of_le_of_lt (Nat.le_of_dvd hL.pos hp) hN)
      have b2 : Bg x.sum := small40 (Nat.lt_of_le_of_lt (Nat.le_of_dvd hL.pos hx.2.2) hN)
      have g0 : 0 < Nat.gcd (lm (pre.map List.sum)) x.sum := Nat.gcd_pos_of_pos_right _ hx.2.1
      have g1 : ¬ ((Nat.gcd (lm (pre.map List.sum)) x.sum : Nat) : Int) = 0 := by omega
      simp? only [PL.z1]
      refine ⟨⟨b1.big, b2.big⟩, lm (pre.map List.sum), x.sum, rfl, ?_⟩
      simp? only [PL.z1]
      refine ⟨⟨g1, (b2.le (Nat.gcd_le_right _ hx.2.1)).big⟩, ?_⟩
      exact hN' _ ⟨.d (.tuple (nats x)), trivial, by rw [e2]⟩
  rintro ρ ⟨x, hx, rfl⟩
  simp? only [PL.z1]
  refine lvl_lc M (lm (M.map List.sum)) hM (fun R hR => ?_) (by simp [barePl, hx]) (fun x hx R hR => ?_) ?_
  · simp? only [PL.z1]
    exact hR
  · simp? only [wipeP]
    obtain ⟨r1, r2, r3⟩ := hL.row x hx
    have xs0 : ¬ ((x.sum : Nat) : Int) = 0 := by omega
    have xsB : Bg x.sum := small40 (Nat.lt_of_le_of_lt (Nat.le_of_dvd hL.pos r3) hN)
    refine wt_lc x (fun y => y * (lm (M.map List.sum) / x.sum)) (by omega) (fun R hR => ?_) (by simp [barePl, PL.T.bare]) (fun n hn R hR2 => ?_) ?_
    · simp? only [PL.z1]
      exact hR
    · simp? only [wipeP]
      refine ⟨⟨xs0, xsB.big⟩, ⟨(xsB.le (le_sum hn)).big, (LB.le (Nat.div_le_self _ _)).big⟩, hR2 _ _ rfl rfl⟩
    · exact hR _ _ rfl rfl
  · simp? only [PL.z1]
    exact ⟨szL (by decide), hP⟩
theorem scFlat : FnScope ["chain", "steps", "step", "tells", "tell", "flat"] ["chain"] (defScope sFlat) := ⟨rfl, rfl, rfl, by decide +kernel, rfl, by decide +kernel, by decide +kernel⟩
structure GLevel (P : Program) (w : World) (K : PySem.W.Frag) (mg : Str → Option Value) (base : Heap) : Prop where
  _law_level : Cal P w K mg base jarBox 2 "_law_level" ["lines"] 1 linesF
theorem ok_flat {f : Addr} {fd : FuncData} (F : Fun K "_law_flat" "_law_flat" sFlat f fd) (T : Ty2 mg) (G : GLevel P w K mg base) : FnG P w K mg base CX0 3 f fd ["chain"] (spP K jarBox 1 flatF) := by
  refine fnP F scFlat fun cdv A outer s H E hr ts Pq hl hφ => ?_
  have S := @scFlat
  obtain ⟨c, n, k, NA, NB, rfl, O, ⟨sA, sB⟩, ⟨hn, hk⟩, hP⟩ := hφ
  refine ⟨_, (s_cons (s_asg (q_tup (a_cons (q_cF G._law_level (hr.mono (by decide)) (by rfl) (a_cons (q_ix (q_al 0) (q_int)) a_nil)) (a_cons (q_cF G._law_level (hr.mono (by decide)) (by rfl) (a_cons (q_ix (q_al 0) (q_int)) a_nil)) a_nil))) (g_tup (n := 2) rfl (gs_cons (g_tup (n := 2) rfl (gs_cons (g_name (i := 1) S.nd) (gs_cons (g_name (i := 2) S.nd) gs_nil))) (gs_cons (g_tup (n := 2) rfl (gs_cons (g_name (i := 3) S.nd) (gs_cons (g_name (i := 4) S.nd) gs_nil))) gs_nil))))
      (s_cons (s_set (i := 5) S.nd (q_disp (pp_cons (q_str) (q_ix (q_al 0) (q_int)) (pp_cons (q_str) (q_callTy c_lstOf call_lstP (by rfl) T.list (by rfl) (a_cons (q_ix (q_al 0) (q_int)) a_nil)) (pp_cons (q_str) (q_callB c_sum (cr_sumB rfl) (by rfl) T.sum (by rfl) (a_cons (q_ix (q_al 0) (q_int)) a_nil)) pp_nil)))))
      (s_cons (s_expr (q_upd 5 (a_cons (q_disp (pp_cons (q_str) (q_var 1) (pp_cons (q_str) (q_var 2) (pp_cons (q_str) (q_var 3) (pp_cons (q_str) (q_var 4) pp_nil))))) a_nil)))
      (s_one (s_ret (q_varK 5)))))), ?_⟩
  simp only [startP, endsP, List.length_cons, List.length_nil, Nat.zero_add, Nat.reduceAdd, Nat.reduceSub, List.reduceReplicate, List.cons_append, List.nil_append]
  refine seq_to (fun ρ => ρ = [.d (chD c), .d (.list (rowsL c.sps)), .d (.int (c.S : Nat)), .d (.list (rowsL c.tls)), .d (.int (c.T : Nat)), .un]) (fun DP hD => ?_) ?_
  · simp? only [chD]
    refine ⟨c.sp, n, n, NA, rfl, O.sp, sA, hn, hn, ?_⟩
    simp? only [PL.z1]
    refine ⟨c.tl, n, k, NB, rfl, O.tl, sB, hn, hk, ?_⟩
    simp? only [PL.z1]
    exact ⟨szL (by decide), hD _ rfl⟩
  rintro ρ rfl
  refine seq_to (fun ρ => ρ = [.d (chD c), .d (.list (rowsL c.sps)), .d (.int (c.S : Nat)), .d (.list (rowsL c.tls)), .d (.int (c.T : Nat)), .k [(.inr "signs", .str (PL.sg c.sg)), (.inr "start", .list (nats c.st)), (.inr "begin", .int (c.st.sum : Nat))]]) (fun DP hD => ?_) ?_
  · simp? only [chD, flat_up]
    exact hD _ rfl
  rintro ρ rfl
  refine seq_to (fun ρ => ρ = [.d (chD c), .d (.list (rowsL c.sps)), .d (.int (c.S : Nat)), .d (.list (rowsL c.tls)), .d (.int (c.T : Nat)), .k (flatK c)]) (fun DP hD => ?_) ?_
  · simp? only [chD]
    rw [keysP_map]
    refine ⟨by show 3 + 4 ≤ 1000; decide, ?_⟩
    rw [flat_up2]
    exact hD _ rfl
  rintro ρ rfl
  simp? only [PL.z1]
  rw [flat_map]
  exact hP
end
end C51

set_option Elab.async false
set_option linter.all false
set_option maxRecDepth 100000
namespace C51
open PySem L2 PL PC
variable [Consts]
abbrev sTell : Stmt := top 30
abbrev sAhead : Stmt := top 31
abbrev sBelow : Stmt := top 32
abbrev sWeight : Stmt := top 33
/-- a chain that is known, and its signs -/
structure Fc (c : Ch) (n k A B : Nat) : Prop where
  ok : COk c n k A B
  sm : Small A B
  few : n ≤ 60 ∧ k ≤ 60
def tellF : List T → (T → Prop) → Prop := fun ts P => ∃ (c : Ch) (n k A B s x : Nat), ts = [.d (flatD c), .d (.int (s : Nat)), .d (.str (PL.sg [x]))] ∧ Fc c n k A B ∧ Vw c [x] ∧ s < n ∧ P (.d (.int (tellN c (ixc c) s x : Nat)))
def aheadF : List T → (T → Prop) → Prop := fun ts P => ∃ (c : Ch) (n k A B : Nat) (v : List Nat), ts = [.d (flatD c), .d (.str (PL.sg v))] ∧ Fc c n k A B ∧ Vw c v ∧ v.length ≤ 60 ∧ Bg (c.st.sum * (A * B) ^ v.length) ∧
  ∀ rows : List (List Nat), rows.length = v.length → (v ≠ [] → rows.getLast? = some (runL c (ixc c) v).2.1) → P (.d (.list (rowsL rows)))
def belowF : List T → (T → Prop) → Prop := fun ts P => ∃ (c : Ch) (n k A B : Nat) (v : List Nat), ts = [.d (flatD c), .d (.str (PL.sg v))] ∧ Fc c n k A B ∧ Vw c v ∧ v.length ≤ 60 ∧ Bg (c.st.sum * (A * B) ^ v.length) ∧ P (.d (.int (bL c (ixc c) v : Nat)))
def weightF : List T → (T → Prop) → Prop := fun ts P => ∃ (c : Ch) (n k A B : Nat) (v : List Nat), ts = [.d (flatD c), .d (.str (PL.sg v))] ∧ Fc c n k A B ∧ Vw c v ∧ v.length ≤ 60 ∧ Bg (c.st.sum * (A * B) ^ v.length) ∧ P (.d (.int (wL c (ixc c) v : Nat)))
theorem edot : (Str.ofString ".") = PL.sg [46] := rfl
theorem enil : (Str.ofString "") = PL.sg [] := rfl
theorem sh_sg {l : List Nat} (h : ∀ x ∈ l, x < 0x110000) : SeqAt.shaped (.str (PL.sg l)) = true := (lay_str (k := 0) (sg_ok h)).shaped
theorem Fc.big {c : Ch} {n k A B : Nat} (h : Fc c n k A B) : Bg c.S ∧ Bg c.T := by
  obtain ⟨S0, S1, _⟩ := h.ok.sp.S
  obtain ⟨T0, T1, _⟩ := h.ok.tl.S
  exact ⟨small40 (Nat.lt_of_le_of_lt (Nat.le_of_dvd h.ok.sp.pos S1) h.sm.1), small40 (Nat.lt_of_le_of_lt (Nat.le_of_dvd h.ok.tl.pos T1) h.sm.2)⟩
theorem Fc.tellB {c : Ch} {n k A B : Nat} (h : Fc c n k A B) (s x : Nat) : Bg (tellN c (ixc c) s x) := by
  obtain ⟨T0, T1, T2, T3⟩ := h.ok.tl.S
  unfold tellN
  split
  · exact h.big.2
  · refine h.big.2.le (Nat.le_trans (getD_le_sum _ _) ?_)
    rw [List.getD_eq_getElem?_getD]
    cases e : c.tls[s]? with
    | none => simp
    | some r => exact Nat.le_of_eq (T2 r (List.mem_of_getElem? e)).1
section
variable {P : Program} {w : World} {K : PySem.W.Frag} {mg : Str → Option Value} {base : Heap}
theorem scTell : FnScope ["flat", "state", "sign"] ["flat", "state", "sign"] (defScope sTell) := ⟨rfl, rfl, rfl, by decide +kernel, rfl, by decide +kernel, by decide +kernel⟩
theorem ok_tell {f : Addr} {fd : FuncData} (F : Fun K "_law_tell" "_law_tell" sTell f fd) : FnG P w K mg base CX0 1 f fd ["flat", "state", "sign"] (spP K jarBox 3 tellF) := by
  refine fnP F scTell fun cdv A outer s H E hr ts Pq hl hφ => ?_
  have S := @scTell
  have hu64 : (A.deeper (PyProof.Rows.envOfC "_law_tell" (defScope sTell) s.heap.objs.size f cdv)).units + 64 < cLine := hr.units
  obtain ⟨c, n, k, NA, NB, st, x, rfl, O, V, hs, hP⟩ := hφ
  refine ⟨_, (s_one (s_ret (q_if (t_cmp o_eq (op_eqD hu64) (q_al 2) (q_str) (nomark _)) (q_getF hu64 (q_var 0) (q_str)) (q_ix (q_ix (q_getF hu64 (q_var 0) (q_str)) (q_var 1)) (q_sindex (q_getF hu64 (q_var 0) (q_str)) (q_var 2)))))), ?_⟩
  have shx := sh_sg (l := [x]) fun y hy => V.ok y hy
  have shd := sh_sg (l := [46]) fun y hy => by simp at hy; rw [hy]; decide
  obtain ⟨T0, T1, T2, T3⟩ := O.ok.tl.S
  by_cases hg : x = 46
  · have e3 : PyData.eqv (.str (PL.sg [x])) (.str (PL.sg [46])) = true := by rw [eqv_sg, hg]; rfl
    have e4 : tellN c (ixc c) st x = c.T := if_pos hg
    rw [e4] at hP
    simp? only [flatD, edot, e3]
    exact ⟨shx, shd, hP⟩
  · obtain ⟨hix, rest, hoc⟩ := vw_ix V (by simp) hg
    have e3 : PyData.eqv (.str (PL.sg [x])) (.str (PL.sg [46])) = false := by
      rw [eqv_sg]
      exact decide_eq_false fun z => hg (by injection z)
    have e4 : tellN c (ixc c) st x = (c.tls.getD st []).getD (ixc c x) 0 := if_neg hg
    have h1 : c.tls[st]? = some (c.tls.getD st []) := by rw [List.getD_eq_getElem?_getD, List.getElem?_eq_getElem (by rw [show c.tls.length = n from T3]; exact hs)]; rfl
    have h2 := (T2 _ (List.mem_of_getElem? h1)).2
    have h3 : (c.tls.getD st [])[ixc c x]? = some ((c.tls.getD st []).getD (ixc c x) 0) := by
      have : ixc c x < (c.tls.getD st []).length := by rw [h2, ← O.ok.sg]; exact (List.getElem?_eq_some_iff.mp hix).1
      rw [List.getD_eq_getElem?_getD (l := c.tls.getD st []), List.getElem?_eq_getElem this]
      rfl
    rw [e4] at hP
    simp? only [flatD, edot, e3, atI_cast, rowsL_get, h1]
    refine ⟨shx, shd, ixc c x, rest, hoc, ?_⟩
    simp? only [atI_cast, nats_getS, h3]
    exact hP
structure GTell (P : Program) (w : World) (K : PySem.W.Frag) (mg : Str → Option Value) (base : Heap) : Prop where
  _law_tell : Cal P w K mg base jarBox 1 "_law_tell" ["flat", "state", "sign"] 3 tellF
theorem scBelow : FnScope ["flat", "view", "found", "place"] ["flat", "view"] (defScope sBelow) := ⟨rfl, rfl, rfl, by decide +kernel, rfl, by decide +kernel, by decide +kernel⟩
theorem ok_below {f : Addr} {fd : FuncData} (F : Fun K "_law_below" "_law_below" sBelow f fd) (T : Ty2 mg) : FnG P w K mg base CX0 1 f fd ["flat", "view"] (spP K jarBox 2 belowF) := by
  refine fnP F scBelow fun cdv A outer s H E hr ts Pq hl hφ => ?_
  have S := @scBelow
  have hu64 : (A.deeper (PyProof.Rows.envOfC "_law_below" (defScope sBelow) s.heap.objs.size f cdv)).units + 64 < cLine := hr.units
  obtain ⟨c, n, k, NA, NB, v, rfl, O, V, hv, hB, hP⟩ := hφ
  refine ⟨_, (s_cons (s_set (i := 2) S.nd (q_if (t_cmp o_ne (op_neD hu64) (q_al 1) (q_str) (nomark _)) (q_getF hu64 (q_var 0) (q_str)) (q_int)))
      (s_cons (s_for PassesOwn.never rfl (i_range1 (by rfl) T.range (a_cons (q_callB c_len call_lenP (by rfl) T.len (by rfl) (a_cons (q_al 1) a_nil)) a_nil)) (g_name (i := 3) S.nd) (s_one (s_set (i := 2) S.nd (q_op o_mulB op_mulBP (q_op o_mulB op_mulBP (q_al 2) (q_getF hu64 (q_var 0) (q_str))) (q_if (t_cmp o_gt op_gt (q_al 3) (q_int) (nomark _)) (q_getF hu64 (q_var 0) (q_str)) (q_int))))))
      (s_one (s_ret (q_var 2))))), ?_⟩
  have shx := sh_sg (l := v) fun y hy => V.ok y hy
  have shd := sh_sg (l := []) fun y hy => by cases hy
  obtain ⟨SB, TB⟩ := O.big
  simp only [startP, endsP, List.length_cons, List.length_nil, Nat.zero_add, Nat.reduceAdd, Nat.reduceSub, List.reduceReplicate, List.cons_append, List.nil_append]
  refine seq_to (fun ρ => ρ = [.d (flatD c), .d (.str (PL.sg v)), .d (.int ((if v = [] then 1 else c.st.sum) : Nat)), .un]) (fun DP hD => ?_) ?_
  · by_cases e : v = []
    · have e3 : PyData.eqv (.str (PL.sg v)) (.str (PL.sg [])) = true := by rw [eqv_sg, e]; rfl
      rw [if_pos e] at hD
      simp? only [flatD, enil, e3, Bool.not_true]
      exact ⟨shx, shd, hD _ rfl⟩
    · have e3 : PyData.eqv (.str (PL.sg v)) (.str (PL.sg [])) = false := by rw [eqv_sg]; exact decide_eq_false e
      rw [if_neg e] at hD
      simp? only [flatD, enil, e3, Bool.not_false]
      exact ⟨shx, shd, hD _ rfl⟩
  rintro ρ rfl
  refine seq_to (fun ρ => ∃ x, ρ = [.d (flatD c), .d (.str (PL.sg v)), .d (.int (bL c (ixc c) v : Nat)), x]) (fun DP hD => ?_) ?_
  · refine forT (rangeD 0 v.length) [.d (flatD c), .d (.str (PL.sg v)), .d (.int ((if v = [] then 1 else c.st.sum) : Nat)), .un] (fun i ρ => ∃ x, ρ = [.d (flatD c), .d (.str (PL.sg v)), .d (.int ((if v = [] then 1 else (runL c (ixc c) (v.take i)).2.2) : Nat)), x]) (fun R hR => ?_) ⟨_, rfl⟩ (fun i d ρ hd ⟨x, hρ⟩ => ?_) (fun ρ ⟨x, hρ⟩ => hD _ ⟨x, ?_⟩)
    · simp? only [sg_len]
      refine ⟨by rw [sizeLine_eq]; omega, ⟨by omega, by omega⟩, ?_⟩
      simpa using hR
    · subst hρ
      have hi : i < v.length := by have := (List.getElem?_eq_some_iff.mp hd).1; rwa [rangeD_len] at this
      have hne : ¬ v = [] := fun z => by rw [z] at hi; simp at hi
      rw [nats_range hi] at hd
      cases hd
      have hx : v[i]? = some v[i] := List.getElem?_eq_getElem hi
      have e1 : v.take (i + 1) = v.take i ++ [v[i]] := by rw [List.take_add_one, hx]; rfl
      have W := wayL O.ok (ixc c) (v.take i)
      have hl1 := runL_len c (ixc c) (v.take i)
      rw [List.length_take, Nat.min_eq_left (by omega)] at hl1 W
      rw [e1]
      simp only [runL_snoc, if_neg hne]
      revert W hl1
      generalize runL c (ixc c) (v.take i) = s
      intro W hl1
      have wB : Bg s.2.2 := hB.le (Nat.le_trans (Nat.le_of_dvd (Nat.mul_pos O.ok.st0 (Nat.pow_pos (Nat.mul_pos O.ok.sp.pos O.ok.tl.pos))) W.dvd) (Nat.mul_le_mul_left _ (Nat.pow_le_pow_right (Nat.mul_pos O.ok.sp.pos O.ok.tl.pos) (by omega))))
      have W2 : Bg (s.2.2 * c.T) := hB.le (by
        have h1 : s.2.2 * c.T ∣ c.st.sum * (NA * NB) ^ (i + 1) := by
          have e : c.st.sum * (NA * NB) ^ (i + 1) = c.st.sum * (NA * NB) ^ i * NB * NA := by rw [Nat.pow_succ]; grind
          rw [e]
          exact Nat.dvd_trans (Nat.mul_dvd_mul W.dvd O.ok.tl.S.2.1) (Nat.dvd_mul_right _ _)
        exact Nat.le_trans (Nat.le_of_dvd (Nat.mul_pos O.ok.st0 (Nat.pow_pos (Nat.mul_pos O.ok.sp.pos O.ok.tl.pos))) h1) (Nat.mul_le_mul_left _ (Nat.pow_le_pow_right (Nat.mul_pos O.ok.sp.pos O.ok.tl.pos) (by omega))))
      have e2 : (stpL c (ixc c) s v[i]).2.2 = s.2.2 * c.T * (if 0 < s.1 then c.S else 1) := rfl
      rw [e2]
      refine ⟨⟨by simp, trivial⟩, ?_⟩
      by_cases h0 : 0 < s.1
      · rw [if_pos h0]
        have h00 : (0 : Int) < ((i : Nat) : Int) := by omega
        simp? only [flatD, decide_eq_true h00]
        exact ⟨⟨wB.big, TB.big⟩, ⟨W2.big, SB.big⟩, _, rfl⟩
      · rw [if_neg h0]
        have h00 : ¬ (0 : Int) < ((i : Nat) : Int) := by omega
        have one : ((1 : Nat) : Int) = 1 := rfl
        simp? only [flatD, decide_eq_false h00]
        refine ⟨⟨wB.big, TB.big⟩, ⟨W2.big, (Bg.small (n := 1) (by decide)).big⟩, .d (.int (i : Nat)), ?_⟩
        rw [← one, n_mul]
    · rw [rangeD_len, List.take_length] at hρ
      exact hρ
  rintro ρ ⟨x, rfl⟩
  simp? only [PL.z1]
  exact hP
theorem scAhead : FnScope ["flat", "view", "found", "sign", "came", "state", "own", "weight"] ["flat", "view"] (defScope sAhead) := ⟨rfl, rfl, rfl, by decide +kernel, rfl, by decide +kernel, by decide +kernel⟩
theorem lay_rows (rows : List (List Nat)) : SeqAt.shaped (.list (rowsL rows)) = true := by
  have : Lay 2 (.list (rowsL rows)) := lay_list fun d hd => by
    obtain ⟨r, _, rfl⟩ := List.mem_map.mp hd
    exact lay_list (lay_nats r)
  exact this.shaped
theorem eqv_rows (rows : List (List Nat)) : PyData.eqv (.list (rowsL rows)) (.list []) = rows.isEmpty := by
  cases rows with
  | nil => rfl
  | cons r rows => rfl
theorem at_last (rows : List (List Nat)) (r : List Nat) (h : rows.getLast? = some r) : atI (rowsL rows) (-1) = some (.list (nats r)) := by
  have hne : rows ≠ [] := fun e => by rw [e] at h; cases h
  have hp : 0 < rows.length := List.length_pos_iff.mpr hne
  unfold atI ixN
  rw [rowsL_len, if_neg (by decide), if_pos (by omega)]
  have e : ((-1 : Int) + ((rows.length : Nat) : Int)).toNat = rows.length - 1 := by omega
  show (rowsL rows)[((-1 : Int) + ((rows.length : Nat) : Int)).toNat]? = _
  rw [e, rowsL_get, ← List.getLast?_eq_getElem?, h]
  rfl
set_option maxHeartbeats 1000000 in
theorem ok_ahead {f : Addr} {fd : FuncData} (F : Fun K "_law_ahead" "_law_ahead" sAhead f fd) (T : Ty2 mg) (G : GTell P w K mg base) : FnG P w K mg base CX0 2 f fd ["flat", "view"] (spP K jarBox 2 aheadF) := by
  refine fnP F scAhead fun cdv A outer s H E hr ts Pq hl hφ => ?_
  have S := @scAhead
  have hu64 : (A.deeper (PyProof.Rows.envOfC "_law_ahead" (defScope sAhead) s.heap.objs.size f cdv)).units + 64 < cLine := hr.units
  obtain ⟨c, n, k, NA, NB, v, rfl, O, V, hv, hB, hP⟩ := hφ
  refine ⟨_, (s_cons (s_set (i := 2) S.nd (q_lst a_nil))
      (s_cons (s_for PassesOwn.never rfl (i_str (q_var 1)) (g_name (i := 3) S.nd) (s_cons (s_if (t_cmp o_eq (op_eqD hu64) (q_al 2) (q_lst a_nil) (nomark _)) (s_one (s_set (i := 4) S.nd (q_getF hu64 (q_var 0) (q_str)))) (s_one (s_setLc (i := 4) (own := [("state", 5)]) rfl S.nd (sw_true rfl rfl rfl (by decide +kernel)) (i_range1 (by rfl) T.range (a_cons (q_callB c_len call_lenP (by rfl) T.len (by rfl) (a_cons (q_getF hu64 (q_var 0) (q_str)) a_nil)) a_nil)) (blkOk_by (by kernel_rfl)) (fun _ _ _ _ _ => (gv_name (i := 5) S.nd)) (fun _ _ _ _ _ => ts_nil) (fun _ _ _ _ _ => (q_callB c_sum (cr_sumB rfl) (by rfl) T.sum (by rfl) (a_cons (q_lc (own := [("own", 6)]) rfl S.nd (i_range1 (by rfl) T.range (a_cons (q_callB c_len call_lenP (by rfl) T.len (by rfl) (a_cons (q_getF hu64 (q_var 0) (q_str)) a_nil)) a_nil)) (blkOk_by (by kernel_rfl)) (fun _ _ _ _ _ => (gv_name (i := 6) S.nd)) (fun _ _ _ _ _ => ts_nil) (fun _ _ _ _ _ => (q_op o_mulB op_mulBP (q_ix (q_ix (q_al 2) (q_neg (q_int))) (q_var 6)) (q_ix (q_ix (q_getF hu64 (q_var 0) (q_str)) (q_var 6)) (q_var 5))))) a_nil))))))
      (s_one (s_frz 4 (s_expr (q_app 2 (q_lc (own := [("state", 5), ("weight", 7)]) rfl S.nd (i_enumS (by rfl) T.enumerate (a_cons (q_var 4) a_nil)) (blkOk_by (by kernel_rfl)) (fun _ _ _ _ _ => (gv_tup (n := 2) rfl (gvs_cons (gv_name (i := 5) S.nd) (gvs_cons (gv_name (i := 7) S.nd) gvs_nil)))) (fun _ _ _ _ _ => ts_nil) (fun _ _ _ _ _ => (q_op o_mulB op_mulBP (q_al 7) (q_cF G._law_tell (hr.mono (by decide)) (by rfl) (a_cons (q_var 0) (a_cons (q_var 5) (a_cons (q_var 3) a_nil)))))))))))))
      (s_one (s_ret (q_var 2))))), ?_⟩
  obtain ⟨SB, TB⟩ := O.big
  obtain ⟨S0, S1, S2, S3⟩ := O.ok.sp.S
  obtain ⟨T0, T1, T2, T3⟩ := O.ok.tl.S
  have S3' : c.sps.length = n := S3
  have T3' : c.tls.length = n := T3
  have hn := O.few.1
  have m1 : (-1 : Int) = -1 := rfl
  simp only [startP, endsP, List.length_cons, List.length_nil, Nat.zero_add, Nat.reduceAdd, Nat.reduceSub, List.reduceReplicate, List.cons_append, List.nil_append]
  refine seq_to (fun ρ => ρ = [.d (flatD c), .d (.str (PL.sg v)), .l [], .un, .un, .un, .un, .un]) (fun DP hD => by simp? only [PL.z1]; exact ⟨by decide, hD _ rfl⟩) ?_
  rintro ρ rfl
  refine seq_to (fun ρ => ∃ rows x3 x4 x5 x6 x7, rows.length = v.length ∧ (v ≠ [] → rows.getLast? = some (runL c (ixc c) v).2.1) ∧ ρ = [.d (flatD c), .d (.str (PL.sg v)), .l (rowsL rows), x3, x4, x5, x6, x7]) (fun DP hD => ?_) ?_
  · refine forT (signsD (PL.sg v)) [.d (flatD c), .d (.str (PL.sg v)), .l [], .un, .un, .un, .un, .un]
      (fun i ρ => ∃ rows x3 x4 x5 x6 x7, rows.length = i ∧ (0 < i → rows.getLast? = some (runL c (ixc c) (v.take i)).2.1) ∧ (x5.bare ∧ x6.bare ∧ x7.bare) ∧ ρ = [.d (flatD c), .d (.str (PL.sg v)), .l (rowsL rows), x3, x4, x5, x6, x7])
      (fun R hR => ?_) ⟨[], _, _, _, _, _, rfl, fun z => by omega, ⟨trivial, trivial, trivial⟩, rfl⟩ (fun i d ρ hd ⟨rows, x3, x4, x5, x6, x7, hrl, hrg, ⟨b5, b6, b7⟩, hρ⟩ => ?_) (fun ρ ⟨rows, x3, x4, x5, x6, x7, hrl, hrg, _, hρ⟩ => hD _ ⟨rows, x3, x4, x5, x6, x7, ?_, fun hne => ?_, hρ⟩)
    · simp? only [PL.z1]
      exact hR
    · subst hρ
      rw [sg_signs, List.getElem?_map] at hd
      have hi : i < v.length := by
        cases e : v[i]? with
        | none => rw [e] at hd; cases hd
        | some x => exact (List.getElem?_eq_some_iff.mp e).1
      have hx : v[i]? = some v[i] := List.getElem?_eq_getElem hi
      rw [hx] at hd
      cases hd
      have hxm : v[i] ∈ v := List.getElem_mem hi
      have e1 : v.take (i + 1) = v.take i ++ [v[i]] := by rw [List.take_add_one, hx]; rfl
      have W := wayL O.ok (ixc c) (v.take i)
      have hl1 := runL_len c (ixc c) (v.take i)
      rw [List.length_take, Nat.min_eq_left (by omega)] at hl1 W
      have h0s : i = 0 → (runL c (ixc c) (v.take i)).2.1 = c.st := fun z => by rw [z]; rfl
      rw [e1]
      simp only [runL_snoc]
      revert W hl1 hrg h0s
      generalize runL c (ixc c) (v.take i) = s
      intro hrg W hl1 h0s
      obtain ⟨g1, g2⟩ := wayL_go O.ok W
      have wB : Bg s.2.2 := hB.le (Nat.le_trans (Nat.le_of_dvd (Nat.mul_pos O.ok.st0 (Nat.pow_pos (Nat.mul_pos O.ok.sp.pos O.ok.tl.pos))) W.dvd) (Nat.mul_le_mul_left _ (Nat.pow_le_pow_right (Nat.mul_pos O.ok.sp.pos O.ok.tl.pos) (by omega))))
      have cB : Bg (s.2.2 * c.S) := hB.le (by
        have h1 : s.2.2 * c.S ∣ c.st.sum * (NA * NB) ^ (i + 1) := by
          have e : c.st.sum * (NA * NB) ^ (i + 1) = c.st.sum * (NA * NB) ^ i * NA * NB := by rw [Nat.pow_succ]; grind
          rw [e]
          exact Nat.dvd_trans (Nat.mul_dvd_mul W.dvd S1) (Nat.dvd_mul_right _ _)
        exact Nat.le_trans (Nat.le_of_dvd (Nat.mul_pos O.ok.st0 (Nat.pow_pos (Nat.mul_pos O.ok.sp.pos O.ok.tl.pos))) h1) (Nat.mul_le_mul_left _ (Nat.pow_le_pow_right (Nat.mul_pos O.ok.sp.pos O.ok.tl.pos) (by omega))))
      have rowEq := stpL_row (c := c) (ixc c) s v[i] (by rw [g1]; exact T3'.symm)
      rw [g1] at rowEq
      refine ⟨⟨by simp, trivial⟩, ?_⟩
      refine seq_to (fun ρ => ∃ t4 x5 x6, (x5.bare ∧ x6.bare) ∧ lsT t4 (nats (came c s)) ∧ ρ = [.d (flatD c), .d (.str (PL.sg v)), .l (rowsL rows), .d (.str (PL.sg [v[i]])), t4, x5, x6, x7]) (fun DP' hD' => ?_) ?_
      · by_cases h0 : 0 < i
        · have hne : rows.isEmpty = false := by
            cases rows with
            | nil => simp at hrl; omega
            | cons => rfl
          have hlast := at_last rows _ (hrg h0)
          have ec : came c s = (List.range n).map fun j => dot s.2.1 c.sps j := by
            unfold came go
            rw [if_pos (by omega), W.len]
          have hnl : (nats c.st).length = n := by rw [nats_lenS]; exact O.ok.st
          simp? only [flatD, eqv_rows, hne]
          refine ⟨szL (by decide), lay_rows _, (lay_list (k := 0) (ds := []) fun d hd => by cases hd).shaped, ?_⟩
          refine lc_rg n (fun j => .int (dot s.2.1 c.sps j : Nat)) (fun R hR => ?_) (by simp [barePl, b5]) (szL (by omega)) (fun j hj R hR => ?_) ?_
          · simp? only [O.ok.st]
            refine ⟨⟨by omega, by omega⟩, ?_⟩
            simpa using hR
          · simp? only [wipeP]
            refine lc_rg n (fun o => .int ((s.2.1.getD o 0 * (c.sps.getD o []).getD j 0 : Nat) : Int)) (fun R hR => ?_) (by simp [barePl, b6]) (szL (by omega)) (fun o ho R hR2 => ?_) ?_
            · simp? only [O.ok.st]
              refine ⟨⟨by omega, by omega⟩, ?_⟩
              simpa using hR
            · have y1 : s.2.1[o]? = some (s.2.1.getD o 0) := by rw [List.getD_eq_getElem?_getD, List.getElem?_eq_getElem (by rw [W.len]; exact ho)]; rfl
              have y2 : c.sps[o]? = some (c.sps.getD o []) := by rw [List.getD_eq_getElem?_getD, List.getElem?_eq_getElem (by rw [S3']; exact ho)]; rfl
              have y3 := S2 _ (List.mem_of_getElem? y2)
              have y4 : (c.sps.getD o [])[j]? = some ((c.sps.getD o []).getD j 0) := by rw [List.getD_eq_getElem?_getD (l := c.sps.getD o []), List.getElem?_eq_getElem (by rw [y3.2]; exact hj)]; rfl
              simp? only [wipeP, hlast, atI_cast, nats_getS, rowsL_get, y1, y2, y4]
              exact ⟨⟨((wB.le W.le).le (getD_le_sum _ _)).big, ((SB.le (Nat.le_of_eq y3.1)).le (getD_le_sum _ _)).big⟩, hR2 _ _ rfl rfl⟩
            · have e5 : ((List.range n).map fun o => PyData.int ((s.2.1.getD o 0 * (c.sps.getD o []).getD j 0 : Nat) : Int)) = nats ((List.range n).map fun o => s.2.1.getD o 0 * (c.sps.getD o []).getD j 0) := by simp [nats]
              have e6 := dot_range (row := s.2.1) (M := c.sps) (by rw [W.len, S3']) j
              rw [W.len] at e6
              rw [e5]
              simp? only [PL.z1]
              rw [e6] at hR
              exact hR _ _ rfl rfl
          · have e5 : ((List.range n).map fun j => PyData.int ((dot s.2.1 c.sps j : Nat) : Int)) = nats (came c s) := by rw [ec]; simp [nats]
            rw [e5]
            simp? only [PL.z1]
            exact hD' _ ⟨_, x5, x6, ⟨b5, b6⟩, .inl rfl, rfl⟩
        · have i0 : i = 0 := by omega
          have hne : rows.isEmpty = true := by
            cases rows with
            | nil => rfl
            | cons => simp at hrl; omega
          have ec : came c s = c.st := by
            unfold came
            rw [if_neg (by omega)]
            exact h0s i0
          rw [ec] at hD'
          simp? only [flatD, eqv_rows, hne]
          exact ⟨szL (by decide), lay_rows _, (lay_list (k := 0) (ds := []) fun d hd => by cases hd).shaped, hD' _ ⟨_, x5, x6, ⟨b5, b6⟩, .inr rfl, rfl⟩⟩
      rintro ρ ⟨t4, y5, y6, ⟨c5, c6⟩, ht4, rfl⟩
      refine frz_to (x := t4) rfl ht4 ?_
      simp? only [rowsL_len]
      refine lc_mapS (enumD (nats (came c s))) (nats (stpL c (ixc c) s v[i]).2.1) (fun R hR => ?_) (by simp [barePl, c5, b7]) (by rw [enumD_len, nats_lenS, nats_lenS, rowEq, List.length_map, List.length_range, g1]) (by rw [enumD_len, nats_lenS, g1]; exact szL (by omega)) (fun o d z hd hz R hR => ?_) ?_
      · simp? only [PL.z1]
        exact hR
      · have ho : o < n := by have := (List.getElem?_eq_some_iff.mp hd).1; rwa [enumD_len, nats_lenS, g1] at this
        have y1 : (came c s)[o]? = some ((came c s).getD o 0) := by rw [List.getD_eq_getElem?_getD, List.getElem?_eq_getElem (by rw [g1]; exact ho)]; rfl
        have y2 : (nats (came c s))[o]? = some (.int ((came c s).getD o 0 : Nat)) := by rw [nats_getS, y1]; rfl
        rw [enumD_get y2] at hd
        cases hd
        rw [nats_getS, rowEq, List.getElem?_map, List.getElem?_range ho] at hz
        cases hz
        simp? only [wipeP]
        refine ⟨c, n, k, NA, NB, o, v[i], rfl, O, ⟨fun y hy => V.mem y (by rw [List.mem_singleton.mp hy]; exact hxm), fun y hy => V.ok y (by rw [List.mem_singleton.mp hy]; exact hxm), V.ok2⟩, ho, ?_⟩
        simp? only [PL.z1]
        exact ⟨⟨((cB.le g2).le (getD_le_sum _ _)).big, (O.tellB _ _).big⟩, hR _ _ rfl rfl⟩
      · simp? only [PL.z1]
        exact ⟨szLt (by rw [rowsL_len]; omega), rows ++ [(stpL c (ixc c) s v[i]).2.1], .d (.str (PL.sg [v[i]])), .d (.list (nats (came c s))), y5, y6, x7, by simp [hrl], fun _ => by simp, ⟨c5, c6, b7⟩, by simp [rowsL]⟩
    · rw [sg_signs, List.length_map] at hrl
      exact hrl
    · rw [sg_signs, List.length_map, List.take_length] at hrg
      exact hrg (List.length_pos_iff.mpr hne)
  rintro ρ ⟨rows, x3, x4, x5, x6, x7, h1, h2, rfl⟩
  simp? only [PL.z1]
  exact hP rows h1 h2
structure GAhead (P : Program) (w : World) (K : PySem.W.Frag) (mg : Str → Option Value) (base : Heap) : Prop where
  _law_ahead : Cal P w K mg base jarBox 2 "_law_ahead" ["flat", "view"] 2 aheadF
theorem scWeight : FnScope ["flat", "view"] ["flat", "view"] (defScope sWeight) := ⟨rfl, rfl, rfl, by decide +kernel, rfl, by decide +kernel, by decide +kernel⟩
theorem ok_weight {f : Addr} {fd : FuncData} (F : Fun K "_law_weight" "_law_weight" sWeight f fd) (T : Ty2 mg) (G : GAhead P w K mg base) : FnG P w K mg base CX0 3 f fd ["flat", "view"] (spP K jarBox 2 weightF) := by
  refine fnP F scWeight fun cdv A outer s H E hr ts Pq hl hφ => ?_
  have S := @scWeight
  have hu64 : (A.deeper (PyProof.Rows.envOfC "_law_weight" (defScope sWeight) s.heap.objs.size f cdv)).units + 64 < cLine := hr.units
  obtain ⟨c, n, k, NA, NB, v, rfl, O, V, hv, hB, hP⟩ := hφ
  refine ⟨_, (s_one (s_ret (q_if (t_cmp o_ne (op_neD hu64) (q_al 1) (q_str) (nomark _)) (q_callB c_sum (cr_sumB rfl) (by rfl) T.sum (by rfl) (a_cons (q_ix (q_cF G._law_ahead (hr.mono (by decide)) (by rfl) (a_cons (q_var 0) (a_cons (q_var 1) a_nil))) (q_neg (q_int))) a_nil)) (q_int)))), ?_⟩
  have shx := sh_sg (l := v) fun y hy => V.ok y hy
  have shd := sh_sg (l := []) fun y hy => by cases hy
  unfold wL at hP
  by_cases e : v = []
  · have e3 : PyData.eqv (.str (PL.sg v)) (.str (PL.sg [])) = true := by rw [eqv_sg, e]; rfl
    rw [if_pos e] at hP
    simp? only [enil, e3, Bool.not_true]
    exact ⟨shx, shd, hP⟩
  · have e3 : PyData.eqv (.str (PL.sg v)) (.str (PL.sg [])) = false := by rw [eqv_sg]; exact decide_eq_false e
    rw [if_neg e] at hP
    simp? only [enil, e3, Bool.not_false]
    refine ⟨shx, shd, c, n, k, NA, NB, v, rfl, O, V, hv, hB, fun rows h1 h2 => ?_⟩
    have hlast := at_last rows _ (h2 e)
    simp? only [hlast]
    exact hP
end
end C51

set_option Elab.async false
set_option linter.all false
set_option maxRecDepth 100000
namespace C51
open PySem L2 PL PC
variable [Consts]
def initOf : Stmt → Stmt
  | .ClassDef _ _ _ body _ _ _ _ _ _ _ => body.getD 0 (.Pass ⟨0, 0, 0, 0⟩)
  | s => s
abbrev sINever : Stmt := initOf (top 4)
theorem scINever : SupS ["self"] (defScope sINever) := ⟨by decide +kernel, by decide +kernel, rfl, rfl, rfl, rfl, rfl, fun _ _ _ _ _ => rfl⟩
theorem mkNever {P : Program} {K : PySem.W.Frag} {C fI : Addr} (T : SupC P K C fI "Never.__init__" (defArgs sINever) (defBody sINever) (defScope sINever)) : Mk0 P K C :=
  .mk (x := "self") T scINever rfl rfl (fun _ _ _ _ _ _ _ _ => rfl) (fun _ _ _ => ⟨_, rfl⟩)
abbrev sCheck : Stmt := top 18
abbrev sToldBy : Stmt := top 19
structure Errs (P : Program) (K : PySem.W.Frag) (mg : Str → Option Value) (ANever AChainError : Addr) : Prop where
  g_Never : mg "Never" = some (.ref ANever)
  g_ChainError : mg "ChainError" = some (.ref AChainError)
  mk_Never : Mk0 P K ANever
  x_Never : ExcC K ANever
  e_Never_Never : PySem.W.exmOne K (.ref ANever) (.ref ANever) = some true
  k_Never_ChainError : PySem.W.kitOne K (.ref ANever) (.ref AChainError) = some true
  k_Never_ValueError : PySem.W.kitOne K (.ref ANever) (.type "ValueError") = some true
  n_ValueError : mg "ValueError" = none
  n_isinstance : mg "isinstance" = none
structure TyN (K : PySem.W.Frag) (mg : Str → Option Value) : Prop where
  NOUGHT : CT K mg "NOUGHT" (frD (0, 1))
def checkF : List T → (T → Prop) → Prop := fun ts P => ∃ c1 c2 : Ch, ts = [.d (chD c1), .d (chD c2)] ∧ c1.sg = c2.sg ∧ (∀ x ∈ c1.sg, x < 0x110000) ∧ P (.d .none)
/-- a chain and a view of it -/
structure Cv (c : Ch) (v : List Nat) (n k A B : Nat) : Prop where
  ok : COk c n k A B
  sm : Small A B
  few : n ≤ 60 ∧ k ≤ 60
  vw : Vw c v
  sz : c.st.sum * (A * B) ^ v.length < 2 ^ 2000
def wn (c : Ch) (v : List Nat) : Nat := (run c (ixc c) v).2.1.sum
def wd (c : Ch) (v : List Nat) : Nat := (run c (ixc c) v).2.2
theorem Cv.le {c : Ch} {v : List Nat} {n k A B : Nat} (h : Cv c v n k A B) : wn c v ≤ wd c v ∧ 0 < wd c v ∧ wd c v < 2 ^ 2000 ∧ wn c v < 2 ^ 2000 := by
  have W := way_run h.ok (ixc c) v
  have e := way_le W h.ok.sp.pos h.ok.tl.pos h.ok.st0 (Nat.le_refl _)
  exact ⟨W.le, W.pos, Nat.lt_of_le_of_lt e h.sz, Nat.lt_of_le_of_lt (Nat.le_trans W.le e) h.sz⟩
def toldX (AN : Addr) : List T → (T → Prop) → (EX → Prop) → Prop := fun ts P PX => ∃ (c1 c2 : Ch) (f s : Nat) (v : List Nat) (n1 k1 A1 B1 n2 k2 A2 B2 : Nat), ts = [.d (chD c1), .d (chD c2), .d (.int (f : Nat)), .d (.int (s : Nat)), .d (.str (PL.sg v))] ∧ c1.sg = c2.sg ∧ Cv c1 v n1 k1 A1 B1 ∧ Cv c2 v n2 k2 A2 B2 ∧ (f < 2 ^ 128 ∧ s < 2 ^ 128) ∧
  (f * wn c1 v * wd c2 v + s * wn c2 v * wd c1 v = 0 → PX ⟨.ref AN, none⟩) ∧ (0 < f * wn c1 v * wd c2 v + s * wn c2 v * wd c1 v → P (.d (frD (low (f * wn c1 v * wd c2 v) (f * wn c1 v * wd c2 v + s * wn c2 v * wd c1 v)))))
section
variable {P : Program} {w : World} {K : PySem.W.Frag} {mg : Str → Option Value} {base : Heap}
theorem scCheck : FnScope ["one", "other"] ["one", "other"] (defScope sCheck) := ⟨rfl, rfl, rfl, by decide +kernel, rfl, by decide +kernel, by decide +kernel⟩
theorem ok_check {f : Addr} {fd : FuncData} (F : Fun K "check_signs" "check_signs" sCheck f fd) : FnG P w K mg base CX0 1 f fd ["one", "other"] (spP K jarBox 2 checkF) := by
  refine fnP F scCheck fun cdv A outer s H E hr ts Pq hl hφ => ?_
  have S := @scCheck
  have hu64 : (A.deeper (PyProof.Rows.envOfC "check_signs" (defScope sCheck) s.heap.objs.size f cdv)).units + 64 < cLine := hr.units
  obtain ⟨c1, c2, rfl, he, ho, hP⟩ := hφ
  refine ⟨_, (s_one (s_if (t_cmp o_ne (op_neD hu64) (q_ix (q_al 0) (q_int)) (q_ix (q_al 1) (q_int)) (nomark _)) ss_never s_nil)), ?_⟩
  have sh : SeqAt.shaped (.str (PL.sg c1.sg)) = true := (lay_str (k := 0) (sg_ok ho)).shaped
  simp? only [chD, ← he, eqv_sg, decide_true, Bool.not_true]
  exact ⟨sh, sh, hP⟩
theorem scToldBy : FnScope ["one", "other", "first", "second", "view", "mine", "whole"] ["one", "other", "first", "second", "view"] (defScope sToldBy) := ⟨rfl, rfl, rfl, by decide +kernel, rfl, by decide +kernel, by decide +kernel⟩
structure GToldBy (P : Program) (w : World) (K : PySem.W.Frag) (mg : Str → Option Value) (base : Heap) : Prop where
  check_signs : Cal P w K mg base jarBox 1 "check_signs" ["one", "other"] 2 checkF
  multiplied : Cal P w K mg base jarBox 2 "multiplied" ["one", "other"] 2 mulF
  added : Cal P w K mg base jarBox 2 "added" ["one", "other"] 2 addF
  divided : Cal P w K mg base jarBox 2 "divided" ["one", "other"] 2 divF
  chance : Cal P w K mg base jarBox 3 "chance" ["chain", "view"] 2 chanceF
theorem sz_of {a k : Nat} (h : a < 2 ^ k) (hk : k ≤ 4400 := by decide) : Sz a := lt_up h hk
theorem ok_toldBy {ANever AChainError : Addr} {f : Addr} {fd : FuncData} (F : Fun K "told_by" "told_by" sToldBy f fd) (T : TyN K mg) (Z : Errs P K mg ANever AChainError) (G : GToldBy P w K mg base) : FnG P w K mg base (L2.CX P w) 4 f fd ["one", "other", "first", "second", "view"] (spX K jarBox 5 (toldX ANever)) := by
  refine fnX (fun _ _ => True.intro) F scToldBy fun cdv A outer s H E hr ts Pq PX hl hφ G0 F0 bw tk => ?_
  have S := @scToldBy
  have hu64 : (A.deeper (PyProof.Rows.envOfC "told_by" (defScope sToldBy) s.heap.objs.size f cdv)).units + 64 < cLine := hr.units
  obtain ⟨c1, c2, f1, f2, v, n1, k1, A1, B1, n2, k2, A2, B2, rfl, hs, O1, O2, ⟨hf1, hf2⟩, hX, hP⟩ := hφ
  refine ⟨_, (s_cons (s_expr (q_cF (G.check_signs.to rfl) (hr.mono (by decide)) (by rfl) (a_cons (q_var 0) (a_cons (q_var 1) a_nil))))
      (s_cons (s_set (i := 5) S.nd (q_cF (G.multiplied.to rfl) (hr.mono (by decide)) (by rfl) (a_cons (q_tup (a_cons (q_var 2) (a_cons (q_int) a_nil))) (a_cons (q_cF (G.chance.to rfl) (hr.mono (by decide)) (by rfl) (a_cons (q_var 0) (a_cons (q_var 4) a_nil))) a_nil))))
      (s_cons (s_set (i := 6) S.nd (q_cF (G.added.to rfl) (hr.mono (by decide)) (by rfl) (a_cons (q_var 5) (a_cons (q_cF (G.multiplied.to rfl) (hr.mono (by decide)) (by rfl) (a_cons (q_tup (a_cons (q_var 3) (a_cons (q_int) a_nil))) (a_cons (q_cF (G.chance.to rfl) (hr.mono (by decide)) (by rfl) (a_cons (q_var 1) (a_cons (q_var 4) a_nil))) a_nil))) a_nil))))
      (s_cons (s_if (t_cmp o_eq (op_eqD hu64) (q_al 6) (q_gT (by rfl) T.NOUGHT) (nomark _)) (s_one (s_raise0 (hr.toRoom.mono (by decide)) Z.mk_Never tk bw (by rfl) Z.g_Never)) s_nil)
      (s_one (s_ret (q_cF (G.divided.to rfl) (hr.mono (by decide)) (by rfl) (a_cons (q_var 5) (a_cons (q_var 6) a_nil))))))))), ?_⟩
  obtain ⟨w1a, w1b, w1c, w1d⟩ := O1.le
  obtain ⟨w2a, w2b, w2c, w2d⟩ := O2.le
  have e1 : ((1 : Nat) : Int) = 1 := rfl
  have fr1 : ∀ a : Nat, PyData.tuple [.int (a : Nat), .int 1] = frD (low a 1) := fun a => by rw [low_one]; rfl
  have p1 := lt_mul hf1 w1d
  have p2 := lt_mul hf2 w2d
  have pb := lt_mul w1c w2c
  have q1 := lt_mul p1 w2c
  have q2 := lt_mul p2 w1c
  have qs := lt_add q1 q2
  simp only [startP, endsP, List.length_cons, List.length_nil, Nat.zero_add, Nat.reduceAdd, Nat.reduceSub, List.reduceReplicate, List.cons_append, List.nil_append]
  refine seq_to (fun ρ => ρ = [.d (chD c1), .d (chD c2), .d (.int (f1 : Nat)), .d (.int (f2 : Nat)), .d (.str (PL.sg v)), .un, .un]) (fun DP hD => ?_) ?_
  · simp? only [PL.z1]
    exact ⟨c1, c2, rfl, hs, O1.vw.ok2, hD _ rfl⟩
  rintro ρ rfl
  refine seq_to (fun ρ => ρ = [.d (chD c1), .d (chD c2), .d (.int (f1 : Nat)), .d (.int (f2 : Nat)), .d (.str (PL.sg v)), .d (frD (low (f1 * wn c1 v) (wd c1 v))), .un]) (fun DP hD => ?_) ?_
  · simp? only [PL.z1]
    refine ⟨szL (by decide), c1, v, n1, k1, A1, B1, rfl, O1.ok, O1.sm, O1.few, O1.vw, sz_of O1.sz, ?_⟩
    simp? only [fr1]
    refine ⟨f1, 1, wn c1 v, wd c1 v, rfl, ⟨by decide, w1b⟩, ⟨sz_of hf1, sz_of (k := 1) (by decide), sz_of w1d, sz_of w1c⟩, ?_⟩
    rw [Nat.one_mul]
    exact ⟨trivial, hD _ rfl⟩
  rintro ρ rfl
  refine seq_to (fun ρ => ρ = [.d (chD c1), .d (chD c2), .d (.int (f1 : Nat)), .d (.int (f2 : Nat)), .d (.str (PL.sg v)), .d (frD (low (f1 * wn c1 v) (wd c1 v))), .d (frD (low (f1 * wn c1 v * wd c2 v + f2 * wn c2 v * wd c1 v) (wd c1 v * wd c2 v)))]) (fun DP hD => ?_) ?_
  · simp? only [PL.z1]
    refine ⟨szL (by decide), c2, v, n2, k2, A2, B2, rfl, O2.ok, O2.sm, O2.few, O2.vw, sz_of O2.sz, ?_⟩
    simp? only [fr1]
    refine ⟨f2, 1, wn c2 v, wd c2 v, rfl, ⟨by decide, w2b⟩, ⟨sz_of hf2, sz_of (k := 1) (by decide), sz_of w2d, sz_of w2c⟩, ?_⟩
    rw [Nat.one_mul]
    simp? only [PL.z1]
    exact ⟨f1 * wn c1 v, wd c1 v, f2 * wn c2 v, wd c2 v, rfl, ⟨w1b, w2b⟩, ⟨sz_of p1, sz_of w1c, sz_of p2, sz_of w2c⟩, trivial, hD _ rfl⟩
  rintro ρ rfl
  have bp := Nat.mul_pos w1b w2b
  rcases Nat.eq_zero_or_pos (f1 * wn c1 v * wd c2 v + f2 * wn c2 v * wd c1 v) with h0 | h0
  · have e3 : low (f1 * wn c1 v * wd c2 v + f2 * wn c2 v * wd c1 v) (wd c1 v * wd c2 v) = (0, 1) := (low_zero_iff bp).mpr h0
    simp? only [eqv_fr, e3, decide_true]
    exact ⟨sh_fr _, sh_fr _, hX h0⟩
  · have e3 : ¬ low (f1 * wn c1 v * wd c2 v + f2 * wn c2 v * wd c1 v) (wd c1 v * wd c2 v) = (0, 1) := fun z => by have := (low_zero_iff bp).mp z; omega
    simp? only [eqv_fr, decide_eq_false e3]
    refine ⟨sh_fr _, sh_fr _, f1 * wn c1 v, wd c1 v, _, wd c1 v * wd c2 v, rfl, ⟨w1b, bp, h0⟩, ⟨sz_of p1, sz_of w1c, sz_of qs, sz_of pb⟩, ?_⟩
    rw [low_tb _ _ _ _ w1b]
    exact ⟨hP h0, trivial⟩
end
end C51

set_option Elab.async false
set_option linter.all false
set_option maxRecDepth 100000
namespace C51
open PySem L2 PL PC
variable [Consts]
abbrev sPick : Stmt := top 23
abbrev sLine : Stmt := top 26
abbrev sChain : Stmt := top 27
/-- one of a menu: a list, or the signs of a text -/
def pickF : List T → (T → Prop) → Prop := fun ts P => ∃ u, (∃ ds : List D, ts = [.bx u, .d (.list ds)] ∧ ds ≠ [] ∧ ds.length < 1000 ∧ ∀ d ∈ ds, P (.d d)) ∨ ∃ l : List Nat, ts = [.bx u, .d (.str (PL.sg l))] ∧ l ≠ [] ∧ l.length < 1000 ∧ ∀ c ∈ l, P (.d (.str (PL.sg [c])))
/-- a drawn line of m weights -/
structure Ln (r : List Nat) (m : Nat) : Prop where
  len : r.length = m
  pos : 0 < r.sum
  kind : (∀ x ∈ r, x ∈ [0, 1, 2, 3, 5]) ∨ r.sum ≤ 4
def lineF : List T → (T → Prop) → Prop := fun ts P => ∃ (u : Addr) (m : Nat), ts = [.bx u, .d (.int (m : Nat))] ∧ (1 ≤ m ∧ m ≤ 60) ∧ ∀ r, Ln r m → P (.d (.tuple (nats r)))
/-- a drawn chain of n states -/
structure Cd (c : Ch) (n k : Nat) : Prop where
  st : Ln c.st n
  sp : c.sp.length = n ∧ ∀ r ∈ c.sp, Ln r n
  tl : c.tl.length = n ∧ ∀ r ∈ c.tl, Ln r k
def chainF : List T → (T → Prop) → Prop := fun ts P => ∃ (u : Addr) (n : Nat) (l : List Nat), ts = [.bx u, .d (.int (n : Nat)), .d (.str (PL.sg l))] ∧ (1 ≤ n ∧ n ≤ 60) ∧ (1 ≤ l.length ∧ l.length ≤ 60) ∧ ∀ c : Ch, c.sg = l → Cd c n l.length → P (.d (chD c))
theorem natOf' {r : Int} (h : 0 ≤ r) : ∃ k : Nat, r = ((k : Nat) : Int) := ⟨r.toNat, by omega⟩
section
variable {P : Program} {w : World} {K : PySem.W.Frag} {mg : Str → Option Value} {base : Heap}
structure GTake (P : Program) (w : World) (K : PySem.W.Frag) (mg : Str → Option Value) (base : Heap) : Prop where
  _law_draw : Cal P w K mg base jarBox 1 "_law_draw" ["jar", "many"] 2 drawF
theorem scPick : FnScope ["jar", "items"] ["jar", "items"] (defScope sPick) := ⟨rfl, rfl, rfl, by decide +kernel, rfl, by decide +kernel, by decide +kernel⟩
theorem ok_pick {f : Addr} {fd : FuncData} (F : Fun K "_law_pick" "_law_pick" sPick f fd) (T : Ty2 mg) (G : GTake P w K mg base) : FnG P w K mg base CX0 2 f fd ["jar", "items"] (spP K jarBox 2 pickF) := by
  refine fnP F scPick fun cdv A outer s H E hr ts Pq hl hφ => ?_
  have S := @scPick
  refine ⟨_, (s_one (s_ret (q_ix (q_al 1) (q_cU (i := 0) G._law_draw (hr.mono (by decide)) (by rfl) (pv 0) (a_cons (q_callB c_len call_lenP (by rfl) T.len (by rfl) (a_cons (q_al 1) a_nil)) a_nil))))), ?_⟩
  obtain ⟨u, ⟨ds, rfl, hne, hl2, hP⟩ | ⟨l, rfl, hne, hl2, hP⟩⟩ := hφ
  · have hpos : 0 < ds.length := List.length_pos_iff.mpr hne
    simp? only [PL.z1]
    refine ⟨u, _, rfl, by omega, fun r r0 r1 => ?_⟩
    obtain ⟨i, rfl⟩ := natOf' r0
    have hi : i < ds.length := by omega
    simp? only [atI_cast, List.getElem?_eq_getElem hi]
    exact hP _ (List.getElem_mem hi)
  · have hpos : 0 < l.length := List.length_pos_iff.mpr hne
    simp? only [sg_len]
    refine ⟨by rw [sizeLine_eq]; omega, u, _, rfl, by omega, fun r r0 r1 => ?_⟩
    obtain ⟨i, rfl⟩ := natOf' r0
    have hi : i < l.length := by omega
    simp? only [sg_len, sg_tl, atI_cast, List.getElem?_eq_getElem hi]
    exact ⟨by rw [sizeLine_eq]; omega, hP _ (List.getElem_mem hi)⟩
theorem picks {g : QG} {te : QE} {vs : List Nat} {ρ0 : PL.Env} {Q : PL.T → PL.Env → Prop} {sgl : List Nat} (m : Nat) (hb : barePl ρ0 vs) (hm : m ≤ 1000) (step : ∀ (d : D) (R : PL.T → PL.Env → Prop), (∀ c ∈ sgl, ∀ ρ4, wipeP ρ4 vs = wipeP ρ0 vs → R (.d (.str (PL.sg [c]))) ρ4) → g (.d d) (wipeP ρ0 vs) fun ρ2 => te ρ2 R)
    (fin : ∀ cs : List Nat, cs.length = m → (∀ c ∈ cs, c ∈ sgl) → Q (.l (cs.map fun c => PyData.str (PL.sg [c]))) ρ0) : qLc (fun ρ R => R (rangeD 0 m) ρ) g qYes te vs ρ0 Q := by
  refine lc_inv (rangeD 0 m) ρ0 (fun i acc => ∃ cs : List Nat, cs.length = i ∧ acc = cs.map (fun c => PyData.str (PL.sg [c])) ∧ ∀ c ∈ cs, c ∈ sgl) (fun R hR => hR) hb (by rw [rangeD_len, sizeLine_eq]; omega) ⟨[], rfl, rfl, fun c z => nomatch z⟩ (fun i acc ⟨cs, h1, h2, _⟩ => by rw [h2, List.length_map]; omega) (fun i d acc hd ⟨cs, h1, h2, h3⟩ R hR => ?_) fun acc ⟨cs, h1, h2, h3⟩ => ?_
  · refine step d R fun c hc ρ4 hw => hR _ _ _ rfl hw ⟨cs ++ [c], by simp [h1], by simp [h2], fun x hx => ?_⟩
    rcases List.mem_append.mp hx with z | z
    · exact h3 x z
    · obtain rfl := List.mem_singleton.mp z
      exact hc
  · subst h2
    rw [rangeD_len] at h1
    exact fin cs h1 h3
theorem joinD {Q : PL.T → Prop} (cs : List Nat) (hl : cs.length ≤ 10000) (q : Q (.d (.str (PL.sg cs)))) : pJoin (.str (Str.ofString "")) (.list (cs.map fun c => PyData.str (PL.sg [c]))) Q := by
  refine ⟨cs.map fun c => PL.sg [c], by rw [List.map_map]; rfl, ?_, by rw [join_ones]; exact q⟩
  rw [sum_ones, List.length_map]
  show cs.length + cs.length * 0 ≤ 16777216
  omega
/-- items drawn one by one -/
theorem drawn {α : Type} {g : QG} {te : QE} {ti : QI} {vs : List Nat} {ρ : PL.Env} {Q : PL.T → PL.Env → Prop} (m : Nat) (enc : α → D) (C : α → Prop) (h1 : ∀ R : List D → PL.Env → Prop, R (rangeD 0 m) ρ → ti ρ R) (hb : barePl ρ vs) (hm : m ≤ 1000)
    (step : ∀ (d : D) (R : PL.T → PL.Env → Prop), (∀ x r ρ4, C x → r.dat = some (enc x) → wipeP ρ4 vs = wipeP ρ vs → R r ρ4) → g (.d d) (wipeP ρ vs) fun ρ2 => te ρ2 R)
    (fin : ∀ xs : List α, xs.length = m → (∀ x ∈ xs, C x) → Q (.l (xs.map enc)) ρ) : qLc ti g qYes te vs ρ Q := by
  refine lc_inv (rangeD 0 m) ρ (fun i acc => ∃ xs : List α, xs.length = i ∧ acc = xs.map enc ∧ ∀ x ∈ xs, C x) h1 hb (by rw [rangeD_len, sizeLine_eq]; omega) ⟨[], rfl, rfl, fun c z => nomatch z⟩ (fun i acc ⟨cs, h1, h2, _⟩ => by rw [h2, List.length_map]; omega) (fun i d acc hd ⟨xs, e1, e2, e3⟩ R hR => ?_) fun acc ⟨xs, e1, e2, e3⟩ => ?_
  · refine step d R fun x r ρ4 hx hd hw => hR _ _ _ hd hw ⟨xs ++ [x], by simp [e1], by simp [e2], fun y hy => ?_⟩
    rcases List.mem_append.mp hy with z | z
    · exact e3 y z
    · obtain rfl := List.mem_singleton.mp z
      exact hx
  · subst e2
    rw [rangeD_len] at e1
    exact fin xs e1 e3
structure GPick (P : Program) (w : World) (K : PySem.W.Frag) (mg : Str → Option Value) (base : Heap) : Prop extends GTake P w K mg base where
  _law_pick : Cal P w K mg base jarBox 2 "_law_pick" ["jar", "items"] 2 pickF
theorem scLine : FnScope ["jar", "many", "found", "turn"] ["jar", "many"] (defScope sLine) := ⟨rfl, rfl, rfl, by decide +kernel, rfl, by decide +kernel, by decide +kernel⟩
theorem sum_noughts : ∀ (r : List Nat) (i v : Nat), (∀ x ∈ r, x = 0) → i < r.length → (r.set i v).sum = v
  | [], i, v, _, h => by simp at h
  | x :: r, 0, v, h, _ => by
    have hr : r.sum = 0 := by
      have : ∀ r : List Nat, (∀ x ∈ r, x = 0) → r.sum = 0 := by
        intro r
        induction r with
        | nil => intro _; rfl
        | cons y r ih => intro h; rw [List.sum_cons, h y List.mem_cons_self, ih fun z hz => h z (List.mem_cons_of_mem _ hz)]
      exact this r fun y hy => h y (List.mem_cons_of_mem _ hy)
    simp [hr]
  | x :: r, i + 1, v, h, hi => by
    have ih := sum_noughts r i v (fun y hy => h y (List.mem_cons_of_mem _ hy)) (by simpa using hi)
    rw [List.set_cons_succ, List.sum_cons, ih, h x List.mem_cons_self, Nat.zero_add]
theorem nats_set (r : List Nat) (i v : Nat) : (nats r).set i (.int (v : Nat)) = nats (r.set i v) := by simp [nats, List.map_set]
theorem ok_line {f : Addr} {fd : FuncData} (F : Fun K "_law_line" "_law_line" sLine f fd) (T : Ty2 mg) (G : GPick P w K mg base) : FnG P w K mg base CX0 3 f fd ["jar", "many"] (spP K jarBox 2 lineF) := by
  refine fnP F scLine fun cdv A outer s H E hr ts Pq hl hφ => ?_
  have S := @scLine
  have hu64 : (A.deeper (PyProof.Rows.envOfC "_law_line" (defScope sLine) s.heap.objs.size f cdv)).units + 64 < cLine := hr.units
  obtain ⟨u, m, rfl, ⟨m1, m2⟩, hP⟩ := hφ
  refine ⟨_, (s_cons (s_setLc (i := 2) (own := [("turn", 3)]) rfl S.nd (sw_true rfl rfl rfl (by decide +kernel)) (i_range1 (by rfl) T.range (a_cons (q_var 1) a_nil)) (blkOk_by (by kernel_rfl)) (fun _ _ _ _ _ => (gv_name (i := 3) S.nd)) (fun _ _ _ _ _ => ts_nil) (fun _ _ _ _ _ => (q_cU (i := 0) G._law_pick (hr.mono (by decide)) (by rfl) (pv 0) (a_cons (q_lst (a_cons (q_int) (a_cons (q_int) (a_cons (q_int) (a_cons (q_int) (a_cons (q_int) (a_cons (q_int) (a_cons (q_int) a_nil)))))))) a_nil))))
      (s_cons (s_if (t_cmp o_eq (op_eqD hu64) (q_callB c_maxL (cr_max rfl) (by rfl) T.max (by rfl) (a_cons (q_al 2) a_nil)) (q_int) (nomark _)) (s_one (s_putL 2 (q_op o_add op_addP (q_int) (q_cU (i := 0) G._law_draw (hr.mono (by decide)) (by rfl) (pv 0) (a_cons (q_int) a_nil))) (q_cU (i := 0) G._law_draw (hr.mono (by decide)) (by rfl) (pv 0) (a_cons (q_var 1) a_nil)))) s_nil)
      (s_one (s_ret (q_callTy c_tupOf call_tupP (by rfl) T.tuple (by rfl) (a_cons (q_al 2) a_nil)))))), ?_⟩
  simp only [startP, endsP, List.length_cons, List.length_nil, Nat.zero_add, Nat.reduceAdd, Nat.reduceSub, List.reduceReplicate, List.cons_append, List.nil_append]
  refine seq_to (fun ρ => ∃ r : List Nat, r.length = m ∧ (∀ x ∈ r, x ∈ [0, 1, 2, 3, 5]) ∧ ρ = [.bx u, .d (.int (m : Nat)), .l (nats r), .un]) (fun DP hD => ?_) ?_
  · simp? only [PL.z1]
    refine drawn (α := Nat) m (fun x => .int (x : Nat)) (fun x => x ∈ [0, 1, 2, 3, 5]) (fun R hR => ?_) (by simp [barePl, PL.T.bare]) (by omega) (fun d R hR => ?_) fun xs h1 h2 => ?_
    · simp? only [PL.z1]
      refine ⟨⟨by omega, by omega⟩, ?_⟩
      simpa using hR
    · simp? only [wipeP]
      refine ⟨szL (by decide), u, .inl ⟨_, rfl, by simp, by simp, fun d hd => ?_⟩⟩
      simp only [List.mem_cons, List.not_mem_nil, or_false] at hd
      rcases hd with rfl | rfl | rfl | rfl | rfl | rfl | rfl
      · exact hR 0 _ _ (by decide) rfl rfl
      · exact hR 0 _ _ (by decide) rfl rfl
      · exact hR 1 _ _ (by decide) rfl rfl
      · exact hR 1 _ _ (by decide) rfl rfl
      · exact hR 2 _ _ (by decide) rfl rfl
      · exact hR 3 _ _ (by decide) rfl rfl
      · exact hR 5 _ _ (by decide) rfl rfl
    · simp? only [PL.z1]
      exact hD _ ⟨xs, h1, h2, rfl⟩
  rintro ρ ⟨r, hrl, hrk, rfl⟩
  refine seq_to (fun ρ => ∃ r : List Nat, Ln r m ∧ ρ = [.bx u, .d (.int (m : Nat)), .l (nats r), .un]) (fun DP hD => ?_) ?_
  · refine if_any [.bx u, .d (.int (m : Nat)), .l (nats r), .un] (fun b => b = true ↔ ∀ x ∈ r, x = 0) (fun R hR => ?_) (fun h => ?_) fun h => ?_
    · simp? only [List.length_map]
      refine ⟨by omega, fun mx hm1 hm2 => ⟨shI _, shI _, hR _ ?_⟩⟩
      rw [decide_eq_true_iff]
      obtain ⟨y, hy, rfl⟩ := List.mem_map.mp hm1
      constructor
      · intro e x hx
        have := hm2 _ (List.mem_map_of_mem hx)
        omega
      · intro e
        have := e y hy
        omega
    · have h0 := h.mp rfl
      simp? only [PL.z1]
      refine ⟨u, 4, rfl, by decide, fun a a0 a1 => ?_⟩
      obtain ⟨a, rfl⟩ := natOf' a0
      have e1 : (1 : Int) + ((a : Nat) : Int) = ((1 + a : Nat) : Int) := by omega
      simp? only [e1]
      refine ⟨u, m, rfl, by omega, fun b b0 b1 => ?_⟩
      obtain ⟨b, rfl⟩ := natOf' b0
      have hb : b < r.length := by omega
      refine ⟨b, ?_, hD _ ⟨r.set b (1 + a), ⟨by rw [List.length_set]; exact hrl, ?_, .inr ?_⟩, by rw [← nats_set]⟩⟩
      · rw [nats_lenS]
        unfold ixN
        rw [if_pos (by omega), if_pos (by omega)]
        simp
      · rw [sum_noughts r b _ h0 hb]; omega
      · rw [sum_noughts r b _ h0 hb]; omega
    · have h0 : ¬ ∀ x ∈ r, x = 0 := fun z => by have := h.mpr z; cases this
      refine hD _ ⟨r, ⟨hrl, ?_, .inl hrk⟩, rfl⟩
      refine Nat.pos_of_ne_zero fun z => h0 fun x hx => ?_
      have := le_sum hx
      omega
  rintro ρ ⟨r, hL, rfl⟩
  simp? only [PL.z1]
  exact hP r hL
end
end C51

set_option Elab.async false
set_option linter.all false
set_option maxRecDepth 100000
namespace C51
open PySem L2 PL PC
variable [Consts]
section
variable {P : Program} {w : World} {K : PySem.W.Frag} {mg : Str → Option Value} {base : Heap}
structure GLine (P : Program) (w : World) (K : PySem.W.Frag) (mg : Str → Option Value) (base : Heap) : Prop where
  _law_line : Cal P w K mg base jarBox 3 "_law_line" ["jar", "many"] 2 lineF
theorem scChain : FnScope ["jar", "many", "signs", "steps", "tells", "state"] ["jar", "many", "signs"] (defScope sChain) := ⟨rfl, rfl, rfl, by decide +kernel, rfl, by decide +kernel, by decide +kernel⟩
theorem ok_chain {f : Addr} {fd : FuncData} (F : Fun K "_law_chain" "_law_chain" sChain f fd) (T : Ty2 mg) (G : GLine P w K mg base) : FnG P w K mg base CX0 4 f fd ["jar", "many", "signs"] (spP K jarBox 3 chainF) := by
  refine fnP F scChain fun cdv A outer s H E hr ts Pq hl hφ => ?_
  have S := @scChain
  obtain ⟨u, n, l, rfl, ⟨n1, n2⟩, ⟨k1, k2⟩, hP⟩ := hφ
  refine ⟨_, (s_cons (s_set (i := 3) S.nd (q_callTy c_tupOf call_tupP (by rfl) T.tuple (by rfl) (a_cons (q_lc (own := [("state", 5)]) rfl S.nd (i_range1 (by rfl) T.range (a_cons (q_var 1) a_nil)) (blkOk_by (by kernel_rfl)) (fun _ _ _ _ _ => (gv_name (i := 5) S.nd)) (fun _ _ _ _ _ => ts_nil) (fun _ _ _ _ _ => (q_cU (i := 0) G._law_line (hr.mono (by decide)) (by rfl) (pv 0) (a_cons (q_var 1) a_nil)))) a_nil)))
      (s_cons (s_set (i := 4) S.nd (q_callTy c_tupOf call_tupP (by rfl) T.tuple (by rfl) (a_cons (q_lc (own := [("state", 5)]) rfl S.nd (i_range1 (by rfl) T.range (a_cons (q_var 1) a_nil)) (blkOk_by (by kernel_rfl)) (fun _ _ _ _ _ => (gv_name (i := 5) S.nd)) (fun _ _ _ _ _ => ts_nil) (fun _ _ _ _ _ => (q_cU (i := 0) G._law_line (hr.mono (by decide)) (by rfl) (pv 0) (a_cons (q_callB c_len call_lenP (by rfl) T.len (by rfl) (a_cons (q_al 2) a_nil)) a_nil)))) a_nil)))
      (s_one (s_ret (q_tup (a_cons (q_var 2) (a_cons (q_cU (i := 0) G._law_line (hr.mono (by decide)) (by rfl) (pv 0) (a_cons (q_var 1) a_nil)) (a_cons (q_var 3) (a_cons (q_var 4) a_nil))))))))), ?_⟩
  simp only [startP, endsP, List.length_cons, List.length_nil, Nat.zero_add, Nat.reduceAdd, Nat.reduceSub, List.reduceReplicate, List.cons_append, List.nil_append]
  refine seq_to (fun ρ => ∃ sp : List (List Nat), sp.length = n ∧ (∀ r ∈ sp, Ln r n) ∧ ρ = [.bx u, .d (.int (n : Nat)), .d (.str (PL.sg l)), .d (.tuple (rowsT sp)), .un, .un]) (fun DP hD => ?_) ?_
  · simp? only [PL.z1]
    refine drawn (α := List Nat) n (fun r => .tuple (nats r)) (fun r => Ln r n) (fun R hR => ?_) (by simp [barePl, PL.T.bare]) (by omega) (fun d R hR => ?_) fun xs h1 h2 => ?_
    · simp? only [PL.z1]
      refine ⟨⟨by omega, by omega⟩, ?_⟩
      simpa using hR
    · simp? only [wipeP]
      exact ⟨u, n, rfl, ⟨n1, n2⟩, fun r hr => hR r _ _ hr rfl rfl⟩
    · simp? only [PL.z1]
      exact hD _ ⟨xs, h1, h2, rfl⟩
  rintro ρ ⟨sp, sp1, sp2, rfl⟩
  refine seq_to (fun ρ => ∃ tl : List (List Nat), tl.length = n ∧ (∀ r ∈ tl, Ln r l.length) ∧ ρ = [.bx u, .d (.int (n : Nat)), .d (.str (PL.sg l)), .d (.tuple (rowsT sp)), .d (.tuple (rowsT tl)), .un]) (fun DP hD => ?_) ?_
  · simp? only [PL.z1]
    refine drawn (α := List Nat) n (fun r => .tuple (nats r)) (fun r => Ln r l.length) (fun R hR => ?_) (by simp [barePl, PL.T.bare]) (by omega) (fun d R hR => ?_) fun xs h1 h2 => ?_
    · simp? only [PL.z1]
      refine ⟨⟨by omega, by omega⟩, ?_⟩
      simpa using hR
    · simp? only [wipeP, sg_len]
      exact ⟨by rw [sizeLine_eq]; omega, u, l.length, rfl, ⟨k1, k2⟩, fun r hr => hR r _ _ hr rfl rfl⟩
    · simp? only [PL.z1]
      exact hD _ ⟨xs, h1, h2, rfl⟩
  rintro ρ ⟨tl, tl1, tl2, rfl⟩
  simp? only [PL.z1]
  refine ⟨u, n, rfl, ⟨n1, n2⟩, fun r hr => ?_⟩
  simp? only [PL.z1]
  exact ⟨szL (by decide), hP ⟨l, r, sp, tl⟩ rfl ⟨hr, ⟨sp1, sp2⟩, ⟨tl1, tl2⟩⟩⟩
end
end C51

set_option Elab.async false
set_option linter.all false
set_option maxRecDepth 100000
namespace C51
open PySem L2 PL PC
variable [Consts]
abbrev sPair : Stmt := top 34
/-- the signs that the law draws from -/
structure Sg3 (l : List Nat) : Prop where
  len : 1 ≤ l.length ∧ l.length ≤ 3
  ok : ∀ x ∈ l, x < 0x110000
/-- a chain as the law makes it -/
def Gd (c : Ch) (l : List Nat) : Prop := c.sg = l ∧ ∃ n, n ≤ 4 ∧ COk c n l.length 12252240 720720 ∧ c.st.sum ≤ 60
def pairF : List T → (T → Prop) → Prop := fun ts P => ∃ (u : Addr) (l : List Nat), ts = [.bx u, .d (.str (PL.sg l))] ∧ Sg3 l ∧ ∀ c1 c2 : Ch, Gd c1 l → Gd c2 l → P (.d (.tuple [chD c1, chD c2]))
theorem kA1 : ∀ a ∈ ([0, 1, 2, 3, 5] : List Nat), [a].sum = 0 ∨ ([a].sum ∣ 12252240 ∧ [a].sum ≤ 20) := by decide +kernel
theorem kA2 : ∀ a ∈ ([0, 1, 2, 3, 5] : List Nat), ∀ b ∈ ([0, 1, 2, 3, 5] : List Nat), [a, b].sum = 0 ∨ ([a, b].sum ∣ 12252240 ∧ [a, b].sum ≤ 20) := by decide +kernel
theorem kA3 : ∀ a ∈ ([0, 1, 2, 3, 5] : List Nat), ∀ b ∈ ([0, 1, 2, 3, 5] : List Nat), ∀ c ∈ ([0, 1, 2, 3, 5] : List Nat), [a, b, c].sum = 0 ∨ ([a, b, c].sum ∣ 12252240 ∧ [a, b, c].sum ≤ 20) := by decide +kernel
theorem kA4 : ∀ a ∈ ([0, 1, 2, 3, 5] : List Nat), ∀ b ∈ ([0, 1, 2, 3, 5] : List Nat), ∀ c ∈ ([0, 1, 2, 3, 5] : List Nat), ∀ d ∈ ([0, 1, 2, 3, 5] : List Nat), [a, b, c, d].sum = 0 ∨ ([a, b, c, d].sum ∣ 12252240 ∧ [a, b, c, d].sum ≤ 20) := by decide +kernel
theorem kB1 : ∀ a ∈ ([0, 1, 2, 3, 5] : List Nat), [a].sum = 0 ∨ ([a].sum ∣ 720720 ∧ ([a].map (· + 1)).sum ∣ 720720) := by decide +kernel
theorem kB2 : ∀ a ∈ ([0, 1, 2, 3, 5] : List Nat), ∀ b ∈ ([0, 1, 2, 3, 5] : List Nat), [a, b].sum = 0 ∨ ([a, b].sum ∣ 720720 ∧ ([a, b].map (· + 1)).sum ∣ 720720) := by decide +kernel
theorem kB3 : ∀ a ∈ ([0, 1, 2, 3, 5] : List Nat), ∀ b ∈ ([0, 1, 2, 3, 5] : List Nat), ∀ c ∈ ([0, 1, 2, 3, 5] : List Nat), [a, b, c].sum = 0 ∨ ([a, b, c].sum ∣ 720720 ∧ ([a, b, c].map (· + 1)).sum ∣ 720720) := by decide +kernel
theorem small4 : ∀ s, s < 8 → s = 0 ∨ (s ∣ 12252240 ∧ s ∣ 720720) := by decide +kernel
theorem plus_sum : ∀ r : List Nat, (r.map (· + 1)).sum = r.sum + r.length
  | [] => rfl
  | x :: r => by
    have := plus_sum r
    simp only [List.map_cons, List.sum_cons, List.length_cons, this]
    omega
theorem dv4 {r : List Nat} {m : Nat} (h : Ln r m) (hm : m ≤ 4) : r.sum ∣ 12252240 ∧ r.sum ≤ 20 := by
  obtain ⟨hl, hp, hk⟩ := h
  rcases hk with hk | hk
  · match r, hl, hp, hk with
    | [], _, hp, _ => simp at hp
    | [a], _, hp, hk => exact (kA1 a (hk a (by simp))).resolve_left (Nat.ne_of_gt hp)
    | [a, b], _, hp, hk => exact (kA2 a (hk a (by simp)) b (hk b (by simp))).resolve_left (Nat.ne_of_gt hp)
    | [a, b, c], _, hp, hk => exact (kA3 a (hk a (by simp)) b (hk b (by simp)) c (hk c (by simp))).resolve_left (Nat.ne_of_gt hp)
    | [a, b, c, d], _, hp, hk => exact (kA4 a (hk a (by simp)) b (hk b (by simp)) c (hk c (by simp)) d (hk d (by simp))).resolve_left (Nat.ne_of_gt hp)
    | a :: b :: c :: d :: e :: r, hl, _, _ => simp at hl; omega
  · rcases small4 r.sum (by omega) with h | h
    · omega
    · exact ⟨h.1, by omega⟩
theorem dv3 {r : List Nat} {m : Nat} (h : Ln r m) (hm : m ≤ 3) : r.sum ∣ 720720 ∧ (r.map (· + 1)).sum ∣ 720720 := by
  obtain ⟨hl, hp, hk⟩ := h
  rcases hk with hk | hk
  · match r, hl, hp, hk with
    | [], _, hp, _ => simp at hp
    | [a], _, hp, hk => exact (kB1 a (hk a (by simp))).resolve_left (Nat.ne_of_gt hp)
    | [a, b], _, hp, hk => exact (kB2 a (hk a (by simp)) b (hk b (by simp))).resolve_left (Nat.ne_of_gt hp)
    | [a, b, c], _, hp, hk => exact (kB3 a (hk a (by simp)) b (hk b (by simp)) c (hk c (by simp))).resolve_left (Nat.ne_of_gt hp)
    | a :: b :: c :: d :: r, hl, _, _ => simp at hl; omega
  · rw [plus_sum, hl]
    rcases small4 r.sum (by omega) with h | h
    · omega
    · rcases small4 (r.sum + m) (by omega) with g | g
      · omega
      · exact ⟨h.2, g.2⟩
theorem gd_of {c : Ch} {n : Nat} {l : List Nat} (hs : c.sg = l) (h : Cd c n l.length) (hn : 1 ≤ n ∧ n ≤ 4) (hl : Sg3 l) : Gd c l :=
  ⟨hs, n, hn.2, ⟨h.st.len, h.st.pos, ⟨h.sp.1, fun r hr => ⟨(h.sp.2 r hr).len, (h.sp.2 r hr).pos, (dv4 (h.sp.2 r hr) hn.2).1⟩, by decide⟩, ⟨h.tl.1, fun r hr => ⟨(h.tl.2 r hr).len, (h.tl.2 r hr).pos, (dv3 (h.tl.2 r hr) hl.len.2).1⟩, by decide⟩, hn.1, by rw [hs]⟩,
    Nat.le_trans (dv4 h.st hn.2).2 (by decide)⟩
theorem gd_three {c : Ch} {n : Nat} {l : List Nat} (hs : c.sg = l) (h : Cd c n l.length) (hn : 1 ≤ n ∧ n ≤ 4) (hl : Sg3 l) : Gd ⟨l, c.st.map (· * 3), c.sp, c.tl⟩ l := by
  obtain ⟨_, _, _, O, _⟩ := gd_of hs h hn hl
  refine ⟨rfl, n, hn.2, ⟨by rw [List.length_map]; exact h.st.len, ?_, ?_, ?_, hn.1, rfl⟩, ?_⟩
  · show 0 < (c.st.map (· * 3)).sum
    rw [sum_mul]
    have := h.st.pos
    omega
  · exact ⟨h.sp.1, fun r hr => ⟨(h.sp.2 r hr).len, (h.sp.2 r hr).pos, (dv4 (h.sp.2 r hr) hn.2).1⟩, by decide⟩
  · exact ⟨h.tl.1, fun r hr => ⟨(h.tl.2 r hr).len, (h.tl.2 r hr).pos, (dv3 (h.tl.2 r hr) hl.len.2).1⟩, by decide⟩
  · show (c.st.map (· * 3)).sum ≤ 60
    rw [sum_mul]
    have := (dv4 h.st hn.2).2
    omega
def plus1 (M : List (List Nat)) : List (List Nat) := M.map fun r => r.map (· + 1)
theorem gd_plus {c : Ch} {n : Nat} {l : List Nat} (hs : c.sg = l) (h : Cd c n l.length) (hn : 1 ≤ n ∧ n ≤ 3) (hl : Sg3 l) : Gd ⟨l, c.st, plus1 c.sp, plus1 c.tl⟩ l := by
  have row : ∀ {M : List (List Nat)} {k N : Nat}, (∀ r ∈ M, Ln r k) → (∀ r ∈ M, (r.map (· + 1)).sum ∣ N) → ∀ r ∈ plus1 M, r.length = k ∧ 0 < r.sum ∧ r.sum ∣ N := fun hM hd r hr => by
    obtain ⟨q, hq, rfl⟩ := List.mem_map.mp hr
    have := (hM q hq).pos
    refine ⟨by rw [List.length_map]; exact (hM q hq).len, by rw [plus_sum]; omega, hd q hq⟩
  refine ⟨rfl, n, by omega, ⟨h.st.len, h.st.pos, ⟨?_, ?_, by decide⟩, ⟨?_, ?_, by decide⟩, hn.1, rfl⟩, Nat.le_trans (dv4 h.st (by omega)).2 (by decide)⟩
  · show (plus1 c.sp).length = n
    rw [plus1, List.length_map]
    exact h.sp.1
  · exact row h.sp.2 fun r hr => Nat.dvd_trans (dv3 (h.sp.2 r hr) hn.2).2 (by decide)
  · show (plus1 c.tl).length = n
    rw [plus1, List.length_map]
    exact h.tl.1
  · exact row h.tl.2 fun r hr => (dv3 (h.tl.2 r hr) hl.len.2).2
theorem rows_plus {g : QG} {te : QE} {ti : QI} {vs : List Nat} {ρ : PL.Env} {Q : T → PL.Env → Prop} (M : List (List Nat)) (hz : M.length ≤ 60) (h1 : ∀ R : List D → PL.Env → Prop, R (rowsT M) ρ → ti ρ R) (hb : barePl ρ vs)
    (step : ∀ x ∈ M, ∀ R : T → PL.Env → Prop, (∀ r ρ4, r.dat = some (.tuple (nats (x.map (· + 1)))) → wipeP ρ4 vs = wipeP ρ vs → R r ρ4) → g (.d (.tuple (nats x))) (wipeP ρ vs) fun ρ2 => te ρ2 R) (fin : Q (.l (rowsT (plus1 M))) ρ) : qLc ti g qYes te vs ρ Q :=
  lc_to M (fun r => .tuple (nats r)) (fun r => .tuple (nats (r.map (· + 1)))) h1 hb (szL (by omega)) step (by unfold rowsT plus1 at fin; rw [List.map_map] at fin; exact fin)
section
variable {P : Program} {w : World} {K : PySem.W.Frag} {mg : Str → Option Value} {base : Heap}
structure GChain (P : Program) (w : World) (K : PySem.W.Frag) (mg : Str → Option Value) (base : Heap) : Prop extends GTake P w K mg base where
  _law_chain : Cal P w K mg base jarBox 4 "_law_chain" ["jar", "many", "signs"] 3 chainF
theorem scPair : FnScope ["jar", "signs", "one", "other", "way", "steps", "tells", "weight", "line"] ["jar", "signs"] (defScope sPair) := ⟨rfl, rfl, rfl, by decide +kernel, rfl, by decide +kernel, by decide +kernel⟩
set_option maxHeartbeats 1000000 in
theorem ok_pair {f : Addr} {fd : FuncData} (F : Fun K "_law_pair" "_law_pair" sPair f fd) (T : Ty2 mg) (G : GChain P w K mg base) : FnG P w K mg base CX0 5 f fd ["jar", "signs"] (spP K jarBox 2 pairF) := by
  refine fnP F scPair fun cdv A outer s H E hr ts Pq hl hφ => ?_
  have S := @scPair
  have hu64 : (A.deeper (PyProof.Rows.envOfC "_law_pair" (defScope sPair) s.heap.objs.size f cdv)).units + 64 < cLine := hr.units
  obtain ⟨u, l, rfl, hl3, hP⟩ := hφ
  refine ⟨_, (s_cons (s_set (i := 2) S.nd (q_cU (i := 0) G._law_chain (hr.mono (by decide)) (by rfl) (pv 0) (a_cons (q_op o_add op_addP (q_int) (q_cU (i := 0) G._law_draw (hr.mono (by decide)) (by rfl) (pv 0) (a_cons (q_int) a_nil))) (a_cons (q_var 1) a_nil))))
      (s_cons (s_par2 (i := 3) (j := 4) rfl S.nd (by decide) (b_cons (q_cU (i := 0) G._law_chain (hr.mono (by decide)) (by rfl) (pv 0) (a_cons (q_op o_add op_addP (q_int) (q_cU (i := 0) G._law_draw (hr.mono (by decide)) (by rfl) (pv 0) (a_cons (q_int) a_nil))) (a_cons (q_var 1) a_nil))) (b_cons (q_cU (i := 0) G._law_draw (hr.mono (by decide)) (by rfl) (pv 0) (a_cons (q_int) a_nil)) b_nil)) (by rfl))
      (s_cons (s_if (t_cmp o_eq (op_eqD hu64) (q_al 4) (q_int) (nomark _)) (s_one (s_set (i := 3) S.nd (q_op o_add op_addP (q_tup (a_cons (q_var 1) (a_cons (q_callTy c_tupOf call_tupP (by rfl) T.tuple (by rfl) (a_cons (q_lc (own := [("weight", 7)]) rfl S.nd (i_tup (q_ix (q_al 2) (q_int))) (blkOk_by (by kernel_rfl)) (fun _ _ _ _ _ => (gv_name (i := 7) S.nd)) (fun _ _ _ _ _ => ts_nil) (fun _ _ _ _ _ => (q_op o_mulB op_mulBP (q_al 7) (q_int)))) a_nil)) a_nil))) (q_sl (q_al 2) (po_at (q_int)) po_no)))) s_nil)
      (s_cons (s_if (t_cmp o_eq (op_eqD hu64) (q_al 4) (q_int) (nomark _)) (s_cons (s_set (i := 5) S.nd (q_callTy c_tupOf call_tupP (by rfl) T.tuple (by rfl) (a_cons (q_lc (own := [("line", 8)]) rfl S.nd (i_tup (q_ix (q_al 3) (q_int))) (blkOk_by (by kernel_rfl)) (fun _ _ _ _ _ => (gv_name (i := 8) S.nd)) (fun _ _ _ _ _ => ts_nil) (fun _ _ _ _ _ => (q_callTy c_tupOf call_tupP (by rfl) T.tuple (by rfl) (a_cons (q_lc (own := [("weight", 7)]) rfl S.nd (i_tup (q_var 8)) (blkOk_by (by kernel_rfl)) (fun _ _ _ _ _ => (gv_name (i := 7) S.nd)) (fun _ _ _ _ _ => ts_nil) (fun _ _ _ _ _ => (q_op o_add op_addP (q_al 7) (q_int)))) a_nil)))) a_nil)))
      (s_cons (s_set (i := 6) S.nd (q_callTy c_tupOf call_tupP (by rfl) T.tuple (by rfl) (a_cons (q_lc (own := [("line", 8)]) rfl S.nd (i_tup (q_ix (q_al 3) (q_int))) (blkOk_by (by kernel_rfl)) (fun _ _ _ _ _ => (gv_name (i := 8) S.nd)) (fun _ _ _ _ _ => ts_nil) (fun _ _ _ _ _ => (q_callTy c_tupOf call_tupP (by rfl) T.tuple (by rfl) (a_cons (q_lc (own := [("weight", 7)]) rfl S.nd (i_tup (q_var 8)) (blkOk_by (by kernel_rfl)) (fun _ _ _ _ _ => (gv_name (i := 7) S.nd)) (fun _ _ _ _ _ => ts_nil) (fun _ _ _ _ _ => (q_op o_add op_addP (q_al 7) (q_int)))) a_nil)))) a_nil)))
      (s_one (s_set (i := 3) S.nd (q_tup (a_cons (q_var 1) (a_cons (q_ix (q_al 3) (q_int)) (a_cons (q_var 5) (a_cons (q_var 6) a_nil))))))))) s_nil)
      (s_one (s_ret (q_tup (a_cons (q_var 2) (a_cons (q_var 3) a_nil))))))))), ?_⟩
  have l1 := hl3.len.1
  have l2 := hl3.len.2
  have one1 : (1 : Int) = ((1 : Nat) : Int) := rfl
  have three : (3 : Int) = ((3 : Nat) : Int) := rfl
  have ecut : ∀ a b c d : D, cutD [a, b, c, d] (some 2) none = [c, d] := fun a b c d => by rfl
  have thB : Big 3 := (Bg.small (n := 3) (by decide)).big
  simp only [startP, endsP, List.length_cons, List.length_nil, Nat.zero_add, Nat.reduceAdd, Nat.reduceSub, List.reduceReplicate, List.cons_append, List.nil_append]
  refine seq_to (fun ρ => ∃ (c : Ch) (n : Nat), c.sg = l ∧ (1 ≤ n ∧ n ≤ 4) ∧ Cd c n l.length ∧ ρ = [.bx u, .d (.str (PL.sg l)), .d (chD c), .un, .un, .un, .un, .un, .un]) (fun DP hD => ?_) ?_
  · simp? only [PL.z1]
    refine ⟨u, 4, rfl, by decide, fun a a0 a1 => ?_⟩
    obtain ⟨a, rfl⟩ := natOf' a0
    have e1 : (1 : Int) + ((a : Nat) : Int) = ((1 + a : Nat) : Int) := by omega
    simp? only [e1]
    exact ⟨u, 1 + a, l, rfl, ⟨by omega, by omega⟩, ⟨l1, by omega⟩, fun c hc hd => ⟨trivial, hD _ ⟨c, 1 + a, hc, ⟨by omega, by omega⟩, hd, rfl⟩⟩⟩
  rintro ρ ⟨c1, n1, hs1, hn1, C1, rfl⟩
  refine seq_to (fun ρ => ∃ (c : Ch) (n : Nat) (w : Int), c.sg = l ∧ (1 ≤ n ∧ n ≤ 3) ∧ Cd c n l.length ∧ ρ = [.bx u, .d (.str (PL.sg l)), .d (chD c1), .d (chD c), .d (.int w), .un, .un, .un, .un]) (fun DP hD => ?_) ?_
  · simp? only [PL.z1]
    refine ⟨u, 3, rfl, by decide, fun a a0 a1 => ?_⟩
    obtain ⟨a, rfl⟩ := natOf' a0
    have e1 : (1 : Int) + ((a : Nat) : Int) = ((1 + a : Nat) : Int) := by omega
    simp? only [e1]
    refine ⟨u, 1 + a, l, rfl, ⟨by omega, by omega⟩, ⟨l1, by omega⟩, fun c hc hd => ?_⟩
    simp? only [PL.z1]
    refine ⟨u, 5, rfl, by decide, fun b b0 b1 => ?_⟩
    simp? only [PL.z1]
    exact ⟨by decide, hD _ ⟨c, 1 + a, b, hc, ⟨by omega, by omega⟩, hd, rfl⟩⟩
  rintro ρ ⟨c2, n2, w, hs2, hn2, C2, rfl⟩
  by_cases w0 : w = 0
  · have w1 : ¬ w = 1 := by omega
    refine seq_to (fun ρ => ρ = [.bx u, .d (.str (PL.sg l)), .d (chD c1), .d (chD ⟨l, c1.st.map (· * 3), c1.sp, c1.tl⟩), .d (.int w), .un, .un, .un, .un]) (fun DP hD => ?_) ?_
    · simp? only [decide_eq_true w0, chD]
      refine ⟨shI _, shI _, ?_⟩
      refine wt_lc c1.st (fun x => x * 3) (by rw [C1.st.len]; omega) (fun R hR => ?_) (by simp [barePl, PL.T.bare]) (fun x hx R hR => ?_) ?_
      · simp? only [PL.z1]
        exact hR
      · have xB : Bg x := Bg.small (Nat.lt_of_le_of_lt (Nat.le_trans (le_sum hx) (dv4 C1.st hn1.2).2) (by decide))
        simp? only [wipeP]
        refine ⟨⟨xB.big, thB⟩, hR _ _ ?_ rfl⟩
        rw [three, n_mul]
        rfl
      · simp? only [ecut]
        exact ⟨szL (by decide), szL (by decide), hD _ rfl⟩
    rintro ρ rfl
    refine seq_pass [.bx u, .d (.str (PL.sg l)), .d (chD c1), .d (chD ⟨l, c1.st.map (· * 3), c1.sp, c1.tl⟩), .d (.int w), .un, .un, .un, .un] (fun R hR => ?_) ?_
    · simp? only [decide_eq_false w1]
      exact ⟨shI _, shI _, hR⟩
    simp? only [PL.z1]
    exact ⟨szL (by decide), hP _ _ (gd_of hs1 C1 hn1 hl3) (gd_three hs1 C1 hn1 hl3)⟩
  · refine seq_pass [.bx u, .d (.str (PL.sg l)), .d (chD c1), .d (chD c2), .d (.int w), .un, .un, .un, .un] (fun R hR => ?_) ?_
    · simp? only [decide_eq_false w0]
      exact ⟨shI _, shI _, hR⟩
    by_cases w1 : w = 1
    · refine seq_to (fun ρ => ∃ x5 x6, ρ = [.bx u, .d (.str (PL.sg l)), .d (chD c1), .d (chD ⟨l, c2.st, plus1 c2.sp, plus1 c2.tl⟩), .d (.int w), x5, x6, .un, .un]) (fun DP hD => ?_) ?_
      · have plusStep : ∀ x : Nat, ((x : Nat) : Int) + 1 = ((x + 1 : Nat) : Int) := fun x => by omega
        simp? only [decide_eq_true w1, chD]
        refine ⟨shI _, shI _, ?_⟩
        refine rows_plus c2.sp (by rw [C2.sp.1]; omega) (fun R hR => ?_) (by simp [barePl, PL.T.bare]) (fun x hx R hR => ?_) ?_
        · simp? only [PL.z1]
          exact hR
        · simp? only [wipeP]
          refine wt_lc x (fun y => y + 1) (by rw [(C2.sp.2 x hx).len]; omega) (fun R hR => ?_) (by simp [barePl, PL.T.bare]) (fun y hy R hR2 => ?_) ?_
          · simp? only [PL.z1]
            exact hR
          · simp? only [wipeP]
            refine hR2 _ _ ?_ rfl
            rw [plusStep]
            rfl
          · simp? only [PL.z1]
            exact hR _ _ rfl rfl
        · simp? only [PL.z1]
          refine rows_plus c2.tl (by rw [C2.tl.1]; omega) (fun R hR => ?_) (by simp [barePl, PL.T.bare]) (fun x hx R hR => ?_) ?_
          · simp? only [PL.z1]
            exact hR
          · simp? only [wipeP]
            refine wt_lc x (fun y => y + 1) (by rw [(C2.tl.2 x hx).len]; omega) (fun R hR => ?_) (by simp [barePl, PL.T.bare]) (fun y hy R hR2 => ?_) ?_
            · simp? only [PL.z1]
              exact hR
            · simp? only [wipeP]
              refine hR2 _ _ ?_ rfl
              rw [plusStep]
              rfl
            · simp? only [PL.z1]
              exact hR _ _ rfl rfl
          · simp? only [PL.z1]
            exact ⟨szL (by decide), hD _ ⟨_, _, rfl⟩⟩
      rintro ρ ⟨x5, x6, rfl⟩
      simp? only [PL.z1]
      exact ⟨szL (by decide), hP _ _ (gd_of hs1 C1 hn1 hl3) (gd_plus hs2 C2 hn2 hl3)⟩
    · refine seq_pass [.bx u, .d (.str (PL.sg l)), .d (chD c1), .d (chD c2), .d (.int w), .un, .un, .un, .un] (fun R hR => ?_) ?_
      · simp? only [decide_eq_false w1]
        exact ⟨shI _, shI _, hR⟩
      simp? only [PL.z1]
      exact ⟨szL (by decide), hP _ _ (gd_of hs1 C1 hn1 hl3) (gd_of hs2 C2 ⟨hn2.1, by omega⟩ hl3)⟩
end
end C51

set_option Elab.async false
set_option linter.all false
set_option maxRecDepth 100000
set_option exponentiation.threshold 3000
namespace C51
open PySem L2 PL PC
variable [Consts]
abbrev sDue : Stmt := top 35
abbrev sHeard : Stmt := top 36
abbrev sIsRight : Stmt := top 37
def shX (c1 c2 : Ch) (v : List Nat) (f : Nat) : Nat := f * wn c1 v * wd c2 v
structure Two (c1 c2 : Ch) (v : List Nat) (f s : Nat) : Prop where
  one : ∃ n k A B, Cv c1 v n k A B
  other : ∃ n k A B, Cv c2 v n k A B
  sg : c1.sg = c2.sg
  len : v.length ≤ 60
  few : f < 2 ^ 128 ∧ s < 2 ^ 128
def dueF : List T → (T → Prop) → Prop := fun ts P => ∃ (c1 c2 : Ch) (f s : Nat) (v : List Nat), ts = [.d (chD c1), .d (chD c2), .d (.int (f : Nat)), .d (.int (s : Nat)), .d (.str (PL.sg v))] ∧ Two c1 c2 v f s ∧
  (shX c1 c2 v f + shX c2 c1 v s = 0 → P (.d .none)) ∧ (0 < shX c1 c2 v f + shX c2 c1 v s → P (.d (frD (low (shX c1 c2 v f) (shX c1 c2 v f + shX c2 c1 v s)))))
def heardF : List T → (T → Prop) → Prop := fun ts P => ∃ (c1 c2 : Ch) (f s : Nat) (v : List Nat) (na : Bool), ts = [.d (chD c1), .d (chD c2), .d (.int (f : Nat)), .d (.int (s : Nat)), .d (.str (PL.sg v)), .d (.bool na)] ∧ Two c1 c2 v f s ∧
  (shX c1 c2 v f + shX c2 c1 v s = 0 → P (.l [.str "never", .bool true])) ∧ (0 < shX c1 c2 v f + shX c2 c1 v s → P (.l [.str "told", frD (low (shX c1 c2 v f) (shX c1 c2 v f + shX c2 c1 v s))]))
theorem Two.swap {c1 c2 : Ch} {v : List Nat} {f s : Nat} (h : Two c1 c2 v f s) : Two c2 c1 v s f := ⟨h.other, h.one, h.sg.symm, h.len, h.few.2, h.few.1⟩
theorem wL_eq (c : Ch) (v : List Nat) : wn c v = (run c (ixc c) v).2.1.sum ∧ wd c v = (run c (ixc c) v).2.2 := ⟨rfl, rfl⟩
theorem lL {c : Ch} {v : List Nat} {n k A B : Nat} (h : Cv c v n k A B) : wL c (ixc c) v < 2 ^ 2000 ∧ bL c (ixc c) v < 2 ^ 2000 := by
  have W := wayL h.ok (ixc c) v
  have e : (runL c (ixc c) v).2.2 < 2 ^ 2000 := Nat.lt_of_le_of_lt (Nat.le_of_dvd (Nat.mul_pos h.ok.st0 (Nat.pow_pos (Nat.mul_pos h.ok.sp.pos h.ok.tl.pos))) W.dvd) h.sz
  have o : (1 : Nat) < 2 ^ 2000 := Nat.lt_of_lt_of_le (by decide : 1 < 2 ^ 1) (Nat.pow_le_pow_right (by decide) (by decide))
  unfold wL bL
  constructor
  · split
    · exact o
    · exact Nat.lt_of_le_of_lt W.le e
  · split
    · exact o
    · exact e
section
variable {P : Program} {w : World} {K : PySem.W.Frag} {mg : Str → Option Value} {base : Heap}
structure GDue (P : Program) (w : World) (K : PySem.W.Frag) (mg : Str → Option Value) (base : Heap) : Prop where
  _law_flat : Cal P w K mg base jarBox 3 "_law_flat" ["chain"] 1 flatF
  _law_weight : Cal P w K mg base jarBox 3 "_law_weight" ["flat", "view"] 2 weightF
  _law_below : Cal P w K mg base jarBox 1 "_law_below" ["flat", "view"] 2 belowF
  _law_ratio : Cal P w K mg base jarBox 2 "_law_ratio" ["a", "b"] 2 ratioF
theorem scDue : FnScope ["one", "other", "first", "second", "view", "flat", "flat_other", "here", "there"] ["one", "other", "first", "second", "view"] (defScope sDue) := ⟨rfl, rfl, rfl, by decide +kernel, rfl, by decide +kernel, by decide +kernel⟩
set_option maxHeartbeats 1000000 in
theorem ok_due {f : Addr} {fd : FuncData} (F : Fun K "_law_due" "_law_due" sDue f fd) (G : GDue P w K mg base) : FnG P w K mg base CX0 4 f fd ["one", "other", "first", "second", "view"] (spP K jarBox 5 dueF) := by
  refine fnP F scDue fun cdv A outer s H E hr ts Pq hl hφ => ?_
  have S := @scDue
  have hu64 : (A.deeper (PyProof.Rows.envOfC "_law_due" (defScope sDue) s.heap.objs.size f cdv)).units + 64 < cLine := hr.units
  obtain ⟨c1, c2, f1, f2, v, rfl, TW, hN, hP⟩ := hφ
  obtain ⟨⟨n1, k1, A1, B1, O1⟩, ⟨n2, k2, A2, B2, O2⟩, hsg, hv, hf1, hf2⟩ := TW
  refine ⟨_, (s_cons (s_par2 (i := 5) (j := 6) rfl S.nd (by decide) (b_cons (q_cF G._law_flat (hr.mono (by decide)) (by rfl) (a_cons (q_var 0) a_nil)) (b_cons (q_cF G._law_flat (hr.mono (by decide)) (by rfl) (a_cons (q_var 1) a_nil)) b_nil)) (by rfl))
      (s_cons (s_set (i := 7) S.nd (q_op o_mulB op_mulBP (q_op o_mulB op_mulBP (q_al 2) (q_cF G._law_weight (hr.mono (by decide)) (by rfl) (a_cons (q_var 5) (a_cons (q_var 4) a_nil)))) (q_cF G._law_below (hr.mono (by decide)) (by rfl) (a_cons (q_var 6) (a_cons (q_var 4) a_nil)))))
      (s_cons (s_set (i := 8) S.nd (q_op o_mulB op_mulBP (q_op o_mulB op_mulBP (q_al 3) (q_cF G._law_weight (hr.mono (by decide)) (by rfl) (a_cons (q_var 6) (a_cons (q_var 4) a_nil)))) (q_cF G._law_below (hr.mono (by decide)) (by rfl) (a_cons (q_var 5) (a_cons (q_var 4) a_nil)))))
      (s_one (s_ret (q_if (t_cmp o_eq (op_eqD hu64) (q_op o_add op_addP (q_al 7) (q_al 8)) (q_int) (nomark _)) (q_non) (q_cF G._law_ratio (hr.mono (by decide)) (by rfl) (a_cons (q_var 7) (a_cons (q_op o_add op_addP (q_al 7) (q_al 8)) a_nil))))))))), ?_⟩
  have F1 : Fc c1 n1 k1 A1 B1 := ⟨O1.ok, O1.sm, O1.few⟩
  have F2 : Fc c2 n2 k2 A2 B2 := ⟨O2.ok, O2.sm, O2.few⟩
  have Z1 : Bg (c1.st.sum * (A1 * B1) ^ v.length) := Bg.of O1.sz (by decide)
  have Z2 : Bg (c2.st.sum * (A2 * B2) ^ v.length) := Bg.of O2.sz (by decide)
  obtain ⟨u1, u2⟩ := lL O1
  obtain ⟨t1, t2⟩ := lL O2
  obtain ⟨p1, q1, hp1, hq1, e1, g1⟩ := wb_prop O1.ok (ixc c1) v
  obtain ⟨p2, q2, hp2, hq2, e2, g2⟩ := wb_prop O2.ok (ixc c2) v
  obtain ⟨SH, SZ⟩ := share_eq (f := f1) (s := f2) hp1 hq1 hp2 hq2 e1 g1 e2 g2
  have hx1 := lt_mul hf1 u1
  have hx2 := lt_mul hf2 t1
  have hy1 := lt_mul hx1 t2
  have hy2 := lt_mul hx2 u2
  simp only [startP, endsP, List.length_cons, List.length_nil, Nat.zero_add, Nat.reduceAdd, Nat.reduceSub, List.reduceReplicate, List.cons_append, List.nil_append]
  refine seq_to (fun ρ => ρ = [.d (chD c1), .d (chD c2), .d (.int (f1 : Nat)), .d (.int (f2 : Nat)), .d (.str (PL.sg v)), .d (flatD c1), .d (flatD c2), .un, .un]) (fun DP hD => ?_) ?_
  · simp? only [PL.z1]
    refine ⟨c1, n1, k1, A1, B1, rfl, O1.ok, O1.sm, O1.few, ?_⟩
    simp? only [PL.z1]
    refine ⟨c2, n2, k2, A2, B2, rfl, O2.ok, O2.sm, O2.few, ?_⟩
    exact ⟨by decide, hD _ rfl⟩
  rintro ρ rfl
  refine seq_to (fun ρ => ρ = [.d (chD c1), .d (chD c2), .d (.int (f1 : Nat)), .d (.int (f2 : Nat)), .d (.str (PL.sg v)), .d (flatD c1), .d (flatD c2), .d (.int ((f1 * wL c1 (ixc c1) v * bL c2 (ixc c2) v : Nat) : Int)), .un]) (fun DP hD => ?_) ?_
  · simp? only [PL.z1]
    refine ⟨c1, n1, k1, A1, B1, v, rfl, F1, O1.vw, hv, Z1, ?_⟩
    simp? only [PL.z1]
    refine ⟨⟨(Bg.of hf1 (by decide)).big, (Bg.of u1 (by decide)).big⟩, c2, n2, k2, A2, B2, v, rfl, F2, O2.vw, hv, Z2, ?_⟩
    simp? only [PL.z1]
    exact ⟨⟨(Bg.of hx1 (by decide)).big, (Bg.of t2 (by decide)).big⟩, hD _ rfl⟩
  rintro ρ rfl
  refine seq_to (fun ρ => ρ = [.d (chD c1), .d (chD c2), .d (.int (f1 : Nat)), .d (.int (f2 : Nat)), .d (.str (PL.sg v)), .d (flatD c1), .d (flatD c2), .d (.int ((f1 * wL c1 (ixc c1) v * bL c2 (ixc c2) v : Nat) : Int)), .d (.int ((f2 * wL c2 (ixc c2) v * bL c1 (ixc c1) v : Nat) : Int))]) (fun DP hD => ?_) ?_
  · simp? only [PL.z1]
    refine ⟨c2, n2, k2, A2, B2, v, rfl, F2, O2.vw, hv, Z2, ?_⟩
    simp? only [PL.z1]
    refine ⟨⟨(Bg.of hf2 (by decide)).big, (Bg.of t1 (by decide)).big⟩, c1, n1, k1, A1, B1, v, rfl, F1, O1.vw, hv, Z1, ?_⟩
    simp? only [PL.z1]
    exact ⟨⟨(Bg.of hx2 (by decide)).big, (Bg.of u2 (by decide)).big⟩, hD _ rfl⟩
  rintro ρ rfl
  have i0 : (((f1 * wL c1 (ixc c1) v * bL c2 (ixc c2) v + f2 * wL c2 (ixc c2) v * bL c1 (ixc c1) v : Nat) : Int) = 0) ↔ f1 * wL c1 (ixc c1) v * bL c2 (ixc c2) v + f2 * wL c2 (ixc c2) v * bL c1 (ixc c1) v = 0 := by omega
  rcases Nat.eq_zero_or_pos (f1 * wL c1 (ixc c1) v * bL c2 (ixc c2) v + f2 * wL c2 (ixc c2) v * bL c1 (ixc c1) v) with h0 | h0
  · simp? only [decide_eq_true (i0.mpr h0)]
    exact ⟨shI _, shI _, hN (SZ.mp h0)⟩
  · have hne : ¬ ((f1 * wL c1 (ixc c1) v * bL c2 (ixc c2) v + f2 * wL c2 (ixc c2) v * bL c1 (ixc c1) v : Nat) : Int) = 0 := fun z => by have := i0.mp z; omega
    simp? only [decide_eq_false hne]
    refine ⟨shI _, shI _, _, _, rfl, h0, Bg.of (lt_add hy1 hy2) (by decide), ?_⟩
    rw [SH]
    exact ⟨hP (Nat.pos_of_ne_zero fun z => by have := SZ.mpr z; omega), trivial⟩
structure GHeard (P : Program) (w : World) (K : PySem.W.Frag) (mg : Str → Option Value) (base : Heap) (AN : Addr) : Prop where
  told_by : CalX P w K mg base jarBox 4 "told_by" ["one", "other", "first", "second", "view"] 5 (toldX AN)
  told_by_k_view_second_first_other_one : CalKX P w K mg base jarBox 4 "told_by" ["one", "other", "first", "second", "view"] 5 (toldX AN) ["view", "second", "first", "other", "one"] 0 [4, 3, 2, 1, 0]
theorem scHeard : FnScope ["one", "other", "first", "second", "view", "is_named", "refused"] ["one", "other", "first", "second", "view", "is_named"] (defScope sHeard) := ⟨rfl, rfl, rfl, by decide +kernel, rfl, by decide +kernel, by decide +kernel⟩
theorem ok_heard {ANever AChainError : Addr} {f : Addr} {fd : FuncData} (F : Fun K "_law_heard" "_law_heard" sHeard f fd) (Z : Errs P K mg ANever AChainError) (G : GHeard P w K mg base ANever) : FnG P w K mg base CX0 5 f fd ["one", "other", "first", "second", "view", "is_named"] (spP K jarBox 6 heardF) := by
  refine fnP F scHeard fun cdv A outer s H E hr ts Pq hl hφ => ?_
  have S := @scHeard
  obtain ⟨c1, c2, f1, f2, v, na, rfl, TW, hN, hP⟩ := hφ
  obtain ⟨⟨n1, k1, A1, B1, O1⟩, ⟨n2, k2, A2, B2, O2⟩, hsg, hv, hf1, hf2⟩ := TW
  refine ⟨_, (s_one (s_try (i := 6) (fun _ _ => True.intro) rfl rfl S.nd rfl rfl (fun W pn xe G0 F0 ω tk bw hpo =>
      (s_cons (s_if (t_val (q_var 5)) (s_one (s_ret (q_lst (a_cons (q_str) (a_cons (q_xK0 (G.told_by_k_view_second_first_other_one.to rfl) (hr.mono (by decide)) (by rfl) tk bw (k_cons (q_var 4) (k_cons (q_var 3) (k_cons (q_var 2) (k_cons (q_var 1) (k_cons (q_var 0) k_nil)))))) a_nil))))) s_nil)
      (s_one (s_ret (q_lst (a_cons (q_str) (a_cons (q_xF (G.told_by.to rfl) (hr.mono (by decide)) (by rfl) tk bw (a_cons (q_var 0) (a_cons (q_var 1) (a_cons (q_var 2) (a_cons (q_var 3) (a_cons (q_var 4) a_nil)))))) a_nil)))))))
      (.cons (cl := ⟨.ref ANever, fun e => e.c = .ref ANever ∧ e.fs = none, _⟩) ⟨by rfl, by decide, .inl Z.g_Never⟩ (fun a oe d pn e G0 F0 hz hf hx hok =>
        (s_one (s_ret (q_lst (a_cons (q_str) (a_cons (q_isX (b := true) hok.1 Z.x_Never hx hz hf Z.n_isinstance (pv 6) (pe_glob (v := .ref AChainError) (by rfl) Z.g_ChainError rfl) (fun _ h => h) Z.k_Never_ChainError (by rfl)) a_nil))))))
        .nil))), ?_⟩
  cases na
  · simp? only [PL.z1]
    refine ⟨c1, c2, f1, f2, v, n1, k1, A1, B1, n2, k2, A2, B2, rfl, hsg, O1, O2, ⟨hf1, hf2⟩, fun h0 => ?_, fun h0 => ?_⟩
    · exact .inl ⟨Z.e_Never_Never, ⟨rfl, rfl⟩, fun _ => ⟨by simp [sizeLine_eq], hN h0⟩⟩
    · exact ⟨by simp [sizeLine_eq], hP h0⟩
  · simp? only [PL.z1]
    refine ⟨c1, c2, f1, f2, v, n1, k1, A1, B1, n2, k2, A2, B2, rfl, hsg, O1, O2, ⟨hf1, hf2⟩, fun h0 => ?_, fun h0 => ?_⟩
    · exact .inl ⟨Z.e_Never_Never, ⟨rfl, rfl⟩, fun _ => ⟨by simp [sizeLine_eq], hN h0⟩⟩
    · exact ⟨by simp [sizeLine_eq], hP h0⟩
end
end C51

set_option Elab.async false
set_option linter.all false
set_option maxRecDepth 100000
set_option exponentiation.threshold 3000
namespace C51
open PySem L2 PL PC
variable [Consts]
abbrev sLaw : Stmt := top 38
/-- what the law asks of: chains over l, a view, weights -/
structure Rt (c1 c2 : Ch) (l v : List Nat) (f s : Nat) : Prop where
  g1 : Gd c1 l
  g2 : Gd c2 l
  sg : Sg3 l
  vw : ∀ x ∈ v, x = 46 ∨ x ∈ l
  len : v.length ≤ 40
  few : f ≤ 2 ^ 100 ∧ s ≤ 2 ^ 100
theorem big60 : ∀ m, m ≤ 40 → 60 * (12252240 * 720720) ^ m < 2 ^ 2000 := fun m hm =>
  Nat.lt_of_le_of_lt (Nat.mul_le_mul_left _ (Nat.pow_le_pow_right (by decide) hm)) (by decide +kernel : 60 * (12252240 * 720720) ^ 40 < 2 ^ 2000)
theorem big1919 : ∀ m, m ≤ 40 → (2 ^ 100 + 2 ^ 100) * (60 * 60 * (12252240 * 720720) ^ m) < 2 ^ 1919 := fun m hm =>
  Nat.lt_of_le_of_lt (Nat.mul_le_mul_left _ (Nat.mul_le_mul_left _ (Nat.pow_le_pow_right (by decide) hm))) (by decide +kernel : (2 ^ 100 + 2 ^ 100) * (60 * 60 * (12252240 * 720720) ^ 40) < 2 ^ 1919)
theorem code_ok {l v : List Nat} (hs : Sg3 l) (hv : ∀ x ∈ v, x = 46 ∨ x ∈ l) : ∀ x ∈ v, x < 0x110000 := fun x hx => by
  rcases hv x hx with rfl | h
  · decide
  · exact hs.ok x h
theorem cv_of {c : Ch} {l v : List Nat} (g : Gd c l) (hs : Sg3 l) (hv : ∀ x ∈ v, x = 46 ∨ x ∈ l) (hl : v.length ≤ 40) : ∃ n k A B, Cv c v n k A B := by
  obtain ⟨h1, n, hn, O, hst⟩ := g
  refine ⟨n, l.length, 12252240, 720720, O, ⟨by decide, by decide⟩, ⟨by omega, by have := hs.len.2; omega⟩, ⟨fun x hx => by rw [h1]; exact hv x hx, code_ok hs hv, by rw [h1]; exact hs.ok⟩, ?_⟩
  exact Nat.lt_of_le_of_lt (Nat.mul_le_mul_right _ hst) (big60 _ hl)
theorem Rt.two {c1 c2 : Ch} {l v : List Nat} {f s : Nat} (h : Rt c1 c2 l v f s) : Two c1 c2 v f s :=
  ⟨cv_of h.g1 h.sg h.vw h.len, cv_of h.g2 h.sg h.vw h.len, h.g1.1.trans h.g2.1.symm, by have := h.len; omega, Nat.lt_of_le_of_lt h.few.1 (by decide), Nat.lt_of_le_of_lt h.few.2 (by decide)⟩
theorem Rt.swap {c1 c2 : Ch} {l v : List Nat} {f s : Nat} (h : Rt c1 c2 l v f s) : Rt c2 c1 l v s f := ⟨h.g2, h.g1, h.sg, h.vw, h.len, h.few.2, h.few.1⟩
theorem Rt.short {c1 c2 : Ch} {l v : List Nat} {f s : Nat} (h : Rt c1 c2 l v f s) : (low (shX c1 c2 v f) (shX c1 c2 v f + shX c2 c1 v s)).1 < 2 ^ 1919 ∧ (low (shX c1 c2 v f) (shX c1 c2 v f + shX c2 c1 v s)).2 < 2 ^ 1919 := by
  obtain ⟨_, n1, _, O1, s1⟩ := h.g1
  obtain ⟨_, n2, _, O2, s2⟩ := h.g2
  have W1 := way_run O1 (ixc c1) v
  have W2 := way_run O2 (ixc c2) v
  have M0 : 0 < (12252240 * 720720) ^ v.length := Nat.pow_pos (by decide)
  have L := low_short (f := f) (s := s) W1.dvd W2.dvd W1.pos W2.pos W1.le W2.le M0 O1.st0 O2.st0
  have b : (f + s) * (c1.st.sum * c2.st.sum * (12252240 * 720720) ^ v.length) ≤ (2 ^ 100 + 2 ^ 100) * (60 * 60 * (12252240 * 720720) ^ v.length) :=
    Nat.mul_le_mul (Nat.add_le_add h.few.1 h.few.2) (Nat.mul_le_mul_right _ (Nat.mul_le_mul s1 s2))
  have b2 := big1919 _ h.len
  exact ⟨Nat.lt_of_le_of_lt (Nat.le_trans L.1 b) b2, Nat.lt_of_le_of_lt (Nat.le_trans L.2 b) b2⟩
theorem sh_w {k n : Nat} {ns : List Nat} (h : ∀ x ∈ ns, x ≤ 12252240) : ∀ d ∈ nats ns, Sh k n d := fun d hd => by
  obtain ⟨x, hx, rfl⟩ := List.mem_map.mp hd
  exact sh_nat (Nat.lt_of_le_of_lt (h x hx) (Nat.lt_of_lt_of_le (by decide : 12252240 < 2 ^ 30) (Nat.pow_le_pow_right (by decide) (by decide))))
theorem sh_rows {M : List (List Nat)} {n k N : Nat} (h : Lines M n k N) (hN : N ≤ 12252240) (hn : n ≤ 4) (hk : k ≤ 4) : Sh 2 20 (.tuple (rowsT M)) := by
  refine sh_tup (n := 4) (fun d hd => ?_) (by rw [rowsT_len, h.len]; omega)
  obtain ⟨r, hr, rfl⟩ := List.mem_map.mp hd
  obtain ⟨r1, r2, r3⟩ := h.row r hr
  exact sh_tup (n := 0) (sh_w fun x hx => Nat.le_trans (le_sum hx) (Nat.le_trans (Nat.le_of_dvd h.pos r3) hN)) (by rw [nats_lenS]; omega)
theorem sh_ch {c : Ch} {l : List Nat} (g : Gd c l) (hs : Sg3 l) : Sh 3 84 (chD c) := by
  obtain ⟨h1, n, hn, O, hst⟩ := g
  have hl := hs.len
  refine sh_tup (n := 20) (each4 (sh_str (sg_ok (by rw [h1]; exact hs.ok)) (by rw [sg_len, h1]; omega)) ?_ (sh_rows O.sp (by decide) hn hn) (sh_rows O.tl (by decide) hn (by omega))) (by simp)
  exact (sh_tup (k := 0) (m := 4) (n := 0) (sh_w fun x hx => Nat.le_trans (le_sum hx) (by omega)) (by rw [nats_lenS, O.st]; omega)).mono (by decide) (by decide)
theorem sh_pair {c1 c2 : Ch} {l v : List Nat} {f s : Nat} (h : Rt c1 c2 l v f s) : Sh 5 400 (.list [.tuple [chD c1, chD c2], .str (PL.sg v)]) := by
  refine sh_list (n := 170) (each2 (sh_tup (n := 84) (each2 (sh_ch h.g1 h.sg) (sh_ch h.g2 h.sg)) (by simp)) (sh_str (sg_ok (code_ok h.sg h.vw)) (by rw [sg_len]; have := h.len; omega))) (by simp)
theorem sh_never : Sh 1 20 (.list [.str "never", .bool true]) := sh_list (n := 6) (each2 (sh_str (by decide +kernel) (by decide)) sh_bool) (by simp)
theorem sh_told {p : Nat × Nat} (h1 : p.1 < 2 ^ 1919) (h2 : p.2 < 2 ^ 1919) : Sh 2 20 (.list [.str "told", frD p]) := sh_list (n := 6) (each2 (sh_str (by decide +kernel) (by decide)) ((sh_tup (k := 0) (n := 0) (m := 2) (each2 (sh_nat h1) (sh_nat h2)) (by simp)).mono (by decide) (by decide))) (by simp)
def isRightF : List T → (T → Prop) → Prop := fun ts P => ∃ (c1 c2 : Ch) (l v : List Nat) (f s : Nat) (na : Bool), ts = [.d (.tuple [chD c1, chD c2]), .d (.int (f : Nat)), .d (.int (s : Nat)), .d (.str (PL.sg v)), .d (.bool na)] ∧ Rt c1 c2 l v f s ∧ P (.d (.bool true))
section
variable {P : Program} {w : World} {K : PySem.W.Frag} {mg : Str → Option Value} {base : Heap}
structure GIsRight (P : Program) (w : World) (K : PySem.W.Frag) (mg : Str → Option Value) (base : Heap) : Prop where
  _law_due : Cal P w K mg base jarBox 4 "_law_due" ["one", "other", "first", "second", "view"] 5 dueF
  _law_heard : Cal P w K mg base jarBox 5 "_law_heard" ["one", "other", "first", "second", "view", "is_named"] 6 heardF
  _law_ratio : Cal P w K mg base jarBox 2 "_law_ratio" ["a", "b"] 2 ratioF
theorem scIsRight : FnScope ["pair", "first", "second", "view", "is_named", "one", "other", "due", "known", "heard", "rest"] ["pair", "first", "second", "view", "is_named"] (defScope sIsRight) := ⟨rfl, rfl, rfl, by decide +kernel, rfl, by decide +kernel, by decide +kernel⟩
set_option maxHeartbeats 1000000 in
theorem ok_isRight {f : Addr} {fd : FuncData} (F : Fun K "_law_is_right" "_law_is_right" sIsRight f fd) (T : Ty2 mg) (G : GIsRight P w K mg base) : FnG P w K mg base CX0 6 f fd ["pair", "first", "second", "view", "is_named"] (spP K jarBox 5 isRightF) := by
  refine fnP F scIsRight fun cdv A outer s H E hr ts Pq hl hφ => ?_
  have S := @scIsRight
  have hgd : (A.deeper (PyProof.Rows.envOfC "_law_is_right" (defScope sIsRight) s.heap.objs.size f cdv)).guards = some [] := hr.gd
  have hu64 : (A.deeper (PyProof.Rows.envOfC "_law_is_right" (defScope sIsRight) s.heap.objs.size f cdv)).units + 64 < cLine := hr.units
  obtain ⟨c1, c2, l, v, f1, f2, na, rfl, RT, hP⟩ := hφ
  refine ⟨_, (s_cons (s_asg (q_var 0) (g_tup (n := 2) rfl (gs_cons (g_name (i := 5) S.nd) (gs_cons (g_name (i := 6) S.nd) gs_nil))))
      (s_cons (s_par2 (i := 7) (j := 8) rfl S.nd (by decide) (b_cons (q_cF G._law_due (hr.mono (by decide)) (by rfl) (a_cons (q_var 5) (a_cons (q_var 6) (a_cons (q_var 1) (a_cons (q_var 2) (a_cons (q_var 3) a_nil)))))) (b_cons (q_callB c_repr (call_reprP hgd) (by rfl) T.repr (by rfl) (a_cons (q_lst (a_cons (q_var 0) (a_cons (q_var 3) a_nil))) a_nil)) b_nil)) (by rfl))
      (s_cons (s_set (i := 9) S.nd (q_callB c_repr (call_reprP hgd) (by rfl) T.repr (by rfl) (a_cons (q_if (t_cmp o_isN op_isN (q_al 7) (q_non) (nomark _)) (q_lst (a_cons (q_str) (a_cons (q_bl) a_nil))) (q_lst (a_cons (q_str) (a_cons (q_var 7) a_nil)))) a_nil)))
      (s_cons (s_if ((w_or (t_cmp o_neR op_ne (q_callB c_repr (call_reprP hgd) (by rfl) T.repr (by rfl) (a_cons (q_cF G._law_heard (hr.mono (by decide)) (by rfl) (a_cons (q_var 5) (a_cons (q_var 6) (a_cons (q_var 1) (a_cons (q_var 2) (a_cons (q_var 3) (a_cons (q_var 4) a_nil))))))) a_nil)) (q_var 9) (nomark _)) (w_or1 (t_cmp o_neR op_ne (q_callB c_repr (call_reprP hgd) (by rfl) T.repr (by rfl) (a_cons (q_lst (a_cons (q_var 0) (a_cons (q_var 3) a_nil))) a_nil)) (q_var 8) (nomark _)))).pt) (s_one (s_ret (q_bl))) s_nil)
      (s_cons (s_set (i := 10) S.nd (q_callB c_repr (call_reprP hgd) (by rfl) T.repr (by rfl) (a_cons (q_if (t_cmp o_isN op_isN (q_al 7) (q_non) (nomark _)) (q_lst (a_cons (q_str) (a_cons (q_bl) a_nil))) (q_lst (a_cons (q_str) (a_cons (q_cF G._law_ratio (hr.mono (by decide)) (by rfl) (a_cons (q_op o_sub op_sub (q_ix (q_al 7) (q_int)) (q_ix (q_al 7) (q_int))) (a_cons (q_ix (q_al 7) (q_int)) a_nil))) a_nil)))) a_nil)))
      (s_one (s_ret (q_cmp o_eqR op_eq (q_callB c_repr (call_reprP hgd) (by rfl) T.repr (by rfl) (a_cons (q_cF G._law_heard (hr.mono (by decide)) (by rfl) (a_cons (q_var 6) (a_cons (q_var 5) (a_cons (q_var 2) (a_cons (q_var 1) (a_cons (q_var 3) (a_cons (q_bl) a_nil))))))) a_nil)) (q_var 10) (nomark _))))))))), ?_⟩
  have TW := RT.two
  have SP := sh_pair RT
  obtain ⟨S1, S2⟩ := RT.short
  obtain ⟨S3, S4⟩ := RT.swap.short
  have hB : Bg (low (shX c1 c2 v f1) (shX c1 c2 v f1 + shX c2 c1 v f2)).2 := Bg.of S2 (by decide)
  rw [Nat.add_comm (shX c2 c1 v f2)] at S3 S4
  -- what is due, and how it is shown
  generalize hX : shX c1 c2 v f1 = X at *
  generalize hY : shX c2 c1 v f2 = Y at *
  simp only [startP, endsP, List.length_cons, List.length_nil, Nat.zero_add, Nat.reduceAdd, Nat.reduceSub, List.reduceReplicate, List.cons_append, List.nil_append]
  refine seq_to (fun ρ => ρ = [.d (.tuple [chD c1, chD c2]), .d (.int (f1 : Nat)), .d (.int (f2 : Nat)), .d (.str (PL.sg v)), .d (.bool na), .d (chD c1), .d (chD c2), .un, .un, .un, .un]) (fun DP hD => by simp? only [PL.z1]; exact hD _ rfl) ?_
  rintro ρ rfl
  have hh1 : ∀ (na : Bool) (P : PL.T → Prop), (X + Y = 0 → P (.l [.str "never", .bool true])) → (0 < X + Y → P (.l [.str "told", frD (low X (X + Y))])) → heardF [.d (chD c1), .d (chD c2), .d (.int (f1 : Nat)), .d (.int (f2 : Nat)), .d (.str (PL.sg v)), .d (.bool na)] P := fun na P a b => ⟨c1, c2, f1, f2, v, na, rfl, TW, by rw [hX, hY]; exact a, by rw [hX, hY]; exact b⟩
  have hh2 : ∀ (P : PL.T → Prop), (X + Y = 0 → P (.l [.str "never", .bool true])) → (0 < X + Y → P (.l [.str "told", frD (low Y (X + Y))])) → heardF [.d (chD c2), .d (chD c1), .d (.int (f2 : Nat)), .d (.int (f1 : Nat)), .d (.str (PL.sg v)), .d (.bool false)] P := fun P a b => ⟨c2, c1, f2, f1, v, false, rfl, TW.swap, by rw [hX, hY, Nat.add_comm]; exact a, by rw [hX, hY, Nat.add_comm]; exact b⟩
  rcases Nat.eq_zero_or_pos (X + Y) with h0 | h0
  · -- never
    refine seq_to (fun ρ => ρ = [.d (.tuple [chD c1, chD c2]), .d (.int (f1 : Nat)), .d (.int (f2 : Nat)), .d (.str (PL.sg v)), .d (.bool na), .d (chD c1), .d (chD c2), .d .none, .d (.str (PyData.list [.tuple [chD c1, chD c2], .str (PL.sg v)]).shown), .un, .un]) (fun DP hD => ?_) ?_
    · simp? only [PL.z1]
      refine ⟨c1, c2, f1, f2, v, rfl, TW, fun _ => ?_, fun z => by rw [hX, hY] at z; omega⟩
      simp? only [PL.z1]
      refine ⟨szL (by decide), sh_repr (k := 5) (n := 400) SP hu64 ?_⟩
      simp? only [PL.z1]
      exact ⟨by decide, hD _ rfl⟩
    rintro ρ rfl
    refine seq_to (fun ρ => ρ = [.d (.tuple [chD c1, chD c2]), .d (.int (f1 : Nat)), .d (.int (f2 : Nat)), .d (.str (PL.sg v)), .d (.bool na), .d (chD c1), .d (chD c2), .d .none, .d (.str (PyData.list [.tuple [chD c1, chD c2], .str (PL.sg v)]).shown), .d (.str (PyData.list [.str "never", .bool true]).shown), .un]) (fun DP hD => ?_) ?_
    · simp? only [PL.z1]
      refine ⟨szL (by decide), sh_repr (k := 1) (n := 20) sh_never hu64 ?_⟩
      simp? only [PL.z1]
      exact hD _ rfl
    rintro ρ rfl
    refine seq_pass [.d (.tuple [chD c1, chD c2]), .d (.int (f1 : Nat)), .d (.int (f2 : Nat)), .d (.str (PL.sg v)), .d (.bool na), .d (chD c1), .d (chD c2), .d .none, .d (.str (PyData.list [.tuple [chD c1, chD c2], .str (PL.sg v)]).shown), .d (.str (PyData.list [.str "never", .bool true]).shown), .un] (fun R hR => ?_) ?_
    · simp? only [PL.z1]
      refine hh1 na _ (fun _ => ?_) fun z => by omega
      simp? only [PL.z1]
      refine sh_repr (k := 1) (n := 20) sh_never hu64 ?_
      simp? only [decide_true, Bool.not_true]
      refine ⟨szL (by decide), sh_repr (k := 5) (n := 400) SP hu64 ?_⟩
      simp? only [decide_true, Bool.not_true]
      exact hR
    refine seq_to (fun ρ => ρ = [.d (.tuple [chD c1, chD c2]), .d (.int (f1 : Nat)), .d (.int (f2 : Nat)), .d (.str (PL.sg v)), .d (.bool na), .d (chD c1), .d (chD c2), .d .none, .d (.str (PyData.list [.tuple [chD c1, chD c2], .str (PL.sg v)]).shown), .d (.str (PyData.list [.str "never", .bool true]).shown), .d (.str (PyData.list [.str "never", .bool true]).shown)]) (fun DP hD => ?_) ?_
    · simp? only [PL.z1]
      refine ⟨szL (by decide), sh_repr (k := 1) (n := 20) sh_never hu64 ?_⟩
      simp? only [PL.z1]
      exact hD _ rfl
    rintro ρ rfl
    simp? only [PL.z1]
    refine hh2 _ (fun _ => ?_) fun z => by omega
    simp? only [PL.z1]
    refine sh_repr (k := 1) (n := 20) sh_never hu64 ?_
    simp? only [decide_true]
    exact hP
  · have ST := sh_told S1 S2
    have ST2 := sh_told S3 S4
    have q0 := low_pos (a := X) h0
    have hle : (low X (X + Y)).1 ≤ (low X (X + Y)).2 := Nat.div_le_div_right (by omega)
    have esub : (((low X (X + Y)).2 : Nat) : Int) - (((low X (X + Y)).1 : Nat) : Int) = (((low X (X + Y)).2 - (low X (X + Y)).1 : Nat) : Int) := by omega
    have erest := low_rest (p := X) (q := Y) h0
    refine seq_to (fun ρ => ρ = [.d (.tuple [chD c1, chD c2]), .d (.int (f1 : Nat)), .d (.int (f2 : Nat)), .d (.str (PL.sg v)), .d (.bool na), .d (chD c1), .d (chD c2), .d (frD (low X (X + Y))), .d (.str (PyData.list [.tuple [chD c1, chD c2], .str (PL.sg v)]).shown), .un, .un]) (fun DP hD => ?_) ?_
    · simp? only [PL.z1]
      refine ⟨c1, c2, f1, f2, v, rfl, TW, fun z => by rw [hX, hY] at z; omega, fun _ => ?_⟩
      rw [hX, hY]
      simp? only [PL.z1]
      refine ⟨szL (by decide), sh_repr (k := 5) (n := 400) SP hu64 ?_⟩
      simp? only [PL.z1]
      exact ⟨by decide, hD _ rfl⟩
    rintro ρ rfl
    refine seq_to (fun ρ => ρ = [.d (.tuple [chD c1, chD c2]), .d (.int (f1 : Nat)), .d (.int (f2 : Nat)), .d (.str (PL.sg v)), .d (.bool na), .d (chD c1), .d (chD c2), .d (frD (low X (X + Y))), .d (.str (PyData.list [.tuple [chD c1, chD c2], .str (PL.sg v)]).shown), .d (.str (PyData.list [.str "told", frD (low X (X + Y))]).shown), .un]) (fun DP hD => ?_) ?_
    · simp? only [frD]
      refine ⟨szL (by decide), sh_repr (k := 2) (n := 20) ST hu64 ?_⟩
      simp? only [PL.z1]
      exact hD _ rfl
    rintro ρ rfl
    refine seq_pass [.d (.tuple [chD c1, chD c2]), .d (.int (f1 : Nat)), .d (.int (f2 : Nat)), .d (.str (PL.sg v)), .d (.bool na), .d (chD c1), .d (chD c2), .d (frD (low X (X + Y))), .d (.str (PyData.list [.tuple [chD c1, chD c2], .str (PL.sg v)]).shown), .d (.str (PyData.list [.str "told", frD (low X (X + Y))]).shown), .un] (fun R hR => ?_) ?_
    · simp? only [PL.z1]
      refine hh1 na _ (fun z => by omega) fun _ => ?_
      simp? only [PL.z1]
      refine sh_repr (k := 2) (n := 20) ST hu64 ?_
      simp? only [decide_true, Bool.not_true]
      refine ⟨szL (by decide), sh_repr (k := 5) (n := 400) SP hu64 ?_⟩
      simp? only [decide_true, Bool.not_true]
      exact hR
    refine seq_to (fun ρ => ρ = [.d (.tuple [chD c1, chD c2]), .d (.int (f1 : Nat)), .d (.int (f2 : Nat)), .d (.str (PL.sg v)), .d (.bool na), .d (chD c1), .d (chD c2), .d (frD (low X (X + Y))), .d (.str (PyData.list [.tuple [chD c1, chD c2], .str (PL.sg v)]).shown), .d (.str (PyData.list [.str "told", frD (low X (X + Y))]).shown), .d (.str (PyData.list [.str "told", frD (low Y (X + Y))]).shown)]) (fun DP hD => ?_) ?_
    · simp? only [frD, esub]
      refine ⟨_, _, rfl, q0, hB, ?_⟩
      rw [erest]
      simp? only [frD]
      refine ⟨szL (by decide), sh_repr (k := 2) (n := 20) ST2 hu64 ?_⟩
      simp? only [PL.z1]
      exact hD _ rfl
    rintro ρ rfl
    simp? only [PL.z1]
    refine hh2 _ (fun z => by omega) fun _ => ?_
    simp? only [PL.z1]
    refine sh_repr (k := 2) (n := 20) ST2 hu64 ?_
    simp? only [decide_true]
    exact hP
structure GLaw (P : Program) (w : World) (K : PySem.W.Frag) (mg : Str → Option Value) (base : Heap) : Prop where
  _law_jar : ∃ f fd, mg "_law_jar" = some (.ref f) ∧ PySem.W.keepIn K (.ref f) = true ∧ Binds K fd ["script"] [] ∧ FnOk P w K mg base CX0 1 f fd ["script"] (spBox K jarBox)
  _law_draw : Cal P w K mg base jarBox 1 "_law_draw" ["jar", "many"] 2 drawF
  _law_pick : Cal P w K mg base jarBox 2 "_law_pick" ["jar", "items"] 2 pickF
  _law_pair : Cal P w K mg base jarBox 5 "_law_pair" ["jar", "signs"] 2 pairF
  _law_is_right : Cal P w K mg base jarBox 6 "_law_is_right" ["pair", "first", "second", "view", "is_named"] 5 isRightF
theorem sg_menu {d : D} (h : d ∈ [PyData.str "ab", .str "ab", .str "abc", .str "q"]) : ∃ l, d = .str (PL.sg l) ∧ Sg3 l := by
  simp only [List.mem_cons, List.not_mem_nil, or_false] at h
  rcases h with rfl | rfl | rfl | rfl
  · exact ⟨[97, 98], rfl, by decide, by decide⟩
  · exact ⟨[97, 98], rfl, by decide, by decide⟩
  · exact ⟨[97, 98, 99], rfl, by decide, by decide⟩
  · exact ⟨[113], rfl, by decide, by decide⟩
theorem wt_menu {d : D} (h : d ∈ [PyData.tuple [.int 1, .int 1], .tuple [.int 1, .int 1], .tuple [.int 1, .int 3], .tuple [.int 2, .int 1], .tuple [.int 0, .int 1], .tuple [.int 5, .int 0], .tuple [.int 7, .int 11], .tuple [.int ((10 : Int) ^ (30 : Int).toNat), .int 3]]) : ∃ a b : Nat, d = .tuple [.int (a : Nat), .int (b : Nat)] ∧ a ≤ 10 ^ 30 ∧ b ≤ 100 := by
  simp only [List.mem_cons, List.not_mem_nil, or_false] at h
  rcases h with rfl | rfl | rfl | rfl | rfl | rfl | rfl | rfl
  · exact ⟨1, 1, rfl, by decide, by decide⟩
  · exact ⟨1, 1, rfl, by decide, by decide⟩
  · exact ⟨1, 3, rfl, by decide, by decide⟩
  · exact ⟨2, 1, rfl, by decide, by decide⟩
  · exact ⟨0, 1, rfl, by decide, by decide⟩
  · exact ⟨5, 0, rfl, by decide, by decide⟩
  · exact ⟨7, 11, rfl, by decide, by decide⟩
  · exact ⟨10 ^ 30, 3, rfl, Nat.le_refl _, by decide⟩
theorem lens_menu {i : Nat} (h : i < 8) : ∃ k : Nat, ([.int 1, .int 2, .int 3, .int 4, .int 5, .int 6, .int 9, .int 4] : List D)[i]? = some (.int (k : Nat)) ∧ k ≤ 9 := by
  have : i = 0 ∨ i = 1 ∨ i = 2 ∨ i = 3 ∨ i = 4 ∨ i = 5 ∨ i = 6 ∨ i = 7 := by omega
  rcases this with rfl | rfl | rfl | rfl | rfl | rfl | rfl | rfl
  · exact ⟨1, rfl, by decide⟩
  · exact ⟨2, rfl, by decide⟩
  · exact ⟨3, rfl, by decide⟩
  · exact ⟨4, rfl, by decide⟩
  · exact ⟨5, rfl, by decide⟩
  · exact ⟨6, rfl, by decide⟩
  · exact ⟨9, rfl, by decide⟩
  · exact ⟨4, rfl, by decide⟩
theorem rt_ok {c1 c2 : Ch} {l v : List Nat} {f s : Nat} (g1 : Gd c1 l) (g2 : Gd c2 l) (hs : Sg3 l) (hv : ∀ x ∈ v, x = 46 ∨ x ∈ l) (hl : v.length ≤ 40) (hf : f ≤ 10 ^ 30) (h2 : s ≤ 10 ^ 30) : Rt c1 c2 l v f s := by
  have e : 10 ^ 30 ≤ 2 ^ 100 := by decide
  exact ⟨g1, g2, hs, hv, hl, Nat.le_trans hf e, Nat.le_trans h2 e⟩
theorem scLaw : FnScope ["script", "jar", "turn", "signs", "pair", "between", "first", "second", "many", "view", "place"] ["script"] (defScope sLaw) := ⟨rfl, rfl, rfl, by decide +kernel, rfl, by decide +kernel, by decide +kernel⟩
set_option maxHeartbeats 2000000 in
theorem ok_law {f : Addr} {fd : FuncData} (F : Fun K "law" "law" sLaw f fd) (hb : ∀ (s : Shared) (v : Value), BindsTo s fd ⟨[v], []⟩ [("script", v)]) (T : Ty2 mg) (G : GLaw P w K mg base) : RunAt P w K mg base CX0 f (spLaw K) := by
  intro s H a Q E e0 h
  obtain ⟨a', ns, e, hS, hl, hQ⟩ := h
  cases e
  refine lawRun (k := 7) (vs := [.ref a]) (us := [.ref a]) F scLaw ⟨rfl, by decide, by decide⟩ e0 (hb s (.ref a)) (.cons rfl .nil) rfl fun cdv hr0 => ?_
  have S := @scLaw
  have hr : RoomG 7 (callerA.deeper (PyProof.Rows.envOfC "law" (defScope sLaw) s.heap.objs.size f cdv)) := ⟨hr0, rfl⟩
  have hgd : (callerA.deeper (PyProof.Rows.envOfC "law" (defScope sLaw) s.heap.objs.size f cdv)).guards = some [] := rfl
  have hu64 : (callerA.deeper (PyProof.Rows.envOfC "law" (defScope sLaw) s.heap.objs.size f cdv)).units + 64 < cLine := hr.units
  obtain ⟨fu, fdu, u1, u2, u3, u4⟩ := G._law_jar
  refine ⟨_, pss_cons (ps_set (i := 1) S.nd rfl (by first | exact Or.inl rfl | exact Or.inr rfl) (pe_call u4 (hr0.mono (by decide)) (by rfl) u1 u2 u3 .nil pass0 (pa_cons (pv 0) pa_nil))) (s_cons (s_for PassesOwn.never rfl (i_range1 (by rfl) T.range (a_cons (q_int) a_nil)) (g_name (i := 2) S.nd) (s_cons (s_set (i := 3) S.nd (q_cU (i := 1) G._law_pick (hr.mono (by decide)) (by rfl) (pv 1) (a_cons (q_lst (a_cons (q_str) (a_cons (q_str) (a_cons (q_str) (a_cons (q_str) a_nil))))) a_nil)))
      (s_cons (s_par2 (i := 4) (j := 5) rfl S.nd (by decide) (b_cons (q_cU (i := 1) G._law_pair (hr.mono (by decide)) (by rfl) (pv 1) (a_cons (q_var 3) a_nil)) (b_cons (q_cU (i := 1) G._law_pair (hr.mono (by decide)) (by rfl) (pv 1) (a_cons (q_var 3) a_nil)) b_nil)) (by rfl))
      (s_cons (s_asg (q_cU (i := 1) G._law_pick (hr.mono (by decide)) (by rfl) (pv 1) (a_cons (q_lst (a_cons (q_tup (a_cons (q_int) (a_cons (q_int) a_nil))) (a_cons (q_tup (a_cons (q_int) (a_cons (q_int) a_nil))) (a_cons (q_tup (a_cons (q_int) (a_cons (q_int) a_nil))) (a_cons (q_tup (a_cons (q_int) (a_cons (q_int) a_nil))) (a_cons (q_tup (a_cons (q_int) (a_cons (q_int) a_nil))) (a_cons (q_tup (a_cons (q_int) (a_cons (q_int) a_nil))) (a_cons (q_tup (a_cons (q_int) (a_cons (q_int) a_nil))) (a_cons (q_tup (a_cons (q_op o_pow op_pow (q_int) (q_int)) (a_cons (q_int) a_nil))) a_nil))))))))) a_nil)) (g_tup (n := 2) rfl (gs_cons (g_name (i := 6) S.nd) (gs_cons (g_name (i := 7) S.nd) gs_nil))))
      (s_cons (s_set (i := 8) S.nd (q_if ((w_and (t_cmp o_eq (op_eqD hu64) (q_al 2) (q_int) (nomark _)) (w_and1 (t_cmp o_eq (op_eqD hu64) (q_cU (i := 1) G._law_draw (hr.mono (by decide)) (by rfl) (pv 1) (a_cons (q_int) a_nil)) (q_int) (nomark _)))).pt) (q_int) (q_cU (i := 1) G._law_draw (hr.mono (by decide)) (by rfl) (pv 1) (a_cons (q_ix (q_lst (a_cons (q_int) (a_cons (q_int) (a_cons (q_int) (a_cons (q_int) (a_cons (q_int) (a_cons (q_int) (a_cons (q_int) (a_cons (q_int) a_nil))))))))) (q_var 2)) a_nil))))
      (s_cons (s_set (i := 9) S.nd (q_join (q_str) (q_lc (own := [("place", 10)]) rfl S.nd (i_range1 (by rfl) T.range (a_cons (q_var 8) a_nil)) (blkOk_by (by kernel_rfl)) (fun _ _ _ _ _ => (gv_name (i := 10) S.nd)) (fun _ _ _ _ _ => ts_nil) (fun _ _ _ _ _ => (q_cU (i := 1) G._law_pick (hr.mono (by decide)) (by rfl) (pv 1) (a_cons (q_op o_add op_addP (q_op o_mulB op_mulBP (q_callTy c_lstS (call_lstS rfl) (by rfl) T.list (by rfl) (a_cons (q_al 3) a_nil)) (q_int)) (q_lst (a_cons (q_str) a_nil))) a_nil))))))
      (s_cons (s_if (t_not (t_val (q_cF G._law_is_right (hr.mono (by decide)) (by rfl) (a_cons (q_var 4) (a_cons (q_var 6) (a_cons (q_var 7) (a_cons (q_var 9) (a_cons (q_cmp o_eq (op_eqD hu64) (q_al 2) (q_int) (nomark _)) a_nil)))))))) (s_one (s_ret (q_bl))) s_nil)
      (s_cons (s_if (t_not (t_val (q_cF G._law_is_right (hr.mono (by decide)) (by rfl) (a_cons (q_var 5) (a_cons (q_op o_add op_addP (q_al 7) (q_int)) (a_cons (q_var 6) (a_cons (q_var 9) (a_cons (q_bl) a_nil)))))))) (s_one (s_ret (q_bl))) s_nil)
      (s_one (s_if (t_not (t_val (q_cF G._law_is_right (hr.mono (by decide)) (by rfl) (a_cons (q_var 4) (a_cons (q_var 6) (a_cons (q_var 7) (a_cons (q_var 9) (a_cons (q_bl) a_nil)))))))) (s_one (s_ret (q_bl))) s_nil))))))))))
      (s_one (s_ret (q_bl)))), ?_⟩
  refine law_read (n := 10) ⟨by decide, by decide⟩ hS hl (fun u => ?_) hQ
  have four : (4 : Int) = ((4 : Nat) : Int) := rfl
  refine seq_toR (fun ρ => True) (fun N hN => ?_) (fun ρ _ => ?_)
  · refine forT (rangeD 0 8) [.raw (.ref a), .bx u, .un, .un, .un, .un, .un, .un, .un, .un, .un]
      (fun _ ρ => ∃ t2 t3 t4 t5 t6 t7 t8 t9 t10, t10.bare ∧ ρ = [.raw (.ref a), .bx u, t2, t3, t4, t5, t6, t7, t8, t9, t10]) (fun R hR => ?_) ⟨_, _, _, _, _, _, _, _, .un, trivial, rfl⟩ (fun i d ρ hd ⟨t2, t3, t4, t5, t6, t7, t8, t9, t10, b10, hρ⟩ => ?_) (fun ρ h => hN ρ trivial)
    · simp? only [PL.z1]
      exact ⟨⟨by decide, by decide⟩, hR⟩
    subst hρ
    have hi : i < 8 := by have := (List.getElem?_eq_some_iff.mp hd).1; rwa [rangeD_len] at this
    rw [nats_range hi] at hd
    cases hd
    refine ⟨⟨by simp, trivial⟩, ?_⟩
    refine seq_to (fun ρ => ∃ l, Sg3 l ∧ ρ = [.raw (.ref a), .bx u, .d (.int (i : Nat)), .d (.str (PL.sg l)), t4, t5, t6, t7, t8, t9, t10]) (fun DP' hD' => ?_) ?_
    · simp? only [PL.z1]
      refine ⟨szL (by decide), u, .inl ⟨_, rfl, by simp, by simp, fun d hd => ?_⟩⟩
      obtain ⟨l, rfl, hL⟩ := sg_menu hd
      simp? only [PL.z1]
      exact hD' _ ⟨l, hL, rfl⟩
    rintro ρ ⟨l, hL, rfl⟩
    refine seq_to (fun ρ => ∃ c1 c2 c3 c4 : Ch, (Gd c1 l ∧ Gd c2 l ∧ Gd c3 l ∧ Gd c4 l) ∧ ρ = [.raw (.ref a), .bx u, .d (.int (i : Nat)), .d (.str (PL.sg l)), .d (.tuple [chD c1, chD c2]), .d (.tuple [chD c3, chD c4]), t6, t7, t8, t9, t10]) (fun DP' hD' => ?_) ?_
    · simp? only [PL.z1]
      refine ⟨u, l, rfl, hL, fun c1 c2 g1 g2 => ?_⟩
      simp? only [PL.z1]
      refine ⟨u, l, rfl, hL, fun c3 c4 g3 g4 => ?_⟩
      exact ⟨by decide, hD' _ ⟨c1, c2, c3, c4, ⟨g1, g2, g3, g4⟩, rfl⟩⟩
    rintro ρ ⟨c1, c2, c3, c4, ⟨g1, g2, g3, g4⟩, rfl⟩
    refine seq_to (fun ρ => ∃ f1 f2 : Nat, (f1 ≤ 10 ^ 30 ∧ f2 ≤ 100) ∧ ρ = [.raw (.ref a), .bx u, .d (.int (i : Nat)), .d (.str (PL.sg l)), .d (.tuple [chD c1, chD c2]), .d (.tuple [chD c3, chD c4]), .d (.int (f1 : Nat)), .d (.int (f2 : Nat)), t8, t9, t10]) (fun DP' hD' => ?_) ?_
    · simp? only [PL.z1]
      refine ⟨szL (by decide), szL (by decide), szL (by decide), szL (by decide), szL (by decide), szL (by decide), szL (by decide), ⟨by decide, by decide, by decide⟩, szL (by decide), szL (by decide), u, .inl ⟨_, rfl, by simp, by simp, fun d hd => ?_⟩⟩
      obtain ⟨f1, f2, rfl, h1, h2⟩ := wt_menu hd
      simp? only [PL.z1]
      exact hD' _ ⟨f1, f2, ⟨h1, h2⟩, rfl⟩
    rintro ρ ⟨f1, f2, ⟨hf1, hf2⟩, rfl⟩
    obtain ⟨kk, q1, b1⟩ := lens_menu hi
    refine seq_to (fun ρ => ∃ m : Nat, m ≤ 40 ∧ ρ = [.raw (.ref a), .bx u, .d (.int (i : Nat)), .d (.str (PL.sg l)), .d (.tuple [chD c1, chD c2]), .d (.tuple [chD c3, chD c4]), .d (.int (f1 : Nat)), .d (.int (f2 : Nat)), .d (.int (m : Nat)), t9, t10]) (fun DP' hD' => ?_) ?_
    · by_cases h7 : ((i : Nat) : Int) = 7
      · simp? only [decide_eq_true h7, atI_cast, q1]
        refine ⟨shI _, shI _, u, 4, rfl, by decide, fun r r0 r1 => ?_⟩
        by_cases z : r = 0
        · simp? only [decide_eq_true z]
          exact ⟨shI _, shI _, hD' _ ⟨40, Nat.le_refl _, rfl⟩⟩
        · simp? only [decide_eq_false z]
          refine ⟨shI _, shI _, szL (by decide), u, kk, rfl, by omega, fun r r0 r1 => ?_⟩
          obtain ⟨m, rfl⟩ := natOf' r0
          exact ⟨trivial, hD' _ ⟨m, by omega, rfl⟩⟩
      · simp? only [decide_eq_false h7, atI_cast, q1]
        refine ⟨shI _, shI _, szL (by decide), u, kk, rfl, by omega, fun r r0 r1 => ?_⟩
        obtain ⟨m, rfl⟩ := natOf' r0
        exact ⟨trivial, hD' _ ⟨m, by omega, rfl⟩⟩
    rintro ρ ⟨m, hm, rfl⟩
    refine seq_to (fun ρ => ∃ v : List Nat, v.length ≤ 40 ∧ (∀ x ∈ v, x = 46 ∨ x ∈ l) ∧ ρ = [.raw (.ref a), .bx u, .d (.int (i : Nat)), .d (.str (PL.sg l)), .d (.tuple [chD c1, chD c2]), .d (.tuple [chD c3, chD c4]), .d (.int (f1 : Nat)), .d (.int (f2 : Nat)), .d (.int (m : Nat)), .d (.str (PL.sg v)), t10]) (fun DP' hD' => ?_) ?_
    · simp? only [PL.z1]
      have hl3 := hL.len.2
      refine drawn (α := Nat) m (fun c => .str (PL.sg [c])) (fun c => c = 46 ∨ c ∈ l) (fun R hR => ?_) (by simp [barePl, b10]) (by omega) (fun d R hR => ?_) fun cs h1 h2 => ?_
      · simp? only [PL.z1]
        refine ⟨⟨by omega, by omega⟩, ?_⟩
        simpa using hR
      · simp? only [wipeP]
        have e3 : (List.replicate (Int.toNat 3) (signsD (PL.sg l))).flatten = signsD (PL.sg l) ++ (signsD (PL.sg l) ++ signsD (PL.sg l)) := by
          show (List.replicate 3 _).flatten = _
          simp [List.replicate]
        have elen : (signsD (PL.sg l)).length = l.length := by rw [sg_signs, List.length_map]
        have edt : PyData.str (Str.ofString ".") = .str (PL.sg [46]) := rfl
        rw [e3]
        refine ⟨szL (by rw [sg_len]; omega), ⟨by decide, by decide, szL (by rw [elen]; show l.length * 3 < 10000; omega)⟩, szL (by decide), szL (by rw [List.length_append, List.length_append, elen]; omega), u, .inl ⟨_, rfl, by simp, by rw [List.length_append, List.length_append, List.length_append, elen]; show _ + 1 < 1000; omega, fun z hz => ?_⟩⟩
        have hz2 : ∃ x, (x = 46 ∨ x ∈ l) ∧ z = .str (PL.sg [x]) := by
          rw [sg_signs] at hz
          simp only [List.mem_append, List.mem_map, List.mem_singleton] at hz
          rcases hz with (⟨x, hx, rfl⟩ | ⟨x, hx, rfl⟩ | ⟨x, hx, rfl⟩) | hz
          · exact ⟨x, .inr hx, rfl⟩
          · exact ⟨x, .inr hx, rfl⟩
          · exact ⟨x, .inr hx, rfl⟩
          · exact ⟨46, .inl rfl, by rw [hz, edt]⟩
        obtain ⟨x, hx, rfl⟩ := hz2
        exact hR x _ _ hx rfl rfl
      · simp? only [PL.z1]
        refine joinD cs (by omega) ?_
        exact ⟨trivial, hD' _ ⟨cs, by omega, h2, rfl⟩⟩
    rintro ρ ⟨v, hvl, hv, rfl⟩
    have f2' : f2 ≤ 10 ^ 30 := Nat.le_trans hf2 (by decide)
    have e21 : ((f2 : Nat) : Int) + 1 = ((f2 + 1 : Nat) : Int) := by omega
    refine seq_pass [.raw (.ref a), .bx u, .d (.int (i : Nat)), .d (.str (PL.sg l)), .d (.tuple [chD c1, chD c2]), .d (.tuple [chD c3, chD c4]), .d (.int (f1 : Nat)), .d (.int (f2 : Nat)), .d (.int (m : Nat)), .d (.str (PL.sg v)), t10] (fun R hR => ?_) ?_
    · simp? only [PL.z1]
      refine ⟨shI _, shI _, c1, c2, l, v, f1, f2, _, rfl, rt_ok g1 g2 hL hv hvl hf1 f2', ?_⟩
      simp? only [Bool.not_true]
      exact hR
    refine seq_pass [.raw (.ref a), .bx u, .d (.int (i : Nat)), .d (.str (PL.sg l)), .d (.tuple [chD c1, chD c2]), .d (.tuple [chD c3, chD c4]), .d (.int (f1 : Nat)), .d (.int (f2 : Nat)), .d (.int (m : Nat)), .d (.str (PL.sg v)), t10] (fun R hR => ?_) ?_
    · simp? only [e21]
      refine ⟨c3, c4, l, v, f2 + 1, f1, _, rfl, rt_ok g3 g4 hL hv hvl (Nat.le_trans (show f2 + 1 ≤ 101 by omega) (by decide)) hf1, ?_⟩
      simp? only [Bool.not_true]
      exact hR
    refine one_pass [.raw (.ref a), .bx u, .d (.int (i : Nat)), .d (.str (PL.sg l)), .d (.tuple [chD c1, chD c2]), .d (.tuple [chD c3, chD c4]), .d (.int (f1 : Nat)), .d (.int (f2 : Nat)), .d (.int (m : Nat)), .d (.str (PL.sg v)), t10] (fun R hR => ?_) ⟨_, _, _, _, _, _, _, _, t10, b10, rfl⟩
    simp? only [PL.z1]
    refine ⟨c1, c2, l, v, f1, f2, _, rfl, rt_ok g1 g2 hL hv hvl hf1 f2', ?_⟩
    simp? only [Bool.not_true]
    exact hR
  simp? only [PL.z1]
  exact rfl
end
end C51

namespace C51
open PySem L2 PL
set_option maxRecDepth 100000
set_option maxHeartbeats 4000000 in
theorem all_mk [C : Consts] {l : PySem.W.OpenLaw} {w : World} {K : PySem.W.Frag} {h : Heap} {mg : Str → Option Value} {fa f0 f1 f2 f3 f4 f5 f6 f7 f8 f9 f10 f11 f12 f13 f14 f15 f16 f17 f18 f19 f20 f21 f22 f23 f24 f25 f26 f27 : Addr} (X : K.In h) (G : h.Ns mainGlobals mg) (hfa : mg "law" = some (.ref fa))
    {od0 an0 od1 an1 od2 an2 od3 an3 od4 an4 od5 an5 od6 an6 od7 an7 od8 an8 od9 an9 od10 an10 od11 an11 od12 an12 od13 an13 od14 an14 od15 an15 od16 an16 od17 an17 od18 an18 od19 an19 od20 an20 od21 an21 od22 an22 od23 an23 od24 an24 od25 an25 od26 an26 od27 an27 : Option Addr} {sl0 sl1 sl2 sl3 sl4 sl5 sl6 sl7 sl8 sl9 sl10 sl11 sl12 sl13 sl14 sl15 sl16 sl17 sl18 sl19 sl20 sl21 sl22 sl23 sl24 sl25 sl26 sl27 : Array (Option Value)} {oc0 kV0 dc0 pm0 cd0 ct0 oc1 kV1 dc1 pm1 cd1 ct1 oc2 kV2 dc2 pm2 cd2 ct2 oc3 kV3 dc3 pm3 cd3 ct3 oc4 kV4 dc4 pm4 cd4 ct4 oc5 kV5 dc5 pm5 cd5 ct5 oc6 kV6 dc6 pm6 cd6 ct6 oc7 kV7 dc7 pm7 cd7 ct7 oc8 kV8 dc8 pm8 cd8 ct8 oc9 kV9 dc9 pm9 cd9 ct9 oc10 kV10 dc10 pm10 cd10 ct10 oc11 kV11 dc11 pm11 cd11 ct11 oc12 kV12 dc12 pm12 cd12 ct12 oc13 kV13 dc13 pm13 cd13 ct13 oc14 kV14 dc14 pm14 cd14 ct14 oc15 kV15 dc15 pm15 cd15 ct15 oc16 kV16 dc16 pm16 cd16 ct16 oc17 kV17 dc17 pm17 cd17 ct17 oc18 kV18 dc18 pm18 cd18 ct18 oc19 kV19 dc19 pm19 cd19 ct19 oc20 kV20 dc20 pm20 cd20 ct20 oc21 kV21 dc21 pm21 cd21 ct21 oc22 kV22 dc22 pm22 cd22 ct22 oc23 kV23 dc23 pm23 cd23 ct23 oc24 kV24 dc24 pm24 cd24 ct24 oc25 kV25 dc25 pm25 cd25 ct25 oc26 kV26 dc26 pm26 cd26 ct26 oc27 kV27 dc27 pm27 cd27 ct27 : Value}
    (a0 : PySem.W.nsIn K mainGlobals "least_multiple" = some (some (.ref f0))) (l0 : K.lookup f0 = some ⟨oc0, od0, .func (PySem.W.fnOf "least_multiple" "least_multiple" (defArgs sLeastM) (defBody sLeastM) (defScope sLeastM) .none kV0 dc0 pm0 an0 cd0 ct0), sl0⟩) (c0 : PySem.W.codeIn K cd0 "least_multiple" = true) (k0 : PySem.W.keepIn K (.ref f0) = true)
    (a1 : PySem.W.nsIn K mainGlobals "lowest" = some (some (.ref f1))) (l1 : K.lookup f1 = some ⟨oc1, od1, .func (PySem.W.fnOf "lowest" "lowest" (defArgs sLowest) (defBody sLowest) (defScope sLowest) .none kV1 dc1 pm1 an1 cd1 ct1), sl1⟩) (c1 : PySem.W.codeIn K cd1 "lowest" = true) (k1 : PySem.W.keepIn K (.ref f1) = true)
    (a2 : PySem.W.nsIn K mainGlobals "added" = some (some (.ref f2))) (l2 : K.lookup f2 = some ⟨oc2, od2, .func (PySem.W.fnOf "added" "added" (defArgs sAdded) (defBody sAdded) (defScope sAdded) .none kV2 dc2 pm2 an2 cd2 ct2), sl2⟩) (c2 : PySem.W.codeIn K cd2 "added" = true) (k2 : PySem.W.keepIn K (.ref f2) = true)
    (a3 : PySem.W.nsIn K mainGlobals "multiplied" = some (some (.ref f3))) (l3 : K.lookup f3 = some ⟨oc3, od3, .func (PySem.W.fnOf "multiplied" "multiplied" (defArgs sMultiplied) (defBody sMultiplied) (defScope sMultiplied) .none kV3 dc3 pm3 an3 cd3 ct3), sl3⟩) (c3 : PySem.W.codeIn K cd3 "multiplied" = true) (k3 : PySem.W.keepIn K (.ref f3) = true)
    (a4 : PySem.W.nsIn K mainGlobals "divided" = some (some (.ref f4))) (l4 : K.lookup f4 = some ⟨oc4, od4, .func (PySem.W.fnOf "divided" "divided" (defArgs sDivided) (defBody sDivided) (defScope sDivided) .none kV4 dc4 pm4 an4 cd4 ct4), sl4⟩) (c4 : PySem.W.codeIn K cd4 "divided" = true) (k4 : PySem.W.keepIn K (.ref f4) = true)
    (a5 : PySem.W.nsIn K mainGlobals "scaled" = some (some (.ref f5))) (l5 : K.lookup f5 = some ⟨oc5, od5, .func (PySem.W.fnOf "scaled" "scaled" (defArgs sScaled) (defBody sScaled) (defScope sScaled) .none kV5 dc5 pm5 an5 cd5 ct5), sl5⟩) (c5 : PySem.W.codeIn K cd5 "scaled" = true) (k5 : PySem.W.keepIn K (.ref f5) = true)
    (a6 : PySem.W.nsIn K mainGlobals "gone_on" = some (some (.ref f6))) (l6 : K.lookup f6 = some ⟨oc6, od6, .func (PySem.W.fnOf "gone_on" "gone_on" (defArgs sGone) (defBody sGone) (defScope sGone) .none kV6 dc6 pm6 an6 cd6 ct6), sl6⟩) (c6 : PySem.W.codeIn K cd6 "gone_on" = true) (k6 : PySem.W.keepIn K (.ref f6) = true)
    (a7 : PySem.W.nsIn K mainGlobals "chance" = some (some (.ref f7))) (l7 : K.lookup f7 = some ⟨oc7, od7, .func (PySem.W.fnOf "chance" "chance" (defArgs sChance) (defBody sChance) (defScope sChance) .none kV7 dc7 pm7 an7 cd7 ct7), sl7⟩) (c7 : PySem.W.codeIn K cd7 "chance" = true) (k7 : PySem.W.keepIn K (.ref f7) = true)
    (a8 : PySem.W.nsIn K mainGlobals "check_signs" = some (some (.ref f8))) (l8 : K.lookup f8 = some ⟨oc8, od8, .func (PySem.W.fnOf "check_signs" "check_signs" (defArgs sCheck) (defBody sCheck) (defScope sCheck) .none kV8 dc8 pm8 an8 cd8 ct8), sl8⟩) (c8 : PySem.W.codeIn K cd8 "check_signs" = true) (k8 : PySem.W.keepIn K (.ref f8) = true)
    (a9 : PySem.W.nsIn K mainGlobals "told_by" = some (some (.ref f9))) (l9 : K.lookup f9 = some ⟨oc9, od9, .func (PySem.W.fnOf "told_by" "told_by" (defArgs sToldBy) (defBody sToldBy) (defScope sToldBy) .none kV9 dc9 pm9 an9 cd9 ct9), sl9⟩) (c9 : PySem.W.codeIn K cd9 "told_by" = true) (k9 : PySem.W.keepIn K (.ref f9) = true)
    (a10 : PySem.W.nsIn K mainGlobals "_law_jar" = some (some (.ref f10))) (l10 : K.lookup f10 = some ⟨oc10, od10, .func (PySem.W.fnOf "_law_jar" "_law_jar" (defArgs sJar) (defBody sJar) (defScope sJar) .none kV10 dc10 pm10 an10 cd10 ct10), sl10⟩) (c10 : PySem.W.codeIn K cd10 "_law_jar" = true) (k10 : PySem.W.keepIn K (.ref f10) = true)
    (a11 : PySem.W.nsIn K mainGlobals "_law_draw" = some (some (.ref f11))) (l11 : K.lookup f11 = some ⟨oc11, od11, .func (PySem.W.fnOf "_law_draw" "_law_draw" (defArgs sDraw) (defBody sDraw) (defScope sDraw) .none kV11 dc11 pm11 an11 cd11 ct11), sl11⟩) (c11 : PySem.W.codeIn K cd11 "_law_draw" = true) (k11 : PySem.W.keepIn K (.ref f11) = true)
    (a12 : PySem.W.nsIn K mainGlobals "_law_pick" = some (some (.ref f12))) (l12 : K.lookup f12 = some ⟨oc12, od12, .func (PySem.W.fnOf "_law_pick" "_law_pick" (defArgs sPick) (defBody sPick) (defScope sPick) .none kV12 dc12 pm12 an12 cd12 ct12), sl12⟩) (c12 : PySem.W.codeIn K cd12 "_law_pick" = true) (k12 : PySem.W.keepIn K (.ref f12) = true)
    (a13 : PySem.W.nsIn K mainGlobals "_law_gcd" = some (some (.ref f13))) (l13 : K.lookup f13 = some ⟨oc13, od13, .func (PySem.W.fnOf "_law_gcd" "_law_gcd" (defArgs sGcd) (defBody sGcd) (defScope sGcd) .none kV13 dc13 pm13 an13 cd13 ct13), sl13⟩) (c13 : PySem.W.codeIn K cd13 "_law_gcd" = true) (k13 : PySem.W.keepIn K (.ref f13) = true)
    (a14 : PySem.W.nsIn K mainGlobals "_law_ratio" = some (some (.ref f14))) (l14 : K.lookup f14 = some ⟨oc14, od14, .func (PySem.W.fnOf "_law_ratio" "_law_ratio" (defArgs sRatio) (defBody sRatio) (defScope sRatio) .none kV14 dc14 pm14 an14 cd14 ct14), sl14⟩) (c14 : PySem.W.codeIn K cd14 "_law_ratio" = true) (k14 : PySem.W.keepIn K (.ref f14) = true)
    (a15 : PySem.W.nsIn K mainGlobals "_law_line" = some (some (.ref f15))) (l15 : K.lookup f15 = some ⟨oc15, od15, .func (PySem.W.fnOf "_law_line" "_law_line" (defArgs sLine) (defBody sLine) (defScope sLine) .none kV15 dc15 pm15 an15 cd15 ct15), sl15⟩) (c15 : PySem.W.codeIn K cd15 "_law_line" = true) (k15 : PySem.W.keepIn K (.ref f15) = true)
    (a16 : PySem.W.nsIn K mainGlobals "_law_chain" = some (some (.ref f16))) (l16 : K.lookup f16 = some ⟨oc16, od16, .func (PySem.W.fnOf "_law_chain" "_law_chain" (defArgs sChain) (defBody sChain) (defScope sChain) .none kV16 dc16 pm16 an16 cd16 ct16), sl16⟩) (c16 : PySem.W.codeIn K cd16 "_law_chain" = true) (k16 : PySem.W.keepIn K (.ref f16) = true)
    (a17 : PySem.W.nsIn K mainGlobals "_law_level" = some (some (.ref f17))) (l17 : K.lookup f17 = some ⟨oc17, od17, .func (PySem.W.fnOf "_law_level" "_law_level" (defArgs sLevel) (defBody sLevel) (defScope sLevel) .none kV17 dc17 pm17 an17 cd17 ct17), sl17⟩) (c17 : PySem.W.codeIn K cd17 "_law_level" = true) (k17 : PySem.W.keepIn K (.ref f17) = true)
    (a18 : PySem.W.nsIn K mainGlobals "_law_flat" = some (some (.ref f18))) (l18 : K.lookup f18 = some ⟨oc18, od18, .func (PySem.W.fnOf "_law_flat" "_law_flat" (defArgs sFlat) (defBody sFlat) (defScope sFlat) .none kV18 dc18 pm18 an18 cd18 ct18), sl18⟩) (c18 : PySem.W.codeIn K cd18 "_law_flat" = true) (k18 : PySem.W.keepIn K (.ref f18) = true)
    (a19 : PySem.W.nsIn K mainGlobals "_law_tell" = some (some (.ref f19))) (l19 : K.lookup f19 = some ⟨oc19, od19, .func (PySem.W.fnOf "_law_tell" "_law_tell" (defArgs sTell) (defBody sTell) (defScope sTell) .none kV19 dc19 pm19 an19 cd19 ct19), sl19⟩) (c19 : PySem.W.codeIn K cd19 "_law_tell" = true) (k19 : PySem.W.keepIn K (.ref f19) = true)
    (a20 : PySem.W.nsIn K mainGlobals "_law_ahead" = some (some (.ref f20))) (l20 : K.lookup f20 = some ⟨oc20, od20, .func (PySem.W.fnOf "_law_ahead" "_law_ahead" (defArgs sAhead) (defBody sAhead) (defScope sAhead) .none kV20 dc20 pm20 an20 cd20 ct20), sl20⟩) (c20 : PySem.W.codeIn K cd20 "_law_ahead" = true) (k20 : PySem.W.keepIn K (.ref f20) = true)
    (a21 : PySem.W.nsIn K mainGlobals "_law_below" = some (some (.ref f21))) (l21 : K.lookup f21 = some ⟨oc21, od21, .func (PySem.W.fnOf "_law_below" "_law_below" (defArgs sBelow) (defBody sBelow) (defScope sBelow) .none kV21 dc21 pm21 an21 cd21 ct21), sl21⟩) (c21 : PySem.W.codeIn K cd21 "_law_below" = true) (k21 : PySem.W.keepIn K (.ref f21) = true)
    (a22 : PySem.W.nsIn K mainGlobals "_law_weight" = some (some (.ref f22))) (l22 : K.lookup f22 = some ⟨oc22, od22, .func (PySem.W.fnOf "_law_weight" "_law_weight" (defArgs sWeight) (defBody sWeight) (defScope sWeight) .none kV22 dc22 pm22 an22 cd22 ct22), sl22⟩) (c22 : PySem.W.codeIn K cd22 "_law_weight" = true) (k22 : PySem.W.keepIn K (.ref f22) = true)
    (a23 : PySem.W.nsIn K mainGlobals "_law_pair" = some (some (.ref f23))) (l23 : K.lookup f23 = some ⟨oc23, od23, .func (PySem.W.fnOf "_law_pair" "_law_pair" (defArgs sPair) (defBody sPair) (defScope sPair) .none kV23 dc23 pm23 an23 cd23 ct23), sl23⟩) (c23 : PySem.W.codeIn K cd23 "_law_pair" = true) (k23 : PySem.W.keepIn K (.ref f23) = true)
    (a24 : PySem.W.nsIn K mainGlobals "_law_due" = some (some (.ref f24))) (l24 : K.lookup f24 = some ⟨oc24, od24, .func (PySem.W.fnOf "_law_due" "_law_due" (defArgs sDue) (defBody sDue) (defScope sDue) .none kV24 dc24 pm24 an24 cd24 ct24), sl24⟩) (c24 : PySem.W.codeIn K cd24 "_law_due" = true) (k24 : PySem.W.keepIn K (.ref f24) = true)
    (a25 : PySem.W.nsIn K mainGlobals "_law_heard" = some (some (.ref f25))) (l25 : K.lookup f25 = some ⟨oc25, od25, .func (PySem.W.fnOf "_law_heard" "_law_heard" (defArgs sHeard) (defBody sHeard) (defScope sHeard) .none kV25 dc25 pm25 an25 cd25 ct25), sl25⟩) (c25 : PySem.W.codeIn K cd25 "_law_heard" = true) (k25 : PySem.W.keepIn K (.ref f25) = true)
    (a26 : PySem.W.nsIn K mainGlobals "_law_is_right" = some (some (.ref f26))) (l26 : K.lookup f26 = some ⟨oc26, od26, .func (PySem.W.fnOf "_law_is_right" "_law_is_right" (defArgs sIsRight) (defBody sIsRight) (defScope sIsRight) .none kV26 dc26 pm26 an26 cd26 ct26), sl26⟩) (c26 : PySem.W.codeIn K cd26 "_law_is_right" = true) (k26 : PySem.W.keepIn K (.ref f26) = true)
    (a27 : PySem.W.nsIn K mainGlobals "law" = some (some (.ref f27))) (l27 : K.lookup f27 = some ⟨oc27, od27, .func (PySem.W.fnOf "law" "law" (defArgs sLaw) (defBody sLaw) (defScope sLaw) .none kV27 dc27 pm27 an27 cd27 ct27), sl27⟩) (c27 : PySem.W.codeIn K cd27 "law" = true) (k27 : PySem.W.keepIn K (.ref f27) = true)
    (z0 : PySem.W.nsIn K mainGlobals "len" = some none)
    (z1 : PySem.W.nsIn K mainGlobals "int" = some none)
    (z2 : PySem.W.nsIn K mainGlobals "abs" = some none)
    (z3 : PySem.W.nsIn K mainGlobals "range" = some none)
    (z4 : PySem.W.nsIn K mainGlobals "enumerate" = some none)
    (z5 : PySem.W.nsIn K mainGlobals "tuple" = some none)
    (z6 : PySem.W.nsIn K mainGlobals "list" = some none)
    (z7 : PySem.W.nsIn K mainGlobals "zip" = some none)
    (z8 : PySem.W.nsIn K mainGlobals "repr" = some none)
    (z9 : PySem.W.nsIn K mainGlobals "sum" = some none)
    (z10 : PySem.W.nsIn K mainGlobals "max" = some none)
     (x0 : PySem.W.nsIn K mainGlobals "gcd" = some (some (.builtin "math.gcd")))
     (x1 : PySem.W.nsIn K mainGlobals "lcm" = some (some (.builtin "math.lcm")))
    {tGAP : Tok} (x2 : PySem.W.nsIn K mainGlobals "GAP" = some (some (.str "." tGAP)))
    {aT0 : Addr} {oT0 : Value} {dT0 : Option Addr} {iT0 : Array Value} {nT0 : Nat} {sT0 : Array (Option Value)} {uT0 vT0 : Tok} (ta0 : PySem.W.nsIn K mainGlobals "NOUGHT" = some (some (.ref aT0))) (tl0 : K.lookup aT0 = some ⟨oT0, dT0, .seq iT0 nT0, sT0⟩) (tc0 : oT0 = .type "tuple") (td0 : dT0 = none) (ti0 : iT0 = #[.int 0 uT0, .int 1 vT0]) (to0 : C.ok aT0)
    {AChainError : Addr}
    (eB : PySem.W.nsIn K mainGlobals "ChainError" = some (some (.ref AChainError)))
    (eT : PySem.W.nsIn K cStatics "thirdparty.any" = some none)
    (eS : PySem.W.nsIn K mainGlobals "super" = some none)
    (eP : (l.prog.main.scope.names.lookup ("super" : Str)).isSome = false)
    (eNValueError : PySem.W.nsIn K mainGlobals "ValueError" = some none)
    (eNisinstance : PySem.W.nsIn K mainGlobals "isinstance" = some none)
    {ANever fINever caNever ccNever : Addr} {cdNever : ClassData} {ocNever kVNever doNever pmNever ctNever clNever cvNever : Value} {odNever anNever ceNever cfNever : Option Addr} {osNever csNever ct_Never : Array (Option Value)} {vsNever : Array Value} {flNever : Str} {tfNever : Tok}
    (gNever : PySem.W.nsIn K mainGlobals "Never" = some (some (.ref ANever)))
    (xNever : PySem.W.excInitIn K ANever veMro "ValueError.__new__" = true)
    (iNever : PySem.W.findIn K (.ref ANever) "__init__" = some (some (.ref fINever)))
    (tNever : PySem.W.typeIn K (.ref fINever) = some (.type "function"))
    (kNever : PySem.W.keepIn K (.ref ANever) = true)
    (cNever : PySem.W.clsIn K ANever = some cdNever)
    (mNever : PySem.W.mroIn K ANever (.ref ANever) = some true)
    (sNever : PySem.W.ks_superIn K ANever ANever "__init__" = some (some (.builtin "ValueError.__init__")))
    (vNever : PySem.W.subIn K (.ref ANever) (.type "ValueError") = some true)
    (bNever : PySem.W.subIn K (.ref ANever) (.type "BaseException") = some true)
    (yNever : PySem.W.typeIn K (.ref ANever) = some (.type "type"))
    (lNever : K.lookup fINever = some ⟨ocNever, odNever, .func (PySem.W.ksFn "__init__" "Never.__init__" (defArgs sINever) (defBody sINever) (defScope sINever) .none kVNever doNever pmNever anNever (.ref caNever) ctNever ccNever), osNever⟩)
    (oNever : PySem.W.codeIn K (.ref caNever) "Never.__init__" = true)
    (dNever : K.lookup caNever = some ⟨clNever, ceNever, .fields vsNever, csNever⟩)
    (fNever : vsNever[2]? = some (.str flNever tfNever))
    (FNever : ((l.prog.main.file : Str) == flNever) = true)
    (eNever : K.lookup ccNever = some ⟨cvNever, cfNever, .cell (some (.ref ANever)), ct_Never⟩)
    (q1Never : PySem.W.findIn K (.ref ANever) "__getattribute__" = some (some (.builtin "BaseException.__getattribute__")))
    (q2Never : PySem.W.findIn K (.ref ANever) "__getattr__" = some none)
    (q4Never : PySem.W.hasDictIn K ANever = true)
    (q5Never : PySem.W.findIn K (.ref ANever) "__class__" = some (some (.builtin "object.__class__")))
    (q6Never : PySem.W.specialIn K (.builtin "object.__class__") "__get__" = some (some (.builtin "getset_descriptor.__get__")))
    (q7Never : PySem.W.takesIn K (.builtin "object.__class__") = some true)
    (q8Never : PySem.W.mroIn K ANever (.type "object") = some true)
    (u1Never : PySem.W.kitOne K (.ref ANever) (.ref AChainError) = some true)
    (u2Never : PySem.W.kitOne K (.ref ANever) (.type "ValueError") = some true)
    (wNeverNever : PySem.W.subIn K (.ref ANever) (.ref ANever) = some true)
    : ∀ base : Heap, K.In base → base.Ns mainGlobals mg → RunAt l.prog w K mg base CX0 fa (spLaw K) := by
  intro base _ _
  have e := hfa.symm.trans (PySem.W.mg_of X G a27)
  cases e
  have Z_len := PySem.W.mg_none_of X G z0
  have Z_int := PySem.W.mg_none_of X G z1
  have Z_abs := PySem.W.mg_none_of X G z2
  have Z_range := PySem.W.mg_none_of X G z3
  have Z_enumerate := PySem.W.mg_none_of X G z4
  have Z_tuple := PySem.W.mg_none_of X G z5
  have Z_list := PySem.W.mg_none_of X G z6
  have Z_zip := PySem.W.mg_none_of X G z7
  have Z_repr := PySem.W.mg_none_of X G z8
  have Z_sum := PySem.W.mg_none_of X G z9
  have Z_max := PySem.W.mg_none_of X G z10
  have V_gcd := PySem.W.mg_of X G x0
  have V_lcm := PySem.W.mg_of X G x1
  have V_GAP := PySem.W.mg_of X G x2
  subst tc0 td0 ti0
  have C_NOUGHT : CT K mg "NOUGHT" (.tuple [.int 0, .int 1]) := ⟨aT0, PySem.W.mg_of X G ta0, fun F => .tup (xs := [.int 0, .int 1]) (.inr ⟨to0, fun H => .inr ⟨_, _, _, tl0, rfl, rfl, by show 2 ≤ sizeLine; decide, .cons ⟨uT0, rfl⟩ (.cons ⟨vT0, rfl⟩ .nil)⟩⟩) (.cons (.int _) (.one (.int _)))⟩
  have S_Never : SupC l.prog K ANever fINever "Never.__init__" (defArgs sINever) (defBody sINever) (defScope sINever) := ⟨xNever, iNever, tNever, kNever, ⟨_, cNever⟩, mNever, sNever, vNever, bNever, yNever, eT, eS, eP, ⟨_, _, _, _, _, _, _, _, _, _, _, _, _, _, _, _, _, _, _, lNever, oNever, dNever, fNever, FNever, eNever⟩⟩
  have Z : Errs l.prog K mg ANever AChainError := { g_ChainError := PySem.W.mg_of X G eB, n_ValueError := PySem.W.mg_none_of X G eNValueError, n_isinstance := PySem.W.mg_none_of X G eNisinstance, g_Never := PySem.W.mg_of X G gNever, x_Never := ⟨q1Never, q2Never, bNever, q4Never, q5Never, q6Never, q7Never, q8Never⟩, k_Never_ChainError := u1Never, k_Never_ValueError := u2Never, mk_Never := mkNever S_Never, e_Never_Never := PySem.W.exm_ref bNever q4Never yNever wNeverNever }
  have TX : Tx mg := ⟨Z_len, Z_int, Z_abs⟩
  have T : Ty2 mg := ⟨Z_len, Z_int, Z_abs, Z_range, Z_enumerate, Z_tuple, Z_list, Z_zip, Z_repr, Z_sum, Z_max, V_gcd, V_lcm, ⟨_, V_GAP⟩⟩
  have TN : TyN K mg := ⟨C_NOUGHT⟩
  have F0 := fun_mk (st := sLeastM) l0 c0 k0
  have m0 := PySem.W.mg_of X G a0
  have b0 := F0.binds (ps := ["numbers"]) fun _ _ _ _ _ _ us hl => match us, hl with | [_], _ => rfl
  have G_least_multiple : Cal l.prog w K mg base jarBox 1 "least_multiple" ["numbers"] 1 leastMF := ⟨⟨f0, _, m0, k0, b0, ok_leastM F0 T⟩, (by intro ts Q h; first | (obtain ⟨_, rfl, _⟩ := h; rfl; done) | (obtain ⟨_, _, rfl, _⟩ := h; rfl; done) | (obtain ⟨_, _, _, rfl, _⟩ := h; rfl; done) | (obtain ⟨_, _, _, _, rfl, _⟩ := h; rfl; done) | (obtain ⟨_, _, _, _, _, rfl, _⟩ := h; rfl; done) | (obtain ⟨_, _, _, _, _, _, rfl, _⟩ := h; rfl; done) | (obtain ⟨_, _, _, _, _, _, _, rfl, _⟩ := h; rfl; done) | (obtain ⟨_, _, _, _, _, _, _, _, rfl, _⟩ := h; rfl; done) | (obtain ⟨_, _, _, _, _, _, _, _, _, rfl, _⟩ := h; rfl; done) | (obtain ⟨_, _, _, _, _, _, _, _, _, _, rfl, _⟩ := h; rfl; done) | (obtain ⟨_, _, _, _, _, _, _, _, _, _, _, rfl, _⟩ := h; rfl; done) | (obtain ⟨_, _, _, _, _, _, _, _, _, _, _, _, rfl, _⟩ := h; rfl; done) | (obtain ⟨_, _, _, _, _, _, _, _, _, _, _, _, _, rfl, _⟩ := h; rfl; done) | (obtain ⟨_, _, _, _, _, _, _, _, _, _, _, _, _, _, rfl, _⟩ := h; rfl; done) | (obtain ⟨_, h⟩ := h; rcases h with ⟨_, rfl, _⟩ | ⟨_, rfl, _⟩ <;> rfl))⟩
  have F1 := fun_mk (st := sLowest) l1 c1 k1
  have m1 := PySem.W.mg_of X G a1
  have b1 := F1.binds (ps := ["a", "b"]) fun _ _ _ _ _ _ us hl => match us, hl with | [_, _], _ => rfl
  have G_lowest : Cal l.prog w K mg base jarBox 1 "lowest" ["a", "b"] 2 lowestF := ⟨⟨f1, _, m1, k1, b1, ok_lowest F1 T⟩, (by intro ts Q h; first | (obtain ⟨_, rfl, _⟩ := h; rfl; done) | (obtain ⟨_, _, rfl, _⟩ := h; rfl; done) | (obtain ⟨_, _, _, rfl, _⟩ := h; rfl; done) | (obtain ⟨_, _, _, _, rfl, _⟩ := h; rfl; done) | (obtain ⟨_, _, _, _, _, rfl, _⟩ := h; rfl; done) | (obtain ⟨_, _, _, _, _, _, rfl, _⟩ := h; rfl; done) | (obtain ⟨_, _, _, _, _, _, _, rfl, _⟩ := h; rfl; done) | (obtain ⟨_, _, _, _, _, _, _, _, rfl, _⟩ := h; rfl; done) | (obtain ⟨_, _, _, _, _, _, _, _, _, rfl, _⟩ := h; rfl; done) | (obtain ⟨_, _, _, _, _, _, _, _, _, _, rfl, _⟩ := h; rfl; done) | (obtain ⟨_, _, _, _, _, _, _, _, _, _, _, rfl, _⟩ := h; rfl; done) | (obtain ⟨_, _, _, _, _, _, _, _, _, _, _, _, rfl, _⟩ := h; rfl; done) | (obtain ⟨_, _, _, _, _, _, _, _, _, _, _, _, _, rfl, _⟩ := h; rfl; done) | (obtain ⟨_, _, _, _, _, _, _, _, _, _, _, _, _, _, rfl, _⟩ := h; rfl; done) | (obtain ⟨_, h⟩ := h; rcases h with ⟨_, rfl, _⟩ | ⟨_, rfl, _⟩ <;> rfl))⟩
  have F2 := fun_mk (st := sAdded) l2 c2 k2
  have m2 := PySem.W.mg_of X G a2
  have b2 := F2.binds (ps := ["one", "other"]) fun _ _ _ _ _ _ us hl => match us, hl with | [_, _], _ => rfl
  have G_added : Cal l.prog w K mg base jarBox 2 "added" ["one", "other"] 2 addF := ⟨⟨f2, _, m2, k2, b2, ok_added F2 ⟨G_lowest⟩⟩, (by intro ts Q h; first | (obtain ⟨_, rfl, _⟩ := h; rfl; done) | (obtain ⟨_, _, rfl, _⟩ := h; rfl; done) | (obtain ⟨_, _, _, rfl, _⟩ := h; rfl; done) | (obtain ⟨_, _, _, _, rfl, _⟩ := h; rfl; done) | (obtain ⟨_, _, _, _, _, rfl, _⟩ := h; rfl; done) | (obtain ⟨_, _, _, _, _, _, rfl, _⟩ := h; rfl; done) | (obtain ⟨_, _, _, _, _, _, _, rfl, _⟩ := h; rfl; done) | (obtain ⟨_, _, _, _, _, _, _, _, rfl, _⟩ := h; rfl; done) | (obtain ⟨_, _, _, _, _, _, _, _, _, rfl, _⟩ := h; rfl; done) | (obtain ⟨_, _, _, _, _, _, _, _, _, _, rfl, _⟩ := h; rfl; done) | (obtain ⟨_, _, _, _, _, _, _, _, _, _, _, rfl, _⟩ := h; rfl; done) | (obtain ⟨_, _, _, _, _, _, _, _, _, _, _, _, rfl, _⟩ := h; rfl; done) | (obtain ⟨_, _, _, _, _, _, _, _, _, _, _, _, _, rfl, _⟩ := h; rfl; done) | (obtain ⟨_, _, _, _, _, _, _, _, _, _, _, _, _, _, rfl, _⟩ := h; rfl; done) | (obtain ⟨_, h⟩ := h; rcases h with ⟨_, rfl, _⟩ | ⟨_, rfl, _⟩ <;> rfl))⟩
  have F3 := fun_mk (st := sMultiplied) l3 c3 k3
  have m3 := PySem.W.mg_of X G a3
  have b3 := F3.binds (ps := ["one", "other"]) fun _ _ _ _ _ _ us hl => match us, hl with | [_, _], _ => rfl
  have G_multiplied : Cal l.prog w K mg base jarBox 2 "multiplied" ["one", "other"] 2 mulF := ⟨⟨f3, _, m3, k3, b3, ok_multiplied F3 ⟨G_lowest⟩⟩, (by intro ts Q h; first | (obtain ⟨_, rfl, _⟩ := h; rfl; done) | (obtain ⟨_, _, rfl, _⟩ := h; rfl; done) | (obtain ⟨_, _, _, rfl, _⟩ := h; rfl; done) | (obtain ⟨_, _, _, _, rfl, _⟩ := h; rfl; done) | (obtain ⟨_, _, _, _, _, rfl, _⟩ := h; rfl; done) | (obtain ⟨_, _, _, _, _, _, rfl, _⟩ := h; rfl; done) | (obtain ⟨_, _, _, _, _, _, _, rfl, _⟩ := h; rfl; done) | (obtain ⟨_, _, _, _, _, _, _, _, rfl, _⟩ := h; rfl; done) | (obtain ⟨_, _, _, _, _, _, _, _, _, rfl, _⟩ := h; rfl; done) | (obtain ⟨_, _, _, _, _, _, _, _, _, _, rfl, _⟩ := h; rfl; done) | (obtain ⟨_, _, _, _, _, _, _, _, _, _, _, rfl, _⟩ := h; rfl; done) | (obtain ⟨_, _, _, _, _, _, _, _, _, _, _, _, rfl, _⟩ := h; rfl; done) | (obtain ⟨_, _, _, _, _, _, _, _, _, _, _, _, _, rfl, _⟩ := h; rfl; done) | (obtain ⟨_, _, _, _, _, _, _, _, _, _, _, _, _, _, rfl, _⟩ := h; rfl; done) | (obtain ⟨_, h⟩ := h; rcases h with ⟨_, rfl, _⟩ | ⟨_, rfl, _⟩ <;> rfl))⟩
  have F4 := fun_mk (st := sDivided) l4 c4 k4
  have m4 := PySem.W.mg_of X G a4
  have b4 := F4.binds (ps := ["one", "other"]) fun _ _ _ _ _ _ us hl => match us, hl with | [_, _], _ => rfl
  have G_divided : Cal l.prog w K mg base jarBox 2 "divided" ["one", "other"] 2 divF := ⟨⟨f4, _, m4, k4, b4, ok_divided F4 ⟨G_lowest⟩⟩, (by intro ts Q h; first | (obtain ⟨_, rfl, _⟩ := h; rfl; done) | (obtain ⟨_, _, rfl, _⟩ := h; rfl; done) | (obtain ⟨_, _, _, rfl, _⟩ := h; rfl; done) | (obtain ⟨_, _, _, _, rfl, _⟩ := h; rfl; done) | (obtain ⟨_, _, _, _, _, rfl, _⟩ := h; rfl; done) | (obtain ⟨_, _, _, _, _, _, rfl, _⟩ := h; rfl; done) | (obtain ⟨_, _, _, _, _, _, _, rfl, _⟩ := h; rfl; done) | (obtain ⟨_, _, _, _, _, _, _, _, rfl, _⟩ := h; rfl; done) | (obtain ⟨_, _, _, _, _, _, _, _, _, rfl, _⟩ := h; rfl; done) | (obtain ⟨_, _, _, _, _, _, _, _, _, _, rfl, _⟩ := h; rfl; done) | (obtain ⟨_, _, _, _, _, _, _, _, _, _, _, rfl, _⟩ := h; rfl; done) | (obtain ⟨_, _, _, _, _, _, _, _, _, _, _, _, rfl, _⟩ := h; rfl; done) | (obtain ⟨_, _, _, _, _, _, _, _, _, _, _, _, _, rfl, _⟩ := h; rfl; done) | (obtain ⟨_, _, _, _, _, _, _, _, _, _, _, _, _, _, rfl, _⟩ := h; rfl; done) | (obtain ⟨_, h⟩ := h; rcases h with ⟨_, rfl, _⟩ | ⟨_, rfl, _⟩ <;> rfl))⟩
  have F5 := fun_mk (st := sScaled) l5 c5 k5
  have m5 := PySem.W.mg_of X G a5
  have b5 := F5.binds (ps := ["lines"]) fun _ _ _ _ _ _ us hl => match us, hl with | [_], _ => rfl
  have G_scaled : Cal l.prog w K mg base jarBox 2 "scaled" ["lines"] 1 linesF := ⟨⟨f5, _, m5, k5, b5, ok_scaled F5 T ⟨G_least_multiple⟩⟩, (by intro ts Q h; first | (obtain ⟨_, rfl, _⟩ := h; rfl; done) | (obtain ⟨_, _, rfl, _⟩ := h; rfl; done) | (obtain ⟨_, _, _, rfl, _⟩ := h; rfl; done) | (obtain ⟨_, _, _, _, rfl, _⟩ := h; rfl; done) | (obtain ⟨_, _, _, _, _, rfl, _⟩ := h; rfl; done) | (obtain ⟨_, _, _, _, _, _, rfl, _⟩ := h; rfl; done) | (obtain ⟨_, _, _, _, _, _, _, rfl, _⟩ := h; rfl; done) | (obtain ⟨_, _, _, _, _, _, _, _, rfl, _⟩ := h; rfl; done) | (obtain ⟨_, _, _, _, _, _, _, _, _, rfl, _⟩ := h; rfl; done) | (obtain ⟨_, _, _, _, _, _, _, _, _, _, rfl, _⟩ := h; rfl; done) | (obtain ⟨_, _, _, _, _, _, _, _, _, _, _, rfl, _⟩ := h; rfl; done) | (obtain ⟨_, _, _, _, _, _, _, _, _, _, _, _, rfl, _⟩ := h; rfl; done) | (obtain ⟨_, _, _, _, _, _, _, _, _, _, _, _, _, rfl, _⟩ := h; rfl; done) | (obtain ⟨_, _, _, _, _, _, _, _, _, _, _, _, _, _, rfl, _⟩ := h; rfl; done) | (obtain ⟨_, h⟩ := h; rcases h with ⟨_, rfl, _⟩ | ⟨_, rfl, _⟩ <;> rfl))⟩
  have F6 := fun_mk (st := sGone) l6 c6 k6
  have m6 := PySem.W.mg_of X G a6
  have b6 := F6.binds (ps := ["row", "steps"]) fun _ _ _ _ _ _ us hl => match us, hl with | [_, _], _ => rfl
  have G_gone_on : Cal l.prog w K mg base jarBox 1 "gone_on" ["row", "steps"] 2 goneF := ⟨⟨f6, _, m6, k6, b6, ok_gone F6 T⟩, (by intro ts Q h; first | (obtain ⟨_, rfl, _⟩ := h; rfl; done) | (obtain ⟨_, _, rfl, _⟩ := h; rfl; done) | (obtain ⟨_, _, _, rfl, _⟩ := h; rfl; done) | (obtain ⟨_, _, _, _, rfl, _⟩ := h; rfl; done) | (obtain ⟨_, _, _, _, _, rfl, _⟩ := h; rfl; done) | (obtain ⟨_, _, _, _, _, _, rfl, _⟩ := h; rfl; done) | (obtain ⟨_, _, _, _, _, _, _, rfl, _⟩ := h; rfl; done) | (obtain ⟨_, _, _, _, _, _, _, _, rfl, _⟩ := h; rfl; done) | (obtain ⟨_, _, _, _, _, _, _, _, _, rfl, _⟩ := h; rfl; done) | (obtain ⟨_, _, _, _, _, _, _, _, _, _, rfl, _⟩ := h; rfl; done) | (obtain ⟨_, _, _, _, _, _, _, _, _, _, _, rfl, _⟩ := h; rfl; done) | (obtain ⟨_, _, _, _, _, _, _, _, _, _, _, _, rfl, _⟩ := h; rfl; done) | (obtain ⟨_, _, _, _, _, _, _, _, _, _, _, _, _, rfl, _⟩ := h; rfl; done) | (obtain ⟨_, _, _, _, _, _, _, _, _, _, _, _, _, _, rfl, _⟩ := h; rfl; done) | (obtain ⟨_, h⟩ := h; rcases h with ⟨_, rfl, _⟩ | ⟨_, rfl, _⟩ <;> rfl))⟩
  have F7 := fun_mk (st := sChance) l7 c7 k7
  have m7 := PySem.W.mg_of X G a7
  have b7 := F7.binds (ps := ["chain", "view"]) fun _ _ _ _ _ _ us hl => match us, hl with | [_, _], _ => rfl
  have G_chance : Cal l.prog w K mg base jarBox 3 "chance" ["chain", "view"] 2 chanceF := ⟨⟨f7, _, m7, k7, b7, ok_chance F7 T ⟨G_lowest, G_scaled, G_gone_on⟩⟩, (by intro ts Q h; first | (obtain ⟨_, rfl, _⟩ := h; rfl; done) | (obtain ⟨_, _, rfl, _⟩ := h; rfl; done) | (obtain ⟨_, _, _, rfl, _⟩ := h; rfl; done) | (obtain ⟨_, _, _, _, rfl, _⟩ := h; rfl; done) | (obtain ⟨_, _, _, _, _, rfl, _⟩ := h; rfl; done) | (obtain ⟨_, _, _, _, _, _, rfl, _⟩ := h; rfl; done) | (obtain ⟨_, _, _, _, _, _, _, rfl, _⟩ := h; rfl; done) | (obtain ⟨_, _, _, _, _, _, _, _, rfl, _⟩ := h; rfl; done) | (obtain ⟨_, _, _, _, _, _, _, _, _, rfl, _⟩ := h; rfl; done) | (obtain ⟨_, _, _, _, _, _, _, _, _, _, rfl, _⟩ := h; rfl; done) | (obtain ⟨_, _, _, _, _, _, _, _, _, _, _, rfl, _⟩ := h; rfl; done) | (obtain ⟨_, _, _, _, _, _, _, _, _, _, _, _, rfl, _⟩ := h; rfl; done) | (obtain ⟨_, _, _, _, _, _, _, _, _, _, _, _, _, rfl, _⟩ := h; rfl; done) | (obtain ⟨_, _, _, _, _, _, _, _, _, _, _, _, _, _, rfl, _⟩ := h; rfl; done) | (obtain ⟨_, h⟩ := h; rcases h with ⟨_, rfl, _⟩ | ⟨_, rfl, _⟩ <;> rfl))⟩
  have F8 := fun_mk (st := sCheck) l8 c8 k8
  have m8 := PySem.W.mg_of X G a8
  have b8 := F8.binds (ps := ["one", "other"]) fun _ _ _ _ _ _ us hl => match us, hl with | [_, _], _ => rfl
  have G_check_signs : Cal l.prog w K mg base jarBox 1 "check_signs" ["one", "other"] 2 checkF := ⟨⟨f8, _, m8, k8, b8, ok_check F8 ⟩, (by intro ts Q h; first | (obtain ⟨_, rfl, _⟩ := h; rfl; done) | (obtain ⟨_, _, rfl, _⟩ := h; rfl; done) | (obtain ⟨_, _, _, rfl, _⟩ := h; rfl; done) | (obtain ⟨_, _, _, _, rfl, _⟩ := h; rfl; done) | (obtain ⟨_, _, _, _, _, rfl, _⟩ := h; rfl; done) | (obtain ⟨_, _, _, _, _, _, rfl, _⟩ := h; rfl; done) | (obtain ⟨_, _, _, _, _, _, _, rfl, _⟩ := h; rfl; done) | (obtain ⟨_, _, _, _, _, _, _, _, rfl, _⟩ := h; rfl; done) | (obtain ⟨_, _, _, _, _, _, _, _, _, rfl, _⟩ := h; rfl; done) | (obtain ⟨_, _, _, _, _, _, _, _, _, _, rfl, _⟩ := h; rfl; done) | (obtain ⟨_, _, _, _, _, _, _, _, _, _, _, rfl, _⟩ := h; rfl; done) | (obtain ⟨_, _, _, _, _, _, _, _, _, _, _, _, rfl, _⟩ := h; rfl; done) | (obtain ⟨_, _, _, _, _, _, _, _, _, _, _, _, _, rfl, _⟩ := h; rfl; done) | (obtain ⟨_, _, _, _, _, _, _, _, _, _, _, _, _, _, rfl, _⟩ := h; rfl; done) | (obtain ⟨_, h⟩ := h; rcases h with ⟨_, rfl, _⟩ | ⟨_, rfl, _⟩ <;> rfl))⟩
  have F9 := fun_mk (st := sToldBy) l9 c9 k9
  have m9 := PySem.W.mg_of X G a9
  have b9 := F9.binds (ps := ["one", "other", "first", "second", "view"]) fun _ _ _ _ _ _ us hl => match us, hl with | [_, _, _, _, _], _ => rfl
  have G_told_by : CalX l.prog w K mg base jarBox 4 "told_by" ["one", "other", "first", "second", "view"] 5 (toldX ANever) := ⟨⟨f9, _, m9, k9, b9, ok_toldBy F9 TN Z ⟨G_check_signs, G_multiplied, G_added, G_divided, G_chance⟩⟩, (by intro ts Q E h; first | (obtain ⟨_, rfl, _⟩ := h; rfl; done) | (obtain ⟨_, _, rfl, _⟩ := h; rfl; done) | (obtain ⟨_, _, _, rfl, _⟩ := h; rfl; done) | (obtain ⟨_, _, _, _, rfl, _⟩ := h; rfl; done) | (obtain ⟨_, _, _, _, _, rfl, _⟩ := h; rfl; done) | (obtain ⟨_, _, _, _, _, _, rfl, _⟩ := h; rfl; done) | (obtain ⟨_, _, _, _, _, _, _, rfl, _⟩ := h; rfl; done) | (obtain ⟨_, _, _, _, _, _, _, _, rfl, _⟩ := h; rfl; done) | (obtain ⟨_, _, _, _, _, _, _, _, _, rfl, _⟩ := h; rfl; done) | (obtain ⟨_, _, _, _, _, _, _, _, _, _, rfl, _⟩ := h; rfl; done) | (obtain ⟨_, _, _, _, _, _, _, _, _, _, _, rfl, _⟩ := h; rfl; done) | (obtain ⟨_, _, _, _, _, _, _, _, _, _, _, _, rfl, _⟩ := h; rfl; done) | (obtain ⟨_, _, _, _, _, _, _, _, _, _, _, _, _, rfl, _⟩ := h; rfl; done) | (obtain ⟨_, _, _, _, _, _, _, _, _, _, _, _, _, _, rfl, _⟩ := h; rfl; done) | (obtain ⟨_, h⟩ := h; rcases h with ⟨_, rfl, _⟩ | ⟨_, rfl, _⟩ <;> rfl))⟩
  have G_told_by_k_view_second_first_other_one : CalKX l.prog w K mg base jarBox 4 "told_by" ["one", "other", "first", "second", "view"] 5 (toldX ANever) ["view", "second", "first", "other", "one"] 0 [4, 3, 2, 1, 0] := ⟨⟨f9, _, m9, k9, funKB F9 (by decide) (fun _ _ _ _ _ _ us ws hu hw => match us, ws, hu, hw with | [], [_, _, _, _, _], _, _ => rfl), ok_toldBy F9 TN Z ⟨G_check_signs, G_multiplied, G_added, G_divided, G_chance⟩⟩, (by intro ts Q E h; first | (obtain ⟨_, rfl, _⟩ := h; rfl; done) | (obtain ⟨_, _, rfl, _⟩ := h; rfl; done) | (obtain ⟨_, _, _, rfl, _⟩ := h; rfl; done) | (obtain ⟨_, _, _, _, rfl, _⟩ := h; rfl; done) | (obtain ⟨_, _, _, _, _, rfl, _⟩ := h; rfl; done) | (obtain ⟨_, _, _, _, _, _, rfl, _⟩ := h; rfl; done) | (obtain ⟨_, _, _, _, _, _, _, rfl, _⟩ := h; rfl; done) | (obtain ⟨_, _, _, _, _, _, _, _, rfl, _⟩ := h; rfl; done) | (obtain ⟨_, _, _, _, _, _, _, _, _, rfl, _⟩ := h; rfl; done) | (obtain ⟨_, _, _, _, _, _, _, _, _, _, rfl, _⟩ := h; rfl; done) | (obtain ⟨_, _, _, _, _, _, _, _, _, _, _, rfl, _⟩ := h; rfl; done) | (obtain ⟨_, _, _, _, _, _, _, _, _, _, _, _, rfl, _⟩ := h; rfl; done) | (obtain ⟨_, _, _, _, _, _, _, _, _, _, _, _, _, rfl, _⟩ := h; rfl; done) | (obtain ⟨_, _, _, _, _, _, _, _, _, _, _, _, _, _, rfl, _⟩ := h; rfl; done) | (obtain ⟨_, h⟩ := h; rcases h with ⟨_, rfl, _⟩ | ⟨_, rfl, _⟩ <;> rfl))⟩
  have F10 := fun_mk (st := sJar) l10 c10 k10
  have m10 := PySem.W.mg_of X G a10
  have b10 := F10.binds (ps := ["script"]) fun _ _ _ _ _ _ us hl => match us, hl with | [_], _ => rfl
  have G__law_jar := (⟨f10, _, m10, k10, b10, ok_jar F10 TX⟩ : ∃ f fd, mg "_law_jar" = some (.ref f) ∧ PySem.W.keepIn K (.ref f) = true ∧ Binds K fd ["script"] [] ∧ FnOk l.prog w K mg base CX0 1 f fd ["script"] (spBox K jarBox))
  have F11 := fun_mk (st := sDraw) l11 c11 k11
  have m11 := PySem.W.mg_of X G a11
  have b11 := F11.binds (ps := ["jar", "many"]) fun _ _ _ _ _ _ us hl => match us, hl with | [_, _], _ => rfl
  have G__law_draw : Cal l.prog w K mg base jarBox 1 "_law_draw" ["jar", "many"] 2 drawF := ⟨⟨f11, _, m11, k11, b11, fnG_of (ok_draw F11 TX)⟩, (by intro ts Q h; first | (obtain ⟨_, rfl, _⟩ := h; rfl; done) | (obtain ⟨_, _, rfl, _⟩ := h; rfl; done) | (obtain ⟨_, _, _, rfl, _⟩ := h; rfl; done) | (obtain ⟨_, _, _, _, rfl, _⟩ := h; rfl; done) | (obtain ⟨_, _, _, _, _, rfl, _⟩ := h; rfl; done) | (obtain ⟨_, _, _, _, _, _, rfl, _⟩ := h; rfl; done) | (obtain ⟨_, _, _, _, _, _, _, rfl, _⟩ := h; rfl; done) | (obtain ⟨_, _, _, _, _, _, _, _, rfl, _⟩ := h; rfl; done) | (obtain ⟨_, _, _, _, _, _, _, _, _, rfl, _⟩ := h; rfl; done) | (obtain ⟨_, _, _, _, _, _, _, _, _, _, rfl, _⟩ := h; rfl; done) | (obtain ⟨_, _, _, _, _, _, _, _, _, _, _, rfl, _⟩ := h; rfl; done) | (obtain ⟨_, _, _, _, _, _, _, _, _, _, _, _, rfl, _⟩ := h; rfl; done) | (obtain ⟨_, _, _, _, _, _, _, _, _, _, _, _, _, rfl, _⟩ := h; rfl; done) | (obtain ⟨_, _, _, _, _, _, _, _, _, _, _, _, _, _, rfl, _⟩ := h; rfl; done) | (obtain ⟨_, h⟩ := h; rcases h with ⟨_, rfl, _⟩ | ⟨_, rfl, _⟩ <;> rfl))⟩
  have F12 := fun_mk (st := sPick) l12 c12 k12
  have m12 := PySem.W.mg_of X G a12
  have b12 := F12.binds (ps := ["jar", "items"]) fun _ _ _ _ _ _ us hl => match us, hl with | [_, _], _ => rfl
  have G__law_pick : Cal l.prog w K mg base jarBox 2 "_law_pick" ["jar", "items"] 2 pickF := ⟨⟨f12, _, m12, k12, b12, ok_pick F12 T ⟨G__law_draw⟩⟩, (by intro ts Q h; first | (obtain ⟨_, rfl, _⟩ := h; rfl; done) | (obtain ⟨_, _, rfl, _⟩ := h; rfl; done) | (obtain ⟨_, _, _, rfl, _⟩ := h; rfl; done) | (obtain ⟨_, _, _, _, rfl, _⟩ := h; rfl; done) | (obtain ⟨_, _, _, _, _, rfl, _⟩ := h; rfl; done) | (obtain ⟨_, _, _, _, _, _, rfl, _⟩ := h; rfl; done) | (obtain ⟨_, _, _, _, _, _, _, rfl, _⟩ := h; rfl; done) | (obtain ⟨_, _, _, _, _, _, _, _, rfl, _⟩ := h; rfl; done) | (obtain ⟨_, _, _, _, _, _, _, _, _, rfl, _⟩ := h; rfl; done) | (obtain ⟨_, _, _, _, _, _, _, _, _, _, rfl, _⟩ := h; rfl; done) | (obtain ⟨_, _, _, _, _, _, _, _, _, _, _, rfl, _⟩ := h; rfl; done) | (obtain ⟨_, _, _, _, _, _, _, _, _, _, _, _, rfl, _⟩ := h; rfl; done) | (obtain ⟨_, _, _, _, _, _, _, _, _, _, _, _, _, rfl, _⟩ := h; rfl; done) | (obtain ⟨_, _, _, _, _, _, _, _, _, _, _, _, _, _, rfl, _⟩ := h; rfl; done) | (obtain ⟨_, h⟩ := h; rcases h with ⟨_, rfl, _⟩ | ⟨_, rfl, _⟩ <;> rfl))⟩
  have F13 := fun_mk (st := sGcd) l13 c13 k13
  have m13 := PySem.W.mg_of X G a13
  have b13 := F13.binds (ps := ["a", "b"]) fun _ _ _ _ _ _ us hl => match us, hl with | [_, _], _ => rfl
  have G__law_gcd : Cal l.prog w K mg base jarBox 1 "_law_gcd" ["a", "b"] 2 gcdF := ⟨⟨f13, _, m13, k13, b13, ok_gcd F13 T⟩, (by intro ts Q h; first | (obtain ⟨_, rfl, _⟩ := h; rfl; done) | (obtain ⟨_, _, rfl, _⟩ := h; rfl; done) | (obtain ⟨_, _, _, rfl, _⟩ := h; rfl; done) | (obtain ⟨_, _, _, _, rfl, _⟩ := h; rfl; done) | (obtain ⟨_, _, _, _, _, rfl, _⟩ := h; rfl; done) | (obtain ⟨_, _, _, _, _, _, rfl, _⟩ := h; rfl; done) | (obtain ⟨_, _, _, _, _, _, _, rfl, _⟩ := h; rfl; done) | (obtain ⟨_, _, _, _, _, _, _, _, rfl, _⟩ := h; rfl; done) | (obtain ⟨_, _, _, _, _, _, _, _, _, rfl, _⟩ := h; rfl; done) | (obtain ⟨_, _, _, _, _, _, _, _, _, _, rfl, _⟩ := h; rfl; done) | (obtain ⟨_, _, _, _, _, _, _, _, _, _, _, rfl, _⟩ := h; rfl; done) | (obtain ⟨_, _, _, _, _, _, _, _, _, _, _, _, rfl, _⟩ := h; rfl; done) | (obtain ⟨_, _, _, _, _, _, _, _, _, _, _, _, _, rfl, _⟩ := h; rfl; done) | (obtain ⟨_, _, _, _, _, _, _, _, _, _, _, _, _, _, rfl, _⟩ := h; rfl; done) | (obtain ⟨_, h⟩ := h; rcases h with ⟨_, rfl, _⟩ | ⟨_, rfl, _⟩ <;> rfl))⟩
  have F14 := fun_mk (st := sRatio) l14 c14 k14
  have m14 := PySem.W.mg_of X G a14
  have b14 := F14.binds (ps := ["a", "b"]) fun _ _ _ _ _ _ us hl => match us, hl with | [_, _], _ => rfl
  have G__law_ratio : Cal l.prog w K mg base jarBox 2 "_law_ratio" ["a", "b"] 2 ratioF := ⟨⟨f14, _, m14, k14, b14, ok_ratio F14 ⟨G__law_gcd⟩⟩, (by intro ts Q h; first | (obtain ⟨_, rfl, _⟩ := h; rfl; done) | (obtain ⟨_, _, rfl, _⟩ := h; rfl; done) | (obtain ⟨_, _, _, rfl, _⟩ := h; rfl; done) | (obtain ⟨_, _, _, _, rfl, _⟩ := h; rfl; done) | (obtain ⟨_, _, _, _, _, rfl, _⟩ := h; rfl; done) | (obtain ⟨_, _, _, _, _, _, rfl, _⟩ := h; rfl; done) | (obtain ⟨_, _, _, _, _, _, _, rfl, _⟩ := h; rfl; done) | (obtain ⟨_, _, _, _, _, _, _, _, rfl, _⟩ := h; rfl; done) | (obtain ⟨_, _, _, _, _, _, _, _, _, rfl, _⟩ := h; rfl; done) | (obtain ⟨_, _, _, _, _, _, _, _, _, _, rfl, _⟩ := h; rfl; done) | (obtain ⟨_, _, _, _, _, _, _, _, _, _, _, rfl, _⟩ := h; rfl; done) | (obtain ⟨_, _, _, _, _, _, _, _, _, _, _, _, rfl, _⟩ := h; rfl; done) | (obtain ⟨_, _, _, _, _, _, _, _, _, _, _, _, _, rfl, _⟩ := h; rfl; done) | (obtain ⟨_, _, _, _, _, _, _, _, _, _, _, _, _, _, rfl, _⟩ := h; rfl; done) | (obtain ⟨_, h⟩ := h; rcases h with ⟨_, rfl, _⟩ | ⟨_, rfl, _⟩ <;> rfl))⟩
  have F15 := fun_mk (st := sLine) l15 c15 k15
  have m15 := PySem.W.mg_of X G a15
  have b15 := F15.binds (ps := ["jar", "many"]) fun _ _ _ _ _ _ us hl => match us, hl with | [_, _], _ => rfl
  have G__law_line : Cal l.prog w K mg base jarBox 3 "_law_line" ["jar", "many"] 2 lineF := ⟨⟨f15, _, m15, k15, b15, ok_line F15 T ⟨⟨G__law_draw⟩, G__law_pick⟩⟩, (by intro ts Q h; first | (obtain ⟨_, rfl, _⟩ := h; rfl; done) | (obtain ⟨_, _, rfl, _⟩ := h; rfl; done) | (obtain ⟨_, _, _, rfl, _⟩ := h; rfl; done) | (obtain ⟨_, _, _, _, rfl, _⟩ := h; rfl; done) | (obtain ⟨_, _, _, _, _, rfl, _⟩ := h; rfl; done) | (obtain ⟨_, _, _, _, _, _, rfl, _⟩ := h; rfl; done) | (obtain ⟨_, _, _, _, _, _, _, rfl, _⟩ := h; rfl; done) | (obtain ⟨_, _, _, _, _, _, _, _, rfl, _⟩ := h; rfl; done) | (obtain ⟨_, _, _, _, _, _, _, _, _, rfl, _⟩ := h; rfl; done) | (obtain ⟨_, _, _, _, _, _, _, _, _, _, rfl, _⟩ := h; rfl; done) | (obtain ⟨_, _, _, _, _, _, _, _, _, _, _, rfl, _⟩ := h; rfl; done) | (obtain ⟨_, _, _, _, _, _, _, _, _, _, _, _, rfl, _⟩ := h; rfl; done) | (obtain ⟨_, _, _, _, _, _, _, _, _, _, _, _, _, rfl, _⟩ := h; rfl; done) | (obtain ⟨_, _, _, _, _, _, _, _, _, _, _, _, _, _, rfl, _⟩ := h; rfl; done) | (obtain ⟨_, h⟩ := h; rcases h with ⟨_, rfl, _⟩ | ⟨_, rfl, _⟩ <;> rfl))⟩
  have F16 := fun_mk (st := sChain) l16 c16 k16
  have m16 := PySem.W.mg_of X G a16
  have b16 := F16.binds (ps := ["jar", "many", "signs"]) fun _ _ _ _ _ _ us hl => match us, hl with | [_, _, _], _ => rfl
  have G__law_chain : Cal l.prog w K mg base jarBox 4 "_law_chain" ["jar", "many", "signs"] 3 chainF := ⟨⟨f16, _, m16, k16, b16, ok_chain F16 T ⟨G__law_line⟩⟩, (by intro ts Q h; first | (obtain ⟨_, rfl, _⟩ := h; rfl; done) | (obtain ⟨_, _, rfl, _⟩ := h; rfl; done) | (obtain ⟨_, _, _, rfl, _⟩ := h; rfl; done) | (obtain ⟨_, _, _, _, rfl, _⟩ := h; rfl; done) | (obtain ⟨_, _, _, _, _, rfl, _⟩ := h; rfl; done) | (obtain ⟨_, _, _, _, _, _, rfl, _⟩ := h; rfl; done) | (obtain ⟨_, _, _, _, _, _, _, rfl, _⟩ := h; rfl; done) | (obtain ⟨_, _, _, _, _, _, _, _, rfl, _⟩ := h; rfl; done) | (obtain ⟨_, _, _, _, _, _, _, _, _, rfl, _⟩ := h; rfl; done) | (obtain ⟨_, _, _, _, _, _, _, _, _, _, rfl, _⟩ := h; rfl; done) | (obtain ⟨_, _, _, _, _, _, _, _, _, _, _, rfl, _⟩ := h; rfl; done) | (obtain ⟨_, _, _, _, _, _, _, _, _, _, _, _, rfl, _⟩ := h; rfl; done) | (obtain ⟨_, _, _, _, _, _, _, _, _, _, _, _, _, rfl, _⟩ := h; rfl; done) | (obtain ⟨_, _, _, _, _, _, _, _, _, _, _, _, _, _, rfl, _⟩ := h; rfl; done) | (obtain ⟨_, h⟩ := h; rcases h with ⟨_, rfl, _⟩ | ⟨_, rfl, _⟩ <;> rfl))⟩
  have F17 := fun_mk (st := sLevel) l17 c17 k17
  have m17 := PySem.W.mg_of X G a17
  have b17 := F17.binds (ps := ["lines"]) fun _ _ _ _ _ _ us hl => match us, hl with | [_], _ => rfl
  have G__law_level : Cal l.prog w K mg base jarBox 2 "_law_level" ["lines"] 1 linesF := ⟨⟨f17, _, m17, k17, b17, ok_level F17 T ⟨G__law_gcd⟩⟩, (by intro ts Q h; first | (obtain ⟨_, rfl, _⟩ := h; rfl; done) | (obtain ⟨_, _, rfl, _⟩ := h; rfl; done) | (obtain ⟨_, _, _, rfl, _⟩ := h; rfl; done) | (obtain ⟨_, _, _, _, rfl, _⟩ := h; rfl; done) | (obtain ⟨_, _, _, _, _, rfl, _⟩ := h; rfl; done) | (obtain ⟨_, _, _, _, _, _, rfl, _⟩ := h; rfl; done) | (obtain ⟨_, _, _, _, _, _, _, rfl, _⟩ := h; rfl; done) | (obtain ⟨_, _, _, _, _, _, _, _, rfl, _⟩ := h; rfl; done) | (obtain ⟨_, _, _, _, _, _, _, _, _, rfl, _⟩ := h; rfl; done) | (obtain ⟨_, _, _, _, _, _, _, _, _, _, rfl, _⟩ := h; rfl; done) | (obtain ⟨_, _, _, _, _, _, _, _, _, _, _, rfl, _⟩ := h; rfl; done) | (obtain ⟨_, _, _, _, _, _, _, _, _, _, _, _, rfl, _⟩ := h; rfl; done) | (obtain ⟨_, _, _, _, _, _, _, _, _, _, _, _, _, rfl, _⟩ := h; rfl; done) | (obtain ⟨_, _, _, _, _, _, _, _, _, _, _, _, _, _, rfl, _⟩ := h; rfl; done) | (obtain ⟨_, h⟩ := h; rcases h with ⟨_, rfl, _⟩ | ⟨_, rfl, _⟩ <;> rfl))⟩
  have F18 := fun_mk (st := sFlat) l18 c18 k18
  have m18 := PySem.W.mg_of X G a18
  have b18 := F18.binds (ps := ["chain"]) fun _ _ _ _ _ _ us hl => match us, hl with | [_], _ => rfl
  have G__law_flat : Cal l.prog w K mg base jarBox 3 "_law_flat" ["chain"] 1 flatF := ⟨⟨f18, _, m18, k18, b18, ok_flat F18 T ⟨G__law_level⟩⟩, (by intro ts Q h; first | (obtain ⟨_, rfl, _⟩ := h; rfl; done) | (obtain ⟨_, _, rfl, _⟩ := h; rfl; done) | (obtain ⟨_, _, _, rfl, _⟩ := h; rfl; done) | (obtain ⟨_, _, _, _, rfl, _⟩ := h; rfl; done) | (obtain ⟨_, _, _, _, _, rfl, _⟩ := h; rfl; done) | (obtain ⟨_, _, _, _, _, _, rfl, _⟩ := h; rfl; done) | (obtain ⟨_, _, _, _, _, _, _, rfl, _⟩ := h; rfl; done) | (obtain ⟨_, _, _, _, _, _, _, _, rfl, _⟩ := h; rfl; done) | (obtain ⟨_, _, _, _, _, _, _, _, _, rfl, _⟩ := h; rfl; done) | (obtain ⟨_, _, _, _, _, _, _, _, _, _, rfl, _⟩ := h; rfl; done) | (obtain ⟨_, _, _, _, _, _, _, _, _, _, _, rfl, _⟩ := h; rfl; done) | (obtain ⟨_, _, _, _, _, _, _, _, _, _, _, _, rfl, _⟩ := h; rfl; done) | (obtain ⟨_, _, _, _, _, _, _, _, _, _, _, _, _, rfl, _⟩ := h; rfl; done) | (obtain ⟨_, _, _, _, _, _, _, _, _, _, _, _, _, _, rfl, _⟩ := h; rfl; done) | (obtain ⟨_, h⟩ := h; rcases h with ⟨_, rfl, _⟩ | ⟨_, rfl, _⟩ <;> rfl))⟩
  have F19 := fun_mk (st := sTell) l19 c19 k19
  have m19 := PySem.W.mg_of X G a19
  have b19 := F19.binds (ps := ["flat", "state", "sign"]) fun _ _ _ _ _ _ us hl => match us, hl with | [_, _, _], _ => rfl
  have G__law_tell : Cal l.prog w K mg base jarBox 1 "_law_tell" ["flat", "state", "sign"] 3 tellF := ⟨⟨f19, _, m19, k19, b19, ok_tell F19 ⟩, (by intro ts Q h; first | (obtain ⟨_, rfl, _⟩ := h; rfl; done) | (obtain ⟨_, _, rfl, _⟩ := h; rfl; done) | (obtain ⟨_, _, _, rfl, _⟩ := h; rfl; done) | (obtain ⟨_, _, _, _, rfl, _⟩ := h; rfl; done) | (obtain ⟨_, _, _, _, _, rfl, _⟩ := h; rfl; done) | (obtain ⟨_, _, _, _, _, _, rfl, _⟩ := h; rfl; done) | (obtain ⟨_, _, _, _, _, _, _, rfl, _⟩ := h; rfl; done) | (obtain ⟨_, _, _, _, _, _, _, _, rfl, _⟩ := h; rfl; done) | (obtain ⟨_, _, _, _, _, _, _, _, _, rfl, _⟩ := h; rfl; done) | (obtain ⟨_, _, _, _, _, _, _, _, _, _, rfl, _⟩ := h; rfl; done) | (obtain ⟨_, _, _, _, _, _, _, _, _, _, _, rfl, _⟩ := h; rfl; done) | (obtain ⟨_, _, _, _, _, _, _, _, _, _, _, _, rfl, _⟩ := h; rfl; done) | (obtain ⟨_, _, _, _, _, _, _, _, _, _, _, _, _, rfl, _⟩ := h; rfl; done) | (obtain ⟨_, _, _, _, _, _, _, _, _, _, _, _, _, _, rfl, _⟩ := h; rfl; done) | (obtain ⟨_, h⟩ := h; rcases h with ⟨_, rfl, _⟩ | ⟨_, rfl, _⟩ <;> rfl))⟩
  have F20 := fun_mk (st := sAhead) l20 c20 k20
  have m20 := PySem.W.mg_of X G a20
  have b20 := F20.binds (ps := ["flat", "view"]) fun _ _ _ _ _ _ us hl => match us, hl with | [_, _], _ => rfl
  have G__law_ahead : Cal l.prog w K mg base jarBox 2 "_law_ahead" ["flat", "view"] 2 aheadF := ⟨⟨f20, _, m20, k20, b20, ok_ahead F20 T ⟨G__law_tell⟩⟩, (by intro ts Q h; first | (obtain ⟨_, rfl, _⟩ := h; rfl; done) | (obtain ⟨_, _, rfl, _⟩ := h; rfl; done) | (obtain ⟨_, _, _, rfl, _⟩ := h; rfl; done) | (obtain ⟨_, _, _, _, rfl, _⟩ := h; rfl; done) | (obtain ⟨_, _, _, _, _, rfl, _⟩ := h; rfl; done) | (obtain ⟨_, _, _, _, _, _, rfl, _⟩ := h; rfl; done) | (obtain ⟨_, _, _, _, _, _, _, rfl, _⟩ := h; rfl; done) | (obtain ⟨_, _, _, _, _, _, _, _, rfl, _⟩ := h; rfl; done) | (obtain ⟨_, _, _, _, _, _, _, _, _, rfl, _⟩ := h; rfl; done) | (obtain ⟨_, _, _, _, _, _, _, _, _, _, rfl, _⟩ := h; rfl; done) | (obtain ⟨_, _, _, _, _, _, _, _, _, _, _, rfl, _⟩ := h; rfl; done) | (obtain ⟨_, _, _, _, _, _, _, _, _, _, _, _, rfl, _⟩ := h; rfl; done) | (obtain ⟨_, _, _, _, _, _, _, _, _, _, _, _, _, rfl, _⟩ := h; rfl; done) | (obtain ⟨_, _, _, _, _, _, _, _, _, _, _, _, _, _, rfl, _⟩ := h; rfl; done) | (obtain ⟨_, h⟩ := h; rcases h with ⟨_, rfl, _⟩ | ⟨_, rfl, _⟩ <;> rfl))⟩
  have F21 := fun_mk (st := sBelow) l21 c21 k21
  have m21 := PySem.W.mg_of X G a21
  have b21 := F21.binds (ps := ["flat", "view"]) fun _ _ _ _ _ _ us hl => match us, hl with | [_, _], _ => rfl
  have G__law_below : Cal l.prog w K mg base jarBox 1 "_law_below" ["flat", "view"] 2 belowF := ⟨⟨f21, _, m21, k21, b21, ok_below F21 T⟩, (by intro ts Q h; first | (obtain ⟨_, rfl, _⟩ := h; rfl; done) | (obtain ⟨_, _, rfl, _⟩ := h; rfl; done) | (obtain ⟨_, _, _, rfl, _⟩ := h; rfl; done) | (obtain ⟨_, _, _, _, rfl, _⟩ := h; rfl; done) | (obtain ⟨_, _, _, _, _, rfl, _⟩ := h; rfl; done) | (obtain ⟨_, _, _, _, _, _, rfl, _⟩ := h; rfl; done) | (obtain ⟨_, _, _, _, _, _, _, rfl, _⟩ := h; rfl; done) | (obtain ⟨_, _, _, _, _, _, _, _, rfl, _⟩ := h; rfl; done) | (obtain ⟨_, _, _, _, _, _, _, _, _, rfl, _⟩ := h; rfl; done) | (obtain ⟨_, _, _, _, _, _, _, _, _, _, rfl, _⟩ := h; rfl; done) | (obtain ⟨_, _, _, _, _, _, _, _, _, _, _, rfl, _⟩ := h; rfl; done) | (obtain ⟨_, _, _, _, _, _, _, _, _, _, _, _, rfl, _⟩ := h; rfl; done) | (obtain ⟨_, _, _, _, _, _, _, _, _, _, _, _, _, rfl, _⟩ := h; rfl; done) | (obtain ⟨_, _, _, _, _, _, _, _, _, _, _, _, _, _, rfl, _⟩ := h; rfl; done) | (obtain ⟨_, h⟩ := h; rcases h with ⟨_, rfl, _⟩ | ⟨_, rfl, _⟩ <;> rfl))⟩
  have F22 := fun_mk (st := sWeight) l22 c22 k22
  have m22 := PySem.W.mg_of X G a22
  have b22 := F22.binds (ps := ["flat", "view"]) fun _ _ _ _ _ _ us hl => match us, hl with | [_, _], _ => rfl
  have G__law_weight : Cal l.prog w K mg base jarBox 3 "_law_weight" ["flat", "view"] 2 weightF := ⟨⟨f22, _, m22, k22, b22, ok_weight F22 T ⟨G__law_ahead⟩⟩, (by intro ts Q h; first | (obtain ⟨_, rfl, _⟩ := h; rfl; done) | (obtain ⟨_, _, rfl, _⟩ := h; rfl; done) | (obtain ⟨_, _, _, rfl, _⟩ := h; rfl; done) | (obtain ⟨_, _, _, _, rfl, _⟩ := h; rfl; done) | (obtain ⟨_, _, _, _, _, rfl, _⟩ := h; rfl; done) | (obtain ⟨_, _, _, _, _, _, rfl, _⟩ := h; rfl; done) | (obtain ⟨_, _, _, _, _, _, _, rfl, _⟩ := h; rfl; done) | (obtain ⟨_, _, _, _, _, _, _, _, rfl, _⟩ := h; rfl; done) | (obtain ⟨_, _, _, _, _, _, _, _, _, rfl, _⟩ := h; rfl; done) | (obtain ⟨_, _, _, _, _, _, _, _, _, _, rfl, _⟩ := h; rfl; done) | (obtain ⟨_, _, _, _, _, _, _, _, _, _, _, rfl, _⟩ := h; rfl; done) | (obtain ⟨_, _, _, _, _, _, _, _, _, _, _, _, rfl, _⟩ := h; rfl; done) | (obtain ⟨_, _, _, _, _, _, _, _, _, _, _, _, _, rfl, _⟩ := h; rfl; done) | (obtain ⟨_, _, _, _, _, _, _, _, _, _, _, _, _, _, rfl, _⟩ := h; rfl; done) | (obtain ⟨_, h⟩ := h; rcases h with ⟨_, rfl, _⟩ | ⟨_, rfl, _⟩ <;> rfl))⟩
  have F23 := fun_mk (st := sPair) l23 c23 k23
  have m23 := PySem.W.mg_of X G a23
  have b23 := F23.binds (ps := ["jar", "signs"]) fun _ _ _ _ _ _ us hl => match us, hl with | [_, _], _ => rfl
  have G__law_pair : Cal l.prog w K mg base jarBox 5 "_law_pair" ["jar", "signs"] 2 pairF := ⟨⟨f23, _, m23, k23, b23, ok_pair F23 T ⟨⟨G__law_draw⟩, G__law_chain⟩⟩, (by intro ts Q h; first | (obtain ⟨_, rfl, _⟩ := h; rfl; done) | (obtain ⟨_, _, rfl, _⟩ := h; rfl; done) | (obtain ⟨_, _, _, rfl, _⟩ := h; rfl; done) | (obtain ⟨_, _, _, _, rfl, _⟩ := h; rfl; done) | (obtain ⟨_, _, _, _, _, rfl, _⟩ := h; rfl; done) | (obtain ⟨_, _, _, _, _, _, rfl, _⟩ := h; rfl; done) | (obtain ⟨_, _, _, _, _, _, _, rfl, _⟩ := h; rfl; done) | (obtain ⟨_, _, _, _, _, _, _, _, rfl, _⟩ := h; rfl; done) | (obtain ⟨_, _, _, _, _, _, _, _, _, rfl, _⟩ := h; rfl; done) | (obtain ⟨_, _, _, _, _, _, _, _, _, _, rfl, _⟩ := h; rfl; done) | (obtain ⟨_, _, _, _, _, _, _, _, _, _, _, rfl, _⟩ := h; rfl; done) | (obtain ⟨_, _, _, _, _, _, _, _, _, _, _, _, rfl, _⟩ := h; rfl; done) | (obtain ⟨_, _, _, _, _, _, _, _, _, _, _, _, _, rfl, _⟩ := h; rfl; done) | (obtain ⟨_, _, _, _, _, _, _, _, _, _, _, _, _, _, rfl, _⟩ := h; rfl; done) | (obtain ⟨_, h⟩ := h; rcases h with ⟨_, rfl, _⟩ | ⟨_, rfl, _⟩ <;> rfl))⟩
  have F24 := fun_mk (st := sDue) l24 c24 k24
  have m24 := PySem.W.mg_of X G a24
  have b24 := F24.binds (ps := ["one", "other", "first", "second", "view"]) fun _ _ _ _ _ _ us hl => match us, hl with | [_, _, _, _, _], _ => rfl
  have G__law_due : Cal l.prog w K mg base jarBox 4 "_law_due" ["one", "other", "first", "second", "view"] 5 dueF := ⟨⟨f24, _, m24, k24, b24, ok_due F24 ⟨G__law_flat, G__law_weight, G__law_below, G__law_ratio⟩⟩, (by intro ts Q h; first | (obtain ⟨_, rfl, _⟩ := h; rfl; done) | (obtain ⟨_, _, rfl, _⟩ := h; rfl; done) | (obtain ⟨_, _, _, rfl, _⟩ := h; rfl; done) | (obtain ⟨_, _, _, _, rfl, _⟩ := h; rfl; done) | (obtain ⟨_, _, _, _, _, rfl, _⟩ := h; rfl; done) | (obtain ⟨_, _, _, _, _, _, rfl, _⟩ := h; rfl; done) | (obtain ⟨_, _, _, _, _, _, _, rfl, _⟩ := h; rfl; done) | (obtain ⟨_, _, _, _, _, _, _, _, rfl, _⟩ := h; rfl; done) | (obtain ⟨_, _, _, _, _, _, _, _, _, rfl, _⟩ := h; rfl; done) | (obtain ⟨_, _, _, _, _, _, _, _, _, _, rfl, _⟩ := h; rfl; done) | (obtain ⟨_, _, _, _, _, _, _, _, _, _, _, rfl, _⟩ := h; rfl; done) | (obtain ⟨_, _, _, _, _, _, _, _, _, _, _, _, rfl, _⟩ := h; rfl; done) | (obtain ⟨_, _, _, _, _, _, _, _, _, _, _, _, _, rfl, _⟩ := h; rfl; done) | (obtain ⟨_, _, _, _, _, _, _, _, _, _, _, _, _, _, rfl, _⟩ := h; rfl; done) | (obtain ⟨_, h⟩ := h; rcases h with ⟨_, rfl, _⟩ | ⟨_, rfl, _⟩ <;> rfl))⟩
  have F25 := fun_mk (st := sHeard) l25 c25 k25
  have m25 := PySem.W.mg_of X G a25
  have b25 := F25.binds (ps := ["one", "other", "first", "second", "view", "is_named"]) fun _ _ _ _ _ _ us hl => match us, hl with | [_, _, _, _, _, _], _ => rfl
  have G__law_heard : Cal l.prog w K mg base jarBox 5 "_law_heard" ["one", "other", "first", "second", "view", "is_named"] 6 heardF := ⟨⟨f25, _, m25, k25, b25, ok_heard F25 Z ⟨G_told_by, G_told_by_k_view_second_first_other_one⟩⟩, (by intro ts Q h; first | (obtain ⟨_, rfl, _⟩ := h; rfl; done) | (obtain ⟨_, _, rfl, _⟩ := h; rfl; done) | (obtain ⟨_, _, _, rfl, _⟩ := h; rfl; done) | (obtain ⟨_, _, _, _, rfl, _⟩ := h; rfl; done) | (obtain ⟨_, _, _, _, _, rfl, _⟩ := h; rfl; done) | (obtain ⟨_, _, _, _, _, _, rfl, _⟩ := h; rfl; done) | (obtain ⟨_, _, _, _, _, _, _, rfl, _⟩ := h; rfl; done) | (obtain ⟨_, _, _, _, _, _, _, _, rfl, _⟩ := h; rfl; done) | (obtain ⟨_, _, _, _, _, _, _, _, _, rfl, _⟩ := h; rfl; done) | (obtain ⟨_, _, _, _, _, _, _, _, _, _, rfl, _⟩ := h; rfl; done) | (obtain ⟨_, _, _, _, _, _, _, _, _, _, _, rfl, _⟩ := h; rfl; done) | (obtain ⟨_, _, _, _, _, _, _, _, _, _, _, _, rfl, _⟩ := h; rfl; done) | (obtain ⟨_, _, _, _, _, _, _, _, _, _, _, _, _, rfl, _⟩ := h; rfl; done) | (obtain ⟨_, _, _, _, _, _, _, _, _, _, _, _, _, _, rfl, _⟩ := h; rfl; done) | (obtain ⟨_, h⟩ := h; rcases h with ⟨_, rfl, _⟩ | ⟨_, rfl, _⟩ <;> rfl))⟩
  have F26 := fun_mk (st := sIsRight) l26 c26 k26
  have m26 := PySem.W.mg_of X G a26
  have b26 := F26.binds (ps := ["pair", "first", "second", "view", "is_named"]) fun _ _ _ _ _ _ us hl => match us, hl with | [_, _, _, _, _], _ => rfl
  have G__law_is_right : Cal l.prog w K mg base jarBox 6 "_law_is_right" ["pair", "first", "second", "view", "is_named"] 5 isRightF := ⟨⟨f26, _, m26, k26, b26, ok_isRight F26 T ⟨G__law_due, G__law_heard, G__law_ratio⟩⟩, (by intro ts Q h; first | (obtain ⟨_, rfl, _⟩ := h; rfl; done) | (obtain ⟨_, _, rfl, _⟩ := h; rfl; done) | (obtain ⟨_, _, _, rfl, _⟩ := h; rfl; done) | (obtain ⟨_, _, _, _, rfl, _⟩ := h; rfl; done) | (obtain ⟨_, _, _, _, _, rfl, _⟩ := h; rfl; done) | (obtain ⟨_, _, _, _, _, _, rfl, _⟩ := h; rfl; done) | (obtain ⟨_, _, _, _, _, _, _, rfl, _⟩ := h; rfl; done) | (obtain ⟨_, _, _, _, _, _, _, _, rfl, _⟩ := h; rfl; done) | (obtain ⟨_, _, _, _, _, _, _, _, _, rfl, _⟩ := h; rfl; done) | (obtain ⟨_, _, _, _, _, _, _, _, _, _, rfl, _⟩ := h; rfl; done) | (obtain ⟨_, _, _, _, _, _, _, _, _, _, _, rfl, _⟩ := h; rfl; done) | (obtain ⟨_, _, _, _, _, _, _, _, _, _, _, _, rfl, _⟩ := h; rfl; done) | (obtain ⟨_, _, _, _, _, _, _, _, _, _, _, _, _, rfl, _⟩ := h; rfl; done) | (obtain ⟨_, _, _, _, _, _, _, _, _, _, _, _, _, _, rfl, _⟩ := h; rfl; done) | (obtain ⟨_, h⟩ := h; rcases h with ⟨_, rfl, _⟩ | ⟨_, rfl, _⟩ <;> rfl))⟩
  have F27 := fun_mk (st := sLaw) l27 c27 k27
  exact ok_law F27 (fun s v => .of_eq rfl) T ⟨G__law_jar, G__law_draw, G__law_pick, G__law_pair, G__law_is_right⟩
theorem walk {l : PySem.W.OpenLaw} {q : Program} {loose : List Str} {XP : (Str → Option Value) → Heap → Prop} {YP : World → Heap → Prop} {d : DefRec} {K : Params → PySem.W.Frag} (hn : l.most = some 63) (hdf : d.params.defaults = [])
    (hY : ∀ (w : World) (h : Heap), YP w h → (K w.params).In h)
    (F : ∀ (w : World) (mg : Str → Option Value) (fa : Addr) (h : Heap), (K w.params).In h → h.Ns mainGlobals mg → mg d.name = some (.ref fa) → ∀ base : Heap, (K w.params).In base → base.Ns mainGlobals mg → RunAt l.prog w (K w.params) mg base CX0 fa (spLaw (K w.params))) :
    PySem.W.WalkO q loose XP YP l.row.toRowW d [] (fun f vs => PySem.call f vs) :=
  letI : Consts := noConsts; walkAt (n := 63) (CX := fun _ => CX0) (sp := fun w => spLaw (K w.params)) hn (by decide) hdf hY F (fun w H a ns hl _ hS => ⟨a, ns, rfl, hS, hl, fun _ => rfl⟩) fun _ _ _ _ _ z => z
end C51
open PySem PySem.W PyProof.Rows
set_option maxRecDepth 100000 in
set_option maxHeartbeats 0 in
theorem PySem.Challenge.cw_veiledchains_k51_whole_who_told_a_view_holds : PySem.Challenge.rw_veiledchains_k51_whole_who_told_a_view.Holds := by
  w_on; o_law; k_head; (case hw => w_witness2)
  k_fill
  refine C51.walk (l := PySem.Challenge.rw_veiledchains_k51_whole_who_told_a_view) rfl rfl (fun w h Y => PySem.W.kIn_of Y) ?F
  case F =>
    intro w mg fa h KX G hmg
    refine' C51.all_mk (C := ⟨fun a => a = ?cN0⟩) KX G hmg ?a0 ?l0 ?c0 ?k0 ?a1 ?l1 ?c1 ?k1 ?a2 ?l2 ?c2 ?k2 ?a3 ?l3 ?c3 ?k3 ?a4 ?l4 ?c4 ?k4 ?a5 ?l5 ?c5 ?k5 ?a6 ?l6 ?c6 ?k6 ?a7 ?l7 ?c7 ?k7 ?a8 ?l8 ?c8 ?k8 ?a9 ?l9 ?c9 ?k9 ?a10 ?l10 ?c10 ?k10 ?a11 ?l11 ?c11 ?k11 ?a12 ?l12 ?c12 ?k12 ?a13 ?l13 ?c13 ?k13 ?a14 ?l14 ?c14 ?k14 ?a15 ?l15 ?c15 ?k15 ?a16 ?l16 ?c16 ?k16 ?a17 ?l17 ?c17 ?k17 ?a18 ?l18 ?c18 ?k18 ?a19 ?l19 ?c19 ?k19 ?a20 ?l20 ?c20 ?k20 ?a21 ?l21 ?c21 ?k21 ?a22 ?l22 ?c22 ?k22 ?a23 ?l23 ?c23 ?k23 ?a24 ?l24 ?c24 ?k24 ?a25 ?l25 ?c25 ?k25 ?a26 ?l26 ?c26 ?k26 ?a27 ?l27 ?c27 ?k27 ?z0 ?z1 ?z2 ?z3 ?z4 ?z5 ?z6 ?z7 ?z8 ?z9 ?z10 ?x0 ?x1 ?x2 ?ta0 ?tl0 ?tc0 ?td0 ?ti0 ?to0 ?eB ?eT ?eS ?eP ?eNValueError ?eNisinstance ?gNever ?xNever ?iNever ?tNever ?kNever ?cNever ?mNever ?sNever ?vNever ?bNever ?yNever ?lNever ?oNever ?dNever ?fNever ?FNever ?eNever ?q1Never ?q2Never ?q4Never ?q5Never ?q6Never ?q7Never ?q8Never ?u1Never ?u2Never ?wNeverNever
    (case a0 => k_is); (case l0 => k_is); (case c0 => k_is); (case k0 => k_is)
    (case a1 => k_is); (case l1 => k_is); (case c1 => k_is); (case k1 => k_is)
    (case a2 => k_is); (case l2 => k_is); (case c2 => k_is); (case k2 => k_is)
    (case a3 => k_is); (case l3 => k_is); (case c3 => k_is); (case k3 => k_is)
    (case a4 => k_is); (case l4 => k_is); (case c4 => k_is); (case k4 => k_is)
    (case a5 => k_is); (case l5 => k_is); (case c5 => k_is); (case k5 => k_is)
    (case a6 => k_is); (case l6 => k_is); (case c6 => k_is); (case k6 => k_is)
    (case a7 => k_is); (case l7 => k_is); (case c7 => k_is); (case k7 => k_is)
    (case a8 => k_is); (case l8 => k_is); (case c8 => k_is); (case k8 => k_is)
    (case a9 => k_is); (case l9 => k_is); (case c9 => k_is); (case k9 => k_is)
    (case a10 => k_is); (case l10 => k_is); (case c10 => k_is); (case k10 => k_is)
    (case a11 => k_is); (case l11 => k_is); (case c11 => k_is); (case k11 => k_is)
    (case a12 => k_is); (case l12 => k_is); (case c12 => k_is); (case k12 => k_is)
    (case a13 => k_is); (case l13 => k_is); (case c13 => k_is); (case k13 => k_is)
    (case a14 => k_is); (case l14 => k_is); (case c14 => k_is); (case k14 => k_is)
    (case a15 => k_is); (case l15 => k_is); (case c15 => k_is); (case k15 => k_is)
    (case a16 => k_is); (case l16 => k_is); (case c16 => k_is); (case k16 => k_is)
    (case a17 => k_is); (case l17 => k_is); (case c17 => k_is); (case k17 => k_is)
    (case a18 => k_is); (case l18 => k_is); (case c18 => k_is); (case k18 => k_is)
    (case a19 => k_is); (case l19 => k_is); (case c19 => k_is); (case k19 => k_is)
    (case a20 => k_is); (case l20 => k_is); (case c20 => k_is); (case k20 => k_is)
    (case a21 => k_is); (case l21 => k_is); (case c21 => k_is); (case k21 => k_is)
    (case a22 => k_is); (case l22 => k_is); (case c22 => k_is); (case k22 => k_is)
    (case a23 => k_is); (case l23 => k_is); (case c23 => k_is); (case k23 => k_is)
    (case a24 => k_is); (case l24 => k_is); (case c24 => k_is); (case k24 => k_is)
    (case a25 => k_is); (case l25 => k_is); (case c25 => k_is); (case k25 => k_is)
    (case a26 => k_is); (case l26 => k_is); (case c26 => k_is); (case k26 => k_is)
    (case a27 => k_is); (case l27 => k_is); (case c27 => k_is); (case k27 => k_is)
    (case z0 => k_is); (case z1 => k_is); (case z2 => k_is); (case z3 => k_is)
    (case z4 => k_is); (case z5 => k_is); (case z6 => k_is); (case z7 => k_is)
    (case z8 => k_is); (case z9 => k_is); (case z10 => k_is); (case x0 => k_is)
    (case x1 => k_is); (case x2 => k_is); (case ta0 => k_is); (case tl0 => k_is)
    (case tc0 => rfl); (case td0 => rfl); (case ti0 => rfl); (case to0 => rfl)
    (case eB => k_is); (case eT => k_is); (case eS => k_is); (case eP => first | rfl | decide +kernel)
    (case eNValueError => k_is); (case eNisinstance => k_is); (case gNever => k_is); (case xNever => kx_is)
    (case iNever => k_is); (case tNever => k_is); (case kNever => k_is); (case cNever => k_is)
    (case mNever => k_is); (case sNever => ks_is); (case vNever => k_is); (case bNever => k_is)
    (case yNever => k_is); (case lNever => k_is); (case oNever => k_is); (case dNever => k_is)
    (case fNever => rfl); (case FNever => first | rfl | decide +kernel); (case eNever => k_is); (case q1Never => k_is)
    (case q2Never => k_is); (case q4Never => k_is); (case q5Never => k_is); (case q6Never => k_is)
    (case q7Never => k_is); (case q8Never => k_is); (case u1Never => kit_is); (case u2Never => kit_is)
    (case wNeverNever => k_is)
